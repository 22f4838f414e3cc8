import PyProof.Rows.All
import Wide.All
import OpenK.AllK
import Wide.FinOn
import HandS.SetKeys
import HandS.SetFor
import HandS.ForMost
import HandS.Exc
import HandS.WordsExc
import HandS.Defaults
import HandS.Lambda
import HandS.More
import HandS.Star
import HandS.HeadHook2
import HandS.ExcOwn
import HandS.TupAny
import HandS.Deep
import HandS.IsInst
import HandS.FStr
import HandS.Small
import HandS.RaiseMore
import KE.SortData
import HandS.Sort
import HandS.Iter
import HandS.Zip
import KE.KStateDown
import HandS.Head0
import HandS.Head1
import HandS.Head2
import HandS.HeadEnd
import HandS.Text
import PyProof.Rows.RegFStrParts
import HandS.Property
import HandS.MakeKwOnly
import KE.KOwnIter
import HandS.IterNext
import PyProof.InstNe
import HandS.OwnEq
import PyProof.TupleOfSeq
import HandS.Style
import PySem.Challenge.RW_lineoflibraries_k05_stores_made
set_option Elab.async false
set_option linter.all false
set_option maxRecDepth 100000
set_option maxHeartbeats 4000000
namespace Z
open PySem PySem.Spec PyProof.Rows L2
/-! ### sets of keys that can also be walked -/
section
variable {P : Program} {w : World}
/-- no key stands for both -/
def Apart (P : Program) (w : World) (x y : Int × Value) : Prop := ∀ k : Key, keyIs k x.2 = true → keyIs k y.2 = true → False
theorem Apart.symm {x y : Int × Value} (h : Apart P w x y) : Apart P w y x := fun k a b => h k b a
/-- what a table of keys is: the keys told by T, N of them, and the table can be walked -/
structure Tbl (P : Program) (w : World) (D : Array (Int × Value)) (t : SetTable) (T : Key → Bool) (N : Nat) : Prop where
  el : ElemsOf (mixKind P w) D.toList
  mem : ∀ k, T k = true ↔ ∃ x ∈ D.toList, keyIs k x.2 = true
  few : D.size < scanBound
  fit : t.fits D.size = true
  num : D.size = N
  ap : D.toList.Pairwise (Apart P w)
  ris : Ris t.place.toList
  led : w.params.followText "set-order" = true ∨ t.led = true
def SetZ (P : Program) (w : World) (h : Heap) (a : Addr) (T : Key → Bool) (N : Nat) : Prop := ∃ o D ep t, h.get? a = some o ∧ o.ExactSet ∧ o.data = .set D ep t ∧ Tbl P w D t T N
variable {h h' : Heap} {a : Addr} {T T' : Key → Bool} {N : Nat}
theorem SetZ.of (R : SetZ P w h a T N) : h.SetOf (mixKind P w) a T N := by
  obtain ⟨o, D, ep, t, q1, q2, q3, b⟩ := R
  exact ⟨o, D, ep, t, q1, q2, q3, b.el, b.mem, b.few, b.fit, b.num⟩
theorem SetZ.keep (R : SetZ P w h a T N) (k : ∀ o, h.get? a = some o → h'.get? a = some o) : SetZ P w h' a T N := by
  obtain ⟨o, D, ep, t, q1, q⟩ := R
  exact ⟨o, D, ep, t, k o q1, q⟩
theorem SetZ.eq (R : SetZ P w h a T N) (e : ∀ k, T' k = T k) : SetZ P w h a T' N := by rw [show T' = T from funext e]; exact R
theorem Tbl.perm {D D2 : Array (Int × Value)} {t t2 : SetTable} (b : Tbl P w D t T N) (p : D2.toList.Perm D.toList) (hf : t2.fits D2.size = true) (hr : Ris t2.place.toList) (hl : t2.led = t.led) : Tbl P w D2 t2 T N := by
  have e : D2.size = D.size := by have := p.length_eq; rwa [Array.length_toList, Array.length_toList] at this
  exact ⟨b.el.perm p, fun k => (b.mem k).trans ⟨fun ⟨x, h1, h2⟩ => ⟨x, p.mem_iff.mpr h1, h2⟩, fun ⟨x, h1, h2⟩ => ⟨x, p.mem_iff.mp h1, h2⟩⟩, by rw [e]; exact b.few, hf, e.trans b.num,
    (p.pairwise_iff (fun h => h.symm)).mpr b.ap, hr, b.led.imp id fun z => hl.trans z⟩
/-- one key more -/
theorem Tbl.push {D D2 : Array (Int × Value)} {t t2 : SetTable} {k : Key} {x : Value} (b : Tbl P w D t T N) (hx : keyIs k x = true) (hs : x.scannable = true) (hT : T k = false) (room : N + 1 < scanBound)
    (p : D2.toList.Perm (D.toList ++ [((mixKind P w).hash k, x)])) (hf : t2.fits D2.size = true) (hr : Ris t2.place.toList) (hl : t2.led = t.led) : Tbl P w D2 t2 (fun j => T j || decide (j = k)) (N + 1) := by
  have e : D2.size = N + 1 := by
    have := p.length_eq
    rw [Array.length_toList, List.length_append, Array.length_toList, b.num] at this
    exact this
  have one : ∀ j, keyIs j x = true → j = k := fun j hj => (mixKind P w).inj x j k hj hx
  refine ⟨(b.el.push (knd := mixKind P w) hx hs).perm p, fun j => ?_, by rw [e]; exact room, hf, e, (p.pairwise_iff (fun h => h.symm)).mpr ?_, hr, b.led.imp id fun z => hl.trans z⟩
  · rw [Bool.or_eq_true, decide_eq_true_eq, b.mem j]
    constructor
    · rintro (⟨y, h1, h2⟩ | rfl)
      · exact ⟨y, p.mem_iff.mpr (List.mem_append_left _ h1), h2⟩
      · exact ⟨(_, x), p.mem_iff.mpr (List.mem_append_right _ (List.mem_singleton.mpr rfl)), hx⟩
    · rintro ⟨y, h1, h2⟩
      rcases List.mem_append.mp (p.mem_iff.mp h1) with h3 | h3
      · exact .inl ⟨y, h3, h2⟩
      · rw [List.mem_singleton.mp h3] at h2
        exact .inr (one j h2)
  · rw [List.pairwise_append]
    refine ⟨b.ap, List.pairwise_singleton _ _, fun y hy z hz j h1 h2 => ?_⟩
    rw [List.mem_singleton.mp hz] at h2
    rw [one j h2] at h1
    have := (b.mem k).mpr ⟨y, hy, h1⟩
    rw [hT] at this
    cases this
end
section
variable {P : Program} {w : World} {A : Around} {E : Value → Shared → Prop} {s : Shared} {a : Addr} {T : Key → Bool} {N : Nat}
theorem put_at {h : Heap} {o : Obj} {D D2 : Array (Int × Value)} {ep : Nat} {t t2 : SetTable} (ho : h.get? a = some o) (hd : o.data = .set D ep t) : (h.update a (Obj.putSet D2 t2)).get? a = some { o with data := .set D2 (ep + 1) t2 } := by
  have q := Heap.get?_update_self (Obj.putSet D2 t2) ho (by rw [putSet_of D2 t2 hd]; rfl)
  rwa [putSet_of D2 t2 hd] at q
/-- the table is written, and laid anew where it is too full -/
theorem zlay {g : Bool → Sem Unit} (hg : ∀ (b : Bool) (s₁ : Shared) (Z : Unit → Shared → Prop), Z () s₁ → wpAny (model P w) A (g b) Z E s₁) {o : Obj} {D : Array (Int × Value)} {ep : Nat} {t : SetTable}
    (ho : s.heap.get? a = some o) (hx : o.ExactSet) (hd : o.data = .set D ep t) {D1 : Array (Int × Value)} {t2 : SetTable} (b : Tbl P w D1 t2 T N) {dm : Bool} {R : Option Bool → Shared → Prop}
    (hR : ∀ h', Heap.SameBut a s.heap h' → SetZ P w h' a T N → R (some true) { s with heap := h' }) :
    wpAny (model P w) A (do
      storeSet a D1 t2
      if (!dm && t2.tooFull) = true then do
        g (relayAll t2 D1 (SetTable.grown D1.size)).2.2
        storeSet a (relayAll t2 D1 (SetTable.grown D1.size)).1 (relayAll t2 D1 (SetTable.grown D1.size)).2.1
        pure (some true)
      else pure (some true)) R E s := by
  have st1 := put_at (D2 := D1) (t2 := t2) ho hd
  have un1 := Heap.SameBut.update s.heap a (Obj.putSet D1 t2)
  refine wpAny_bind (wpAny_storeSet_of ho hd ?_ (fits_of_scanBound b.few))
  split
  · have k1 := relayAll_perm t2 D1 (SetTable.grown D1.size)
    have k2 := relayAll_fits t2 D1 (SetTable.grown D1.size)
    have k3 := relayAll_ris t2 D1 (SetTable.grown D1.size)
    have k4 := relayAll_led t2 D1 (SetTable.grown D1.size)
    generalize relayAll t2 D1 (SetTable.grown D1.size) = Y at k1 k2 k3 k4 ⊢
    obtain ⟨D2, t3, gave⟩ := Y
    dsimp only at k1 k2 k3 k4 ⊢
    have b2 := b.perm k1 k2 k3 k4
    refine wpAny_bind (hg _ _ _ (wpAny_bind (wpAny_storeSet_of st1 rfl ?_ (fits_of_scanBound b2.few))))
    exact wpAny_pure (hR _ (un1.trans (Heap.SameBut.update _ a _)) ⟨_, D2, _, t3, put_at st1 rfl, hx, rfl, b2⟩)
  · exact wpAny_pure (hR _ un1 ⟨_, D1, _, t2, st1, hx, rfl, b⟩)
theorem led_off {t : SetTable} : ({ t with plain := false } : SetTable).led = t.led := rfl
theorem zadd_h {k : Key} {x : Value} {Q : Bool → Shared → Prop} (R : SetZ P w s.heap a T N) (hk : keyIs k x = true) (hs : x.scannable = true) (room : N + 1 < scanBound)
    (hQ : ∀ h', Heap.SameBut a s.heap h' → SetZ P w h' a (fun j => T j || decide (j = k)) (if T k = true then N else N + 1) → Q (!T k) { s with heap := h' }) :
    wpAny (model P w) A (setAddHashed a x ((mixKind P w).hash k)) Q E s := by
  obtain ⟨o, D, ep, t, ho, hx, hd, b⟩ := R
  have hsp : ∀ (c : Bool) {s₁ : Shared} {Z : Unit → Shared → Prop}, Z () s₁ → wpAny (model P w) A (match c with | true => rule "set.scan.the-table-gave-way" | false => pure ()) Z E s₁ := by
    intro c s₁ Z q
    cases c
    · exact wpAny_pure q
    · exact wpAny_rule q
  unfold setAddHashed setAddHashedIn
  refine wpAny_holding (wpAny_bind (wpAny_setState_of ho hd b.fit ?_))
  dsimp only
  rw [byScan_of hs b.few b.el]
  simp only [↓reduceIte]
  unfold setAddByScan
  refine wpAny_bind (wpAny_bind (wpAny_rule (wpAny_bind (wpAny_setScan_of (knd := mixKind P w) (k := k) hk ho hd b.fit b.el ?_))))
  cases hfi : List.findIdx? (fun e => (mixKind P w).is k e.2) D.toList with
  | some j =>
    dsimp only
    obtain ⟨hj, pj, _⟩ := List.findIdx?_eq_some_iff_getElem.mp hfi
    have hT : T k = true := (b.mem k).mpr ⟨D.toList[j], List.getElem_mem hj, pj⟩
    have q := hQ s.heap (Heap.SameBut.refl a s.heap) ⟨o, D, ep, t, ho, hx, hd, by
      rw [if_pos hT]
      have : (fun j => T j || decide (j = k)) = T := funext fun i => by
        by_cases e : i = k
        · rw [e, hT, Bool.true_or]
        · rw [decide_eq_false e, Bool.or_false]
      rw [this]
      exact b⟩
    rw [hT] at q
    exact wpAny_pure (wpAny_pure q)
  | none =>
    dsimp only
    have hT : T k = false := by
      cases q : T k with
      | false => rfl
      | true =>
        obtain ⟨y, h1, h2⟩ := (b.mem k).mp q
        have z := List.findIdx?_eq_none_iff.mp hfi y h1
        rw [show (mixKind P w).is k y.2 = true from h2] at z
        cases z
    have k1 := layNew_perm t D ((mixKind P w).hash k) x
    have k2 := layNew_fits t D ((mixKind P w).hash k) x
    have k3 := layNew_ris t D ((mixKind P w).hash k) x b.ris
    have k4 := layNew_led t D ((mixKind P w).hash k) x
    generalize layNew t D ((mixKind P w).hash k) x = Y at k1 k2 k3 k4 ⊢
    obtain ⟨D1, t1, dm, gave⟩ := Y
    dsimp only at k1 k2 k3 k4 ⊢
    rw [Array.toList_push] at k1
    have fin : ∀ h', Heap.SameBut a s.heap h' → SetZ P w h' a (fun j => T j || decide (j = k)) (N + 1) → Q true { s with heap := h' } := fun h' sb r => by
      have q := hQ h' sb
      rw [hT] at q
      exact q r
    refine wpAny_bind (hsp _ ?_)
    split
    · refine wpAny_bind ?_
      rw [hashByValue_scannable 8 hs]
      refine wpAny_pure ?_
      refine zlay ?_ ho hx hd (b.push hk hs hT room k1 ?_ ?_ ?_) fun h' sb r => wpAny_pure (fin h' sb r)
      · intro c s₁ Z q
        cases c
        · exact wpAny_pure q
        · exact wpAny_rule q
      · split
        · exact k2
        · exact SetTable.fits_plain_off k2
      · split <;> exact k3
      · split <;> exact k4
    · refine wpAny_bind (wpAny_pure ?_)
      simp only [↓reduceIte]
      refine zlay ?_ ho hx hd (b.push hk hs hT room k1 k2 k3 k4) fun h' sb r => wpAny_pure (fin h' sb r)
      intro c s₁ Z q
      cases c
      · exact wpAny_pure q
      · exact wpAny_rule q
theorem zadd {k : Key} {x : Value} {Q : Value → Shared → Prop} (R : SetZ P w s.heap a T N) (hk : keyIs k x = true) (hs : x.scannable = true) (room : N + 1 < scanBound)
    (hQ : ∀ h', Heap.SameBut a s.heap h' → SetZ P w h' a (fun j => T j || decide (j = k)) (if T k = true then N else N + 1) → Q .none { s with heap := h', toks := s.toks + 1 }) :
    wpAny (model P w) A (call (.builtin "set.add") [.ref a, x]) Q E s := by
  refine wpAny_call_entry F.slot_set_add R.of.typeIs F.entry_set_add ?_ (F.args_set_add_2 _ _)
  unfold Builtin.«set.add» Builtin.Frozenset.oneOther
  simp only [List.isEmpty_nil, bind_assoc]
  unfold Builtin.Frozenset.addrOf setAdd
  refine wpAny_bind (wpAny_pure ?_)
  try dsimp only
  refine wpAny_bind (wpAny_pure ?_)
  try dsimp only
  refine wpAny_bind (wpAny_holding (wpAny_bind ((mixKind P w).pyHash hk ?_)))
  refine zadd_h (s := { s with toks := s.toks + 1 }) R hk hs room fun h' sb r => ?_
  exact wpAny_pure ⟨_, rfl, hQ h' sb r⟩
theorem znew_at {h : Heap} (ho : h.get? a = some { cls := .type "set", dict := none, data := .set #[] 0 (.fresh 0 0 (!w.params.followText "set-order")) }) : SetZ P w h a (fun _ => false) 0 :=
  ⟨_, #[], 0, _, ho, ⟨rfl, rfl, rfl⟩, rfl, fun e he => by simp at he, fun k => by simp, by decide, by rfl, rfl, List.Pairwise.nil, List.Pairwise.nil, by
    show _ ∨ (!w.params.followText "set-order") = true
    cases w.params.followText "set-order" <;> simp⟩
/-! ### set(xs) -/
instance decK (k : Key) (l : List Key) : Decidable (k ∈ l) := decidable_of_iff (l.any (fun j => decide (j = k)) = true) (by simp)
/-- each key once, where it first stands -/
def onceK (ks : List Key) : List Key := ks.foldl (fun acc k => if k ∈ acc then acc else acc ++ [k]) []
theorem onceK_snoc {ks : List Key} {k : Key} : onceK (ks ++ [k]) = if k ∈ onceK ks then onceK ks else onceK ks ++ [k] := by
  unfold onceK
  rw [List.foldl_append]
  rfl
theorem onceK_mem : ∀ (ks : List Key) (j : Key), j ∈ onceK ks ↔ j ∈ ks := by
  have key : ∀ (ks acc : List Key) (j : Key), j ∈ ks.foldl (fun acc k => if k ∈ acc then acc else acc ++ [k]) acc ↔ j ∈ acc ∨ j ∈ ks := by
    intro ks
    induction ks with
    | nil => intro acc j; simp
    | cons k ks ih =>
      intro acc j
      rw [List.foldl_cons, ih]
      by_cases q : k ∈ acc
      · rw [if_pos q, List.mem_cons]
        constructor
        · rintro (h | h)
          · exact .inl h
          · exact .inr (.inr h)
        · rintro (h | rfl | h)
          · exact .inl h
          · exact .inl q
          · exact .inr h
      · rw [if_neg q, List.mem_append, List.mem_singleton, List.mem_cons, or_assoc]
  intro ks j
  rw [onceK, key]
  simp
theorem onceK_nodup : ∀ ks : List Key, (onceK ks).Nodup := by
  have key : ∀ (ks acc : List Key), acc.Nodup → (ks.foldl (fun acc k => if k ∈ acc then acc else acc ++ [k]) acc).Nodup := by
    intro ks
    induction ks with
    | nil => intro acc h; exact h
    | cons k ks ih =>
      intro acc h
      rw [List.foldl_cons]
      refine ih _ ?_
      by_cases q : k ∈ acc
      · rw [if_pos q]; exact h
      · rw [if_neg q, List.nodup_append]
        exact ⟨h, by simp, fun a ha b hb e => q (by rw [List.mem_singleton.mp hb] at e; rw [← e]; exact ha)⟩
  exact fun ks => key ks [] List.nodup_nil
theorem onceK_len : ∀ ks : List Key, (onceK ks).length ≤ ks.length := by
  have key : ∀ (ks acc : List Key), (ks.foldl (fun acc k => if k ∈ acc then acc else acc ++ [k]) acc).length ≤ acc.length + ks.length := by
    intro ks
    induction ks with
    | nil => intro acc; exact Nat.le_refl _
    | cons k ks ih =>
      intro acc
      rw [List.foldl_cons, List.length_cons]
      refine Nat.le_trans (ih _) ?_
      split <;> simp <;> omega
  intro ks
  have := key ks []
  simpa [onceK] using this
abbrev SetL (P : Program) (w : World) (h : Heap) (a : Addr) (ks : List Key) : Prop := SetZ P w h a (fun j => decide (j ∈ ks)) ks.length
theorem zloop {I : Addr} {fp wr : List Addr} {G : Array GenState → Array GenState → Prop} {n : Nat} {Pv : Nat → Value → Prop} {St : Nat → Shared → Prop} {R : Result → Shared → Prop}
    (W : WalksS P w A.in1 I fp wr G n Pv St) (S : Addr) (hSf : S ∉ fp) (ks : List Key) (hn : n = ks.length) (room : ks.length + 1 < scanBound) (hv : ∀ i v, Pv i v → ∃ k, ks[i]? = some k ∧ keyIs k v = true ∧ v.scannable = true) :
    ∀ (m i : Nat) (s : Shared), n - i = m → i ≤ n → St i s → SetL P w s.heap S (onceK (ks.take i)) →
      (∀ s', Moved (S :: wr) G s s' → SetL P w s'.heap S (onceK ks) → R (.ok (.ret .none)) s') → codeAny (model P w) A (.builtin "set.update.loop" ⟨[.ref S, .ref I], []⟩) R s := by
  have hSw : S ∉ wr := fun z => hSf (W.sub _ z)
  have wide : ∀ b ∈ wr, b ∈ S :: wr := fun b z => List.mem_cons_of_mem _ z
  intro m
  induction m with
  | zero =>
    intro i s hm hi st hS fin
    have hin : i = n := by omega
    subst hin
    refine codeAny_builtin F.entry_set_update_loop ?_
    rw [Around.under_plainId F.plain_set_update_loop _]
    refine wpAny_bind (W.done s _ _ st fun s' mv => ?_)
    rw [List.take_of_length_le (by omega)] at hS
    exact wpAny_pure (fin s' (mv.mono wide) (hS.keep fun o z => mv.heap S o hSw z))
  | succ m ih =>
    intro i s hm hi st hS fin
    have hlt : i < n := by omega
    refine codeAny_builtin F.entry_set_update_loop ?_
    rw [Around.under_plainId F.plain_set_update_loop _]
    refine wpAny_bind (W.item i s _ _ hlt st fun v s' hP st' mv => ?_)
    obtain ⟨k, hk, hkv, hsv⟩ := hv i v hP
    have hS1 : SetL P w s'.heap S (onceK (ks.take i)) := hS.keep fun o z => mv.heap S o hSw z
    show wpAny _ A.in1 (holding [v] (setAdd S v) >>= _) _ _ s'
    refine wpAny_bind (wpAny_holding ?_)
    unfold setAdd
    refine wpAny_holding (wpAny_bind ((mixKind P w).pyHash hkv ?_))
    have ol := onceK_len (ks.take i)
    rw [List.length_take] at ol
    refine zadd_h (s := { s' with toks := s'.toks + 1 }) hS1 hkv hsv (by omega) fun h' sb hS2 => ?_
    have hS3 : SetL P w h' S (onceK (ks.take (i + 1))) := by
      rw [List.take_add_one, hk]
      show SetL P w h' S (onceK (ks.take i ++ [k]))
      rw [onceK_snoc]
      by_cases q : k ∈ onceK (ks.take i)
      · rw [if_pos (decide_eq_true q)] at hS2
        rw [if_pos q]
        refine hS2.eq fun j => ?_
        by_cases e : j = k
        · rw [e, decide_eq_true q, Bool.true_or]
        · rw [decide_eq_false e, Bool.or_false]
      · rw [if_neg (by simpa using q)] at hS2
        rw [if_neg q]
        have := hS2.eq (T' := fun j => decide (j ∈ onceK (ks.take i) ++ [k])) fun j => by simp [List.mem_append]
        rw [SetL, List.length_append]
        exact this
    have out : ∀ b, b ≠ S → ∀ o, s'.heap.get? b = some o → h'.get? b = some o := fun b z o q => (sb.2 b z).trans q
    refine wpAny_pure ⟨plainId_quiet F.plain_set_update_loop _, ih (i + 1) _ (by omega) hlt (W.frame _ s' _ _ st' (Nat.le_succ _) fun b hb o q => out b (fun z => hSf (z ▸ hb)) o q) hS3 fun s2 mv2 hS4 => ?_⟩
    exact fin s2 (Moved.trans W.gtrans ((mv.mono wide).then_heap (Nat.le_succ _) fun b o hb q => out b (fun z => hb (by rw [z]; exact List.mem_cons_self)) o q) mv2) hS4
abbrev zO (w : World) : Obj := { cls := .type "set", dict := none, data := .set #[] 0 (.fresh 0 0 (!w.params.followText "set-order")) }
/-- list(a set), by a walk through it -/
theorem zcollect {T : Key → Bool} {N : Nat} {Q : List Value → Shared → Prop} (R : SetZ P w s.heap a T N) (hh : A.handled = none)
    (hQ : ∀ s' (out : List Value) (ks : List Key), (∀ b o, s.heap.get? b = some o → s'.heap.get? b = some o) → s.heap.objs.size ≤ s'.heap.objs.size → s'.gens = s.gens → s'.os = s.os → out.length = N → ks.length = N → ks.Nodup → (∀ k, k ∈ ks ↔ T k = true) → (∀ (i : Nat) (v : Value), out[i]? = some v → ∃ k, ks[i]? = some k ∧ keyIs k v = true) → Q out s') :
    wpAny (model P w) A (collect (.ref a)) Q E s := by
  obtain ⟨o, D, ep, t, ho, hx, hd, b⟩ := R
  refine collect_set hh ⟨o, ho, hx.1, hd⟩ b.fit b.few b.ris b.led fun s' out k1 k0 g1 o1 pm => ?_
  have hl : out.length = N := by rw [pm.length_eq, List.length_map, Array.length_toList]; exact b.num
  -- the keys of out, one by one
  have pr : out.Pairwise fun u v => ∀ k : Key, keyIs k u = true → keyIs k v = true → False := by
    refine (pm.pairwise_iff (fun {u v} h k c d => h k d c)).mpr ?_
    exact List.pairwise_map.mpr (b.ap.imp fun h => h)
  have ex : ∀ v ∈ out, ∃ k, keyIs k v = true := fun v hv => by
    obtain ⟨e, he, rfl⟩ := List.mem_map.mp (pm.mem_iff.mp hv)
    obtain ⟨⟨k, h1, _⟩, _⟩ := b.el e he
    exact ⟨k, h1⟩
  have mem : ∀ k, (∃ v ∈ out, keyIs k v = true) ↔ T k = true := fun k => by
    rw [b.mem k]
    constructor
    · rintro ⟨v, hv, h⟩
      obtain ⟨e, he, rfl⟩ := List.mem_map.mp (pm.mem_iff.mp hv)
      exact ⟨e, he, h⟩
    · rintro ⟨e, he, h⟩
      exact ⟨e.2, pm.mem_iff.mpr (List.mem_map_of_mem he), h⟩
  have build : ∀ out : List Value, (∀ v ∈ out, ∃ k, keyIs k v = true) → out.Pairwise (fun u v => ∀ k : Key, keyIs k u = true → keyIs k v = true → False) → ∃ ks : List Key, ks.length = out.length ∧ ks.Nodup ∧ (∀ k, k ∈ ks ↔ ∃ v ∈ out, keyIs k v = true) ∧ ∀ (i : Nat) (v : Value), out[i]? = some v → ∃ k, ks[i]? = some k ∧ keyIs k v = true := by
    intro out
    induction out with
    | nil => exact fun _ _ => ⟨[], rfl, List.nodup_nil, fun k => by simp, fun i v h => by simp at h⟩
    | cons u out ih =>
      intro h1 h2
      obtain ⟨k, hk⟩ := h1 u List.mem_cons_self
      obtain ⟨p1, p2⟩ := List.pairwise_cons.mp h2
      obtain ⟨ks, e1, e2, e3, e4⟩ := ih (fun v hv => h1 v (List.mem_cons_of_mem _ hv)) p2
      have inj : ∀ j, keyIs j u = true → j = k := fun j hj => (mixKind P w).inj u j k hj hk
      refine ⟨k :: ks, by rw [List.length_cons, List.length_cons, e1], List.nodup_cons.mpr ⟨fun hm => ?_, e2⟩, fun j => ?_, fun i v hv => ?_⟩
      · obtain ⟨v, hv, q⟩ := (e3 k).mp hm
        exact p1 v hv k hk q
      · rw [List.mem_cons, e3]
        constructor
        · rintro (rfl | ⟨v, hv, q⟩)
          · exact ⟨u, List.mem_cons_self, hk⟩
          · exact ⟨v, List.mem_cons_of_mem _ hv, q⟩
        · rintro ⟨v, hv, q⟩
          rcases List.mem_cons.mp hv with rfl | hv
          · exact .inl (inj j q)
          · exact .inr ⟨v, hv, q⟩
      · cases i with
        | zero => cases hv; exact ⟨k, rfl, hk⟩
        | succ i => exact e4 i v hv
  obtain ⟨ks, e1, e2, e3, e4⟩ := build out ex pr
  exact hQ s' out ks k1 k0 g1 o1 hl (by rw [e1, hl]) e2 (fun k => (e3 k).trans (mem k)) e4
end
/-! ### such a set as a thing of the heap -/
def SetH (P : Program) (w : World) (a : Addr) (T : Key → Bool) (N : Nat) : HO := .ext fun h => SetZ P w h a T N
theorem setH_ok {P : Program} {w : World} {H : Hp} {h : Heap} {a : Addr} {T : Key → Bool} {N : Nat} (R : SetZ P w h a T N) : ObjOk P w H h a (SetH P w a T N) := ⟨R, R.elim fun o q => by
  obtain ⟨_, _, _, q1, _⟩ := q
  exact ⟨o, q1⟩, fun _ _ p k => p.keep k⟩
section
variable {X : Cx} {pins : List (Addr × Obj)} {σ : L2.St} {H : Hp} {s : Shared} {a : Addr} {T : Key → Bool} {N : Nat}
theorem setH_at (I : Inv X pins σ H s) (ha : H a = some (SetH X.prog X.w a T N)) : SetZ X.prog X.w s.heap a T N := (I.hok a _ ha).1
def rZ0 (P : Program) (w : World) : List V → Hp → VK → Prop := fun xs H Q => xs = [] ∧ ∀ q, H q = none → Q (.ref q) (upd H q (SetH P w q (fun _ => false) 0))
theorem cr_z0 : CallR X (.type "set") (rZ0 X.prog X.w) := by
  rintro pins s σ H xs us Q I r ⟨rfl, q⟩
  cases r
  exact setR_new fun _ => ⟨.ref _, _, I.laid (t' := s.toks) (fun b u e => Heap.get?_push_of_some _ e) (Nat.le_refl _) (setH_ok (znew_at (P := X.prog) (Heap.get?_push_size _ rfl))), rfl, q _ (I.hok.fresh (Nat.le_refl _))⟩
def rZadd (P : Program) (w : World) : V → List V → Hp → VK → Prop := fun x xs H Q => ∃ (a : Addr) (k : Key) (T : Key → Bool) (N : Nat), x = V.ref a ∧ xs = [kV k] ∧ H a = some (SetH P w a T N) ∧ N + 1 < scanBound ∧ Q .non (upd H a (SetH P w a (fun j => T j || decide (j = k)) (if T k = true then N else N + 1)))
theorem mt_zadd : MtR X "set.add" (rZadd X.prog X.w) := by
  rintro pins s σ H x xs v us Q I rx rxs ⟨a, k, T, N, rfl, rfl, ha, room, q⟩
  cases rx
  cases rxs with
  | cons ry rt =>
    cases rt
    refine zadd (setH_at I ha) (kV_is (P := X.prog) (w := X.w) ry) (key_scan ry) room fun h' sb new => ⟨.non, _, I.write (e := a) (t' := s.toks + 1) (by rw [ha]; trivial) (.inl rfl) (fun b u hb hu => (sb.2 b hb).trans hu) ?_ (setH_ok new), rfl, q⟩
    obtain ⟨o, _, _, _, ho, _⟩ := new
    exact ⟨o, ho⟩
def tZadd (P : Program) (w : World) (to : TE) (t : TA) : TE := fun σ H Q => to σ H fun x H1 => (∃ a T N, x = V.ref a ∧ H1 a = some (SetH P w a T N)) ∧ t σ H1 fun xs H2 => rZadd P w x xs H2 Q
theorem pe_zadd {o e : Expr} {es : List Expr} {to : TE} {t : TA} {apos cpos : Pos} (ho : PE X o to) (ha : PA X (e :: es) t) (m1 : attributeBase o "add" X.env (eval o X.env) = eval o X.env)
    (m2 : ((backTo cpos (starEach (e :: es) X.env)).all (fun x => !x.1) && (backToKw cpos (keywordEach [] X.env)).all (fun x => x.1.isSome) && decide ((e :: es).length + ([] : List Keyword).length + (if ([] : List Keyword).isEmpty then 0 else 1) < 30)) = true)
    (m3 : (apos.endLine == cpos.line) = true) (m4 : starEach (e :: es) X.env = (false, eval e X.env) :: starEach es X.env) (m5 : (backTo cpos (starEach es X.env)).any (·.1) = false) :
    PE X (.Call (.Attribute o "add" apos) (e :: es) [] cpos) (tZadd X.prog X.w to t) := by
  refine ⟨fun pins s σ H Q I h => wpAny_Call_method_late m1 m2 m3 rfl (thn (ho.run pins s σ H _ I h) ?_)⟩
  rintro v s1 ⟨x, H1, I1, r1, ⟨a, T, N, rfl, hka⟩, q1⟩
  have hS := (setH_at I1 hka).of
  cases r1
  refine ⟨"set", "set.add", F.plainAttrs_set, F.slot_set_add, F.type_set_add, hS.typeIs, hS.noDict, ?_⟩
  have hA := ha.run cpos pins s1 σ H1 _ I1 q1
  rw [m4] at hA ⊢
  refine Calls.callWith_builtin (by show (false || (backTo cpos (starEach es X.env)).any (·.1)) = false; rw [m5] <;> rfl) (Calls.evalArgs_plain (thn hA ?_))
  rintro us s2 ⟨vs, H2, I2, r2, q2⟩
  exact mt_zadd pins s2 σ H2 (.ref a) vs (.ref a) us Q I2 rfl r2 q2
def rZin (P : Program) (w : World) (neg : Bool) : V → V → Hp → VK → Prop := fun x y H Q => ∃ (k : Key) (a : Addr) (T : Key → Bool) (N : Nat), x = kV k ∧ y = V.ref a ∧ H a = some (SetH P w a T N) ∧ Q (.bl (if neg then !T k else T k)) H
theorem or_zin : OpR X (compareOp .In) (rZin X.prog X.w false) := by
  rintro pins s σ H x y v u Q I rx ry ⟨k, a, T, N, rfl, rfl, ha, q⟩
  cases ry
  exact wpAny_inSet_of (kV_is rx) (key_scan rx) (setH_at I ha).of ⟨.bl (T k), H, I.tok _, rfl, q⟩
theorem or_znotin : OpR X (compareOp .NotIn) (rZin X.prog X.w true) := by
  rintro pins s σ H x y v u Q I rx ry ⟨k, a, T, N, rfl, rfl, ha, q⟩
  cases ry
  exact wpAny_notInSet_of (kV_is rx) (key_scan rx) (setH_at I ha).of ⟨.bl (!T k), H, I.tok _, rfl, q⟩
end
end Z

set_option Elab.async false
set_option linter.all false
set_option maxRecDepth 100000
set_option maxHeartbeats 4000000
namespace Z
open PySem PySem.Spec PyProof.Rows L2
/-- what a run is of: the program, the world, the code tables that may grow with the names of what they make -/
class Row where
  prog : Program
  w : World
  tabs : List (Addr × Str)
variable [Row]

/-! ### data, stores, results -/
/-- a value: tuples are values, lists, dicts, instances are places of the store -/
inductive D where
  | non | bl (b : Bool) | int (i : Int) | str (x : Str) | tup (xs : List D) | ref (n : Nat)

/-- what stands at a place -/
inductive SO where
  | lst (xs : List D)
  | frz (xs : List D)
  | dict (t : Bool) (kvs : List (D × D))
  | ins (c : Str) (fs : List (Str × D))
  | lck (t : Bool) (kvs : List (D × D))
  | set (xs : List D)
abbrev Sto := List SO
abbrev Ev := List (Option D)

/-- a result: a value, an exception of the class c with its one field f, or stuck -/
inductive Rs (α : Type) where
  | ok (a : α) (s : Sto)
  | ex (c f : Str) (v : D) (s : Sto)
  | no
def Rs.bind {α β : Type} (r : Rs α) (k : α → Sto → Rs β) : Rs β := match r with
  | .ok a s => k a s
  | .ex c f v s => .ex c f v s
  | .no => .no
abbrev EM (α : Type) := Ev → Sto → Rs α
inductive RS where
  | nx (e : Ev) (s : Sto)
  | rt (d : D) (s : Sto)
  | bk (e : Ev) (s : Sto)
  | ct (e : Ev) (s : Sto)
  | ex (c f : Str) (v : D) (e : Ev) (s : Sto)
  | no
abbrev SM := Ev → Sto → RS
/-- an expression's result goes on as a statement -/
def Rs.st {α : Type} (r : Rs α) (e : Ev) (k : α → Sto → RS) : RS := match r with
  | .ok a s => k a s
  | .ex c f v s => .ex c f v e s
  | .no => .no
def RS.seq (r : RS) (k : SM) : RS := match r with
  | .nx e s => k e s
  | r => r

/-! ### what stands for what -/
mutual
def VR (K : PySem.W.Frag) (ρ : Nat → Addr) (n : Nat) (H : Hp) : D → V → Prop
  | .non, v => v = .non
  | .bl b, v => v = .bl b
  | .int i, v => v = .int i
  | .str x, v => v = .str x
  | .tup xs, v => ∃ a vs, v = .ref a ∧ SqT K H a vs ∧ VRs K ρ n H xs vs
  | .ref k, v => k < n ∧ v = .ref (ρ k)
def VRs (K : PySem.W.Frag) (ρ : Nat → Addr) (n : Nat) (H : Hp) : List D → List V → Prop
  | [], vs => vs = []
  | d :: ds, vs => ∃ v r, vs = v :: r ∧ VR K ρ n H d v ∧ VRs K ρ n H ds r
end
/-- the later world bears the earlier one -/
structure Ext (ρ : Nat → Addr) (n : Nat) (H : Hp) (ρ' : Nat → Addr) (n' : Nat) (H' : Hp) : Prop where
  le : n ≤ n'
  ag : ∀ k, k < n → ρ' k = ρ k
  tp : ∀ a vs, Rd H a (.tup vs) → Rd H' a (.tup vs)
  fz : ∀ a o kvs, H a = some (.frz o (.dK kvs)) → H' a = some (.frz o (.dK kvs))
  fzT : ∀ a o kvs, H a = some (.frz o (.dT kvs)) → H' a = some (.frz o (.dT kvs))
theorem Ext.refl {ρ : Nat → Addr} {n : Nat} {H : Hp} : Ext ρ n H ρ n H := ⟨Nat.le_refl _, fun _ _ => rfl, fun _ _ h => h, fun _ _ _ h => h, fun _ _ _ h => h⟩
theorem Ext.trans {ρ ρ1 ρ2 : Nat → Addr} {n n1 n2 : Nat} {H H1 H2 : Hp} (a : Ext ρ n H ρ1 n1 H1) (b : Ext ρ1 n1 H1 ρ2 n2 H2) : Ext ρ n H ρ2 n2 H2 :=
  ⟨Nat.le_trans a.le b.le, fun k h => (b.ag k (Nat.lt_of_lt_of_le h a.le)).trans (a.ag k h), fun p vs h => b.tp p vs (a.tp p vs h), fun p o k h => b.fz p o k (a.fz p o k h), fun p o k h => b.fzT p o k (a.fzT p o k h)⟩
section
variable {K : PySem.W.Frag} {mg : Str → Option Value} {ρ ρ' : Nat → Addr} {n n' : Nat} {H H' : Hp}
theorem Ext.sqt (e : Ext ρ n H ρ' n' H') {a : Addr} {vs : List V} (h : SqT K H a vs) : SqT K H' a vs := h.elim (fun z => .inl (e.tp a vs z)) .inr
mutual
theorem VR.mono (e : Ext ρ n H ρ' n' H') : ∀ {d : D} {v : V}, VR K ρ n H d v → VR K ρ' n' H' d v
  | .non, _, h => h
  | .bl _, _, h => h
  | .int _, _, h => h
  | .str _, _, h => h
  | .tup xs, _, h => by
    rw [VR] at h ⊢
    obtain ⟨a, vs, e1, q, r⟩ := h
    exact ⟨a, vs, e1, e.sqt q, VRs.mono e r⟩
  | .ref k, _, h => by
    rw [VR] at h ⊢
    exact ⟨Nat.lt_of_lt_of_le h.1 e.le, by rw [e.ag k h.1]; exact h.2⟩
theorem VRs.mono (e : Ext ρ n H ρ' n' H') : ∀ {ds : List D} {vs : List V}, VRs K ρ n H ds vs → VRs K ρ' n' H' ds vs
  | [], _, h => h
  | d :: ds, _, h => by
    rw [VRs] at h ⊢
    obtain ⟨v, r, e1, h1, h2⟩ := h
    exact ⟨v, r, e1, VR.mono e h1, VRs.mono e h2⟩
end
theorem VRs.cons {d : D} {v : V} {ds : List D} {vs : List V} (h : VR K ρ n H d v) (t : VRs K ρ n H ds vs) : VRs K ρ n H (d :: ds) (v :: vs) := by
  rw [VRs]
  exact ⟨v, vs, rfl, h, t⟩
theorem VRs.nil : VRs K ρ n H [] [] := by rw [VRs]
theorem VRs.length : ∀ {ds : List D} {vs : List V}, VRs K ρ n H ds vs → vs.length = ds.length
  | [], _, h => by rw [VRs] at h; rw [h] <;> rfl
  | d :: ds, _, h => by
    rw [VRs] at h
    obtain ⟨v, r, e1, h1, h2⟩ := h
    rw [e1, List.length_cons, List.length_cons, VRs.length h2]
theorem VRs.get : ∀ {ds : List D} {vs : List V} {i : Nat} {d : D}, VRs K ρ n H ds vs → ds[i]? = some d → ∃ v, vs[i]? = some v ∧ VR K ρ n H d v
  | [], _, _, _, _, h => by simp at h
  | d :: ds, _, 0, _, h, q => by
    rw [VRs] at h
    obtain ⟨v, r, e1, h1, h2⟩ := h
    simp at q
    subst q e1
    exact ⟨v, rfl, h1⟩
  | d :: ds, _, i + 1, _, h, q => by
    rw [VRs] at h
    obtain ⟨v, r, e1, h1, h2⟩ := h
    subst e1
    simp at q
    obtain ⟨u, hu, hr⟩ := VRs.get h2 q
    exact ⟨u, by simpa using hu, hr⟩
theorem VRs.get' : ∀ {ds : List D} {vs : List V} {i : Nat} {v : V}, VRs K ρ n H ds vs → vs[i]? = some v → ∃ d, ds[i]? = some d ∧ VR K ρ n H d v := fun {ds vs i v} h q => by
  have hl := h.length
  have hi : i < vs.length := (List.getElem?_eq_some_iff.mp q).1
  have e : ds[i]? = some (ds[i]'(by omega)) := List.getElem?_eq_getElem (by omega)
  obtain ⟨u, hu, hr⟩ := h.get e
  rw [q] at hu
  cases hu
  exact ⟨_, e, hr⟩
theorem VRs.append : ∀ {ds es : List D} {vs us : List V}, VRs K ρ n H ds vs → VRs K ρ n H es us → VRs K ρ n H (ds ++ es) (vs ++ us)
  | [], _, _, _, h, t => by rw [VRs] at h; subst h; exact t
  | d :: ds, _, _, _, h, t => by
    rw [VRs] at h
    obtain ⟨v, r, e1, h1, h2⟩ := h
    subst e1
    exact VRs.cons h1 (VRs.append h2 t)
theorem VRs.set : ∀ {ds : List D} {vs : List V} {d : D} {v : V} (i : Nat), VRs K ρ n H ds vs → VR K ρ n H d v → VRs K ρ n H (ds.set i d) (vs.set i v)
  | [], _, _, _, _, h, _ => by rw [VRs] at h; subst h; exact VRs.nil
  | d :: ds, _, _, _, 0, h, q => by
    rw [VRs] at h
    obtain ⟨v, r, e1, h1, h2⟩ := h
    subst e1
    exact VRs.cons q h2
  | d :: ds, _, _, _, i + 1, h, q => by
    rw [VRs] at h
    obtain ⟨v, r, e1, h1, h2⟩ := h
    subst e1
    exact VRs.cons h1 (VRs.set i h2 q)
theorem VRs.take : ∀ {ds : List D} {vs : List V} (i : Nat), VRs K ρ n H ds vs → VRs K ρ n H (ds.take i) (vs.take i)
  | [], _, _, h => by rw [VRs] at h; subst h; simpa using VRs.nil
  | d :: ds, _, 0, _ => VRs.nil
  | d :: ds, _, i + 1, h => by
    rw [VRs] at h
    obtain ⟨v, r, e1, h1, h2⟩ := h
    subst e1
    exact VRs.cons h1 (VRs.take i h2)
theorem VRs.drop : ∀ {ds : List D} {vs : List V} (i : Nat), VRs K ρ n H ds vs → VRs K ρ n H (ds.drop i) (vs.drop i)
  | [], _, _, h => by rw [VRs] at h; subst h; simpa using VRs.nil
  | d :: ds, _, 0, h => h
  | d :: ds, _, i + 1, h => by
    rw [VRs] at h
    obtain ⟨v, r, e1, h1, h2⟩ := h
    subst e1
    exact VRs.drop i h2
theorem VRs.reverse : ∀ {ds : List D} {vs : List V}, VRs K ρ n H ds vs → VRs K ρ n H ds.reverse vs.reverse
  | [], _, h => by rw [VRs] at h; subst h; exact VRs.nil
  | d :: ds, _, h => by
    rw [VRs] at h
    obtain ⟨v, r, e1, h1, h2⟩ := h
    subst e1
    rw [List.reverse_cons, List.reverse_cons]
    exact VRs.append (VRs.reverse h2) (VRs.cons h1 VRs.nil)
theorem VRs.one {d : D} {vs : List V} (h : VRs K ρ n H [d] vs) : ∃ v, vs = [v] ∧ VR K ρ n H d v := by
  rw [VRs] at h
  obtain ⟨v, r, e1, h1, h2⟩ := h
  rw [VRs] at h2
  subst h2
  exact ⟨v, e1, h1⟩
theorem VRs.uncons {d : D} {ds : List D} {vs : List V} (h : VRs K ρ n H (d :: ds) vs) : ∃ v r, vs = v :: r ∧ VR K ρ n H d v ∧ VRs K ρ n H ds r := by
  rw [VRs] at h
  exact h

/-- attributes, by name and in order -/
def FR (K : PySem.W.Frag) (ρ : Nat → Addr) (n : Nat) (H : Hp) : List (Str × D) → List (Str × V) → Prop
  | [], vs => vs = []
  | p :: ps, vs => ∃ v r, vs = (p.1, v) :: r ∧ VR K ρ n H p.2 v ∧ FR K ρ n H ps r
theorem FR.mono (e : Ext ρ n H ρ' n' H') : ∀ {ds : List (Str × D)} {vs : List (Str × V)}, FR K ρ n H ds vs → FR K ρ' n' H' ds vs
  | [], _, h => h
  | _ :: _, _, ⟨v, r, e1, h1, h2⟩ => ⟨v, r, e1, h1.mono e, FR.mono e h2⟩
theorem FR.lookup : ∀ {ds : List (Str × D)} {vs : List (Str × V)} {f : Str} {d : D}, FR K ρ n H ds vs → ds.lookup f = some d → ∃ v, vs.lookup f = some v ∧ VR K ρ n H d v
  | [], _, _, _, _, h => by cases h
  | (g, x) :: ps, _, f, d, ⟨v, r, e1, h1, h2⟩, h => by
    subst e1
    rw [List.lookup_cons] at h ⊢
    by_cases q : f == g
    · rw [q] at h
      rw [q]
      cases h
      exact ⟨v, rfl, h1⟩
    · simp only [Bool.not_eq_true] at q
      rw [q] at h
      rw [q]
      exact FR.lookup h2 h
theorem FR.lookup_none : ∀ {ds : List (Str × D)} {vs : List (Str × V)} {f : Str}, FR K ρ n H ds vs → ds.lookup f = none → vs.lookup f = none
  | [], _, _, h, _ => by
    have h : _ = ([] : List (Str × V)) := h
    subst h
    rfl
  | (g, x) :: ps, _, f, ⟨v, r, e1, h1, h2⟩, h => by
    subst e1
    rw [List.lookup_cons] at h ⊢
    by_cases q : f == g
    · rw [q] at h
      cases h
    · simp only [Bool.not_eq_true] at q
      rw [q] at h
      rw [q]
      exact FR.lookup_none h2 h
theorem FR.length : ∀ {ds : List (Str × D)} {vs : List (Str × V)}, FR K ρ n H ds vs → vs.length = ds.length
  | [], _, h => by
    have h : _ = ([] : List (Str × V)) := h
    rw [h] <;> rfl
  | _ :: _, _, ⟨v, r, e1, h1, h2⟩ => by rw [e1, List.length_cons, List.length_cons, FR.length h2]
/-- an attribute stored -/
def putD (f : Str) (d : D) : List (Str × D) → List (Str × D)
  | [] => [(f, d)]
  | (g, x) :: r => if g = f then (g, d) :: r else (g, x) :: putD f d r
theorem FR.put {f : Str} {d : D} {v : V} (q : VR K ρ n H d v) : ∀ {ds : List (Str × D)} {vs : List (Str × V)}, FR K ρ n H ds vs → FR K ρ n H (putD f d ds) (putF f v vs)
  | [], _, h => by
    have h : _ = ([] : List (Str × V)) := h
    subst h
    exact ⟨v, [], rfl, q, rfl⟩
  | (g, x) :: ps, _, ⟨u, r, e1, h1, h2⟩ => by
    subst e1
    show FR K ρ n H (if g = f then (g, d) :: ps else (g, x) :: putD f d ps) (if g = f then (g, v) :: r else (g, u) :: putF f v r)
    by_cases e : g = f
    · rw [if_pos e, if_pos e]
      exact ⟨v, r, rfl, q, h2⟩
    · rw [if_neg e, if_neg e]
      exact ⟨u, _, rfl, h1, FR.put q h2⟩

/-- a dict's keys: ints and texts -/
def keyD : D → Option Key
  | .int i => some (.inl i)
  | .str x => some (.inr x)
  | _ => none
def keysD : List D → Option (List Key)
  | [] => some []
  | d :: ds => match keyD d, keysD ds with
    | some k, some ks => some (k :: ks)
    | _, _ => none
def tkeyD : D → Option (List Key)
  | .tup xs => keysD xs
  | _ => none
def KR {κ : Type} (key : D → Option κ) (K : PySem.W.Frag) (ρ : Nat → Addr) (n : Nat) (H : Hp) : List (D × D) → List (κ × V) → Prop
  | [], vs => vs = []
  | p :: ps, vs => ∃ k v r, vs = (k, v) :: r ∧ key p.1 = some k ∧ VR K ρ n H p.2 v ∧ KR key K ρ n H ps r
theorem KR.mono {κ : Type} {key : D → Option κ} (e : Ext ρ n H ρ' n' H') : ∀ {ds : List (D × D)} {vs : List (κ × V)}, KR key K ρ n H ds vs → KR key K ρ' n' H' ds vs
  | [], _, h => h
  | _ :: _, _, ⟨k, v, r, e1, h0, h1, h2⟩ => ⟨k, v, r, e1, h0, h1.mono e, KR.mono e h2⟩

/-- a list known to its object, or of the module: never written -/
def SqF (K : PySem.W.Frag) (H : Hp) (a : Addr) (xs : List V) : Prop :=
  (∃ o, H a = some (.frz o (.lst xs))) ∨
    ∃ (o : Obj) (its : Array Value) (n : Nat), K.lookup a = some o ∧ o.cls = .type "list" ∧ o.dict = none ∧ o.data = .seq its n ∧ its.size ≤ sizeLine ∧ Vals xs its.toList
theorem SqF.sq {a : Addr} {xs : List V} (h : SqF K H a xs) : SqL K H a xs := h.elim (fun z => .inl (.inr z)) .inr
/-- a set of keys: what is in it, by a list -/
def SetRl (xs : List D) (S : Key → Bool) (n : Nat) : Prop := n = xs.length ∧ (∃ ks, keysD xs = some ks ∧ ks.Nodup ∧ ∀ k, S k = true ↔ k ∈ ks)
/-- the object at a place -/
def OR (K : PySem.W.Frag) (mg : Str → Option Value) (ρ : Nat → Addr) (n : Nat) (H : Hp) (a : Addr) : SO → Prop
  | .lst xs => ∃ vs, H a = some (.lst vs) ∧ VRs K ρ n H xs vs
  | .frz xs => ∃ vs, SqF K H a vs ∧ VRs K ρ n H xs vs
  | .dict false kvs => ∃ vs, H a = some (.dK vs) ∧ KR keyD K ρ n H kvs vs
  | .dict true kvs => ∃ vs, H a = some (.dT vs) ∧ KR tkeyD K ρ n H kvs vs
  | .ins c fs => ∃ C dx vs, mg c = some (.ref C) ∧ H a = some (.ins C dx vs) ∧ FR K ρ n H fs vs
  | .lck false kvs => ∃ od vs, H a = some (.frz od (.dK vs)) ∧ KR keyD K ρ n H kvs vs
  | .lck true kvs => ∃ od vs, H a = some (.frz od (.dT vs)) ∧ KR tkeyD K ρ n H kvs vs
  | .set xs => ∃ S m, H a = some (SetH Row.prog Row.w a S m) ∧ SetRl xs S m
/-- may be written -/
def mutS : SO → Bool
  | .frz _ => false
  | _ => true
/-- may be written now -/
def wrS : SO → Bool
  | .frz _ => false
  | .lck _ _ => false
  | _ => true
theorem wrS.mut {o : SO} (h : wrS o = true) : mutS o = true := by cases o <;> first | rfl | cases h
theorem OR.wr {a : Addr} {o : SO} (h : OR K mg ρ n H a o) (m : wrS o = true) : ∃ u, H a = some u ∧ ∀ ob w, u ≠ .frz ob w := by
  cases o with
  | lst xs => obtain ⟨vs, h, _⟩ := h; exact ⟨_, h, fun _ _ z => nomatch z⟩
  | frz xs => cases m
  | dict t kvs => cases t <;> (obtain ⟨vs, h, _⟩ := h; exact ⟨_, h, fun _ _ z => nomatch z⟩)
  | ins c fs => obtain ⟨C, dx, vs, _, h, _⟩ := h; exact ⟨_, h, fun _ _ z => nomatch z⟩
  | lck t kvs => cases m
  | set xs => obtain ⟨S, m, h, _⟩ := h; exact ⟨_, h, fun _ _ z => by cases z⟩
theorem OR.mut {a : Addr} {o : SO} (h : OR K mg ρ n H a o) (m : mutS o = true) : ∃ u, H a = some u ∧ (∀ ob xs, u ≠ .frz ob (.lst xs)) ∧ (∀ ob xs, u ≠ .frz ob (.tup xs)) ∧ (∀ xs, u ≠ .tup xs) ∧ (∀ x, u ≠ .own x) ∧ ∀ ps, u ≠ .tbl ps := by
  have key : ∀ {u : HO}, H a = some u → (match u with | .frz _ (.lst _) => False | .frz _ (.tup _) => False | .tup _ => False | .own _ => False | .tbl _ => False | _ => True) → ∃ u, H a = some u ∧ (∀ ob xs, u ≠ .frz ob (.lst xs)) ∧ (∀ ob xs, u ≠ .frz ob (.tup xs)) ∧ (∀ xs, u ≠ .tup xs) ∧ (∀ x, u ≠ .own x) ∧ ∀ ps, u ≠ .tbl ps := fun {u} h k =>
    ⟨u, h, fun _ _ z => by subst z; exact k, fun _ _ z => by subst z; exact k, fun _ z => by subst z; exact k, fun _ z => by subst z; exact k, fun _ z => by subst z; exact k⟩
  cases o with
  | lst xs => obtain ⟨vs, h, _⟩ := h; exact key h trivial
  | frz xs => cases m
  | dict t kvs => cases t <;> (obtain ⟨vs, h, _⟩ := h; exact key h trivial)
  | ins c fs => obtain ⟨C, dx, vs, _, h, _⟩ := h; exact key h trivial
  | lck t kvs => cases t <;> (obtain ⟨od, vs, h, _⟩ := h; exact key h trivial)
  | set xs => obtain ⟨S, m, h, _⟩ := h; exact key h trivial
/-- the object stands still, the world grows -/
theorem OR.mono (e : Ext ρ n H ρ' n' H') {a : Addr} (ha : ∀ u, H a = some u → H' a = some u) {o : SO} (h : OR K mg ρ n H a o) : OR K mg ρ' n' H' a o := by
  cases o with
  | lst xs => obtain ⟨vs, h, r⟩ := h; exact ⟨vs, ha _ h, r.mono e⟩
  | frz xs =>
    obtain ⟨vs, h, r⟩ := h
    refine ⟨vs, ?_, r.mono e⟩
    rcases h with ⟨o, h⟩ | h
    · exact .inl ⟨o, ha _ h⟩
    · exact .inr h
  | dict t kvs =>
    cases t with
    | false => obtain ⟨vs, h, r⟩ := h; exact ⟨vs, ha _ h, r.mono e⟩
    | true => obtain ⟨vs, h, r⟩ := h; exact ⟨vs, ha _ h, r.mono e⟩
  | ins c fs => obtain ⟨C, dx, vs, g, h, r⟩ := h; exact ⟨C, dx, vs, g, ha _ h, r.mono e⟩
  | lck t kvs =>
    cases t with
    | false => obtain ⟨od, vs, h, r⟩ := h; exact ⟨od, vs, ha _ h, r.mono e⟩
    | true => obtain ⟨od, vs, h, r⟩ := h; exact ⟨od, vs, ha _ h, r.mono e⟩
  | set xs => obtain ⟨S, m, h, r⟩ := h; exact ⟨S, m, ha _ h, r⟩

/-! only the tuples are kept -/
mutual
theorem VR.tp (e : ∀ a vs, SqT K H a vs → SqT K H' a vs) : ∀ {d : D} {v : V}, VR K ρ n H d v → VR K ρ n H' d v
  | .non, _, h => h
  | .bl _, _, h => h
  | .int _, _, h => h
  | .str _, _, h => h
  | .tup xs, _, h => by
    rw [VR] at h ⊢
    obtain ⟨a, vs, e1, q, r⟩ := h
    exact ⟨a, vs, e1, e _ _ q, VRs.tp e r⟩
  | .ref k, _, h => by
    rw [VR] at h ⊢
    exact h
theorem VRs.tp (e : ∀ a vs, SqT K H a vs → SqT K H' a vs) : ∀ {ds : List D} {vs : List V}, VRs K ρ n H ds vs → VRs K ρ n H' ds vs
  | [], _, h => by rw [VRs] at h ⊢; exact h
  | d :: ds, _, h => by
    rw [VRs] at h ⊢
    obtain ⟨v, r, e1, h1, h2⟩ := h
    exact ⟨v, r, e1, VR.tp e h1, VRs.tp e h2⟩
end
theorem FR.tp (e : ∀ a vs, SqT K H a vs → SqT K H' a vs) : ∀ {ds : List (Str × D)} {vs : List (Str × V)}, FR K ρ n H ds vs → FR K ρ n H' ds vs
  | [], _, h => h
  | _ :: _, _, ⟨v, r, e1, h1, h2⟩ => ⟨v, r, e1, h1.tp e, FR.tp e h2⟩
theorem KR.tp {κ : Type} {key : D → Option κ} (e : ∀ a vs, SqT K H a vs → SqT K H' a vs) : ∀ {ds : List (D × D)} {vs : List (κ × V)}, KR key K ρ n H ds vs → KR key K ρ n H' ds vs
  | [], _, h => h
  | _ :: _, _, ⟨k, v, r, e1, h0, h1, h2⟩ => ⟨k, v, r, e1, h0, h1.tp e, KR.tp e h2⟩
theorem OR.tp (e : ∀ a vs, SqT K H a vs → SqT K H' a vs) {a : Addr} (ha : ∀ u, H a = some u → H' a = some u) {o : SO} (h : OR K mg ρ n H a o) : OR K mg ρ n H' a o := by
  cases o with
  | lst xs => obtain ⟨vs, h, r⟩ := h; exact ⟨vs, ha _ h, r.tp e⟩
  | frz xs =>
    obtain ⟨vs, h, r⟩ := h
    exact ⟨vs, h.elim (fun ⟨o, h⟩ => .inl ⟨o, ha _ h⟩) .inr, r.tp e⟩
  | dict t kvs => cases t <;> (obtain ⟨vs, h, r⟩ := h; exact ⟨vs, ha _ h, r.tp e⟩)
  | ins c fs => obtain ⟨C, dx, vs, g, h, r⟩ := h; exact ⟨C, dx, vs, g, ha _ h, r.tp e⟩
  | lck t kvs => cases t <;> (obtain ⟨od, vs, h, r⟩ := h; exact ⟨od, vs, ha _ h, r.tp e⟩)
  | set xs => obtain ⟨S, m, h, r⟩ := h; exact ⟨S, m, ha _ h, r⟩

/-- the store stands for the heap -/
structure SR (K : PySem.W.Frag) (mg : Str → Option Value) (ρ : Nat → Addr) (s : Sto) (H : Hp) : Prop where
  inj : ∀ (i j : Nat) oi oj, s[i]? = some oi → s[j]? = some oj → mutS oi = true → mutS oj = true → ρ i = ρ j → i = j
  ob : ∀ (i : Nat) o, s[i]? = some o → OR K mg ρ s.length H (ρ i) o
  tb : LamX.Tabs Row.tabs H
  tc : ∀ p ∈ Row.tabs, ∀ ps pos c, H p.1 = some (.tbl ps) → codeAmong pos ps.toList = some (.ref c) → ∀ (i : Nat) o, s[i]? = some o → mutS o = true → ρ i ≠ c
theorem Ext.same (st : ∀ b o, H b = some o → H' b = some o) : Ext ρ n H ρ n H' :=
  ⟨Nat.le_refl _, fun _ _ => rfl, fun a vs h => h.elim (fun z => .inl (st _ _ z)) fun ⟨o, z⟩ => .inr ⟨o, st _ _ z⟩, fun _ _ _ h => st _ _ h, fun _ _ _ h => st _ _ h⟩
/-- untracked or new things come -/
theorem SR.grow {s : Sto} (h : SR K mg ρ s H) (st : ∀ b o, H b = some o → H' b = some o) : SR K mg ρ s H' :=
  ⟨h.inj, fun i o e => (h.ob i o e).mono (Ext.same st) fun u z => st _ _ z, h.tb.ext st, fun p hp ps pos c e => by
    obtain ⟨ps', e', _⟩ := h.tb p hp
    have e2 := st _ _ e'
    rw [e] at e2
    cases e2
    exact h.tc p hp ps pos c e'⟩
def ρup (ρ : Nat → Addr) (n : Nat) (p : Addr) : Nat → Addr := fun k => if k = n then p else ρ k
theorem ρup_same {p : Addr} : ρup ρ n p n = p := by unfold ρup; rw [if_pos rfl]
theorem ρup_ne {p : Addr} {k : Nat} (h : k ≠ n) : ρup ρ n p k = ρ k := by unfold ρup; rw [if_neg h]
theorem Ext.alloc {p : Addr} (st : ∀ b o, H b = some o → H' b = some o) : Ext ρ n H (ρup ρ n p) (n + 1) H' :=
  ⟨Nat.le_succ _, fun k h => ρup_ne (Nat.ne_of_lt h), (Ext.same (ρ := ρ) (n := n) st).tp, (Ext.same (ρ := ρ) (n := n) st).fz, (Ext.same (ρ := ρ) (n := n) st).fzT⟩
theorem SR.alloc {s : Sto} {p : Addr} {o : SO} (h : SR K mg ρ s H) (hp : H p = none) (st : ∀ b u, H b = some u → H' b = some u)
    (ho : OR K mg (ρup ρ s.length p) (s.length + 1) H' p o) : SR K mg (ρup ρ s.length p) (s ++ [o]) H' := by
  have ext : Ext ρ s.length H (ρup ρ s.length p) (s.length + 1) H' := Ext.alloc st
  have old : ∀ {i : Nat} {oi : SO}, i < s.length → (s ++ [o])[i]? = some oi → s[i]? = some oi := fun hi e => by rwa [List.getElem?_append_left hi] at e
  have new : ∀ {i : Nat} {oi : SO}, ¬ i < s.length → (s ++ [o])[i]? = some oi → i = s.length ∧ oi = o := fun {i oi} hi e => by
    have hl := (List.getElem?_eq_some_iff.mp e).1
    simp only [List.length_append, List.length_cons, List.length_nil] at hl
    have : i = s.length := by omega
    subst this
    simp at e
    exact ⟨rfl, e.symm⟩
  refine ⟨fun i j oi oj e1 e2 m1 m2 q => ?_, fun i oi e => ?_, h.tb.ext st, fun p' hp' ps pos c e ec i o ei mo => ?_⟩
  · by_cases hi : i < s.length
    · by_cases hj : j < s.length
      · rw [ρup_ne (Nat.ne_of_lt hi), ρup_ne (Nat.ne_of_lt hj)] at q
        exact h.inj i j oi oj (old hi e1) (old hj e2) m1 m2 q
      · obtain ⟨rfl, rfl⟩ := new hj e2
        rw [ρup_ne (Nat.ne_of_lt hi), ρup_same] at q
        obtain ⟨u, hu, _⟩ := (h.ob i oi (old hi e1)).mut m1
        rw [q, hp] at hu
        cases hu
    · obtain ⟨rfl, rfl⟩ := new hi e1
      by_cases hj : j < s.length
      · rw [ρup_ne (Nat.ne_of_lt hj), ρup_same] at q
        obtain ⟨u, hu, _⟩ := (h.ob j oj (old hj e2)).mut m2
        rw [← q, hp] at hu
        cases hu
      · exact (new hj e2).1.symm
  · rw [List.length_append]
    by_cases hi : i < s.length
    · rw [ρup_ne (Nat.ne_of_lt hi)]
      exact (h.ob i oi (old hi e)).mono ext fun u z => st _ _ z
    · obtain ⟨rfl, rfl⟩ := new hi e
      rw [ρup_same]
      exact ho
  · obtain ⟨ps', e', _, h3⟩ := h.tb p' hp'
    have e2 := st _ _ e'
    rw [e] at e2
    cases e2
    by_cases hi : i < s.length
    · rw [ρup_ne (Nat.ne_of_lt hi)]
      exact h.tc p' hp' ps pos c e' ec i o (old hi ei) mo
    · obtain ⟨rfl, rfl⟩ := new hi ei
      rw [ρup_same]
      obtain ⟨c2, q1, q2⟩ := h3 pos _ ec
      cases q1
      intro z
      rw [← z, hp] at q2
      cases q2
theorem Ext.write {i : Nat} {o : SO} {u : HO} (h : OR K mg ρ n H (ρ i) o) (m : wrS o = true) : Ext ρ n H ρ n (upd H (ρ i) u) := by
  obtain ⟨w, hw, _, _, nt, _⟩ := h.mut (wrS.mut m)
  obtain ⟨w', hw', nf⟩ := h.wr m
  rw [hw] at hw'
  cases hw'
  have other : ∀ {a : Addr} {ob : Obj} {v : HO}, H a = some (.frz ob v) → upd H (ρ i) u a = some (.frz ob v) := fun {a ob v} r => by
    rw [upd_ne]
    · exact r
    · intro z
      rw [z, hw] at r
      exact nf _ _ (Option.some.inj r)
  refine ⟨Nat.le_refl _, fun _ _ => rfl, fun a vs r => ?_, fun a o k r => other r, fun a o k r => other r⟩
  rcases r with r | ⟨ob, r⟩
  · refine .inl ?_
    rw [upd_ne]
    · exact r
    · intro z
      rw [z, hw] at r
      exact nt vs (Option.some.inj r)
  · exact .inr ⟨ob, other r⟩
theorem Tabs.write {T : List (Addr × Str)} {a : Addr} {w u : HO} (t : LamX.Tabs T H) (hw : H a = some w) (nt : ∀ ps, w ≠ .tbl ps) (ne : ∀ p ∈ T, ∀ ps pos c, H p.1 = some (.tbl ps) → codeAmong pos ps.toList = some (.ref c) → a ≠ c) : LamX.Tabs T (upd H a u) := fun p hp => by
  obtain ⟨ps, h1, h2, h3⟩ := t p hp
  refine ⟨ps, ?_, h2, fun pos cv hc => ?_⟩
  · rw [upd_ne]
    · exact h1
    · intro z
      rw [z, hw] at h1
      exact nt ps (Option.some.inj h1)
  · obtain ⟨c, e1, e2⟩ := h3 pos cv hc
    subst e1
    refine ⟨c, rfl, ?_⟩
    rw [upd_ne]
    · exact e2
    · exact Ne.symm (ne p hp ps pos c h1 hc)
theorem SR.put {s : Sto} {i : Nat} {o o' : SO} {u : HO} (h : SR K mg ρ s H) (e : s[i]? = some o) (m : mutS o = true) (m' : mutS o' = true)
    (ho : OR K mg ρ s.length (upd H (ρ i) u) (ρ i) o') : SR K mg ρ (s.set i o') (upd H (ρ i) u) := by
  have ext : ∀ a vs, SqT K H a vs → SqT K (upd H (ρ i) u) a vs := fun a vs r => by
    obtain ⟨w, hw, _, nf2, nt, _⟩ := (h.ob i o e).mut m
    refine r.elim (fun r => .inl ?_) .inr
    rcases r with r | ⟨ob, r⟩
    · refine .inl ?_
      rw [upd_ne]
      · exact r
      · intro z
        rw [z, hw] at r
        exact nt vs (Option.some.inj r)
    · refine .inr ⟨ob, ?_⟩
      rw [upd_ne]
      · exact r
      · intro z
        rw [z, hw] at r
        exact nf2 _ _ (Option.some.inj r)
  have hi := (List.getElem?_eq_some_iff.mp e).1
  have back : ∀ {j : Nat} {oj : SO}, (s.set i o')[j]? = some oj → (j = i ∧ oj = o') ∨ (j ≠ i ∧ s[j]? = some oj) := fun {j oj} q => by
    by_cases hj : j = i
    · subst hj
      rw [List.getElem?_set_self hi] at q
      exact .inl ⟨rfl, (Option.some.inj q).symm⟩
    · rw [List.getElem?_set_ne (Ne.symm hj)] at q
      exact .inr ⟨hj, q⟩
  obtain ⟨w0, hw0, _, _, _, _, nt0⟩ := (h.ob i o e).mut m
  have tbs := Tabs.write (u := u) h.tb hw0 nt0 fun p hp ps pos c e1 e2 => h.tc p hp ps pos c e1 e2 i o e m
  refine ⟨fun j k oj ok e1 e2 m1 m2 q => ?_, fun j oj q => ?_, tbs, fun p hp ps pos c e1 ec j oj q mj => ?_⟩
  · have t1 : ∃ o1, s[j]? = some o1 ∧ mutS o1 = true := by
      rcases back e1 with ⟨rfl, rfl⟩ | ⟨_, z⟩
      · exact ⟨o, e, m⟩
      · exact ⟨oj, z, m1⟩
    have t2 : ∃ o1, s[k]? = some o1 ∧ mutS o1 = true := by
      rcases back e2 with ⟨rfl, rfl⟩ | ⟨_, z⟩
      · exact ⟨o, e, m⟩
      · exact ⟨ok, z, m2⟩
    obtain ⟨o1, f1, g1⟩ := t1
    obtain ⟨o2, f2, g2⟩ := t2
    exact h.inj j k o1 o2 f1 f2 g1 g2 q
  · rw [List.length_set]
    obtain ⟨w', hw', nf, nf2, nt, _⟩ := (h.ob i o e).mut m
    rcases back q with ⟨rfl, rfl⟩ | ⟨hj, z⟩
    · exact ho
    · cases mj : mutS oj with
      | true =>
        refine (h.ob j oj z).tp ext fun w hw => ?_
        rw [upd_ne]
        · exact hw
        · intro qq
          exact hj (h.inj j i oj o z e mj m qq)
      | false =>
        cases oj with
        | frz xs =>
          obtain ⟨vs, sq, r⟩ := h.ob j _ z
          refine ⟨vs, ?_, r.tp ext⟩
          rcases sq with ⟨ob, sq⟩ | sq
          · refine .inl ⟨ob, ?_⟩
            rw [upd_ne]
            · exact sq
            · intro qq
              rw [qq, hw'] at sq
              exact nf _ _ (Option.some.inj sq)
          · exact .inr sq
        | _ => cases mj
  · have e3 : H p.1 = some (.tbl ps) := by
      rw [upd_ne] at e1
      · exact e1
      · intro z
        obtain ⟨ps', e', _⟩ := h.tb p hp
        rw [z, hw0] at e'
        exact nt0 _ (Option.some.inj e')
    rcases back q with ⟨rfl, rfl⟩ | ⟨_, z⟩
    · exact h.tc p hp ps pos c e3 ec j o e m
    · exact h.tc p hp ps pos c e3 ec j oj z mj
theorem SR.write {s : Sto} {i : Nat} {o o' : SO} {u : HO} (h : SR K mg ρ s H) (e : s[i]? = some o) (m : wrS o = true) (m' : mutS o' = true)
    (ho : OR K mg ρ s.length (upd H (ρ i) u) (ρ i) o') : SR K mg ρ (s.set i o') (upd H (ρ i) u) := h.put e (wrS.mut m) m' ho
end
end Z

set_option Elab.async false
set_option linter.all false
set_option maxRecDepth 100000
set_option maxHeartbeats 4000000
namespace Z
open PySem PySem.Spec PyProof.Rows L2
variable [Row]

/-- names by slots -/
def EnvR (K : PySem.W.Frag) (ρ : Nat → Addr) (n : Nat) (H : Hp) (env : Ev) (σ : L2.St) : Prop :=
  env.length = σ.length ∧ ∀ (i : Nat) d, env[i]? = some (some d) → ∃ v, σ[i]? = some (some v) ∧ VR K ρ n H d v
section
variable {K : PySem.W.Frag} {mg : Str → Option Value} {ρ ρ' ρ1 : Nat → Addr} {n n' n1 : Nat} {H H' H1 : Hp}
theorem EnvR.mono (e : Ext ρ n H ρ' n' H') {env : Ev} {σ : L2.St} (h : EnvR K ρ n H env σ) : EnvR K ρ' n' H' env σ :=
  ⟨h.1, fun i d q => let ⟨v, e1, r⟩ := h.2 i d q; ⟨v, e1, r.mono e⟩⟩
theorem EnvR.set {env : Ev} {σ : L2.St} (h : EnvR K ρ n H env σ) {i : Nat} {d : D} {v : V} (r : VR K ρ n H d v) : EnvR K ρ n H (env.set i (some d)) (σ.set i (some v)) := by
  refine ⟨by rw [List.length_set, List.length_set]; exact h.1, fun j e q => ?_⟩
  by_cases hj : i = j
  · subst hj
    by_cases hl : i < env.length
    · rw [List.getElem?_set_self hl] at q
      cases q
      exact ⟨v, by rw [List.getElem?_set_self (by rw [← h.1]; exact hl)], r⟩
    · rw [List.getElem?_eq_none (by rw [List.length_set]; omega)] at q
      cases q
  · rw [List.getElem?_set_ne hj] at q
    obtain ⟨u, e1, r1⟩ := h.2 j e q
    exact ⟨u, by rw [List.getElem?_set_ne hj]; exact e1, r1⟩
theorem EnvR.del {env : Ev} {σ : L2.St} (h : EnvR K ρ n H env σ) {i : Nat} : EnvR K ρ n H (env.set i none) (σ.set i none) := by
  refine ⟨by rw [List.length_set, List.length_set]; exact h.1, fun j e q => ?_⟩
  by_cases hj : i = j
  · subst hj
    by_cases hl : i < env.length
    · rw [List.getElem?_set_self hl] at q
      cases q
    · rw [List.getElem?_eq_none (by rw [List.length_set]; omega)] at q
      cases q
  · rw [List.getElem?_set_ne hj] at q
    obtain ⟨u, e1, r1⟩ := h.2 j e q
    exact ⟨u, by rw [List.getElem?_set_ne hj]; exact e1, r1⟩

abbrev Rl (α β : Type) := (Nat → Addr) → Nat → Hp → α → β → Prop
/-- what a result asks -/
def Po {α β : Type} (K : PySem.W.Frag) (mg : Str → Option Value) (R : Rl α β) (W : WX) (σ : L2.St) (ρ : Nat → Addr) (n : Nat) (H : Hp) (r : Rs α) (Q : β → Hp → Prop) : Prop :=
  match r with
  | .ok d s' => ∀ ρ' H' v, Ext ρ n H ρ' s'.length H' → SR K mg ρ' s' H' → R ρ' s'.length H' d v → Q v H'
  | .ex c f d s' => ∀ ρ' H' C dx v, Ext ρ n H ρ' s'.length H' → SR K mg ρ' s' H' → mg c = some (.ref C) → VR K ρ' s'.length H' d v → H' dx = some (.xd [(f, v)]) → W (.ref C) (some dx) σ H'
  | .no => False
theorem Po.rebase {α β : Type} {R : Rl α β} {W : WX} {σ : L2.St} {r : Rs α} {Q : β → Hp → Prop} (h : Po K mg R W σ ρ n H r Q) (e : Ext ρ n H ρ1 n1 H1) : Po K mg R W σ ρ1 n1 H1 r Q := by
  cases r with
  | ok d s => exact fun ρ' H' v e' => h ρ' H' v (e.trans e')
  | ex c f d s => exact fun ρ' H' C dx v e' => h ρ' H' C dx v (e.trans e')
  | no => exact h
/-- behind a part -/
def Mid {α β : Type} (K : PySem.W.Frag) (mg : Str → Option Value) (R : Rl α β) (ρ : Nat → Addr) (n : Nat) (H : Hp) (v : β) (H1 : Hp) (k : (Nat → Addr) → Sto → α → Prop) : Prop :=
  ∃ ρ1 s1 d, Ext ρ n H ρ1 s1.length H1 ∧ SR K mg ρ1 s1 H1 ∧ R ρ1 s1.length H1 d v ∧ k ρ1 s1 d
theorem Po.bind {α β γ δ : Type} {R : Rl α β} {R' : Rl γ δ} {W : WX} {σ : L2.St} {r : Rs α} {k : α → Sto → Rs γ} {Q : δ → Hp → Prop} (h : Po K mg R' W σ ρ n H (r.bind k) Q) :
    Po K mg R W σ ρ n H r (fun v H1 => Mid K mg R ρ n H v H1 fun ρ1 s1 d => Po K mg R' W σ ρ1 s1.length H1 (k d s1) Q) := by
  cases r with
  | ok d s => exact fun ρ' H' v e sr r => ⟨ρ', s, d, e, sr, r, Po.rebase h e⟩
  | ex c f d s => exact h
  | no => exact h
/-- the lifted reading -/
def lG {α β : Type} (K : PySem.W.Frag) (mg : Str → Option Value) (R : Rl α β) (W : WX) (m : EM α) : L2.St → Hp → (β → Hp → Prop) → Prop :=
  fun σ H Q => ∃ ρ env s, SR K mg ρ s H ∧ EnvR K ρ s.length H env σ ∧ Po K mg R W σ ρ s.length H (m env s) Q
abbrev RB : Rl Bool Bool := fun _ _ _ b c => b = c
abbrev lE (K : PySem.W.Frag) (mg : Str → Option Value) : WX → EM D → TE := lG K mg (VR K)
abbrev lA (K : PySem.W.Frag) (mg : Str → Option Value) : WX → EM (List D) → TA := lG K mg (VRs K)
abbrev lT (K : PySem.W.Frag) (mg : Str → Option Value) : WX → EM Bool → TT := lG K mg RB
end

section
variable {X : Cx}
theorem PE_imp {e : Expr} {t t' : TE} (h : PE X e t) (i : ∀ σ H Q, t' σ H Q → t σ H Q) : PE X e t' := ⟨fun p s σ H Q I q => h.run p s σ H Q I (i σ H Q q)⟩
theorem PT_imp {e : Expr} {t t' : TT} (h : PT X e t) (i : ∀ σ H Q, t' σ H Q → t σ H Q) : PT X e t' := ⟨fun p s σ H Q I q => h.run p s σ H Q I (i σ H Q q)⟩
theorem PW_imp {e : Expr} {t t' : TT} (h : PW X e t) (i : ∀ σ H Q, t' σ H Q → t σ H Q) : PW X e t' := ⟨fun w p s σ H Q I q => h.run w p s σ H Q I (i σ H Q q)⟩
theorem PA_imp {e : List Expr} {t t' : TA} (h : PA X e t) (i : ∀ σ H Q, t' σ H Q → t σ H Q) : PA X e t' := ⟨fun p pins s σ H Q I q => h.run p pins s σ H Q I (i σ H Q q)⟩
theorem PS_imp {e : Stmt} {t t' : TS} (h : PS X e t) (i : ∀ σ H Q, t' Q σ H → t Q σ H) : PS X e t' := ⟨fun p s σ H Q I q => h.run p s σ H Q I (i σ H Q q)⟩
theorem PSs_imp {e : List Stmt} {t t' : TS} (h : PSs X e t) (i : ∀ σ H Q, t' Q σ H → t Q σ H) : PSs X e t' := ⟨fun p s σ H Q I q => h.run p s σ H Q I (i σ H Q q)⟩

abbrev JE (X : Cx) (W : WX) (e : Expr) (m : EM D) : Prop := PE X e (lE X.K X.mg W m)
abbrev JT (X : Cx) (W : WX) (e : Expr) (m : EM Bool) : Prop := PT X e (lT X.K X.mg W m)
abbrev JW (X : Cx) (W : WX) (e : Expr) (m : EM Bool) : Prop := PW X e (lT X.K X.mg W m)
abbrev JA (X : Cx) (W : WX) (es : List Expr) (m : EM (List D)) : Prop := PA X es (lA X.K X.mg W m)

variable {W : WX}
/-! ### names, constants -/
def mV (i : Nat) : EM D := fun env s => match env[i]? with
  | some (some d) => .ok d s
  | _ => .no
def mC (d : D) : EM D := fun _ s => .ok d s
theorem je_v (i : Nat) {x : Str} {pos : Pos} (hN : X.N[i]? = some x := by rfl) (hv : Vis X.env.scope x := by first | exact Or.inl rfl | exact Or.inr (Or.inl rfl) | exact Or.inr (Or.inr rfl)) (hd : (x == ("__debug__" : Str)) = false := by decide)
    (hcd : (x == ("__classdict__" : Str)) = false := by decide) : JE X W (.Name x pos) (mV i) := by
  refine PE_imp (pe_var hN hv hd hcd) fun σ H Q ⟨ρ, env, s, sr, er, po⟩ => ?_
  unfold mV at po
  cases h : env[i]? with
  | none => rw [h] at po; exact po.elim
  | some o =>
    rw [h] at po
    cases o with
    | none => exact po.elim
    | some d =>
      obtain ⟨v, e1, r⟩ := er.2 i d h
      exact ⟨v, e1, po ρ H v Ext.refl sr r⟩
/-- a value that the store doesn't matter for -/
def flatD : D → V → Prop
  | .non, v => v = .non
  | .bl b, v => v = .bl b
  | .int i, v => v = .int i
  | .str x, v => v = .str x
  | _, _ => False
theorem flatD.vr {K : PySem.W.Frag} {ρ : Nat → Addr} {n : Nat} {H : Hp} {d : D} {v : V} (h : flatD d v) : VR K ρ n H d v := by
  cases d <;> first | exact h | exact h.elim
theorem je_const {e : Expr} {d : D} {v : V} (h : PE X e (tC v)) (r : flatD d v) : JE X W e (mC d) :=
  PE_imp h fun σ H Q ⟨ρ, env, s, sr, er, po⟩ => po ρ H v Ext.refl sr r.vr
theorem je_int {i j pos} : JE X W (.Constant (.int i) j pos) (mC (.int i)) := je_const pe_int rfl
theorem je_bl {b j pos} : JE X W (.Constant (.bool b) j pos) (mC (.bl b)) := je_const pe_bl rfl
theorem je_non {j pos} : JE X W (.Constant .none j pos) (mC .non) := je_const pe_non rfl
theorem je_str {x j pos} : JE X W (.Constant (.str x) j pos) (mC (.str x)) := je_const pe_str rfl
/-- a module's constant: an int, a text -/
theorem je_gint {x : Str} {i : Int} {pos : Pos} (hg : Gl X x) (hm : ∃ t, X.mg x = some (.int i t)) (hd : (x == ("__debug__" : Str)) = false := by decide) : JE X W (.Name x pos) (mC (.int i)) := by
  obtain ⟨t, hm⟩ := hm
  exact je_const (v := .int i) (pe_glob hg hm ⟨t, rfl⟩ hd) rfl
theorem je_gstr {x z : Str} {pos : Pos} (hg : Gl X x) (hm : ∃ t, X.mg x = some (.str z t)) (hd : (x == ("__debug__" : Str)) = false := by decide) : JE X W (.Name x pos) (mC (.str z)) := by
  obtain ⟨t, hm⟩ := hm
  exact je_const (v := .str z) (pe_glob hg hm ⟨t, rfl⟩ hd) rfl
/-- a module's constant: a tuple of the written part -/
theorem je_gtup {x : Str} {ds : List D} {a : Addr} {vs : List V} {pos : Pos} (hg : Gl X x) (hm : X.mg x = some (.ref a)) (hq : ∀ H, SqT X.K H a vs) (r : ∀ ρ n H, VRs X.K ρ n H ds vs) (hd : (x == ("__debug__" : Str)) = false := by decide) : JE X W (.Name x pos) (mC (.tup ds)) := by
  refine PE_imp (pe_glob hg hm (v := .ref a) rfl hd) fun σ H Q ⟨ρ, env, s, sr, er, po⟩ => po ρ H (.ref a) Ext.refl sr ?_
  rw [VR]
  exact ⟨a, vs, rfl, hq H, r _ _ _⟩

/-! ### operations on values -/
/-- f does what r does -/
def Pr2 (X : Cx) (W : WX) (f : D → D → Sto → Rs D) (r : R2) : Prop :=
  ∀ (ρ : Nat → Addr) (s : Sto) (H : Hp) (σ : L2.St) (x y : D) (vx vy : V) (Q : VK), SR X.K X.mg ρ s H → VR X.K ρ s.length H x vx → VR X.K ρ s.length H y vy → Po X.K X.mg (VR X.K) W σ ρ s.length H (f x y s) Q → r vx vy H Q
def Pr1 (X : Cx) (W : WX) (f : D → Sto → Rs D) (r : V → Hp → VK → Prop) : Prop :=
  ∀ (ρ : Nat → Addr) (s : Sto) (H : Hp) (σ : L2.St) (x : D) (vx : V) (Q : VK), SR X.K X.mg ρ s H → VR X.K ρ s.length H x vx → Po X.K X.mg (VR X.K) W σ ρ s.length H (f x s) Q → r vx H Q
def PrN (X : Cx) (W : WX) (f : List D → Sto → Rs D) (r : List V → Hp → VK → Prop) : Prop :=
  ∀ (ρ : Nat → Addr) (s : Sto) (H : Hp) (σ : L2.St) (xs : List D) (vs : List V) (Q : VK), SR X.K X.mg ρ s H → VRs X.K ρ s.length H xs vs → Po X.K X.mg (VR X.K) W σ ρ s.length H (f xs s) Q → r vs H Q
def PrM (X : Cx) (W : WX) (f : D → List D → Sto → Rs D) (r : V → List V → Hp → VK → Prop) : Prop :=
  ∀ (ρ : Nat → Addr) (s : Sto) (H : Hp) (σ : L2.St) (x : D) (xs : List D) (v : V) (vs : List V) (Q : VK), SR X.K X.mg ρ s H → VR X.K ρ s.length H x v → VRs X.K ρ s.length H xs vs → Po X.K X.mg (VR X.K) W σ ρ s.length H (f x xs s) Q → r v vs H Q
def m2 (f : D → D → Sto → Rs D) (ma mb : EM D) : EM D := fun env s => (ma env s).bind fun x s1 => (mb env s1).bind fun y s2 => f x y s2
def m1 (f : D → Sto → Rs D) (ma : EM D) : EM D := fun env s => (ma env s).bind fun x s1 => f x s1
def mN (f : List D → Sto → Rs D) (ms : EM (List D)) : EM D := fun env s => (ms env s).bind fun xs s1 => f xs s1
def mM (f : D → List D → Sto → Rs D) (ma : EM D) (ms : EM (List D)) : EM D := fun env s => (ma env s).bind fun x s1 => (ms env s1).bind fun xs s2 => f x xs s2
def aN : EM (List D) := fun _ s => .ok [] s
def aC (ma : EM D) (ms : EM (List D)) : EM (List D) := fun env s => (ma env s).bind fun x s1 => (ms env s1).bind fun xs s2 => .ok (x :: xs) s2
theorem Po.imp {α β : Type} {K : PySem.W.Frag} {mg : Str → Option Value} {R : Rl α β} {σ : L2.St} {ρ : Nat → Addr} {n : Nat} {H : Hp} {r : Rs α} {Q Q' : β → Hp → Prop} (h : Po K mg R W σ ρ n H r Q) (i : ∀ v H', Q v H' → Q' v H') : Po K mg R W σ ρ n H r Q' := by
  cases r with
  | ok d s => exact fun ρ' H' v e sr r => i _ _ (h ρ' H' v e sr r)
  | ex c f d s => exact h
  | no => exact h
theorem Po.ite {α β : Type} {K : PySem.W.Frag} {mg : Str → Option Value} {R : Rl α β} {σ : L2.St} {ρ : Nat → Addr} {n : Nat} {H : Hp} {c : Prop} [Decidable c] {r : Rs α} {Q : β → Hp → Prop} (h : Po K mg R W σ ρ n H (if c then r else .no) Q) : c ∧ Po K mg R W σ ρ n H r Q := by
  by_cases hc : c
  · rw [if_pos hc] at h
    exact ⟨hc, h⟩
  · rw [if_neg hc] at h
    exact h.elim
variable {a b c : Expr} {es : List Expr} {ma mb mc : EM D} {ms : EM (List D)} {pos : Pos} {f : D → D → Sto → Rs D} {r : R2}
theorem lop (hp : Pr2 X W f r) {σ : L2.St} {H : Hp} {Q : VK} (h : lE X.K X.mg W (m2 f ma mb) σ H Q) : tOp r (lE X.K X.mg W ma) (lE X.K X.mg W mb) σ H Q :=
  let ⟨ρ, env, s, sr, er, po⟩ := h
  ⟨ρ, env, s, sr, er, (Po.bind po).imp fun _ _ ⟨ρ1, s1, d1, e1, sr1, r1, po1⟩ => ⟨ρ1, env, s1, sr1, er.mono e1, (Po.bind po1).imp fun _ _ ⟨ρ2, s2, d2, e2, sr2, r2, po2⟩ =>
    hp ρ2 s2 _ σ _ _ _ _ Q sr2 (r1.mono e2) r2 po2⟩⟩
theorem lun {f : D → Sto → Rs D} {r : V → Hp → VK → Prop} (hp : Pr1 X W f r) {σ : L2.St} {H : Hp} {Q : VK} (h : lE X.K X.mg W (m1 f ma) σ H Q) : tUn r (lE X.K X.mg W ma) σ H Q :=
  let ⟨ρ, env, s, sr, er, po⟩ := h
  ⟨ρ, env, s, sr, er, (Po.bind po).imp fun _ _ ⟨ρ1, s1, d1, e1, sr1, r1, po1⟩ => hp ρ1 s1 _ σ _ _ Q sr1 r1 po1⟩
theorem lcb {f : List D → Sto → Rs D} {r : List V → Hp → VK → Prop} (hp : PrN X W f r) {σ : L2.St} {H : Hp} {Q : VK} (h : lE X.K X.mg W (mN f ms) σ H Q) : tCB r (lA X.K X.mg W ms) σ H Q :=
  let ⟨ρ, env, s, sr, er, po⟩ := h
  ⟨ρ, env, s, sr, er, (Po.bind po).imp fun _ _ ⟨ρ1, s1, d1, e1, sr1, r1, po1⟩ => hp ρ1 s1 _ σ _ _ Q sr1 r1 po1⟩
theorem ja_nil : JA X W [] aN := PA_imp pa_nil fun σ H Q ⟨ρ, env, s, sr, er, po⟩ => po ρ H [] Ext.refl sr VRs.nil
theorem ja_cons {e : Expr} (h : JE X W e ma) (t : JA X W es ms) (hs : starEach (e :: es) X.env = (false, eval e X.env) :: starEach es X.env := by rfl) : JA X W (e :: es) (aC ma ms) :=
  PA_imp (pa_cons h t hs) fun σ H Q ⟨ρ, env, s, sr, er, po⟩ =>
    ⟨ρ, env, s, sr, er, (Po.bind po).imp fun _ _ ⟨ρ1, s1, d1, e1, sr1, r1, po1⟩ => ⟨ρ1, env, s1, sr1, er.mono e1, (Po.bind po1).imp fun _ _ ⟨ρ2, s2, d2, e2, sr2, r2, po2⟩ =>
      po2 ρ2 _ _ Ext.refl sr2 (VRs.cons (r1.mono e2) r2)⟩⟩
theorem je_op {op : Operator} (ho : OpR X (binaryOp op) r) (hp : Pr2 X W f r) (ha : JE X W a ma) (hb : JE X W b mb) : JE X W (.BinOp a op b pos) (m2 f ma mb) := PE_imp (pe_op ho ha hb) fun _ _ _ => lop hp
theorem je_un {op : UnaryOp} {f : D → Sto → Rs D} {r : V → Hp → VK → Prop} (ho : UnR X (unaryOp op) r) (hp : Pr1 X W f r) (ha : JE X W a ma) : JE X W (.UnaryOp op a pos) (m1 f ma) := PE_imp (pe_un ho ha) fun _ _ _ => lun hp
theorem je_cmp {op : CmpOp} (ho : OpR X (compareOp op) r) (hp : Pr2 X W f r) (ha : JE X W a ma) (hb : JE X W b mb) (hm : behindInMarks op b = false) : JE X W (.Compare a [op] [b] pos) (m2 f ma mb) := PE_imp (pe_cmpR ho ha hb hm) fun _ _ _ => lop hp
/-- a bool as a test -/
def toB (m : EM D) : EM Bool := fun env s => (m env s).bind fun d s1 => match d with
  | .bl b => .ok b s1
  | _ => .no
theorem ltoB {m : EM D} {t : TE} {σ : L2.St} {H : Hp} {Q : Bool → Hp → Prop} (i : ∀ Q, lE X.K X.mg W m σ H Q → t σ H Q) (h : lT X.K X.mg W (toB m) σ H Q) : tTest t σ H Q :=
  let ⟨ρ, env, s, sr, er, po⟩ := h
  i _ ⟨ρ, env, s, sr, er, (Po.bind po).imp fun v H1 ⟨ρ1, s1, d1, e1, sr1, r1, po1⟩ => by
    cases d1 with
    | bl b =>
      have e : v = .bl b := r1
      exact ⟨b, e, po1 ρ1 H1 b Ext.refl sr1 rfl⟩
    | _ => exact po1.elim⟩
theorem jt_cmp {op : CmpOp} (ho : OpR X (compareOp op) r) (hp : Pr2 X W f r) (ha : JE X W a ma) (hb : JE X W b mb) (hm : behindInMarks op b = false) : JT X W (.Compare a [op] [b] pos) (toB (m2 f ma mb)) :=
  PT_imp (pt_cmpR ho ha hb hm) fun _ _ _ h => ltoB (fun _ => lop hp) h
theorem jt_val {e : Expr} {m : EM D} (h : JE X W e m) (he : ∀ whole, isTrue e X.env whole = (do let v ← whole; standAt e.pos; holding [v] (truthy v)) := by intro _; rfl) : JT X W e (toB m) :=
  PT_imp (pt_val h he) fun _ _ _ h => ltoB (fun _ q => q) h
/-! ### and, or, not, if -/
def bAnd (a b : EM Bool) : EM Bool := fun env s => (a env s).bind fun x s1 => if x then b env s1 else .ok false s1
def bOr (a b : EM Bool) : EM Bool := fun env s => (a env s).bind fun x s1 => if x then .ok true s1 else b env s1
def bNot (a : EM Bool) : EM Bool := fun env s => (a env s).bind fun x s1 => .ok (!x) s1
def mIf (t : EM Bool) (a b : EM D) : EM D := fun env s => (t env s).bind fun x s1 => if x then a env s1 else b env s1
/-- a test's value -/
def ofB (t : EM Bool) : EM D := fun env s => (t env s).bind fun x s1 => .ok (.bl x) s1
variable {t u : EM Bool} {rest : List Expr}
theorem jw_and1 (ha : JT X W a t) : JW X W (.BoolOp .And [a] pos) t := pw_and1 ha
theorem jw_or1 (ha : JT X W a t) : JW X W (.BoolOp .Or [a] pos) t := pw_or1 ha
theorem jw_and (ha : JT X W a t) (hb : JW X W (.BoolOp .And (b :: rest) pos) u) : JW X W (.BoolOp .And (a :: b :: rest) pos) (bAnd t u) :=
  PW_imp (pw_and ha hb) fun σ H Q ⟨ρ, env, s, sr, er, po⟩ => ⟨ρ, env, s, sr, er, (Po.bind po).imp fun v H1 ⟨ρ1, s1, d1, e1, sr1, r1, po1⟩ => by
    have e : d1 = v := r1
    subst e
    cases d1 with
    | true => exact ⟨ρ1, env, s1, sr1, er.mono e1, po1⟩
    | false => exact po1 ρ1 H1 false Ext.refl sr1 rfl⟩
theorem jw_or (ha : JT X W a t) (hb : JW X W (.BoolOp .Or (b :: rest) pos) u) : JW X W (.BoolOp .Or (a :: b :: rest) pos) (bOr t u) :=
  PW_imp (pw_or ha hb) fun σ H Q ⟨ρ, env, s, sr, er, po⟩ => ⟨ρ, env, s, sr, er, (Po.bind po).imp fun v H1 ⟨ρ1, s1, d1, e1, sr1, r1, po1⟩ => by
    have e : d1 = v := r1
    subst e
    cases d1 with
    | false => exact ⟨ρ1, env, s1, sr1, er.mono e1, po1⟩
    | true => exact po1 ρ1 H1 true Ext.refl sr1 rfl⟩
theorem JW_t {e : Expr} (h : JW X W e t) : JT X W e t := h.pt
theorem jt_not (ha : JT X W a t) : JT X W (.UnaryOp .Not a pos) (bNot t) :=
  PT_imp (pt_not ha) fun σ H Q ⟨ρ, env, s, sr, er, po⟩ => ⟨ρ, env, s, sr, er, (Po.bind po).imp fun v H1 ⟨ρ1, s1, d1, e1, sr1, r1, po1⟩ => by
    have e : d1 = v := r1
    subst e
    exact po1 ρ1 H1 _ Ext.refl sr1 rfl⟩
theorem je_if (ht : JT X W c t) (ha : JE X W a ma) (hb : JE X W b mb) : JE X W (.IfExp c a b pos) (mIf t ma mb) :=
  PE_imp (pe_ifExp ht ha hb) fun σ H Q ⟨ρ, env, s, sr, er, po⟩ => ⟨ρ, env, s, sr, er, (Po.bind po).imp fun v H1 ⟨ρ1, s1, d1, e1, sr1, r1, po1⟩ => by
    have e : d1 = v := r1
    subst e
    cases d1 with
    | true => exact ⟨ρ1, env, s1, sr1, er.mono e1, po1⟩
    | false => exact ⟨ρ1, env, s1, sr1, er.mono e1, po1⟩⟩
/-- and, or, not as values: the parts are bools -/
def mAnd (a b : EM D) : EM D := fun env s => (a env s).bind fun x s1 => match x with
  | .bl true => b env s1
  | .bl false => .ok (.bl false) s1
  | _ => .no
def mOr (a b : EM D) : EM D := fun env s => (a env s).bind fun x s1 => match x with
  | .bl true => .ok (.bl true) s1
  | .bl false => b env s1
  | _ => .no
def mNot (a : EM D) : EM D := fun env s => (a env s).bind fun x s1 => match x with
  | .bl b => .ok (.bl (!b)) s1
  | _ => .no
theorem je_one {op} (h : JE X W a ma) : JE X W (.BoolOp op [a] pos) ma := pe_one h
theorem je_and (ha : JE X W a ma) (hb : JE X W (.BoolOp .And (b :: rest) pos) mb) : JE X W (.BoolOp .And (a :: b :: rest) pos) (mAnd ma mb) :=
  PE_imp (pe_and ha hb) fun σ H Q ⟨ρ, env, s, sr, er, po⟩ => ⟨ρ, env, s, sr, er, (Po.bind po).imp fun v H1 ⟨ρ1, s1, d1, e1, sr1, r1, po1⟩ => by
    cases d1 with
    | bl q =>
      have e : v = .bl q := r1
      subst e
      cases q with
      | true => exact ⟨true, rfl, ρ1, env, s1, sr1, er.mono e1, po1⟩
      | false => exact ⟨false, rfl, po1 ρ1 H1 _ Ext.refl sr1 rfl⟩
    | _ => exact po1.elim⟩
theorem je_or (ha : JE X W a ma) (hb : JE X W (.BoolOp .Or (b :: rest) pos) mb) : JE X W (.BoolOp .Or (a :: b :: rest) pos) (mOr ma mb) :=
  PE_imp (pe_or ha hb) fun σ H Q ⟨ρ, env, s, sr, er, po⟩ => ⟨ρ, env, s, sr, er, (Po.bind po).imp fun v H1 ⟨ρ1, s1, d1, e1, sr1, r1, po1⟩ => by
    cases d1 with
    | bl q =>
      have e : v = .bl q := r1
      subst e
      cases q with
      | false => exact ⟨false, rfl, ρ1, env, s1, sr1, er.mono e1, po1⟩
      | true => exact ⟨true, rfl, po1 ρ1 H1 _ Ext.refl sr1 rfl⟩
    | _ => exact po1.elim⟩
theorem je_not (ha : JE X W a ma) : JE X W (.UnaryOp .Not a pos) (mNot ma) :=
  PE_imp (pe_not ha) fun σ H Q ⟨ρ, env, s, sr, er, po⟩ => ⟨ρ, env, s, sr, er, (Po.bind po).imp fun v H1 ⟨ρ1, s1, d1, e1, sr1, r1, po1⟩ => by
    cases d1 with
    | bl q =>
      have e : v = .bl q := r1
      subst e
      exact ⟨q, rfl, po1 ρ1 H1 _ Ext.refl sr1 rfl⟩
    | _ => exact po1.elim⟩
/-- a chain of two comparisons -/
def mCh (f g : D → D → Sto → Rs D) (ma mb mc : EM D) : EM D := fun env s => (ma env s).bind fun x s1 => (mb env s1).bind fun y s2 => (f x y s2).bind fun z s3 => match z with
  | .bl true => (mc env s3).bind fun w s4 => g y w s4
  | .bl false => .ok (.bl false) s3
  | _ => .no
theorem lch {f g : D → D → Sto → Rs D} {r r' : R2} (hp : Pr2 X W f r) (hp' : Pr2 X W g r') {σ : L2.St} {H : Hp} {Q : VK} (h : lE X.K X.mg W (mCh f g ma mb mc) σ H Q) :
    tChain r r' (lE X.K X.mg W ma) (lE X.K X.mg W mb) (lE X.K X.mg W mc) σ H Q :=
  let ⟨ρ, env, s, sr, er, po⟩ := h
  ⟨ρ, env, s, sr, er, (Po.bind po).imp fun _ _ ⟨ρ1, s1, d1, e1, sr1, r1, po1⟩ => ⟨ρ1, env, s1, sr1, er.mono e1, (Po.bind po1).imp fun _ _ ⟨ρ2, s2, d2, e2, sr2, r2, po2⟩ =>
    hp ρ2 s2 _ σ _ _ _ _ _ sr2 (r1.mono e2) r2 ((Po.bind po2).imp fun v H3 ⟨ρ3, s3, d3, e3, sr3, r3, po3⟩ => by
      cases d3 with
      | bl q =>
        have e : v = .bl q := r3
        subst e
        cases q with
        | true => exact ⟨true, rfl, ρ3, env, s3, sr3, ((er.mono e1).mono e2).mono e3, (Po.bind po3).imp fun _ _ ⟨ρ4, s4, d4, e4, sr4, r4, po4⟩ => hp' ρ4 s4 _ σ _ _ _ _ _ sr4 ((r2.mono e3).mono e4) r4 po4⟩
        | false => exact ⟨false, rfl, po3 ρ3 H3 _ Ext.refl sr3 rfl⟩
      | _ => exact po3.elim)⟩⟩
theorem je_ch {op op' : CmpOp} {f g : D → D → Sto → Rs D} {r r' : R2} (ho : OpR X (compareOp op) r) (ho' : OpR X (compareOp op') r') (hp : Pr2 X W f r) (hp' : Pr2 X W g r') (ha : JE X W a ma) (hb : JE X W b mb) (hc : JE X W c mc)
    (hm : lastMarks [op, op'] [b, c] = false := by with_unfolding_all rfl) : JE X W (.Compare a [op, op'] [b, c] pos) (mCh f g ma mb mc) := PE_imp (pe_chain ho ho' ha hb hc hm) fun _ _ _ => lch hp hp'
theorem jt_ch {op op' : CmpOp} {f g : D → D → Sto → Rs D} {r r' : R2} (ho : OpR X (compareOp op) r) (ho' : OpR X (compareOp op') r') (hp : Pr2 X W f r) (hp' : Pr2 X W g r') (ha : JE X W a ma) (hb : JE X W b mb) (hc : JE X W c mc)
    (hm : lastMarks [op, op'] [b, c] = false := by with_unfolding_all rfl) : JT X W (.Compare a [op, op'] [b, c] pos) (toB (mCh f g ma mb mc)) := PT_imp (pt_chain ho ho' ha hb hc hm) fun _ _ _ h => ltoB (fun _ => lch hp hp') h
/-! ### built-ins by name, methods, subscripts, displays -/
variable {id T : String} {x : Str} {p apos : Pos} {e : Expr}
theorem je_cb {f : List D → Sto → Rs D} {r : List V → Hp → VK → Prop} (hc : CallR X (.builtin id) r) (hp : PrN X W f r) (hg : Gl X x) (hm : X.mg x = none) (hv : bootBuiltins x = some (.builtin id)) (ha : JA X W (e :: es) ms) (hn : x ≠ "__name__" := by decide) (hdb : (x == ("__debug__" : Str)) = false := by decide)
    (he : starEach (e :: es) X.env = (false, eval e X.env) :: starEach es X.env := by rfl) (hpl : (backTo pos (starEach es X.env)).any (·.1) = false := by rfl) : JE X W (.Call (.Name x p) (e :: es) [] pos) (mN f ms) :=
  PE_imp (pe_callB hc hg hm hv ha hn hdb he hpl) fun _ _ _ => lcb hp
theorem je_ct {f : List D → Sto → Rs D} {r : List V → Hp → VK → Prop} (hc : CallR X (.type T) r) (hp : PrN X W f r) (hg : Gl X x) (hm : X.mg x = none) (hv : bootBuiltins x = some (.type T)) (ha : JA X W (e :: es) ms) (hn : x ≠ "__name__" := by decide) (hdb : (x == ("__debug__" : Str)) = false := by decide)
    (he : starEach (e :: es) X.env = (false, eval e X.env) :: starEach es X.env := by rfl) (hpl : (backTo pos (starEach es X.env)).any (·.1) = false := by rfl) : JE X W (.Call (.Name x p) (e :: es) [] pos) (mN f ms) :=
  PE_imp (pe_callTy hc hg hm hv ha hn hdb he hpl) fun _ _ _ => lcb hp
/-- the receiver of a built-in's method is of its type -/
def isTy (T : String) (s : Sto) : D → Bool
  | .str _ => T == "str"
  | .ref n => match s[n]? with
    | some (.lst _) => T == "list"
    | some (.frz _) => T == "list"
    | some (.dict _ _) => T == "dict"
    | _ => false
  | _ => false
def mBM (T : String) (f : D → List D → Sto → Rs D) (ma : EM D) (ms : EM (List D)) : EM D := fun env s => (ma env s).bind fun x s1 => if isTy T s1 x then (ms env s1).bind fun xs s2 => f x xs s2 else .no
theorem isTy_tyV {K : PySem.W.Frag} {mg : Str → Option Value} {ρ : Nat → Addr} {s : Sto} {H : Hp} {d : D} {v : V} (sr : SR K mg ρ s H) (r : VR K ρ s.length H d v) (h : isTy T s d = true) : tyV K T v H := by
  cases d with
  | str y =>
    have e : v = .str y := r
    subst e
    exact eq_of_beq h
  | ref n =>
    rw [VR] at r
    obtain ⟨hn, rfl⟩ := r
    have h2 : (match s[n]? with
      | some (.lst _) => T == "list"
      | some (.frz _) => T == "list"
      | some (.dict _ _) => T == "dict"
      | _ => false) = true := h
    cases e : s[n]? with
    | none => rw [e] at h2; cases h2
    | some o =>
      rw [e] at h2
      have ob := sr.ob n o e
      cases o with
      | lst xs =>
        obtain ⟨vs, q, _⟩ := ob
        exact .inl ⟨eq_of_beq h2, vs, .of q⟩
      | frz xs =>
        obtain ⟨vs, q, _⟩ := ob
        exact .inl ⟨eq_of_beq h2, vs, q.sq⟩
      | dict t kvs =>
        have e2 : T = "dict" := eq_of_beq h2
        cases t with
        | false =>
          obtain ⟨vs, q, _⟩ := ob
          exact .inr (.inr (.inl ⟨e2, .inl ⟨vs, q⟩⟩))
        | true =>
          obtain ⟨vs, q, _⟩ := ob
          exact .inr (.inr (.inl ⟨e2, .inr ⟨vs, q⟩⟩))
      | ins c fs => cases h2
      | lck t kvs => cases h2
      | set xs => cases h2
  | _ => cases h
variable {o : Expr} {name : Str} {cpos : Pos} {mo : EM D}
theorem lbm {f : D → List D → Sto → Rs D} {r : V → List V → Hp → VK → Prop} (hp : PrM X W f r) {σ : L2.St} {H : Hp} {Q : VK} (h : lE X.K X.mg W (mBM T f mo ms) σ H Q) : tBM X.K T r (lE X.K X.mg W mo) (lA X.K X.mg W ms) σ H Q :=
  let ⟨ρ, env, s, sr, er, po⟩ := h
  ⟨ρ, env, s, sr, er, (Po.bind po).imp fun _ H1 ⟨ρ1, s1, d1, e1, sr1, r1, po1⟩ => by
    dsimp only at po1
    cases hty : isTy T s1 d1 with
    | false =>
      rw [hty, if_neg Bool.false_ne_true] at po1
      exact po1.elim
    | true =>
      rw [hty, if_pos rfl] at po1
      exact ⟨isTy_tyV sr1 r1 hty, ρ1, env, s1, sr1, er.mono e1, (Po.bind po1).imp fun _ _ ⟨ρ2, s2, d2, e2, sr2, r2, po2⟩ => hp ρ2 s2 _ σ _ _ _ _ Q sr2 (r1.mono e2) r2 po2⟩⟩
theorem je_bm {f : D → List D → Sto → Rs D} {r : V → List V → Hp → VK → Prop} (pa : PlainAttrs T) (slot : Slot T name id) (hty : typeOf (.builtin id) = pure (.type "method_descriptor")) (hm : MtR X id r) (hp : PrM X W f r) (ho : JE X W o mo) (ha : JA X W (e :: es) ms)
    (hbase : attributeBase o name X.env (eval o X.env) = eval o X.env := by rfl)
    (hfew : ((backTo cpos (starEach (e :: es) X.env)).all (fun x => !x.1) && (backToKw cpos (keywordEach [] X.env)).all (fun x => x.1.isSome)
      && decide ((e :: es).length + ([] : List Keyword).length + (if ([] : List Keyword).isEmpty then 0 else 1) < 30)) = true := by rfl)
    (hline : (apos.endLine == cpos.line) = true := by rfl) (hs : starEach (e :: es) X.env = (false, eval e X.env) :: starEach es X.env := by rfl) (hplain : (backTo cpos (starEach es X.env)).any (·.1) = false := by rfl) :
    JE X W (.Call (.Attribute o name apos) (e :: es) [] cpos) (mBM T f mo ms) := PE_imp (pe_bm pa slot hty hm ho ha hbase hfew hline hs hplain) fun _ _ _ => lbm hp
theorem je_bm0 {f : D → List D → Sto → Rs D} {r : V → List V → Hp → VK → Prop} (pa : PlainAttrs T) (slot : Slot T name id) (hty : typeOf (.builtin id) = pure (.type "method_descriptor")) (hm : MtR X id r) (hp : PrM X W f r) (ho : JE X W o mo)
    (hbase : attributeBase o name X.env (eval o X.env) = eval o X.env := by rfl) (hline : (apos.endLine == cpos.line) = true := by rfl) : JE X W (.Call (.Attribute o name apos) [] [] cpos) (mBM T f mo aN) :=
  PE_imp (pe_bm0 pa slot hty hm ho hbase hline) fun σ H Q ⟨ρ, env, s, sr, er, po⟩ => ⟨ρ, env, s, sr, er, (Po.bind po).imp fun _ H1 ⟨ρ1, s1, d1, e1, sr1, r1, po1⟩ => by
    dsimp only at po1
    cases hty : isTy T s1 d1 with
    | false =>
      rw [hty, if_neg Bool.false_ne_true] at po1
      exact po1.elim
    | true =>
      rw [hty, if_pos rfl] at po1
      exact ⟨isTy_tyV sr1 r1 hty, hp ρ1 s1 _ σ _ _ _ _ Q sr1 r1 VRs.nil po1⟩⟩
theorem je_ix {f : D → D → Sto → Rs D} {r : R2} (hr : IxR X r) (hp : Pr2 X W f r) (ha : JE X W a ma) (hb : JE X W b mb) (hs : PlainIx b := by exact fun _ _ => rfl) : JE X W (.Subscript a b pos) (m2 f ma mb) := PE_imp (pe_ix hr ha hb hs) fun _ _ _ => lop hp
/-! ### slices -/
abbrev RO : Rl (Option Int) (Option Int) := fun _ _ _ b c => b = c
abbrev JO (X : Cx) (W : WX) (e : Option Expr) (m : EM (Option Int)) : Prop := PO X e (lG X.K X.mg RO W m)
def oN : EM (Option Int) := fun _ s => .ok none s
def oS (m : EM D) : EM (Option Int) := fun env s => (m env s).bind fun d s1 => match d with
  | .int i => .ok (some i) s1
  | _ => .no
theorem PO_imp {e : Option Expr} {t t' : TO} (h : PO X e t) (i : ∀ σ H Q, t' σ H Q → t σ H Q) : PO X e t' := ⟨fun p s σ H Q I q => h.run p s σ H Q I (i σ H Q q)⟩
theorem jo_none : JO X W none oN := PO_imp po_none fun σ H Q ⟨ρ, env, s, sr, er, po⟩ => po ρ H _ Ext.refl sr rfl
theorem jo_some (h : JE X W a ma) : JO X W (some a) (oS ma) := PO_imp (po_some h) fun σ H Q ⟨ρ, env, s, sr, er, po⟩ => ⟨ρ, env, s, sr, er, (Po.bind po).imp fun v H1 ⟨ρ1, s1, d1, e1, sr1, r1, po1⟩ => by
  cases d1 with
  | int i =>
    have e : v = .int i := r1
    exact ⟨i, e, po1 ρ1 H1 _ Ext.refl sr1 rfl⟩
  | _ => exact po1.elim⟩
def PrS (X : Cx) (W : WX) (f : D → Option Int → Option Int → Sto → Rs D) (r : V → Option Int → Option Int → Hp → VK → Prop) : Prop :=
  ∀ (ρ : Nat → Addr) (s : Sto) (H : Hp) (σ : L2.St) (x : D) (vx : V) (lo hi : Option Int) (Q : VK), SR X.K X.mg ρ s H → VR X.K ρ s.length H x vx → Po X.K X.mg (VR X.K) W σ ρ s.length H (f x lo hi s) Q → r vx lo hi H Q
def mSl (f : D → Option Int → Option Int → Sto → Rs D) (ma : EM D) (ml mh : EM (Option Int)) : EM D := fun env s => (ma env s).bind fun x s1 => (ml env s1).bind fun lo s2 => (mh env s2).bind fun hi s3 => f x lo hi s3
theorem je_sl {f : D → Option Int → Option Int → Sto → Rs D} {r : V → Option Int → Option Int → Hp → VK → Prop} {lo hi : Option Expr} {ml mh : EM (Option Int)} {p2 : Pos} (hr : SlR X r) (hp : PrS X W f r) (he : JE X W a ma) (hl : JO X W lo ml) (hu : JO X W hi mh) :
    JE X W (.Subscript a (.Slice lo hi none p2) pos) (mSl f ma ml mh) := PE_imp (pe_slice hr he hl hu) fun σ H Q ⟨ρ, env, s, sr, er, po⟩ =>
  ⟨ρ, env, s, sr, er, (Po.bind po).imp fun _ _ ⟨ρ1, s1, d1, e1, sr1, r1, po1⟩ => ⟨ρ1, env, s1, sr1, er.mono e1, (Po.bind po1).imp fun _ _ ⟨ρ2, s2, d2, e2, sr2, r2, po2⟩ =>
    ⟨ρ2, env, s2, sr2, (er.mono e1).mono e2, (Po.bind po2).imp fun _ _ ⟨ρ3, s3, d3, e3, sr3, r3, po3⟩ => by
      cases r2
      cases r3
      exact hp ρ3 s3 _ σ _ _ _ _ Q sr3 ((r1.mono e2).mono e3) po3⟩⟩⟩
/-! ### displays -/
theorem new_tup {K : PySem.W.Frag} {mg : Str → Option Value} {ρ : Nat → Addr} {s : Sto} {H : Hp} {ds : List D} {vs : List V} {q : Addr} (sr : SR K mg ρ s H) (hq : H q = none) (r : VRs K ρ s.length H ds vs) :
    Ext ρ s.length H ρ s.length (upd H q (.tup vs)) ∧ SR K mg ρ s (upd H q (.tup vs)) ∧ VR K ρ s.length (upd H q (.tup vs)) (.tup ds) (.ref q) := by
  have st : ∀ b o, H b = some o → upd H q (.tup vs) b = some o := fun b o e => by rw [upd_ne (ne_of_none e hq)]; exact e
  refine ⟨Ext.same st, sr.grow st, ?_⟩
  rw [VR]
  exact ⟨q, vs, rfl, .of upd_same, r.mono (Ext.same st)⟩
theorem new_lst {K : PySem.W.Frag} {mg : Str → Option Value} {ρ : Nat → Addr} {s : Sto} {H : Hp} {ds : List D} {vs : List V} {q : Addr} (sr : SR K mg ρ s H) (hq : H q = none) (r : VRs K ρ s.length H ds vs) :
    Ext ρ s.length H (ρup ρ s.length q) (s ++ [SO.lst ds]).length (upd H q (.lst vs)) ∧ SR K mg (ρup ρ s.length q) (s ++ [.lst ds]) (upd H q (.lst vs)) ∧ VR K (ρup ρ s.length q) (s ++ [SO.lst ds]).length (upd H q (.lst vs)) (.ref s.length) (.ref q) := by
  have st : ∀ b o, H b = some o → upd H q (.lst vs) b = some o := fun b o e => by rw [upd_ne (ne_of_none e hq)]; exact e
  rw [List.length_append]
  refine ⟨Ext.alloc st, sr.alloc hq st ⟨vs, upd_same, r.mono (Ext.alloc st)⟩, ?_⟩
  rw [VR]
  exact ⟨by simp, by rw [ρup_same]⟩
def fTup : List D → Sto → Rs D := fun ds s => if ds.length ≤ sizeLine then .ok (.tup ds) s else .no
def fLst : List D → Sto → Rs D := fun ds s => if ds.length ≤ sizeLine then .ok (.ref s.length) (s ++ [.lst ds]) else .no
theorem je_tup {k : Nat} (h : JA X W es ms) : JE X W (.Tuple es k pos) (mN fTup ms) := PE_imp (pe_tup h) fun σ H Q ⟨ρ, env, s, sr, er, po⟩ => ⟨ρ, env, s, sr, er, (Po.bind po).imp fun _ H1 ⟨ρ1, s1, d1, e1, sr1, r1, po1⟩ => by
  obtain ⟨hl, po1⟩ := Po.ite (c := d1.length ≤ sizeLine) po1
  · refine ⟨by rw [r1.length]; exact hl, fun q hq => ?_⟩
    obtain ⟨e2, sr2, r2⟩ := new_tup sr1 hq r1
    exact po1 ρ1 _ _ e2 sr2 r2⟩
theorem je_lst (h : JA X W es ms) : JE X W (.List es pos) (mN fLst ms) := PE_imp (pe_lst h) fun σ H Q ⟨ρ, env, s, sr, er, po⟩ => ⟨ρ, env, s, sr, er, (Po.bind po).imp fun _ H1 ⟨ρ1, s1, d1, e1, sr1, r1, po1⟩ => by
  obtain ⟨hl, po1⟩ := Po.ite (c := d1.length ≤ sizeLine) po1
  · refine ⟨by rw [r1.length]; exact hl, fun q hq => ?_⟩
    obtain ⟨e2, sr2, r2⟩ := new_lst sr1 hq r1
    exact po1 _ _ _ e2 sr2 r2⟩
end
end Z

set_option Elab.async false
set_option linter.all false
set_option maxRecDepth 100000
set_option maxHeartbeats 4000000
namespace Z
open PySem PySem.Spec PyProof.Rows L2
variable [Row]

/-! ### statements -/
def PoS (K : PySem.W.Frag) (mg : Str → Option Value) (W : WX) (D : Ends) (ρ : Nat → Addr) (n : Nat) (H : Hp) (r : RS) : Prop :=
  match r with
  | .nx e s' => ∀ ρ' H' σ', Ext ρ n H ρ' s'.length H' → SR K mg ρ' s' H' → EnvR K ρ' s'.length H' e σ' → D.nx σ' H'
  | .rt d s' => ∀ ρ' H' v, Ext ρ n H ρ' s'.length H' → SR K mg ρ' s' H' → VR K ρ' s'.length H' d v → D.rt v H'
  | .bk e s' => ∀ ρ' H' σ', Ext ρ n H ρ' s'.length H' → SR K mg ρ' s' H' → EnvR K ρ' s'.length H' e σ' → D.bk σ' H'
  | .ct e s' => ∀ ρ' H' σ', Ext ρ n H ρ' s'.length H' → SR K mg ρ' s' H' → EnvR K ρ' s'.length H' e σ' → D.ct σ' H'
  | .ex c f d e s' => ∀ ρ' H' σ' C dx v, Ext ρ n H ρ' s'.length H' → SR K mg ρ' s' H' → EnvR K ρ' s'.length H' e σ' → mg c = some (.ref C) → VR K ρ' s'.length H' d v → H' dx = some (.xd [(f, v)]) → W (.ref C) (some dx) σ' H'
  | .no => False
section
variable {K : PySem.W.Frag} {mg : Str → Option Value} {ρ ρ' ρ1 : Nat → Addr} {n n' n1 : Nat} {H H' H1 : Hp} {W : WX} {D : Ends}
theorem PoS.rebase {r : RS} (h : PoS K mg W D ρ n H r) (e : Ext ρ n H ρ1 n1 H1) : PoS K mg W D ρ1 n1 H1 r := by
  cases r with
  | nx env s => exact fun ρ' H' σ' e' => h ρ' H' σ' (e.trans e')
  | rt d s => exact fun ρ' H' v e' => h ρ' H' v (e.trans e')
  | bk env s => exact fun ρ' H' σ' e' => h ρ' H' σ' (e.trans e')
  | ct env s => exact fun ρ' H' σ' e' => h ρ' H' σ' (e.trans e')
  | ex c f d env s => exact fun ρ' H' σ' C dx v e' => h ρ' H' σ' C dx v (e.trans e')
  | no => exact h
def MidS (K : PySem.W.Frag) (mg : Str → Option Value) (ρ : Nat → Addr) (n : Nat) (H : Hp) (σ : L2.St) (H1 : Hp) (k : (Nat → Addr) → Ev → Sto → Prop) : Prop :=
  ∃ ρ1 env1 s1, Ext ρ n H ρ1 s1.length H1 ∧ SR K mg ρ1 s1 H1 ∧ EnvR K ρ1 s1.length H1 env1 σ ∧ k ρ1 env1 s1
theorem PoS.imp {D' : Ends} {r : RS} (h : PoS K mg W D ρ n H r) (h1 : ∀ σ H, D.nx σ H → D'.nx σ H) (h2 : ∀ v H, D.rt v H → D'.rt v H) (h3 : ∀ σ H, D.bk σ H → D'.bk σ H) (h4 : ∀ σ H, D.ct σ H → D'.ct σ H) : PoS K mg W D' ρ n H r := by
  cases r with
  | nx env s => exact fun ρ' H' σ' e sr er => h1 _ _ (h ρ' H' σ' e sr er)
  | rt d s => exact fun ρ' H' v e sr r => h2 _ _ (h ρ' H' v e sr r)
  | bk env s => exact fun ρ' H' σ' e sr er => h3 _ _ (h ρ' H' σ' e sr er)
  | ct env s => exact fun ρ' H' σ' e sr er => h4 _ _ (h ρ' H' σ' e sr er)
  | ex c f d env s => exact h
  | no => exact h
theorem PoS.seq {r : RS} {k : SM} (h : PoS K mg W D ρ n H (r.seq k)) :
    PoS K mg W { D with nx := fun σ H1 => MidS K mg ρ n H σ H1 fun ρ1 env1 s1 => PoS K mg W D ρ1 s1.length H1 (k env1 s1) } ρ n H r := by
  cases r with
  | nx env s => exact fun ρ' H' σ' e sr er => ⟨ρ', env, s, e, sr, er, PoS.rebase h e⟩
  | _ => exact h
theorem PoS.st {α β : Type} {R : Rl α β} {σ : L2.St} {r : Rs α} {env : Ev} {k : α → Sto → RS} (er : EnvR K ρ n H env σ) (h : PoS K mg W D ρ n H (r.st env k)) :
    Po K mg R W σ ρ n H r (fun v H1 => Mid K mg R ρ n H v H1 fun ρ1 s1 d => EnvR K ρ1 s1.length H1 env σ ∧ PoS K mg W D ρ1 s1.length H1 (k d s1)) := by
  cases r with
  | ok d s => exact fun ρ' H' v e sr r => ⟨ρ', s, d, e, sr, r, er.mono e, PoS.rebase h e⟩
  | ex c f d s => exact fun ρ' H' C dx v e sr => h ρ' H' σ C dx v e sr (er.mono e)
  | no => exact h
end
def lS (K : PySem.W.Frag) (mg : Str → Option Value) (W : WX) (m : SM) : TS :=
  fun D σ H => ∃ ρ env s, SR K mg ρ s H ∧ EnvR K ρ s.length H env σ ∧ PoS K mg W D ρ s.length H (m env s)
abbrev JS (X : Cx) (W : WX) (st : Stmt) (m : SM) : Prop := PS X st (lS X.K X.mg W m)
abbrev JSs (X : Cx) (W : WX) (st : List Stmt) (m : SM) : Prop := PSs X st (lS X.K X.mg W m)
def sN : SM := fun e s => .nx e s
def sC (a b : SM) : SM := fun e s => (a e s).seq b
def sA (i : Nat) (m : EM D) : SM := fun e s => (m e s).st e fun d s1 => .nx (e.set i (some d)) s1
def sE (m : EM D) : SM := fun e s => (m e s).st e fun _ s1 => .nx e s1
def sR (m : EM D) : SM := fun e s => (m e s).st e fun d s1 => .rt d s1
def sR0 : SM := fun _ s => .rt .non s
def sI (t : EM Bool) (a b : SM) : SM := fun e s => (t e s).st e fun q s1 => if q then a e s1 else b e s1
def sNo : SM := fun _ _ => .no
section
variable {X : Cx} {W : WX} {st : Stmt} {rest : List Stmt} {a b : SM} {e : Expr} {m : EM D} {pos : Pos}
theorem js_nil : JSs X W [] sN := PSs_imp pss_nil fun σ H D ⟨ρ, env, s, sr, er, po⟩ => po ρ H σ Ext.refl sr er
theorem js_cons (h1 : JS X W st a) (h2 : JSs X W rest b) : JSs X W (st :: rest) (sC a b) := PSs_imp (pss_cons h1 h2) fun σ H D ⟨ρ, env, s, sr, er, po⟩ =>
  ⟨ρ, env, s, sr, er, (PoS.seq po).imp (fun σ1 H1 ⟨ρ1, env1, s1, e1, sr1, er1, po1⟩ => ⟨ρ1, env1, s1, sr1, er1, po1⟩) (fun _ _ h => h) (fun _ _ h => h) fun _ _ h => h⟩
theorem js_one (h1 : JS X W st a) : JSs X W [st] a := pss_one h1
theorem js_pass : JS X W (.Pass pos) sN := PS_imp ps_pass fun σ H D ⟨ρ, env, s, sr, er, po⟩ => po ρ H σ Ext.refl sr er
theorem js_break : JS X W (.Break pos) (fun e s => .bk e s) := PS_imp ps_break fun σ H D ⟨ρ, env, s, sr, er, po⟩ => po ρ H σ Ext.refl sr er
theorem js_cont : JS X W (.Continue pos) (fun e s => .ct e s) := PS_imp ps_continue fun σ H D ⟨ρ, env, s, sr, er, po⟩ => po ρ H σ Ext.refl sr er
theorem js_no : JS X W st sNo := PS_imp ps_never fun σ H D ⟨ρ, env, s, sr, er, po⟩ => po
theorem jss_no : JSs X W rest sNo := PSs_imp pss_never fun σ H D ⟨ρ, env, s, sr, er, po⟩ => po
theorem js_expr (he : JE X W e m) (hs : swapsWith e none pos.line X.env = pure false := by rfl) : JS X W (.Expr e pos) (sE m) := PS_imp (ps_expr he hs) fun σ H D ⟨ρ, env, s, sr, er, po⟩ =>
  ⟨ρ, env, s, sr, er, (PoS.st (R := VR X.K) er po).imp fun v H1 ⟨ρ1, s1, d1, e1, sr1, r1, er1, po1⟩ => po1 ρ1 H1 σ Ext.refl sr1 er1⟩
theorem js_ret (he : JE X W e m) : JS X W (.Return (some e) pos) (sR m) := PS_imp (ps_ret he) fun σ H D ⟨ρ, env, s, sr, er, po⟩ =>
  ⟨ρ, env, s, sr, er, (PoS.st (R := VR X.K) er po).imp fun v H1 ⟨ρ1, s1, d1, e1, sr1, r1, er1, po1⟩ => po1 ρ1 H1 v Ext.refl sr1 r1⟩
theorem js_ret0 : JS X W (.Return none pos) sR0 := PS_imp ps_retN fun σ H D ⟨ρ, env, s, sr, er, po⟩ => po ρ H .non Ext.refl sr rfl
theorem js_if {c : Expr} {t : EM Bool} {as bs : List Stmt} (ht : JT X W c t) (ha : JSs X W as a) (hb : JSs X W bs b) : JS X W (.If c as bs pos) (sI t a b) := PS_imp (ps_if ht ha hb) fun σ H D ⟨ρ, env, s, sr, er, po⟩ =>
  ⟨ρ, env, s, sr, er, (PoS.st (R := RB) er po).imp fun v H1 ⟨ρ1, s1, d1, e1, sr1, r1, er1, po1⟩ => by
    have q : d1 = v := r1
    subst q
    cases d1 with
    | true => exact ⟨ρ1, env, s1, sr1, er1, po1⟩
    | false => exact ⟨ρ1, env, s1, sr1, er1, po1⟩⟩
/-! ### assignments -/
/-- a target's store -/
abbrev GM := D → Ev → Sto → Option (Ev × Sto)
def PrG (X : Cx) (g : TG) (f : GM) : Prop :=
  ∀ (ρ : Nat → Addr) (s : Sto) (H : Hp) (σ : L2.St) (env : Ev) (x : D) (vx : V) (Q : L2.St → Hp → Prop) (env' : Ev) (s' : Sto), SR X.K X.mg ρ s H → EnvR X.K ρ s.length H env σ → VR X.K ρ s.length H x vx → f x env s = some (env', s') →
    (∀ ρ' H' σ', Ext ρ s.length H ρ' s'.length H' → SR X.K X.mg ρ' s' H' → EnvR X.K ρ' s'.length H' env' σ' → Q σ' H') → g vx σ H Q
/-- targets that keep the store: names, tuples of names -/
abbrev GN := D → Ev → Option Ev
def gN (i : Nat) : GN := fun d e => some (e.set i (some d))
def gTs : List GN → List D → Ev → Option Ev
  | [], [], e => some e
  | g :: gs, d :: ds, e => (g d e).bind fun e' => gTs gs ds e'
  | _, _, _ => none
def gT (gs : List GN) : GN := fun d e => match d with
  | .tup ds => gTs gs ds e
  | _ => none
theorem wipe_set {σ : L2.St} {i : Nat} {v : Option V} : ∀ {vs : List Nat}, i ∈ vs → wipe (σ.set i v) vs = wipe σ vs
  | [], h => by simp at h
  | w :: vs, h => by
    show (wipe (σ.set i v) vs).set w none = (wipe σ vs).set w none
    by_cases hm : i ∈ vs
    · rw [wipe_set hm]
    · have hw : i = w := by
        rcases List.mem_cons.mp h with h | h
        · exact h
        · exact absurd h hm
      subst hw
      have out : ∀ {us : List Nat}, i ∉ us → wipe (σ.set i v) us = (wipe σ us).set i v := by
        intro us
        induction us with
        | nil => intro _; rfl
        | cons u us ih =>
          intro hu
          simp only [List.mem_cons, not_or] at hu
          show (wipe (σ.set i v) us).set u none = ((wipe σ us).set u none).set i v
          rw [ih hu.2, List.set_comm _ _ hu.1]
      rw [out hm, List.set_set]
/-- a target's reading: it sets the slots at is alone -/
def GQ (K : PySem.W.Frag) (f : GN) (is : List Nat) (g : TG) : Prop :=
  ∀ (ρ : Nat → Addr) (s : Sto) (H : Hp) (σ : L2.St) (env env' : Ev) (x : D) (vx : V) (Q : L2.St → Hp → Prop), EnvR K ρ s.length H env σ → VR K ρ s.length H x vx → f x env = some env' →
    (∀ σ', EnvR K ρ s.length H env' σ' → (∀ vs, (∀ i ∈ is, i ∈ vs) → wipe σ' vs = wipe σ vs) → Q σ' H) → g vx σ H Q
def GQs (K : PySem.W.Frag) (fs : List GN) (is : List Nat) (g : TGs) : Prop :=
  ∀ (ρ : Nat → Addr) (s : Sto) (H : Hp) (σ : L2.St) (env env' : Ev) (xs : List D) (vs : List V) (Q : L2.St → Hp → Prop), EnvR K ρ s.length H env σ → VRs K ρ s.length H xs vs → gTs fs xs env = some env' →
    (∀ σ', EnvR K ρ s.length H env' σ' → (∀ vs, (∀ i ∈ is, i ∈ vs) → wipe σ' vs = wipe σ vs) → Q σ' H) → g vs σ H Q
theorem gq_n {K : PySem.W.Frag} {i : Nat} : GQ K (gN i) [i] (gName i) := fun ρ s H σ env env' x vx Q er r e q => by
  cases e
  exact q _ (er.set r) fun vs h => wipe_set (h i (by simp))
theorem gqs_nil {K : PySem.W.Frag} : GQs K [] [] gNil := fun ρ s H σ env env' xs vs Q er r e q => by
  cases xs with
  | nil =>
    rw [VRs] at r
    subst r
    cases e
    exact ⟨rfl, q _ er fun _ _ => rfl⟩
  | cons _ _ => cases e
theorem gqs_cons {K : PySem.W.Frag} {f : GN} {fs : List GN} {is js : List Nat} {g : TG} {gs : TGs} (h : GQ K f is g) (hs : GQs K fs js gs) : GQs K (f :: fs) (is ++ js) (gCons g gs) := fun ρ s H σ env env' xs vs Q er r e k => by
  cases xs with
  | nil => cases e
  | cons x xs =>
    obtain ⟨v, vr, rfl, r1, r2⟩ := r.uncons
    obtain ⟨e1, h1, h2⟩ := Option.bind_eq_some_iff.mp e
    exact ⟨v, vr, rfl, h ρ s H σ env e1 x v _ er r1 h1 fun σ' er' w1 => hs ρ s H σ' e1 env' xs vr Q er' r2 h2 fun σ2 er2 w2 => k σ2 er2 fun vs hv => (w2 vs fun i hi => hv i (List.mem_append_right _ hi)).trans (w1 vs fun i hi => hv i (List.mem_append_left _ hi))⟩
theorem gTs_len : ∀ {fs : List GN} {xs : List D} {e e' : Ev}, gTs fs xs e = some e' → xs.length = fs.length
  | [], [], _, _, _ => rfl
  | [], _ :: _, _, _, h => by cases h
  | _ :: _, [], _, _, h => by cases h
  | f :: fs, x :: xs, e, e', h => by
    obtain ⟨e1, h1, h2⟩ := Option.bind_eq_some_iff.mp h
    rw [List.length_cons, List.length_cons, gTs_len h2]
theorem gq_t {K : PySem.W.Frag} {fs : List GN} {is : List Nat} {gs : TGs} {n : Nat} (h : GQs K fs is gs) (hn : fs.length = n := by rfl) : GQ K (gT fs) is (gTup K n gs) := fun ρ s H σ env env' x vx Q er r e k => by
  cases x with
  | tup ds =>
    rw [VR] at r
    obtain ⟨a, vs, rfl, sq, r⟩ := r
    exact ⟨a, vs, rfl, sq, by rw [r.length, gTs_len e, hn], h ρ s H σ env env' ds vs Q er r e k⟩
  | _ => cases e
/-- target = e -/
def sG (g : GN) (m : EM D) : SM := fun e s => (m e s).st e fun d s1 => match g d e with
  | some e' => .nx e' s1
  | none => .no
theorem js_asg {tg : Expr} {g : GN} {g' : TG} {is : List Nat} (he : JE X W e m) (hg' : PG X tg g') (q : GQ X.K g is g') (hs : swapsWithSole [tg] e pos.line X.env = pure false := by rfl) (hw : swappedStores [tg] e X.env = pure none := by rfl)
    (h1 : (assignEach [tg] X.env).map (·.2) = [assign tg X.env] := by rfl) : JS X W (.Assign [tg] e pos) (sG g m) := by
  refine PS_imp (ps_asg he hg' hs hw h1) fun σ H D ⟨ρ, env, s, sr, er, po⟩ => ⟨ρ, env, s, sr, er, (PoS.st (R := VR X.K) er po).imp fun v H1 ⟨ρ1, s1, d1, e1, sr1, r1, er1, po1⟩ => ?_⟩
  cases hq : g d1 env with
  | none => rw [hq] at po1; exact po1.elim
  | some env' =>
    rw [hq] at po1
    exact q ρ1 s1 H1 σ env env' d1 v _ er1 r1 hq fun σ' er' _ => po1 ρ1 H1 σ' Ext.refl sr1 er'
theorem js_set {i : Nat} {x : Str} {pos' : Pos} (hN : X.N.Nodup) (hi : X.N[i]? = some x) (hx : Loc X.env.scope x) (he : JE X W e m) (hs : swapsWith e (some (.Name x pos')) pos.line X.env = pure false := by rfl) (hf : X.fn x = true ∨ X.env.scope.names.lookup x = some .local := by first | exact .inl rfl | exact .inr rfl | assumption) :
    JS X W (.Assign [.Name x pos'] e pos) (sA i m) := PS_imp (ps_set hN hi hx he hs hf) fun σ H D ⟨ρ, env, s, sr, er, po⟩ =>
  ⟨ρ, env, s, sr, er, (PoS.st (R := VR X.K) er po).imp fun v H1 ⟨ρ1, s1, d1, e1, sr1, r1, er1, po1⟩ => po1 ρ1 H1 _ Ext.refl sr1 (er1.set r1)⟩
/-- a, b = x, y -/
def sP (i j : Nat) (ms : EM (List D)) : SM := fun e s => (ms e s).st e fun ds s1 => match ds with
  | [x, y] => .nx ((e.set i (some x)).set j (some y)) s1
  | _ => .no
theorem js_par {i j : Nat} {x y : Str} {ea eb : Expr} {ms : EM (List D)} {px py pt : Pos} {kt k2 pt2} (hc : X.calm = true) (hN : X.N.Nodup) (hi : X.N[i]? = some x) (hj : X.N[j]? = some y) (hij : i ≠ j)
    (hx : X.env.scope.names.lookup x = some .local) (hy : X.env.scope.names.lookup y = some .local) (ha : JA X W [ea, eb] ms)
    (hw : swappedStores [.Tuple [.Name x px, .Name y py] kt pt] (.Tuple [ea, eb] k2 pt2) X.env = pure (some [x, y]))
    (hs : swapsWithSole [.Tuple [.Name x px, .Name y py] kt pt] (.Tuple [ea, eb] k2 pt2) pos.line X.env = pure false := by rfl) :
    JS X W (.Assign [.Tuple [.Name x px, .Name y py] kt pt] (.Tuple [ea, eb] k2 pt2) pos) (sP i j ms) := PS_imp (ps_par hc hN hi hj hij hx hy ha hw hs) fun σ H D ⟨ρ, env, s, sr, er, po⟩ =>
  ⟨ρ, env, s, sr, er, (PoS.st (R := VRs X.K) er po).imp fun v H1 ⟨ρ1, s1, d1, e1, sr1, r1, er1, po1⟩ => by
    split at po1
    · rename_i x y
      obtain ⟨v1, vr, rfl, r2, r3⟩ := r1.uncons
      obtain ⟨v2, rfl, r4⟩ := r3.one
      exact ⟨v1, v2, rfl, po1 ρ1 H1 _ Ext.refl sr1 ((er1.set r2).set r4)⟩
    · exact po1.elim⟩
/-- o[i] = e -/
def PrSet (X : Cx) (f : D → D → D → Sto → Option Sto) (t : TSet) : Prop :=
  ∀ (ρ : Nat → Addr) (s s' : Sto) (H : Hp) (o i x : D) (vo vi vx : V) (Q : Hp → Prop), SR X.K X.mg ρ s H → VR X.K ρ s.length H o vo → VR X.K ρ s.length H i vi → VR X.K ρ s.length H x vx → f o i x s = some s' →
    (∀ ρ' H', Ext ρ s.length H ρ' s'.length H' → SR X.K X.mg ρ' s' H' → Q H') → t vo vi vx H Q
def sX (f : D → D → D → Sto → Option Sto) (mo mi m : EM D) : SM := fun e s => (m e s).st e fun x s1 => (mo e s1).st e fun o s2 => (mi e s2).st e fun i s3 => match f o i x s3 with
  | some s4 => .nx e s4
  | none => .no
theorem js_sub {o i : Expr} {mo mi : EM D} {f : D → D → D → Sto → Option Sto} {t : TSet} {spos : Pos} (ht : PSet X t) (hp : PrSet X f t) (he : JE X W e m) (ho : JE X W o mo) (hi : JE X W i mi)
    (ha : ∀ v, assign (.Subscript o i spos) X.env v = (do
      let ov ← holding [v] (eval o X.env)
      let iv ← holding [v, ov] (eval i X.env)
      standAt spos
      holding [v, ov, iv] (setItem ov iv v)
      release [v, ov, iv] []) := by intro _; rfl)
    (hs : swapsWithSole [.Subscript o i spos] e pos.line X.env = pure false := by rfl) (hw : swappedStores [.Subscript o i spos] e X.env = pure none := by rfl)
    (h1 : (assignEach [.Subscript o i spos] X.env).map (·.2) = [assign (.Subscript o i spos) X.env] := by rfl) : JS X W (.Assign [.Subscript o i spos] e pos) (sX f mo mi m) :=
  PS_imp (ps_asg he (pg_sub ho hi ht ha) hs hw h1) fun σ H D ⟨ρ, env, s, sr, er, po⟩ => ⟨ρ, env, s, sr, er, (PoS.st (R := VR X.K) er po).imp fun v H1 ⟨ρ1, s1, d1, e1, sr1, r1, er1, po1⟩ =>
    ⟨ρ1, env, s1, sr1, er1, (PoS.st (R := VR X.K) er1 po1).imp fun v2 H2 ⟨ρ2, s2, d2, e2, sr2, r2, er2, po2⟩ =>
      ⟨ρ2, env, s2, sr2, er2, (PoS.st (R := VR X.K) er2 po2).imp fun v3 H3 ⟨ρ3, s3, d3, e3, sr3, r3, er3, po3⟩ => by
        cases hq : f d2 d3 d1 s3 with
        | none => rw [hq] at po3; exact po3.elim
        | some s4 =>
          rw [hq] at po3
          exact hp ρ3 s3 s4 H3 d2 d3 d1 v2 v3 v _ sr3 (r2.mono e3) r3 ((r1.mono e2).mono e3) hq fun ρ' H' e4 sr4 => po3 ρ' H' σ e4 sr4 (er3.mono e4)⟩⟩⟩
end
end Z

set_option Elab.async false
set_option linter.all false
set_option maxRecDepth 100000
set_option maxHeartbeats 4000000
namespace Z
open PySem PySem.Spec PyProof.Rows L2
variable [Row]

/-! ### what is walked: at turn i over the store: none: stuck; some none: the end; else the item -/
abbrev Stp := Nat → Sto → Option (Option D)
def RI (K : PySem.W.Frag) (mg : Str → Option Value) : Rl (Nat × Stp) It := fun ρ n H jt J =>
  ∀ (ρ' : Nat → Addr) (s' : Sto) (H' : Hp) (i : Nat), Ext ρ n H ρ' s'.length H' → SR K mg ρ' s' H' → match jt.2 i s' with
    | none => True
    | some none => J.stop i H'
    | some (some d) => J.go i H' ∧ ∀ x H'', J.yld i H' x H'' → Ext ρ' s'.length H' ρ' s'.length H'' ∧ SR K mg ρ' s' H'' ∧ VR K ρ' s'.length H'' d x
abbrev JI (X : Cx) (W : WX) (tg iter : Expr) (mi : EM (Nat × Stp)) : Prop := PI X tg iter (lG X.K X.mg (RI X.K X.mg) W mi)
theorem PI_imp {X : Cx} {tg e : Expr} {t t' : TI} (h : PI X tg e t) (i : ∀ σ H Q, t' σ H Q → t σ H Q) : PI X tg e t' := ⟨fun p s σ H Q I q => h.run p s σ H Q I (i σ H Q q)⟩
def jLst (n : Nat) : Stp := fun i s => match s[n]? with
  | some (.lst xs) => some xs[i]?
  | some (.frz xs) => some xs[i]?
  | _ => none
def jTup (ds : List D) : Stp := fun i _ => some ds[i]?
def jRng (lo : Int) (n : Nat) : Stp := fun i _ => some (if i < n then some (.int (lo + i)) else none)
/-- a list or a tuple -/
def iSq (m : EM D) : EM (Nat × Stp) := fun e s => (m e s).bind fun d s1 => match d with
  | .tup ds => .ok (ds.length, jTup ds) s1
  | .ref n => match s1[n]? with
    | some (.lst xs) => .ok (xs.length, jLst n) s1
    | some (.frz xs) => .ok (xs.length, jLst n) s1
    | _ => .no
  | _ => .no
section
variable {K : PySem.W.Frag} {mg : Str → Option Value} {ρ : Nat → Addr} {s : Sto} {H : Hp}
/-- a place that is a list is read -/
def lstAt (s : Sto) (n : Nat) : Option (List D) := match s[n]? with
  | some (.lst xs) => some xs
  | some (.frz xs) => some xs
  | _ => none
theorem SR.lst (sr : SR K mg ρ s H) {n : Nat} {xs : List D} (h : lstAt s n = some xs) : ∃ vs, SqL K H (ρ n) vs ∧ VRs K ρ s.length H xs vs := by
  unfold lstAt at h
  cases e : s[n]? with
  | none => rw [e] at h; cases h
  | some o =>
    rw [e] at h
    have ob := sr.ob n o e
    cases o with
    | lst ys =>
      cases h
      obtain ⟨vs, q, r⟩ := ob
      exact ⟨vs, .of q, r⟩
    | frz ys =>
      cases h
      obtain ⟨vs, q, r⟩ := ob
      exact ⟨vs, q.sq, r⟩
    | _ => cases h
omit [Row] in
theorem lstAt_lt {n : Nat} {xs : List D} (h : lstAt s n = some xs) : n < s.length := by
  unfold lstAt at h
  cases e : s[n]? with
  | none => rw [e] at h; cases h
  | some o => exact (List.getElem?_eq_some_iff.mp e).1
omit [Row] in
theorem jLst_eq (n i : Nat) (s : Sto) : jLst n i s = (lstAt s n).map fun xs => xs[i]? := by
  unfold jLst lstAt
  cases s[n]? with
  | none => rfl
  | some o => cases o <;> rfl
end
section
variable {X : Cx} {W : WX} {pos : Pos}
theorem SqL_fun {K : PySem.W.Frag} {H : Hp} {a : Addr} {xs ys : List V} (h : SqL K H a xs) (h' : SqL K H a ys) (nk : (∃ o, H a = some o) → K.lookup a = none ∨ True) : True := trivial
/-- the list walked: what is yielded is its item -/
theorem ri_lst {ρ : Nat → Addr} {n m : Nat} {H : Hp} {N : Nat} (hm : m < n) : RI X.K X.mg ρ n H (N, jLst m) (Itl X.K (ρ m)) := by
  intro ρ' s' H' i e sr
  show match jLst m i s' with
    | none => True
    | some none => _
    | some (some d) => _
  rw [jLst_eq]
  cases h : lstAt s' m with
  | none => trivial
  | some xs =>
    obtain ⟨vs, sq, r⟩ := sr.lst h
    rw [e.ag m hm] at sq
    cases hx : xs[i]? with
    | none =>
      simp only [Option.map, hx]
      exact ⟨vs, sq, by rw [r.length]; exact List.getElem?_eq_none_iff.mp hx⟩
    | some d =>
      simp only [Option.map, hx]
      obtain ⟨v, hv, rv⟩ := r.get hx
      refine ⟨⟨vs, v, sq, hv⟩, fun x H'' y => ?_⟩
      obtain ⟨rfl, y⟩ := y
      have q := y vs sq
      rw [hv] at q
      cases q
      exact ⟨Ext.refl, sr, rv⟩
theorem ri_tup {ρ : Nat → Addr} {n : Nat} {H : Hp} {N : Nat} {ds : List D} {vs : List V} {a : Addr} (sq : SqT X.K H a vs) (r : VRs X.K ρ n H ds vs) : RI X.K X.mg ρ n H (N, jTup ds) (Itt X.K a) := by
  intro ρ' s' H' i e sr
  show match some ds[i]? with
    | none => True
    | some none => _
    | some (some d) => _
  have r' := r.mono e
  have sq' := e.sqt sq
  cases hx : ds[i]? with
  | none => exact ⟨vs, sq', by rw [r'.length]; exact List.getElem?_eq_none_iff.mp hx⟩
  | some d =>
    obtain ⟨v, hv, rv⟩ := r'.get hx
    refine ⟨⟨vs, v, sq', hv⟩, fun x H'' y => ?_⟩
    obtain ⟨rfl, y⟩ := y
    have q := y vs sq'
    rw [hv] at q
    cases q
    exact ⟨Ext.refl, sr, rv⟩
theorem ri_rng {ρ : Nat → Addr} {n : Nat} {H : Hp} {N : Nat} {lo : Int} {k : Nat} : RI X.K X.mg ρ n H (N, jRng lo k) (Itr lo k) := by
  intro ρ' s' H' i e sr
  show match some (if i < k then some (D.int (lo + i)) else none) with
    | none => True
    | some none => _
    | some (some d) => _
  by_cases h : i < k
  · rw [if_pos h]
    refine ⟨h, fun x H'' y => ?_⟩
    obtain ⟨rfl, rfl⟩ := y
    exact ⟨Ext.refl, sr, rfl⟩
  · rw [if_neg h]
    exact Nat.le_of_not_lt h
variable {tg l : Expr} {m : EM D}
/-- the walk's two kinds -/
def iLsT (K : PySem.W.Frag) (tl : TE) : TI := fun σ H R => tl σ H fun x H1 => ∃ a, x = .ref a ∧ ((∃ xs, SqL K H1 a xs) ∧ R (Itl K a) H1 ∨ (∃ xs, SqT K H1 a xs) ∧ R (Itt K a) H1)
theorem pi_sq {tl : TE} (hl : PE X l tl) : PI X tg l (iLsT X.K tl) := by
  refine ⟨fun pins s σ H R I h => ?_⟩
  refine thn (hl.run pins s σ H _ I h) fun v s1 ⟨x, H1, I1, r1, q1⟩ => ?_
  obtain ⟨a, e, q⟩ := q1
  subst e
  cases r1
  rcases q with ⟨⟨xs, hq⟩, q⟩ | ⟨⟨xs, hq⟩, q⟩
  · obtain ⟨its, rv, p, hz⟩ := I1.list hq
    refine wpAny_pyIter_list p.isList ?_
    refine ⟨s1.heap.objs.size, [s1.heap.objs.size], _, _, H1, rfl, I1.kept (t' := s1.toks) fun b o e => Heap.get?_push_of_some _ e, turn_list a _, ⟨_, Heap.get?_push_size _ rfl, rfl, rfl⟩, fun b hb => ?_, q⟩
    have e : b = s1.heap.objs.size := by simpa using hb
    subst e
    exact I1.fpOk (Nat.le_refl _) (I1.hok.fresh (Nat.le_refl _))
  · obtain ⟨its, rv, p, hz⟩ := I1.tuple hq
    refine wpAny_pyIter_tuple (show s1.heap.IsTuple a its.toArray from p) ?_
    refine ⟨s1.heap.objs.size, [s1.heap.objs.size], _, _, H1, rfl, I1.kept (t' := s1.toks) fun b o e => Heap.get?_push_of_some _ e, turn_tuple a _, ⟨_, Heap.get?_push_size _ rfl, rfl, rfl⟩, fun b hb => ?_, q⟩
    have e : b = s1.heap.objs.size := by simpa using hb
    subst e
    exact I1.fpOk (Nat.le_refl _) (I1.hok.fresh (Nat.le_refl _))
theorem ji_sq (hl : JE X W l m) : JI X W tg l (iSq m) := PI_imp (pi_sq hl) fun σ H Q ⟨ρ, env, s, sr, er, po⟩ => ⟨ρ, env, s, sr, er, (Po.bind po).imp fun v H1 ⟨ρ1, s1, d1, e1, sr1, r1, po1⟩ => by
  cases d1 with
  | tup ds =>
    rw [VR] at r1
    obtain ⟨a, vs, rfl, sq, r⟩ := r1
    exact ⟨a, rfl, .inr ⟨⟨vs, sq⟩, po1 ρ1 H1 _ Ext.refl sr1 (ri_tup sq r)⟩⟩
  | ref n =>
    rw [VR] at r1
    obtain ⟨hn, rfl⟩ := r1
    have po2 : Po X.K X.mg (RI X.K X.mg) W σ ρ1 s1.length H1 (match s1[n]? with
      | some (.lst xs) => .ok (xs.length, jLst n) s1
      | some (.frz xs) => .ok (xs.length, jLst n) s1
      | _ => .no) Q := po1
    cases e : s1[n]? with
    | none => rw [e] at po2; exact po2.elim
    | some o =>
      rw [e] at po2
      cases o with
      | lst xs =>
        obtain ⟨vs, sq, _⟩ := sr1.lst (n := n) (xs := xs) (by unfold lstAt; rw [e])
        exact ⟨_, rfl, .inl ⟨⟨vs, sq⟩, po2 ρ1 H1 _ Ext.refl sr1 (ri_lst hn)⟩⟩
      | frz xs =>
        obtain ⟨vs, sq, _⟩ := sr1.lst (n := n) (xs := xs) (by unfold lstAt; rw [e])
        exact ⟨_, rfl, .inl ⟨⟨vs, sq⟩, po2 ρ1 H1 _ Ext.refl sr1 (ri_lst hn)⟩⟩
      | _ => exact po2.elim
  | _ => exact po1.elim⟩
/-- range(n), range(a, b) -/
def iR1 (ms : EM (List D)) : EM (Nat × Stp) := fun e s => (ms e s).bind fun ds s1 => match ds with
  | [.int j] => if -(2 ^ 62) ≤ j ∧ j < 2 ^ 62 then .ok (j.toNat, jRng 0 j.toNat) s1 else .no
  | _ => .no
def iR2 (ms : EM (List D)) : EM (Nat × Stp) := fun e s => (ms e s).bind fun ds s1 => match ds with
  | [.int i, .int j] => if -(2 ^ 62) ≤ i ∧ i < 2 ^ 62 ∧ -(2 ^ 62) ≤ j ∧ j < 2 ^ 62 then .ok ((j - i).toNat, jRng i (j - i).toNat) s1 else .no
  | _ => .no
variable {a b : Expr} {ms : EM (List D)} {p : Pos}
theorem ji_range1 (hg : Gl X "range") (hm : X.mg "range" = none) (ha : JA X W [a] ms) (hs : starEach [a] X.env = [(false, eval a X.env)] := by rfl) : JI X W tg (.Call (.Name "range" p) [a] [] pos) (iR1 ms) :=
  PI_imp (pi_range1 hg hm ha hs) fun σ H Q ⟨ρ, env, s, sr, er, po⟩ => ⟨ρ, env, s, sr, er, (Po.bind po).imp fun v H1 ⟨ρ1, s1, d1, e1, sr1, r1, po1⟩ => by
    dsimp only at po1
    split at po1
    · rename_i j
      obtain ⟨u, rfl, ru⟩ := r1.one
      obtain rfl : u = .int j := ru
      obtain ⟨⟨h1, h2⟩, po1⟩ := Po.ite po1
      exact ⟨j, rfl, h1, h2, po1 ρ1 H1 _ Ext.refl sr1 ri_rng⟩
    · exact po1.elim⟩
theorem ji_range2 (hg : Gl X "range") (hm : X.mg "range" = none) (ha : JA X W [a, b] ms) (hs : starEach [a, b] X.env = [(false, eval a X.env), (false, eval b X.env)] := by rfl) (hs2 : starEach [b] X.env = [(false, eval b X.env)] := by rfl) : JI X W tg (.Call (.Name "range" p) [a, b] [] pos) (iR2 ms) :=
  PI_imp (pi_range2 hg hm ha hs hs2) fun σ H Q ⟨ρ, env, s, sr, er, po⟩ => ⟨ρ, env, s, sr, er, (Po.bind po).imp fun v H1 ⟨ρ1, s1, d1, e1, sr1, r1, po1⟩ => by
    dsimp only at po1
    split at po1
    · rename_i i j
      obtain ⟨u, vr, rfl, ru, rr⟩ := r1.uncons
      obtain ⟨u2, rfl, ru2⟩ := rr.one
      obtain rfl : u = .int i := ru
      obtain rfl : u2 = .int j := ru2
      obtain ⟨hb, po1⟩ := Po.ite po1
      exact ⟨i, j, rfl, hb, po1 ρ1 H1 _ Ext.refl sr1 ri_rng⟩
    · exact po1.elim⟩
end

/-! ### for, while -/
def forL (j : Stp) (g : GN) (body : SM) : Nat → Nat → Ev → Sto → RS
  | 0, i, e, s => match j i s with
    | some none => .nx e s
    | _ => .no
  | f + 1, i, e, s => match j i s with
    | none => .no
    | some none => .nx e s
    | some (some d) => match g d e with
      | none => .no
      | some e1 => match body e1 s with
        | .nx e2 s2 => forL j g body f (i + 1) e2 s2
        | .ct e2 s2 => forL j g body f (i + 1) e2 s2
        | .bk e2 s2 => .nx e2 s2
        | r => r
def sF (mi : EM (Nat × Stp)) (g : GN) (body : SM) : SM := fun e s => (mi e s).st e fun jt s1 => forL jt.2 g body jt.1 0 e s1
def whL (t : EM Bool) (body : SM) : Nat → Ev → Sto → RS
  | 0, _, _ => .no
  | f + 1, e, s => (t e s).st e fun q s1 => if q then match body e s1 with
      | .nx e2 s2 => whL t body f e2 s2
      | .ct e2 s2 => whL t body f e2 s2
      | .bk e2 s2 => .nx e2 s2
      | r => r
    else .nx e s1
def sW (f : Nat) (t : EM Bool) (body : SM) : SM := fun e s => whL t body f e s
section
variable {X : Cx} {W : WX} {pos : Pos}
theorem js_for {tg iter : Expr} {body : List Stmt} {mi : EM (Nat × Stp)} {g : GN} {g' : TG} {is : List Nat} {mb : SM} (hp : PassesOwn (model X.prog X.w) X.A X.env X.xe) (hc : X.calm = true) (hi : JI X W tg iter mi) (hg' : PG X tg g') (gq : GQ X.K g is g') (hb : JSs X W body mb)
    (hs : ∀ x, foldedSetIterable iter X.env x = pure x := by intro _; rfl) : JS X W (.For tg iter body [] pos) (sF mi g mb) := by
  refine PS_imp (ps_for hp hc hi hg' hb hs) fun σ H D ⟨ρ, env, s, sr, er, po⟩ => ⟨ρ, env, s, sr, er, (PoS.st (R := RI X.K X.mg) er po).imp fun J H1 ⟨ρ1, s1, jt, e1, sr1, ri, er1, po1⟩ => ?_⟩
  refine ⟨fun i m σ2 H2 => ∃ ρ2 env2 s2, Ext ρ1 s1.length H1 ρ2 s2.length H2 ∧ SR X.K X.mg ρ2 s2 H2 ∧ EnvR X.K ρ2 s2.length H2 env2 σ2 ∧ PoS X.K X.mg W D ρ2 s2.length H2 (forL jt.2 g mb m i env2 s2), ⟨jt.1, ρ1, env, s1, Ext.refl, sr1, er1, po1⟩, ?_⟩
  rintro i m σ2 H2 ⟨ρ2, env2, s2, x2, sr2, er2, po2⟩
  have hj := ri ρ2 s2 H2 i x2 sr2
  cases m with
  | zero =>
    rw [forL] at po2
    cases e : jt.2 i s2 with
    | none => rw [e] at po2; exact po2.elim
    | some o =>
      rw [e] at po2 hj
      cases o with
      | none => exact .inl ⟨hj, po2 ρ2 H2 σ2 Ext.refl sr2 er2⟩
      | some d => exact po2.elim
  | succ f =>
    rw [forL] at po2
    cases e : jt.2 i s2 with
    | none => rw [e] at po2; exact po2.elim
    | some o =>
      rw [e] at po2 hj
      cases o with
      | none => exact .inl ⟨hj, po2 ρ2 H2 σ2 Ext.refl sr2 er2⟩
      | some d =>
        dsimp only at po2 hj
        obtain ⟨go, yl⟩ := hj
        refine .inr ⟨go, _, fun σ' H' w => ⟨f, Nat.lt_succ_self f, w⟩, fun x H' y => ?_⟩
        obtain ⟨x3, sr3, r3⟩ := yl x H' y
        cases hgd : g d env2 with
        | none => rw [hgd] at po2; exact po2.elim
        | some e4 =>
          rw [hgd] at po2
          dsimp only at po2
          refine gq ρ2 s2 H' σ2 env2 e4 d x _ (er2.mono x3) r3 hgd fun σ4 er4 _ => ⟨ρ2, e4, s2, sr3, er4, ?_⟩
          have po3 := po2.rebase x3
          have x5 := x2.trans x3
          cases hb2 : mb e4 s2 with
          | nx e6 s6 =>
            rw [hb2] at po3
            intro ρ6 H6 σ6 x6 sr6 er6
            exact ⟨ρ6, e6, s6, x5.trans x6, sr6, er6, po3.rebase x6⟩
          | ct e6 s6 =>
            rw [hb2] at po3
            intro ρ6 H6 σ6 x6 sr6 er6
            exact ⟨ρ6, e6, s6, x5.trans x6, sr6, er6, po3.rebase x6⟩
          | bk e6 s6 =>
            rw [hb2] at po3
            exact po3
          | rt d6 s6 =>
            rw [hb2] at po3
            exact po3
          | ex c f d6 e6 s6 =>
            rw [hb2] at po3
            exact po3
          | no =>
            rw [hb2] at po3
            exact po3
theorem js_while (N : Nat) {c : Expr} {body : List Stmt} {t : EM Bool} {mb : SM} (hp : PassesOwn (model X.prog X.w) X.A X.env X.xe) (hc : JT X W c t) (hb : JSs X W body mb) : JS X W (.While c body [] pos) (sW N t mb) := by
  refine PS_imp (ps_while hp hc hb) fun σ H D ⟨ρ, env, s, sr, er, po⟩ => ?_
  refine ⟨fun m σ2 H2 => ∃ ρ2 env2 s2, SR X.K X.mg ρ2 s2 H2 ∧ EnvR X.K ρ2 s2.length H2 env2 σ2 ∧ PoS X.K X.mg W D ρ2 s2.length H2 (whL t mb m env2 s2), ⟨N, ρ, env, s, sr, er, po⟩, ?_⟩
  rintro m σ2 H2 ⟨ρ2, env2, s2, sr2, er2, po2⟩
  cases m with
  | zero => exact po2.elim
  | succ f =>
    rw [whL] at po2
    refine ⟨ρ2, env2, s2, sr2, er2, (PoS.st (R := RB) er2 po2).imp fun q H3 ⟨ρ3, s3, q3, x3, sr3, r3, er3, po3⟩ => ?_⟩
    have e : q3 = q := r3
    subst e
    cases q3 with
    | false => exact po3 ρ3 H3 σ2 Ext.refl sr3 er3
    | true =>
      rw [if_pos rfl] at po3 ⊢
      refine ⟨_, fun σ' H' w => ⟨f, Nat.lt_succ_self f, w⟩, ρ3, env2, s3, sr3, er3, ?_⟩
      cases hb2 : mb env2 s3 with
      | nx e6 s6 =>
        rw [hb2] at po3
        intro ρ6 H6 σ6 x6 sr6 er6
        exact ⟨ρ6, e6, s6, sr6, er6, po3.rebase x6⟩
      | ct e6 s6 =>
        rw [hb2] at po3
        intro ρ6 H6 σ6 x6 sr6 er6
        exact ⟨ρ6, e6, s6, sr6, er6, po3.rebase x6⟩
      | bk e6 s6 =>
        rw [hb2] at po3
        exact po3
      | rt d6 s6 =>
        rw [hb2] at po3
        exact po3
      | ex c f d6 e6 s6 =>
        rw [hb2] at po3
        exact po3
      | no =>
        rw [hb2] at po3
        exact po3
end

/-! ### list comprehensions -/
def Rs.nox {α : Type} (r : Rs α) : Rs α := match r with
  | .ok a s => .ok a s
  | _ => .no
def wipeD (e : Ev) : List Nat → Ev
  | [] => e
  | v :: vs => (wipeD e vs).set v none
def lcL (j : Stp) (g : GN) (t : EM Bool) (m : EM D) (l : Nat) : Nat → Nat → Ev → Sto → Rs D
  | 0, i, e, s => match j i s with
    | some none => .ok (.ref l) s
    | _ => .no
  | f + 1, i, e, s => match j i s with
    | none => .no
    | some none => .ok (.ref l) s
    | some (some d) => match g d e with
      | none => .no
      | some e1 => (t e1 s).nox.bind fun q s1 => if q then (m e1 s1).nox.bind fun y s2 => match s2[l]? with
          | some (.lst acc) => if acc.length < sizeLine then lcL j g t m l f (i + 1) e (s2.set l (.lst (acc ++ [y]))) else .no
          | _ => .no
        else lcL j g t m l f (i + 1) e s1
def mL (mi : EM (Nat × Stp)) (g : GN) (t : EM Bool) (m : EM D) (vs : List Nat) : EM D := fun e s => (mi e s).bind fun jt s1 => lcL jt.2 g t m s1.length jt.1 0 (wipeD e vs) (s1 ++ [.lst []])
def tY : EM Bool := fun _ s => .ok true s
abbrev WF : WX := fun _ _ _ _ => False
section
variable {K : PySem.W.Frag} {mg : Str → Option Value} {ρ : Nat → Addr} {n : Nat} {H : Hp}
theorem EnvR.wipe {env : Ev} {σ : L2.St} (h : EnvR K ρ n H env σ) : ∀ vs, EnvR K ρ n H (wipeD env vs) (L2.wipe σ vs)
  | [] => h
  | v :: vs => EnvR.del (EnvR.wipe h vs)
theorem Po.nox {α β : Type} {R : Rl α β} {W W' : WX} {σ σ' : L2.St} {r : Rs α} {Q : β → Hp → Prop} (h : Po K mg R W σ ρ n H r.nox Q) : Po K mg R W' σ' ρ n H r Q := by
  cases r with
  | ok a s => exact h
  | _ => exact h.elim
theorem Po.bindx {α β γ δ : Type} {R : Rl α β} {R' : Rl γ δ} {W W' : WX} {σ σ' : L2.St} {r : Rs α} {k : α → Sto → Rs γ} {Q : δ → Hp → Prop} (h : Po K mg R' W σ ρ n H (r.nox.bind k) Q) :
    Po K mg R W' σ' ρ n H r (fun v H1 => Mid K mg R ρ n H v H1 fun ρ1 s1 d => Po K mg R' W σ ρ1 s1.length H1 (k d s1) Q) := Po.nox (W := W) (σ := σ) (Po.bind h)
end
section
variable {X : Cx} {W : WX} {pos : Pos} {elt tg iter : Expr} {ifs : List Expr} {scope : Scope} {own : List (Str × Nat)} {mi : EM (Nat × Stp)} {g : GN} {is : List Nat} {t : EM Bool} {m : EM D}
theorem llc {K : PySem.W.Frag} {mg : Str → Option Value} {vs : List Nat} {g' : TG} {tt : TT} {te : TE} (his : ∀ i ∈ is, i ∈ vs)
    (gq : GQ K g is g')
    (ht : ∀ σ H Q, lT K mg WF t σ H Q → tt σ H Q) (he : ∀ σ H Q, lE K mg WF m σ H Q → te σ H Q) {σ : L2.St} {H : Hp} {Q : VK} (h : lE K mg W (mL mi g t m vs) σ H Q) : tLc (lG K mg (RI K mg) W mi) g' tt te vs σ H Q := by
  obtain ⟨ρ, env, s, sr, er, po⟩ := h
  refine ⟨ρ, env, s, sr, er, (Po.bind po).imp fun J H1 ⟨ρ1, s1, jt, e1, sr1, ri, po1⟩ => fun Dl hDl => ?_⟩
  obtain ⟨x2, sr2, r2⟩ := new_lst sr1 hDl (VRs.nil (K := K) (ρ := ρ1) (n := s1.length) (H := H1))
  refine ⟨fun i m2 H2 => ∃ ρ2 s2, Ext (ρup ρ1 s1.length Dl) (s1 ++ [SO.lst []]).length (upd H1 Dl (.lst [])) ρ2 s2.length H2 ∧ SR K mg ρ2 s2 H2 ∧ Po K mg (VR K) W σ ρ2 s2.length H2 (lcL jt.2 g t m s1.length m2 i (wipeD env vs) s2) Q, ⟨jt.1, ρup ρ1 s1.length Dl, _, Ext.refl, sr2, po1.rebase x2⟩, ?_⟩
  rintro i m2 H2 ⟨ρ2, s2, x3, sr3, po2⟩
  have x23 := x2.trans x3
  have hj := ri ρ2 s2 H2 i x23 sr3
  have lt1 : s1.length < (s1 ++ [SO.lst []]).length := by simp
  have rD : VR K ρ2 s2.length H2 (.ref s1.length) (.ref Dl) := r2.mono x3
  have eD : ρ2 s1.length = Dl := by
    rw [x3.ag _ lt1, ρup_same]
  cases m2 with
  | zero =>
    rw [lcL] at po2
    cases e : jt.2 i s2 with
    | none => rw [e] at po2; exact po2.elim
    | some o =>
      rw [e] at po2 hj
      cases o with
      | none => exact .inl ⟨hj, po2 ρ2 H2 _ Ext.refl sr3 rD⟩
      | some d => exact po2.elim
  | succ f =>
    rw [lcL] at po2
    cases e : jt.2 i s2 with
    | none => rw [e] at po2; exact po2.elim
    | some o =>
      rw [e] at po2 hj
      cases o with
      | none => exact .inl ⟨hj, po2 ρ2 H2 _ Ext.refl sr3 rD⟩
      | some d =>
        dsimp only at po2 hj
        obtain ⟨go, yl⟩ := hj
        refine .inr ⟨go, _, fun H' w => ⟨f, Nat.lt_succ_self f, w⟩, fun x H' y => ?_⟩
        obtain ⟨x4, sr4, r4⟩ := yl x H' y
        cases hgd : g d (wipeD env vs) with
        | none => rw [hgd] at po2; exact po2.elim
        | some e4 =>
          rw [hgd] at po2
          dsimp only at po2
          have erw : EnvR K ρ2 s2.length H' (wipeD env vs) (wipe σ vs) := ((er.mono e1).mono (x23.trans x4)).wipe vs
          refine gq ρ2 s2 H' _ _ e4 d x _ erw r4 hgd fun σ4 er4 hw => ⟨?_, ?_⟩
          · rw [hw vs his]
            have ww : ∀ us : List Nat, (∀ u ∈ us, u ∈ vs) → wipe (wipe σ vs) us = wipe σ vs := by
              intro us
              induction us with
              | nil => intro _; rfl
              | cons u us ih =>
                intro hu
                show (wipe (wipe σ vs) us).set u none = wipe σ vs
                rw [ih fun z hz => hu z (List.mem_cons_of_mem _ hz)]
                have key : ∀ ws : List Nat, u ∈ ws → (wipe σ ws).set u none = wipe σ ws := by
                  intro ws
                  induction ws with
                  | nil => intro h; simp at h
                  | cons w ws ihw =>
                    intro h
                    show ((wipe σ ws).set w none).set u none = (wipe σ ws).set w none
                    by_cases q : u = w
                    · subst q
                      rw [List.set_set]
                    · rw [List.set_comm _ _ (Ne.symm q), ihw ((List.mem_cons.mp h).resolve_left q)]
                exact key vs (hu u List.mem_cons_self)
            exact ww vs fun _ h => h
          · refine ht _ _ _ ⟨ρ2, e4, s2, sr4, er4, (Po.bindx (po2.rebase x4)).imp fun q H5 ⟨ρ5, s5, q5, x5, sr5, r5, po5⟩ => ?_⟩
            have eq : q5 = q := r5
            subst eq
            have x35 := (x3.trans x4).trans x5
            cases q5 with
            | false => exact ⟨ρ5, s5, x35, sr5, po5⟩
            | true =>
              rw [if_pos rfl] at po5 ⊢
              refine he _ _ _ ⟨ρ5, e4, s5, sr5, er4.mono x5, (Po.bindx po5).imp fun y6 H6 ⟨ρ6, s6, d6, x6, sr6, r6, po6⟩ => ?_⟩
              have x36 := x35.trans x6
              have eD6 : ρ6 s1.length = Dl := by
                rw [x36.ag _ lt1, ρup_same]
              dsimp only at po6
              cases el : s6[s1.length]? with
              | none => rw [el] at po6; exact po6.elim
              | some o =>
                rw [el] at po6
                cases o with
                | lst acc =>
                  obtain ⟨hl, po7⟩ := Po.ite po6
                  obtain ⟨av, hav, rav⟩ := sr6.ob _ _ el
                  rw [eD6] at hav
                  have ob' := sr6.ob _ _ el
                  have xw : Ext ρ6 s6.length H6 ρ6 s6.length (upd H6 (ρ6 s1.length) (.lst (av ++ [y6]))) := Ext.write (u := .lst (av ++ [y6])) ob' rfl
                  refine ⟨av, hav, by rw [rav.length]; exact hl, ρ6, s6.set s1.length (.lst (acc ++ [d6])), ?_, ?_, ?_⟩
                  · rw [List.length_set]
                    have x7 := x36.trans xw
                    rw [eD6] at x7
                    exact x7
                  · rw [← eD6]
                    exact sr6.write el rfl rfl ⟨av ++ [y6], upd_same, (rav.append (VRs.cons r6 VRs.nil)).mono xw⟩
                  · rw [List.length_set, ← eD6]
                    exact po7.rebase xw
                | _ => exact po6.elim
theorem je_lc {g' : TG} (hc : X.calm = true) (hN : X.N.Nodup) (hi : JI X W tg iter mi) (ok : BlkOk X.N X.env.scope scope own) (his : ∀ i ∈ is, i ∈ own.map (·.2))
    (hg' : ∀ (s : Shared) (H : Hp) (C : Addr) (cl : List (Str × Addr)) (fp : List Addr), PG (X.blk s H scope (compEnvC scope cl C X.env) fp) tg g') (gq : GQ X.K g is g')
    (ht : ∀ (s : Shared) (H : Hp) (C : Addr) (cl : List (Str × Addr)) (fp : List Addr), PTs (X.blk s H scope (compEnvC scope cl C X.env) fp) ifs (lT X.K X.mg WF t))
    (he : ∀ (s : Shared) (H : Hp) (C : Addr) (cl : List (Str × Addr)) (fp : List Addr), JE (X.blk s H scope (compEnvC scope cl C X.env) fp) WF elt m) (hs : ∀ x, foldedSetIterable iter X.env x = pure x := by intro _; rfl) :
    JE X W (.ListComp elt [⟨tg, iter, ifs, 0⟩] scope pos) (mL mi g t m (own.map (·.2))) := by
  exact PE_imp (pe_lc hc hN hi ok hg' ht he hs) fun σ H Q h => llc his gq (fun _ _ _ z => z) (fun _ _ _ z => z) h
end
end Z

set_option Elab.async false
set_option linter.all false
set_option maxRecDepth 100000
set_option maxHeartbeats 4000000
namespace Z
open PySem PySem.Spec PyProof.Rows L2
variable [Row]

/-! ### functions -/
/-- room for a call; no collection is being shown -/
structure Rm (k : Nat) (A : Around) : Prop where
  room : Room k A
  gd : A.guards = some []
theorem Rm.mono {j k : Nat} {A : Around} (r : Rm k A) (h : j ≤ k) : Rm j A := ⟨r.room.mono h, r.gd⟩
theorem Rm.deeper {k : Nat} {A : Around} (r : Rm (k + 1) A) (env : Env) : Rm k (A.deeper env) := ⟨r.room.deeper env, r.gd⟩
theorem Rm.units {k : Nat} {A : Around} (r : Rm k A) : A.units + 100 < cLine := by have := r.room.un; omega
/-- what is called at f keeps the promise sp, for positional values and keywords named ks -/
def FnG (P : Program) (w : World) (K : PySem.W.Frag) (mg : Str → Option Value) (base : Heap) (k : Nat) (f : Addr) (n : Option Nat) (ks : List Str) (sp : Sp) : Prop :=
  ∀ (A : Around) (outer : List Env) (st : Shared) (H : Hp) (us ws : List Value) (vs zs : List V) (Q : VK) (E : XK), Rm k A → Env0 P w K mg base A outer st H → Vals vs us → Vals zs ws → (∀ m, n = some m → us.length = m) → ws.length = ks.length → sp (vs ++ zs) H Q E →
    codeAny (model P w) A (.call (.ref f) ⟨us, ks.zip ws⟩) (CR (L2.CX P w) outer P w H st Q E) st
/-- the promise: what F says -/
def spF (K : PySem.W.Frag) (mg : Str → Option Value) (F : List D → Sto → Rs D) : Sp := fun vs H Q E => ∃ ρ s ds, SR K mg ρ s H ∧ VRs K ρ s.length H ds vs ∧ Po K mg (VR K) (fun c d _ H => E c d H) [] ρ s.length H (F ds s) Q
/-- positional calls; calls of n positional values and keywords ks -/
abbrev FS (P : Program) (w : World) (K : PySem.W.Frag) (mg : Str → Option Value) (base : Heap) (k : Nat) (f : Addr) (F : List D → Sto → Rs D) : Prop := FnG P w K mg base k f none [] (spF K mg F)
abbrev FSk (P : Program) (w : World) (K : PySem.W.Frag) (mg : Str → Option Value) (base : Heap) (k : Nat) (f : Addr) (n : Nat) (ks : List Str) (F : List D → Sto → Rs D) : Prop := FnG P w K mg base k f (some n) ks (spF K mg F)
theorem FnG.mono {P : Program} {w : World} {K : PySem.W.Frag} {mg : Str → Option Value} {base : Heap} {j k : Nat} {f : Addr} {n : Option Nat} {ks : List Str} {sp : Sp} (F : FnG P w K mg base j f n ks sp) (h : j ≤ k) : FnG P w K mg base k f n ks sp :=
  fun A outer st H us ws vs zs Q E hr => F A outer st H us ws vs zs Q E (hr.mono h)
def RS.fin (r : RS) : Rs D := match r with
  | .nx _ s' => .ok .non s'
  | .rt d s' => .ok d s'
  | .ex c f d _ s' => .ex c f d s'
  | _ => .no
def fnM (ps n : Nat) (m : SM) : List D → Sto → Rs D := fun ds s => if ds.length = ps then (m (ds.map some ++ List.replicate (n - ds.length) none) s).fin else .no
section
variable {P : Program} {w : World} {K : PySem.W.Frag} {mg : Str → Option Value} {base : Heap} {k : Nat} {f : Addr} {fd : FuncData} {x qual : Str} {params : Arguments} {body : List Stmt} {scope : Scope} {dvs : List V} {kws : List (Str × V)} {N ps : List Str} {m : SM}
theorem envR_start {ρ : Nat → Addr} {n : Nat} {H : Hp} {N : List Str} {ds : List D} {vs : List V} (r : VRs K ρ n H ds vs) : EnvR K ρ n H (ds.map some ++ List.replicate (N.length - ds.length) none) (L2.start N vs) := by
  unfold L2.start
  have hl := r.length
  refine ⟨by simp [hl], fun i d h => ?_⟩
  by_cases hi : i < ds.length
  · rw [List.getElem?_append_left (by simpa using hi), List.getElem?_map] at h
    cases e : ds[i]? with
    | none => rw [e] at h; cases h
    | some d' =>
      rw [e] at h
      cases h
      obtain ⟨v, hv, rv⟩ := r.get e
      refine ⟨v, ?_, rv⟩
      rw [List.getElem?_append_left (by simp [hl]; exact hi), List.getElem?_map, hv]
      rfl
  · rw [List.getElem?_append_right (by simpa using hi), List.getElem?_replicate] at h
    split at h <;> cases h
theorem PoS.fin {ρ : Nat → Addr} {n : Nat} {H : Hp} {σ : L2.St} {r : RS} {Q : VK} {E : XK} (h : Po K mg (VR K) (fun c d _ H => E c d H) σ ρ n H r.fin Q) : PoS K mg (fun c d _ H => E c d H) { nx := fun _ H' => Q .non H', rt := Q } ρ n H r := by
  cases r with
  | nx e s => exact fun ρ' H' σ' x sr er => h ρ' H' .non x sr rfl
  | rt d s => exact h
  | ex c f d e s => exact fun ρ' H' σ' C dx v x sr er => h ρ' H' C dx v x sr
  | _ => exact h.elim
/-- a body does m -/
abbrev Body (P : Program) (w : World) (K : PySem.W.Frag) (mg : Str → Option Value) (base : Heap) (k : Nat) (N : List Str) (qual : Str) (scope : Scope) (f : Addr) (body : List Stmt) (m : SM) : Prop :=
  ∀ (cdv : Value) (A : Around) (outer : List Env) (s : Shared) (H : Hp) (E : XK), Rm k (A.deeper (envOfC qual scope s.heap.objs.size f cdv)) → JSs (cxOf (L2.CX P w) P w K mg base N qual scope f cdv A outer s H E) (fun c d _ H => E c d H) body m
/-- how the values come to the parameters: positional us, keywords' ws give g us ws -/
structure Bnd (K : PySem.W.Frag) (fd : FuncData) (ps : List Str) (n : Nat) (ks : List Str) (g : List Value → List Value → List Value) (gV : List V → List V → List V) (gD : List D → List D → List D) : Prop where
  to : ∀ (st : Shared) (us ws : List Value), K.In st.heap → us.length = n → ws.length = ks.length → BindsTo st fd ⟨us, ks.zip ws⟩ (ps.zip (g us ws))
  rel : ∀ {vs : List V} {us : List Value} {zs : List V} {ws : List Value}, Vals vs us → Vals zs ws → Vals (gV vs zs) (g us ws)
  len : ∀ us ws : List Value, us.length = n → ws.length = ks.length → (g us ws).length = ps.length
  dat : ∀ {ρ : Nat → Addr} {m : Nat} {H : Hp} {ds es : List D} {vs zs : List V}, VRs K ρ m H ds vs → VRs K ρ m H es zs → VRs K ρ m H (gD ds es) (gV vs zs)
/-- the function of a call by g -/
def callF (n : Nat) (gD : List D → List D → List D) (F : List D → Sto → Rs D) : List D → Sto → Rs D := fun ds s => F (gD (ds.take n) (ds.drop n)) s
/-- THE RULE: a def whose body does m, however it is called -/
theorem fs_ok {n : Nat} {ks : List Str} {g : List Value → List Value → List Value} {gV : List V → List V → List V} {gD : List D → List D → List D} (F : FunD K x qual params body scope dvs kws f fd) (S : FnScope N ps scope) (hb : Body P w K mg base k N qual scope f body m)
    (B : Bnd K fd ps n ks g gV gD) : FSk P w K mg base (k + 1) f n ks (callF n gD (fnM ps.length N.length m)) := by
  obtain ⟨oc, od, dV, kV, doc, pm, an, cdv, ct, osl, rfl, lk, hcd, _, _⟩ := F.ex
  intro A outer st H us ws vs zs Q E hr e0 rv rz hn hks ⟨ρ, s, ds, sr, rd, po⟩
  have hn := hn n rfl
  have r1 : VRs K ρ s.length H (ds.take n) vs := by
    have := rd.take n
    rwa [List.take_left' (by rw [rv.length]; exact hn)] at this
  have r2 : VRs K ρ s.length H (ds.drop n) zs := by
    have := rd.drop n
    rwa [List.drop_left' (by rw [rv.length]; exact hn)] at this
  have rr := B.rel rv rz
  have rD := B.dat r1 r2
  have inK : K.In st.heap := e0.mod.kin.keeps fun b o e => (e0.bs b o e).1
  have noL : st.heap.NoLimit := e0.mod.nolimit.keeps fun b o e => (e0.bs b o e).1
  have kinds : ∀ y ∈ ps.zip (g us ws), scope.names.lookup y.1 = some .local ∨ (scope.names.lookup y.1 = some .cell ∧ ((cellsFrom (st.heap.objs.size + 1) scope.names []).lookup y.1).isSome = true) := by
    rintro ⟨z, u⟩ hz
    rcases S.par z (List.of_mem_zip hz).1 with q | q
    · exact .inl q
    · exact .inr ⟨q, PySem.W.cellsFrom_some _ _ _ (.inl q)⟩
  refine codeAny_call_function hr.room.depth (inK _ _ lk) rfl S.co S.gen rfl (PySem.W.codeRec_of inK hcd) (B.to st us ws inK hn hks _ _ _ _ ?_)
  refine wpAny_newFunctionEnv_cells S.kind kinds fun env he st1 xx => ?_
  subst he
  refine ⟨noL.keeps xx.toInCall.keep, codeAny_func ?_⟩
  have I := inv_start (CX := L2.CX P w) (E := E) S hr.room.hd e0 (by rw [rr.length]; exact B.len us ws hn hks) rr xx
  refine wpAny_mono ((hb cdv A outer st H E (hr.deeper _)).run [] st1 _ H { nx := fun _ H' => Q .non H', rt := Q } I ⟨ρ, _, s, sr, envR_start rD, PoS.fin (σ := []) (Po.ite po).2⟩) (fun fl st2 hs => ?_) fun e st2 hs => hs
  cases fl with
  | ret u =>
    obtain ⟨v, σ', H', J, rv', q⟩ := hs
    exact ⟨v, H', J.os, J.bare, J.base, J.hok, rv', q⟩
  | next =>
    obtain ⟨σ', H', J, q⟩ := hs
    exact ⟨V.non, H', J.os, J.bare, J.base, J.hok, rfl, q⟩
  | brk =>
    obtain ⟨_, _, _, q⟩ := hs
    exact False.elim q
  | cont =>
    obtain ⟨_, _, _, q⟩ := hs
    exact False.elim q
/-- a plain def, called by position -/
theorem fs_pos (F : FunD K x qual params body scope [] [] f fd) (S : FnScope N ps scope) (hb : Body P w K mg base k N qual scope f body m)
    (h : ∀ (kV doc pm : Value) (an : Option Addr) (cdv ct : Value) (us : List Value), us.length = ps.length → bindArgs (PySem.W.fnOf x qual params body scope .none kV doc pm an cdv ct) ⟨us, []⟩ = pure (ps.zip us)) :
    FS P w K mg base (k + 1) f (fnM ps.length N.length m) := by
  have B : Bnd K fd ps ps.length [] (fun us _ => us) (fun vs _ => vs) (fun ds _ => ds) := by
    refine ⟨fun st us ws _ h1 h2 => ?_, fun h _ => h, fun _ _ h _ => h, fun h _ => h⟩
    obtain ⟨oc, od, dV, kV, doc, pm, an, cdv, ct, osl, rfl, lk, hcd, hD, hK⟩ := F.ex
    rcases hD with ⟨_, rfl⟩ | ⟨e, _⟩
    · exact .of_eq (h kV doc pm an cdv ct us h1)
    · exact absurd rfl e
  intro A outer st H us ws vs zs Q E hr e0 rv rz _ hks ⟨ρ, s, ds, sr, rd, po⟩
  have hz : zs = [] := by
    have e1 := rz.length
    rw [hks] at e1
    exact List.eq_nil_of_length_eq_zero e1
  subst hz
  rw [List.append_nil] at rd
  have hl := (Po.ite (c := ds.length = ps.length) po).1
  refine fs_ok F S hb B A outer st H us ws vs [] Q E hr e0 rv rz (fun m hm => ?_) hks ⟨ρ, s, ds, sr, by rw [List.append_nil]; exact rd, ?_⟩
  · cases hm
    rw [← rv.length, rd.length]
    exact hl
  · unfold callF
    have e : ds.take ps.length = ds := by rw [← hl, List.take_length]
    rw [e]
    exact po
/-- a plain def, n values by position and all others by keyword -/
theorem fs_key {n : Nat} {ks : List Str} (F : FunD K x qual params body scope [] [] f fd) (S : FnScope N ps scope) (hb : Body P w K mg base k N qual scope f body m) (g : {α : Type} → List α → List α → List α)
    (h : ∀ (kV doc pm : Value) (an : Option Addr) (cdv ct : Value) (us ws : List Value), us.length = n → ws.length = ks.length → bindArgs (PySem.W.fnOf x qual params body scope .none kV doc pm an cdv ct) ⟨us, ks.zip ws⟩ = pure (ps.zip (g us ws)))
    (hl : ∀ us ws : List Value, us.length = n → ws.length = ks.length → (g us ws).length = ps.length)
    (hg : ∀ {vs : List V} {us : List Value} {zs : List V} {ws : List Value}, Vals vs us → Vals zs ws → Vals (g vs zs) (g us ws))
    (hd : ∀ {ρ : Nat → Addr} {j : Nat} {H : Hp} {ds es : List D} {vs zs : List V}, VRs K ρ j H ds vs → VRs K ρ j H es zs → VRs K ρ j H (g ds es) (g vs zs)) :
    FSk P w K mg base (k + 1) f n ks (callF n g (fnM ps.length N.length m)) := by
  refine fs_ok F S hb (g := g) (gV := g) (gD := g) ⟨fun st us ws _ h1 h2 => ?_, hg, hl, hd⟩
  obtain ⟨oc, od, dV, kV, doc, pm, an, cdv, ct, osl, rfl, lk, hcd, hD, hK⟩ := F.ex
  rcases hD with ⟨_, rfl⟩ | ⟨e, _⟩
  · exact .of_eq (h kV doc pm an cdv ct us ws h1 h2)
  · exact absurd rfl e
theorem Po.congr {α β : Type} {R : Rl α β} {W W' : WX} {σ σ' : L2.St} {ρ : Nat → Addr} {n : Nat} {H : Hp} {r : Rs α} {Q : β → Hp → Prop} (h : Po K mg R W σ ρ n H r Q) (i : ∀ c d H, W c d σ H → W' c d σ' H) : Po K mg R W' σ' ρ n H r Q := by
  cases r with
  | ok a s => exact h
  | ex c f d s => exact fun ρ' H' C dx v e sr hm r hx => i _ _ _ (h ρ' H' C dx v e sr hm r hx)
  | no => exact h
end
section
variable {X : Cx} {W : WX} {k : Nat} {f : Addr} {F : List D → Sto → Rs D} {x : Str} {p pos apos : Pos} {e o : Expr} {es : List Expr} {ms mk : EM (List D)} {sp : Sp} {E : L2.St → XK} {n : Option Nat} {ks : List Str} {kws : List Keyword}
theorem run_at {pins : List (Addr × Obj)} {σ : L2.St} {H : Hp} {s : Shared} {Q : VK} {us ws : List Value} {vs zs : List V} (F : FnG X.prog X.w X.K X.mg X.base k f n ks sp) (hr : Rm k X.A) (hx : PassesAt (L2.CX X.prog X.w) X σ (E σ))
    (I : Inv X pins σ H s) (r : Vals vs us) (rz : Vals zs ws) (hn : ∀ m, n = some m → us.length = m) (hks : ws.length = ks.length) (h : sp (vs ++ zs) H Q (E σ)) : wpAny (model X.prog X.w) X.A (call (.ref f) us (ks.zip ws)) (EP X pins σ Q) X.xe s := by
  refine wpAny_call (codeAny_mono (F X.A X.stack s H us ws vs zs Q (E σ) hr I.env0 r rz hn hks h) fun r s' hq => ?_)
  cases r with
  | error e => exact hx pins H s e s' I hq
  | ok fl =>
    cases fl with
    | ret u => exact I.after hq
    | next => exact False.elim hq
    | brk => exact False.elim hq
    | cont => exact False.elim hq
/-- f(e, ..) -/
theorem je_call (F' : FS X.prog X.w X.K X.mg X.base k f F) (hr : Rm k X.A) (tk : Takes X W) (hg : Gl X x) (hm : X.mg x = some (.ref f)) (hk : PySem.W.keepIn X.K (.ref f) = true)
    (ha : JA X W (e :: es) ms) (hdb : (x == ("__debug__" : Str)) = false := by decide) (he : starEach (e :: es) X.env = (false, eval e X.env) :: starEach es X.env := by rfl) (hpl : (backTo pos (starEach es X.env)).any (·.1) = false := by rfl) :
    JE X W (.Call (.Name x p) (e :: es) [] pos) (mN F ms) := by
  refine ⟨fun pins s σ H Q I ⟨ρ, env, st, sr, er, po⟩ => ?_⟩
  refine wpAny_Call_Name_kw (ld_glob I hg hm ?_ hdb)
  refine PySem.W.callWith_K (h₀ := X.base) I.ok.mod.kin hk (thn (ha.run pos pins s σ H _ I ⟨ρ, env, st, sr, er, Po.bind po⟩) fun us s1 ⟨vs, H1, I1, r, ρ1, s2, ds, e1, sr1, r1, po1⟩ => ⟨I1.kIn, ?_⟩) he hpl
  exact run_at (E := WE W) (ws := []) (zs := []) F' hr (passAt tk σ) I1 r .nil (fun _ h => nomatch h) rfl ⟨ρ1, s2, ds, sr1, by rw [List.append_nil]; exact r1, po1.congr fun _ _ _ z => z⟩
theorem je_call0 (F' : FS X.prog X.w X.K X.mg X.base k f F) (hr : Rm k X.A) (tk : Takes X W) (hg : Gl X x) (hm : X.mg x = some (.ref f)) (hk : PySem.W.keepIn X.K (.ref f) = true) (hdb : (x == ("__debug__" : Str)) = false := by decide) :
    JE X W (.Call (.Name x p) [] [] pos) (mN F aN) := by
  refine ⟨fun pins s σ H Q I ⟨ρ, env, st, sr, er, po⟩ => ?_⟩
  refine wpAny_Call_Name_kw (ld_glob I hg hm ?_ hdb)
  exact PySem.W.callWith_K0 I.kIn hk (run_at (E := WE W) (us := []) (ws := []) (zs := []) F' hr (passAt tk σ) I .nil .nil (fun _ h => nomatch h) rfl ⟨ρ, st, [], sr, VRs.nil, Po.congr po fun _ _ _ z => z⟩)
/-! ### keywords: F takes the positional values, then the keywords' -/
abbrev JK (X : Cx) (W : WX) (kws : List Keyword) (m : EM (List D)) : Prop := PK X kws (lA X.K X.mg W m)
theorem PK_imp {e : List Keyword} {t t' : TA} (h : PK X e t) (i : ∀ σ H Q, t' σ H Q → t σ H Q) : PK X e t' := ⟨fun p pins s σ H Q I q => h.run p pins s σ H Q I (i σ H Q q)⟩
theorem jk_nil : JK X W [] aN := PK_imp pk_nil fun σ H Q ⟨ρ, env, s, sr, er, po⟩ => po ρ H [] Ext.refl sr VRs.nil
theorem jk_cons {ma : EM D} {nm : Option Str} {kpos : Pos} (h : JE X W e ma) (t : JK X W kws mk) : JK X W (⟨nm, e, kpos⟩ :: kws) (aC ma mk) :=
  PK_imp (pk_cons h t) fun σ H Q ⟨ρ, env, s, sr, er, po⟩ =>
    ⟨ρ, env, s, sr, er, (Po.bind po).imp fun _ _ ⟨ρ1, s1, d1, e1, sr1, r1, po1⟩ => ⟨ρ1, env, s1, sr1, er.mono e1, (Po.bind po1).imp fun _ _ ⟨ρ2, s2, d2, e2, sr2, r2, po2⟩ =>
      po2 ρ2 _ _ Ext.refl sr2 (VRs.cons (r1.mono e2) r2)⟩⟩
/-- positional values, then keywords' -/
def mNk (n m : Nat) (F : List D → Sto → Rs D) (ms mk : EM (List D)) : EM D := fun e s => (ms e s).bind fun xs s1 => (mk e s1).bind fun ys s2 => if xs.length = n ∧ ys.length = m then F (xs ++ ys) s2 else .no
/-- f(e, .., k = v, ..) -/
theorem je_callk {n : Nat} (F' : FSk X.prog X.w X.K X.mg X.base k f n ks F) (hr : Rm k X.A) (tk : Takes X W) (hg : Gl X x) (hm : X.mg x = some (.ref f)) (hk : PySem.W.keepIn X.K (.ref f) = true)
    (ha : JA X W (e :: es) ms) (hkw : JK X W kws mk) (hall : (backToKw pos (keywordEach kws X.env)).all (·.1.isSome) = true := by rfl) (hks : (backToKw pos (keywordEach kws X.env)).filterMap (·.1) = ks := by rfl)
    (hdb : (x == ("__debug__" : Str)) = false := by decide) (he : starEach (e :: es) X.env = (false, eval e X.env) :: starEach es X.env := by rfl)
    (hpl : ((backTo pos (starEach (e :: es) X.env)).any (·.1) || (backToKw pos (keywordEach kws X.env)).any (·.1.isNone)) = false := by rfl) :
    JE X W (.Call (.Name x p) (e :: es) kws pos) (mNk n ks.length F ms mk) := by
  refine ⟨fun pins s σ H Q I ⟨ρ, env, st, sr, er, po⟩ => ?_⟩
  refine wpAny_Call_Name_kw (ld_glob I hg hm ?_ hdb)
  refine PySem.W.callWith_KW (h₀ := X.base) I.ok.mod.kin hk hall (thn (ha.run pos pins s σ H _ I ⟨ρ, env, st, sr, er, Po.bind po⟩) fun us s1 ⟨vs, H1, I1, r, ρ1, s2, ds, e1, sr1, r1, po1⟩ => ?_) hpl he
  refine thn (hkw.run pos pins s1 σ H1 _ I1 ⟨ρ1, env, s2, sr1, er.mono e1, Po.bind po1⟩) fun ws s3 ⟨zs, H3, I3, rz, ρ3, s4, ys, e3, sr3, r3, po3⟩ => ⟨I3.kIn, ?_⟩
  rw [hks]
  obtain ⟨⟨h1, h2⟩, po4⟩ := Po.ite po3
  exact run_at (E := WE W) F' hr (passAt tk σ) I3 r rz (fun m hm => by cases hm; show us.length = n; rw [← r.length, r1.length]; exact h1) (by rw [← rz.length, r3.length]; exact h2) ⟨ρ3, s4, ds ++ ys, sr3, (r1.mono e3).append r3, po4.congr fun _ _ _ z => z⟩
/-- f(k = v, ..) -/
theorem je_callk0 (F' : FSk X.prog X.w X.K X.mg X.base k f 0 ks F) (hr : Rm k X.A) (tk : Takes X W) (hg : Gl X x) (hm : X.mg x = some (.ref f)) (hk : PySem.W.keepIn X.K (.ref f) = true)
    (hkw : JK X W kws mk) (hall : (backToKw pos (keywordEach kws X.env)).all (·.1.isSome) = true := by rfl) (hks : (backToKw pos (keywordEach kws X.env)).filterMap (·.1) = ks := by rfl)
    (hdb : (x == ("__debug__" : Str)) = false := by decide)
    (hpl : ((backTo pos (starEach [] X.env)).any (·.1) || (backToKw pos (keywordEach kws X.env)).any (·.1.isNone)) = false := by rfl) :
    JE X W (.Call (.Name x p) [] kws pos) (mNk 0 ks.length F aN mk) := by
  refine ⟨fun pins s σ H Q I ⟨ρ, env, st, sr, er, po⟩ => ?_⟩
  refine wpAny_Call_Name_kw (ld_glob I hg hm ?_ hdb)
  refine PySem.W.callWith_KW0 (h₀ := X.base) I.ok.mod.kin hk hall ?_ hpl
  refine thn (hkw.run pos pins s σ H _ I ⟨ρ, env, st, sr, er, Po.bind po⟩) fun ws s3 ⟨zs, H3, I3, rz, ρ3, s4, ys, e3, sr3, r3, po3⟩ => ⟨I3.kIn, ?_⟩
  rw [hks]
  obtain ⟨⟨h1, h2⟩, po4⟩ := Po.ite po3
  exact run_at (E := WE W) (us := []) (vs := []) F' hr (passAt tk σ) I3 .nil rz (fun m hm => by cases hm; rfl) (by rw [← rz.length, r3.length]; exact h2) ⟨ρ3, s4, ys, sr3, r3, po4.congr fun _ _ _ z => z⟩
end
/-! ### the law's own call -/
section
variable {P : Program} {w : World} {K : PySem.W.Frag} {mg mb : Str → Option Value} {k : Nat} {fa a : Addr} {s₁ : Shared} {vs : List Value} {ns : List Int} {F : List D → Sto → Rs D}
theorem rm_caller {k : Nat} (h : Room k callerA) : Rm k callerA := ⟨h, rfl⟩
/-- the law, over the heap behind the top -/
theorem law_run (KX : K.In s₁.heap) (hns : s₁.heap.Ns mainGlobals mg) (hb : s₁.heap.Ns builtinsNs mb) (hbb : ∀ y : Str, y ≠ "__name__" → mb y = bootBuiltins y) (hlim : s₁.heap.NoLimit) (hg : s₁.gens = #[])
    (ha : s₁.heap.get? a = some { cls := .type "list", data := .seq vs.toArray }) (hi : IntsAre vs ns) (hl : ns.length ≤ sizeLine) (hr : Room k callerA)
    (hT : Row.tabs = []) (hF : ∀ base : Heap, K.In base → base.Ns mainGlobals mg → FS P w K mg base k fa F) (hQ : ∃ s', F [.ref 0] [.frz (ns.map D.int)] = .ok (.bl true) s') :
    codeAny (model P w) callerA (.call (.ref fa) ⟨[.ref a], []⟩) (fun r s' => r = .ok (.ret (.bool true)) ∧ OldK s₁.heap s'.heap ∧ s'.os = s₁.os ∧ AllBare s'.gens) s₁ := by
  obtain ⟨se, hse⟩ := hQ
  have vI := vals_ints hi
  have eL := hi.length
  have vD : ∀ {ρ : Nat → Addr} {n : Nat} {H : Hp} (ms : List Int), VRs K ρ n H (ms.map D.int) (ms.map V.int) := by
    intro ρ n H ms
    induction ms with
    | nil => exact VRs.nil
    | cons m ms ih => exact VRs.cons rfl ih
  have core : ∀ H : Hp, Only H → SqF K H a (ns.map V.int) → HOk P w H s₁.heap → (∀ b, H b ≠ none → b = a) → (H a ≠ none → K.lookup a = none) →
      codeAny (model P w) callerA (.call (.ref fa) ⟨[.ref a], []⟩) (fun r s' => r = .ok (.ret (.bool true)) ∧ OldK s₁.heap s'.heap ∧ s'.os = s₁.os ∧ AllBare s'.gens) s₁ := by
    intro H hO hS hok hA hK
    have only : ∀ {b : Addr} {u : HO}, H b = some u → b = a := fun {b u} q => hA b (by rw [q]; exact nofun)
    have nd : ∀ {b : Addr} {o : Obj} {es : Array DictEntry} {ep : Nat}, s₁.heap.get? b = some o → o.data = .dict es ep → H b = none := fun {b o es ep} e d => by
      cases q : H b with
      | none => rfl
      | some u =>
        have eb := only q
        subst eb
        rw [ha] at e
        cases e
        cases d
    have nsH : ∀ {b : Addr} {m : Str → Option Value}, s₁.heap.Ns b m → (hidT s₁.heap H).Ns b m := fun {b m} ⟨o, es, ep, e, d, r⟩ => ⟨o, es, ep, hidT_get e (nd e d), d, r⟩
    have kH : K.In (hidT s₁.heap H) := fun b o e => hidT_get (KX b o e) (by
      cases q : H b with
      | none => rfl
      | some u =>
        have eb := only q
        subst eb
        rw [hK (by rw [q]; exact nofun)] at e
        cases e)
    have e0 : Env0 P w K mg (hidT s₁.heap H) callerA [] s₁ H := ⟨rfl, ⟨kH, nsH hns, ⟨mb, nsH hb, hbb⟩, let ⟨mc, h1, h2⟩ := hlim; ⟨mc, nsH h1, h2⟩⟩, fun b o e => of_hidT e, Nat.le_of_eq (hidT_size _ _), trivial, fun b hb => absurd hb (by simp [frs]), hok, .of_eq hg⟩
    have sr : SR K mg (fun _ => a) [SO.frz (ns.map D.int)] H := by
      refine ⟨fun i j oi oj e1 e2 _ _ _ => ?_, fun i o e => ?_, by rw [hT]; exact fun p hp => absurd hp (by simp), by rw [hT]; exact fun p hp => absurd hp (by simp)⟩
      · have h1 := (List.getElem?_eq_some_iff.mp e1).1
        have h2 := (List.getElem?_eq_some_iff.mp e2).1
        simp only [List.length_cons, List.length_nil] at h1 h2
        omega
      · have h1 := (List.getElem?_eq_some_iff.mp e).1
        simp only [List.length_cons, List.length_nil] at h1
        have : i = 0 := by omega
        subst this
        cases e
        exact ⟨_, hS, vD ns⟩
    refine codeAny_mono (hF _ kH (nsH hns) callerA [] s₁ H [.ref a] [] [V.ref a] [] (fun v _ => v = .bl true) (fun _ _ _ => False) (rm_caller hr) e0 (.cons rfl .nil) .nil (fun _ h => nomatch h) rfl ⟨_, _, [.ref 0], sr, VRs.cons (by rw [VR]; exact ⟨Nat.zero_lt_succ _, rfl⟩) VRs.nil, ?_⟩) fun r s' h => ?_
    · rw [hse]
      exact fun ρ' H' v _ _ r => r
    · cases r with
      | error e =>
        obtain ⟨_, _, _, _, _, _, _, _, _, _, _, _, z⟩ := h
        exact z.elim
      | ok fl =>
        cases fl with
        | ret u =>
          obtain ⟨v, H', os, bare, un, hok', r', q⟩ := h
          have q' : v = .bl true := q
          subst q'
          obtain rfl : u = Value.bool true := r'
          refine ⟨rfl, OldK.of_keep fun b o e => ?_, os, bare⟩
          cases q : H b with
          | none => exact un.keep b o e q (by simp [frs]) (by simp)
          | some u =>
            rcases hO b with z | ⟨ob, xs, z⟩
            · rw [q] at z
              cases z
            · obtain ⟨e1, _⟩ := hok b _ z
              obtain ⟨e2, _⟩ := hok' b _ (un.frzs b ob _ z)
              rw [e] at e1
              cases e1
              exact e2
        | next => exact False.elim h
        | brk => exact False.elim h
        | cont => exact False.elim h
  cases hk : K.lookup a with
  | some o =>
    have e := KX a o hk
    rw [ha] at e
    cases e
    exact core (fun _ => none) (fun _ => .inl rfl) (.inr ⟨_, vs.toArray, _, hk, rfl, rfl, rfl, by rw [List.size_toArray, eL]; exact hl, by simpa using vI⟩) (fun b u z => nomatch z) (fun b z => absurd rfl z) fun z => absurd rfl z
  | none =>
    refine core (fun b => if b = a then some (.frz { cls := .type "list", data := .seq vs.toArray } (.lst (ns.map V.int))) else none) (fun b => ?_) (.inl ⟨{ cls := .type "list", data := .seq vs.toArray }, if_pos rfl⟩) (fun b u z => ?_) (fun b z => ?_) fun _ => hk
    · by_cases eb : b = a
      · exact .inr ⟨_, _, if_pos eb⟩
      · exact .inl (if_neg eb)
    · by_cases eb : b = a
      · have z' := (if_pos eb).symm.trans z
        cases z'
        subst eb
        exact ⟨ha, by rw [List.length_map]; exact hl, vs, _, vI, ha⟩
      · have z' := (if_neg eb).symm.trans z
        cases z'
    · by_cases eb : b = a
      · exact eb
      · exact absurd (if_neg eb) z
end
/-- the row's own run -/
abbrev rowOf (P : Program) (w : World) : Row := ⟨P, w, []⟩
omit [Row] in
/-- the law's walk: F gives the written part and the law's function -/
theorem walk_law {l : PySem.W.OpenLaw} {n k : Nat} {q : Program} {loose : List Str} {XP : (Str → Option Value) → Heap → Prop} {YP : World → Heap → Prop} {d : DefRec}
    (hn : l.most = some n) (hn2 : n ≤ sizeLine) (hdf : d.params.defaults = []) (hr : Room k callerA)
    (F : ∀ (w : World) (mg : Str → Option Value) (fa : Addr) (h : Heap), YP w h → h.Ns mainGlobals mg → mg d.name = some (.ref fa) →
      ∃ (K : PySem.W.Frag) (F : List D → Sto → Rs D), K.In h ∧ (∀ ns : List Int, ns.length ≤ n → ∃ s', F [.ref 0] [.frz (ns.map D.int)] = .ok (.bl true) s') ∧ ∀ base : Heap, K.In base → base.Ns mainGlobals mg → @FS (rowOf l.prog w) l.prog w K mg base k fa F) :
    PySem.W.WalkO q loose XP YP l.row.toRowW d [] (fun f vs => PySem.call f vs) := by
  refine Att.attach_call hn hdf fun w s₀ s₁ mg mb fa o pm cd doc a vs ns G Y ho hd hcd hmg hobj hints hlen hg => ?_
  obtain ⟨K, F, KX, hsp, hF⟩ := F w mg fa _ Y G.T.g hmg
  exact @law_run (rowOf l.prog w) _ _ _ _ _ _ _ _ _ _ _ _ KX G.T.g G.T.b G.T.builtins G.T.nolimit hg hobj hints (Nat.le_trans hlen hn2) hr rfl hF (hsp ns hlen)
end Z

set_option Elab.async false
set_option linter.all false
set_option maxRecDepth 100000
set_option maxHeartbeats 4000000
namespace Z
open PySem PySem.Spec PyProof.Rows L2
variable [Row]

section
variable {X : Cx} {W : WX}
/-! ### ints -/
def dI (g : Int → Int → D) (x y : D) (s : Sto) : Rs D := match x, y with
  | .int i, .int j => .ok (g i j) s
  | _, _ => .no
def dIc (C : Int → Int → Prop) [∀ i j, Decidable (C i j)] (g : Int → Int → D) (x y : D) (s : Sto) : Rs D := match x, y with
  | .int i, .int j => if C i j then .ok (g i j) s else .no
  | _, _ => .no
theorem pr_I {g : Int → Int → D} {g' : Int → Int → V} (h : ∀ i j, flatD (g i j) (g' i j)) : Pr2 X W (dI g) (rI0 g') := by
  intro ρ s H σ x y vx vy Q sr r1 r2 po
  cases x with
  | int i =>
    cases y with
    | int j =>
      obtain rfl : vx = .int i := r1
      obtain rfl : vy = .int j := r2
      exact ⟨i, j, rfl, rfl, po ρ H _ Ext.refl sr (h i j).vr⟩
    | _ => exact po.elim
  | _ => exact po.elim
theorem pr_Ic {C C' : Int → Int → Prop} [∀ i j, Decidable (C i j)] {g : Int → Int → D} {g' : Int → Int → V} (hc : ∀ i j, C i j → C' i j) (h : ∀ i j, flatD (g i j) (g' i j)) : Pr2 X W (dIc C g) (rI C' g') := by
  intro ρ s H σ x y vx vy Q sr r1 r2 po
  cases x with
  | int i =>
    cases y with
    | int j =>
      obtain rfl : vx = .int i := r1
      obtain rfl : vy = .int j := r2
      obtain ⟨h1, po⟩ := Po.ite (c := C i j) po
      exact ⟨i, j, rfl, rfl, hc i j h1, po ρ H _ Ext.refl sr (h i j).vr⟩
    | _ => exact po.elim
  | _ => exact po.elim
def cDiv (i j : Int) : Prop := 0 < j ∧ j < 1073741824
instance (i j : Int) : Decidable (cDiv i j) := inferInstanceAs (Decidable (_ ∧ _))
def cMul (i j : Int) : Prop := (-(2 ^ 64) < i ∧ i < 2 ^ 64) ∨ (-(2 ^ 64) < j ∧ j < 2 ^ 64)
instance (i j : Int) : Decidable (cMul i j) := inferInstanceAs (Decidable (_ ∨ _))
def cMod (i j : Int) : Prop := 0 < j
instance (i j : Int) : Decidable (cMod i j) := inferInstanceAs (Decidable (0 < j))
def cPow (i j : Int) : Prop := 0 ≤ j ∧ j ≤ 1000000 ∧ i.natAbs < 2 ^ 64
instance (i j : Int) : Decidable (cPow i j) := inferInstanceAs (Decidable (_ ∧ _ ∧ _))
def dSub := dI fun i j => .int (i - j)
def dMul := dIc cMul fun i j => .int (i * j)
def dDiv := dIc cDiv fun i j => .int (i / j)
def dMod := dIc cMod fun i j => .int (i % j)
def dPow := dIc cPow fun i j => .int (i ^ j.toNat)
def dLt := dI fun i j => .bl (decide (i < j))
def dLe := dI fun i j => .bl (decide (i ≤ j))
def dGt := dI fun i j => .bl (decide (j < i))
def dGe := dI fun i j => .bl (decide (j ≤ i))
theorem pr_sub : Pr2 X W dSub (rI0 fun i j => .int (i - j)) := pr_I fun _ _ => rfl
theorem pr_mul : Pr2 X W dMul (rI CMul fun i j => .int (i * j)) := pr_Ic (fun _ _ h => h) fun _ _ => rfl
theorem pr_div : Pr2 X W dDiv (rI CDiv fun i j => .int (i / j)) := pr_Ic (fun _ _ h => h) fun _ _ => rfl
theorem pr_mod : Pr2 X W dMod (rI (fun _ j => 0 < j) fun i j => .int (i % j)) := pr_Ic (fun _ _ h => h) fun _ _ => rfl
theorem pr_pow : Pr2 X W dPow (rI CPow fun i j => .int (i ^ j.toNat)) := pr_Ic (fun _ _ h => h) fun _ _ => rfl
theorem pr_lt : Pr2 X W dLt (rI0 fun i j => .bl (decide (i < j))) := pr_I fun _ _ => rfl
theorem pr_le : Pr2 X W dLe (rI0 fun i j => .bl (decide (i ≤ j))) := pr_I fun _ _ => rfl
theorem pr_gt : Pr2 X W dGt (rI0 fun i j => .bl (decide (j < i))) := pr_I fun _ _ => rfl
theorem pr_ge : Pr2 X W dGe (rI0 fun i j => .bl (decide (j ≤ i))) := pr_I fun _ _ => rfl
def dNeg (x : D) (s : Sto) : Rs D := match x with
  | .int i => .ok (.int (-i)) s
  | _ => .no
theorem pr_neg : Pr1 X W dNeg (rU fun i => .int (-i)) := by
  intro ρ s H σ x vx Q sr r1 po
  cases x with
  | int i =>
    obtain rfl : vx = .int i := r1
    exact ⟨i, rfl, po ρ H _ Ext.refl sr rfl⟩
  | _ => exact po.elim

/-! ### + -/
def dAdd (x y : D) (s : Sto) : Rs D := match x, y with
  | .int i, .int j => .ok (.int (i + j)) s
  | .str a, .str b => if a.length + b.length ≤ sizeLine then .ok (.str (a ++ b)) s else .no
  | .tup a, .tup b => if a.length + b.length ≤ sizeLine then .ok (.tup (a ++ b)) s else .no
  | .ref a, .ref b => match s[a]?, s[b]? with
    | some (.lst xs), some (.lst ys) => if xs.length + ys.length ≤ sizeLine then .ok (.ref s.length) (s ++ [.lst (xs ++ ys)]) else .no
    | _, _ => .no
  | _, _ => .no
def rAdds (K : PySem.W.Frag) : R2 := fun x y H Q => (∃ i j, x = .int i ∧ y = .int j ∧ Q (.int (i + j)) H) ∨ (∃ i j, x = .str i ∧ y = .str j ∧ i.length + j.length ≤ sizeLine ∧ Q (.str (i ++ j)) H) ∨ rCatA K x y H Q ∨ rCat x y H Q
theorem op_adds : OpR X (binaryOp .Add) (rAdds X.K) := op_add.or (op_add_str.or (op_catA.or op_cat))
theorem pr_add : Pr2 X W dAdd (rAdds X.K) := by
  intro ρ s H σ x y vx vy Q sr r1 r2 po
  cases x with
  | int i =>
    cases y with
    | int j => exact .inl ⟨i, j, r1, r2, po ρ H _ Ext.refl sr rfl⟩
    | _ => exact po.elim
  | str i =>
    cases y with
    | str j =>
      obtain ⟨h1, po⟩ := Po.ite (c := i.length + j.length ≤ sizeLine) po
      exact .inr (.inl ⟨i, j, r1, r2, h1, po ρ H _ Ext.refl sr rfl⟩)
    | _ => exact po.elim
  | tup i =>
    cases y with
    | tup j =>
      obtain ⟨h1, po⟩ := Po.ite (c := i.length + j.length ≤ sizeLine) po
      have q1 := r1
      have q2 := r2
      rw [VR] at r1 r2
      obtain ⟨a, vs, e1, sq1, rr1⟩ := r1
      obtain ⟨b, us, e2, sq2, rr2⟩ := r2
      subst e1 e2
      refine .inr (.inr (.inl ⟨a, b, vs, us, rfl, rfl, sq1, sq2, by rw [rr1.length, rr2.length]; exact h1, fun e => ?_, fun _ e => ?_, fun _ _ p hp => ?_⟩))
      · subst e
        have e' : i = [] := List.eq_nil_of_length_eq_zero rr1.length.symm
        subst e'
        exact po ρ H _ Ext.refl sr q2
      · subst e
        have e' : j = [] := List.eq_nil_of_length_eq_zero rr2.length.symm
        subst e'
        rw [List.append_nil] at po
        exact po ρ H _ Ext.refl sr q1
      · obtain ⟨x1, sr1, v1⟩ := new_tup sr hp (rr1.append rr2)
        exact po ρ _ _ x1 sr1 v1
    | _ => exact po.elim
  | ref a =>
    cases y with
    | ref b =>
      have po2 : Po X.K X.mg (VR X.K) W σ ρ s.length H (match s[a]?, s[b]? with
        | some (.lst xs), some (.lst ys) => if xs.length + ys.length ≤ sizeLine then Rs.ok (.ref s.length) (s ++ [.lst (xs ++ ys)]) else .no
        | _, _ => .no) Q := po
      rw [VR] at r1 r2
      obtain ⟨h1, rfl⟩ := r1
      obtain ⟨h2, rfl⟩ := r2
      split at po2
      · rename_i xs ys e1 e2
        obtain ⟨vs, hv, rv⟩ := sr.ob _ _ e1
        obtain ⟨us, hu, ru⟩ := sr.ob _ _ e2
        obtain ⟨hl, po3⟩ := Po.ite po2
        refine .inr (.inr (.inr ⟨_, _, vs, us, rfl, rfl, hv, hu, by rw [rv.length, ru.length]; exact hl, fun p hp => ?_⟩))
        obtain ⟨x1, sr1, v1⟩ := new_lst sr hp (rv.append ru)
        exact po3 _ _ _ x1 sr1 v1
      · exact po2.elim
    | _ => exact po.elim
  | _ => exact po.elim

/-! ### data: none, bools, ints, texts, lists, tuples -/
def pyd : Nat → Sto → D → Option PyData
  | 0, _, _ => none
  | _ + 1, _, .non => some .none
  | _ + 1, _, .bl b => some (.bool b)
  | _ + 1, _, .int i => some (.int i)
  | _ + 1, _, .str x => some (.str x)
  | n + 1, s, .tup xs => (xs.mapM (pyd n s)).map .tuple
  | n + 1, s, .ref k => (lstAt s k).bind fun xs => (xs.mapM (pyd n s)).map .list
theorem pyd_dp {K : PySem.W.Frag} {mg : Str → Option Value} {ρ : Nat → Addr} {s : Sto} {H : Hp} (sr : SR K mg ρ s H) : ∀ (n : Nat) (d : D) (v : V) (p : PyData), pyd n s d = some p → VR K ρ s.length H d v → Dp K H v p := by
  intro n
  induction n with
  | zero => intro d v p h; cases h
  | succ n ih =>
    have all : ∀ (ds : List D) (vs : List V) (ps : List PyData), ds.mapM (pyd n s) = some ps → VRs K ρ s.length H ds vs → DpAll K H vs ps := by
      intro ds
      induction ds with
      | nil =>
        intro vs ps h r
        rw [VRs] at r
        subst r
        simp at h
        subst h
        exact .nil
      | cons d ds ihd =>
        intro vs ps h r
        obtain ⟨v, vr, rfl, r1, r2⟩ := r.uncons
        rw [List.mapM_cons] at h
        obtain ⟨p, h1, h⟩ := Option.bind_eq_some_iff.mp h
        obtain ⟨qs, h2, h⟩ := Option.bind_eq_some_iff.mp h
        cases h
        exact .cons (ih d v p h1 r1) (ihd vr qs h2 r2)
    intro d v p h r
    cases d with
    | non =>
      cases h
      obtain rfl : v = .non := r
      exact .non
    | bl b =>
      cases h
      obtain rfl : v = .bl b := r
      exact .bl b
    | int i =>
      cases h
      obtain rfl : v = .int i := r
      exact .int i
    | str x =>
      cases h
      obtain rfl : v = .str x := r
      exact .str x
    | tup xs =>
      rw [pyd] at h
      obtain ⟨ps, h1, rfl⟩ := Option.map_eq_some_iff.mp h
      rw [VR] at r
      obtain ⟨a, vs, rfl, sq, rr⟩ := r
      exact .tup sq (all xs vs ps h1 rr)
    | ref k =>
      rw [pyd] at h
      obtain ⟨xs, h1, h⟩ := Option.bind_eq_some_iff.mp h
      obtain ⟨ps, h2, rfl⟩ := Option.map_eq_some_iff.mp h
      rw [VR] at r
      obtain ⟨hk, rfl⟩ := r
      obtain ⟨vs, sq, rr⟩ := sr.lst h1
      exact .lst sq (all xs vs ps h2 rr)
/-- the data of a value that == and repr take -/
def shp (s : Sto) (d : D) : Option PyData := match pyd 30 s d with
  | some p => if SeqAt.shaped p = true then some p else none
  | none => none
theorem shp_dp {K : PySem.W.Frag} {mg : Str → Option Value} {ρ : Nat → Addr} {s : Sto} {H : Hp} (sr : SR K mg ρ s H) {d : D} {v : V} {p : PyData} (h : shp s d = some p) (r : VR K ρ s.length H d v) : Dp K H v p ∧ SeqAt.shaped p = true := by
  unfold shp at h
  cases e : pyd 30 s d with
  | none => rw [e] at h; cases h
  | some q =>
    rw [e] at h
    by_cases hs : SeqAt.shaped q = true
    · simp only [hs, if_true] at h
      obtain rfl : q = p := Option.some.inj h
      exact ⟨pyd_dp sr 30 d v q e r, hs⟩
    · simp only [hs] at h
      cases h
/-- == of texts, of data -/
def dEqB (neg : Bool) (x y : D) (s : Sto) : Rs D := match x, y with
  | .str a, .str b => .ok (.bl (neg ^^ decide (a = b))) s
  | x, y => match shp s x, shp s y with
    | some p, some q => .ok (.bl (neg ^^ PyData.eqv p q)) s
    | _, _ => .no
def dEq := dEqB false
def dNe := dEqB true
def rEqs (K : PySem.W.Frag) : R2 := fun x y H Q => rEq x y H Q ∨ rEqD K x y H Q
def rNes (K : PySem.W.Frag) : R2 := fun x y H Q => rNe x y H Q ∨ rNeD K x y H Q
theorem op_eqs (hu : X.A.units + 64 < cLine) : OpR X (compareOp .Eq) (rEqs X.K) := op_eq.or (op_eqD hu)
theorem op_nes (hu : X.A.units + 64 < cLine) : OpR X (compareOp .NotEq) (rNes X.K) := op_ne.or (op_neD hu)
theorem decide_strV (a b : Str) : decide (V.str a = V.str b) = decide (a = b) := by
  by_cases h : a = b
  · rw [h, decide_eq_true rfl, decide_eq_true rfl]
  · rw [decide_eq_false h, decide_eq_false fun e => h (by cases e; rfl)]
theorem pr_eq : Pr2 X W dEq (rEqs X.K) := by
  intro ρ s H σ x y vx vy Q sr r1 r2 po
  unfold dEq dEqB at po
  split at po
  · rename_i a b
    obtain rfl : vx = .str a := r1
    obtain rfl : vy = .str b := r2
    refine .inl ⟨rfl, ?_⟩
    rw [decide_strV]
    refine po ρ H _ Ext.refl sr ?_
    show V.bl _ = V.bl _
    rw [Bool.false_xor]
  · split at po
    · rename_i p q h1 h2
      obtain ⟨a1, a2⟩ := shp_dp sr h1 r1
      obtain ⟨b1, b2⟩ := shp_dp sr h2 r2
      refine .inr ⟨p, q, a1, b1, a2, b2, po ρ H _ Ext.refl sr ?_⟩
      show V.bl _ = V.bl _
      rw [Bool.false_xor]
    · exact po.elim
theorem pr_ne : Pr2 X W dNe (rNes X.K) := by
  intro ρ s H σ x y vx vy Q sr r1 r2 po
  unfold dNe dEqB at po
  split at po
  · rename_i a b
    obtain rfl : vx = .str a := r1
    obtain rfl : vy = .str b := r2
    refine .inl ⟨rfl, ?_⟩
    rw [decide_strV]
    refine po ρ H _ Ext.refl sr ?_
    show V.bl _ = V.bl _
    rw [Bool.true_xor]
  · split at po
    · rename_i p q h1 h2
      obtain ⟨a1, a2⟩ := shp_dp sr h1 r1
      obtain ⟨b1, b2⟩ := shp_dp sr h2 r2
      refine .inr ⟨p, q, a1, b1, a2, b2, po ρ H _ Ext.refl sr ?_⟩
      show V.bl _ = V.bl _
      rw [Bool.true_xor]
    · exact po.elim
/-- is None -/
def dIsN (neg : Bool) (x : D) (s : Sto) : Rs D := match x with
  | .non => .ok (.bl (!neg)) s
  | _ => .ok (.bl neg) s
/-- x in a list or a tuple of data; one sign in a text -/
def dInB (neg : Bool) (x y : D) (s : Sto) : Rs D := match y with
  | .str z => match x with
    | .str c => if c.length = 1 then .ok (.bl (neg ^^ decide (c.cps.getD 0 0 ∈ z.cps.toList))) s else .no
    | _ => .no
  | .tup ys => match shp s x, shp s (.tup ys) with
    | some p, some (.tuple ps) => .ok (.bl (neg ^^ ps.any fun z => PyData.eqv z p)) s
    | _, _ => .no
  | .ref n => match shp s x, shp s (.ref n) with
    | some p, some (.list ps) => .ok (.bl (neg ^^ ps.any fun z => PyData.eqv z p)) s
    | _, _ => .no
  | _ => .no

theorem room_in {A : Around} {d : PyData} (h : SeqAt.shaped d = true) (hu : A.units + 65 < cLine) : A.units + d.depth < cLine := by
  have := SeqAt.depth_of_shaped h
  omega
def rInT (K : PySem.W.Frag) (neg : Bool) : R2 := fun x y H Q => ∃ d ds, Dp K H x d ∧ Dp K H y (.tuple ds) ∧ SeqAt.shaped d = true ∧ SeqAt.shaped (.tuple ds) = true ∧ Q (.bl (neg ^^ ds.any fun z => PyData.eqv z d)) H
theorem op_inT (hu : X.A.units + 65 < cLine) : OpR X (compareOp .In) (rInT X.K false) := by
  intro pins s σ H x y v u Q I rx ry h
  obtain ⟨d, ds, hd, he, sd, se, q⟩ := h
  obtain ⟨as, r1⟩ := Dp.reads I d x v hd rx
  obtain ⟨bs, r2⟩ := Dp.reads I (.tuple ds) y u he ry
  rw [Bool.false_xor] at q
  exact SeqAt.in_tuple_reads r2 r1 (SeqAt.canLay_of_shaped se) (SeqAt.canLay_of_shaped sd) (by first | exact room_in sd hu | exact room_in_shaped sd hu) ⟨.bl _, H, I, rfl, q⟩
theorem op_notInT (hu : X.A.units + 65 < cLine) : OpR X (compareOp .NotIn) (rInT X.K true) := by
  intro pins s σ H x y v u Q I rx ry h
  obtain ⟨d, ds, hd, he, sd, se, q⟩ := h
  obtain ⟨as, r1⟩ := Dp.reads I d x v hd rx
  obtain ⟨bs, r2⟩ := Dp.reads I (.tuple ds) y u he ry
  rw [Bool.true_xor] at q
  exact SeqAt.notIn_tuple_reads r2 r1 (SeqAt.canLay_of_shaped se) (SeqAt.canLay_of_shaped sd) (by first | exact room_in sd hu | exact room_in_shaped sd hu) ⟨.bl _, H, I, rfl, q⟩
def rInL (K : PySem.W.Frag) (neg : Bool) : R2 := fun x y H Q => ∃ d ds, Dp K H x d ∧ Dp K H y (.list ds) ∧ SeqAt.shaped d = true ∧ SeqAt.shaped (.list ds) = true ∧ Q (.bl (neg ^^ ds.any fun z => PyData.eqv z d)) H
theorem op_inL (hu : X.A.units + 65 < cLine) : OpR X (compareOp .In) (rInL X.K false) := by
  intro pins s σ H x y v u Q I rx ry ⟨d, ds, h1, h2, h3, h4, q⟩
  rw [Bool.false_xor] at q
  exact op_inD hu pins s σ H x y v u Q I rx ry ⟨d, ds, h1, h2, h3, h4, q⟩
theorem op_notInL (hu : X.A.units + 65 < cLine) : OpR X (compareOp .NotIn) (rInL X.K true) := by
  intro pins s σ H x y v u Q I rx ry ⟨d, ds, h1, h2, h3, h4, q⟩
  rw [Bool.true_xor] at q
  exact op_notInD hu pins s σ H x y v u Q I rx ry ⟨d, ds, h1, h2, h3, h4, q⟩
def rInS (neg : Bool) : R2 := fun x y H Q => ∃ (c : Nat) (z : Str), x = .str ⟨#[c]⟩ ∧ y = .str z ∧ Q (.bl (neg ^^ decide (c ∈ z.cps.toList))) H
theorem op_inS : OpR X (compareOp .In) (rInS false) := by
  intro pins s σ H x y v u Q I rx ry ⟨c, z, h1, h2, q⟩
  rw [Bool.false_xor] at q
  exact op_in_sign pins s σ H x y v u Q I rx ry ⟨c, z, h1, h2, q⟩
theorem op_notInS : OpR X (compareOp .NotIn) (rInS true) := by
  intro pins s σ H x y v u Q I rx ry ⟨c, z, h1, h2, q⟩
  rw [Bool.true_xor] at q
  exact op_notIn_sign pins s σ H x y v u Q I rx ry ⟨c, z, h1, h2, q⟩
def rIns (K : PySem.W.Frag) (neg : Bool) : R2 := fun x y H Q => rInS neg x y H Q ∨ rInT K neg x y H Q ∨ rInL K neg x y H Q
theorem op_ins (hu : X.A.units + 65 < cLine) : OpR X (compareOp .In) (rIns X.K false) := op_inS.or ((op_inT hu).or (op_inL hu))
theorem op_notIns (hu : X.A.units + 65 < cLine) : OpR X (compareOp .NotIn) (rIns X.K true) := op_notInS.or ((op_notInT hu).or (op_notInL hu))
theorem str_one {c : Str} (h : c.length = 1) : c = ⟨#[c.cps.getD 0 0]⟩ := by
  obtain ⟨⟨l⟩⟩ := c
  match l, h with
  | [a], _ => rfl
theorem pr_in {neg : Bool} : Pr2 X W (dInB neg) (rIns X.K neg) := by
  intro ρ s H σ x y vx vy Q sr r1 r2 po
  cases y with
  | str z =>
    cases x with
    | str c =>
      obtain ⟨h1, po⟩ := Po.ite (c := c.length = 1) po
      obtain rfl : vx = .str c := r1
      obtain rfl : vy = .str z := r2
      exact .inl ⟨c.cps.getD 0 0, z, congrArg V.str (str_one h1), rfl, po ρ H _ Ext.refl sr rfl⟩
    | _ => exact po.elim
  | tup ys =>
    have po2 : Po X.K X.mg (VR X.K) W σ ρ s.length H (match shp s x, shp s (.tup ys) with
      | some p, some (.tuple ps) => .ok (.bl (neg ^^ ps.any fun z => PyData.eqv z p)) s
      | _, _ => .no) Q := po
    split at po2
    · rename_i p ps h1 h2
      obtain ⟨a1, a2⟩ := shp_dp sr h1 r1
      obtain ⟨b1, b2⟩ := shp_dp sr h2 r2
      exact .inr (.inl ⟨p, ps, a1, b1, a2, b2, po2 ρ H _ Ext.refl sr rfl⟩)
    · exact po2.elim
  | ref k =>
    have po2 : Po X.K X.mg (VR X.K) W σ ρ s.length H (match shp s x, shp s (.ref k) with
      | some p, some (.list ps) => .ok (.bl (neg ^^ ps.any fun z => PyData.eqv z p)) s
      | _, _ => .no) Q := po
    split at po2
    · rename_i p ps h1 h2
      obtain ⟨a1, a2⟩ := shp_dp sr h1 r1
      obtain ⟨b1, b2⟩ := shp_dp sr h2 r2
      exact .inr (.inr ⟨p, ps, a1, b1, a2, b2, po2 ρ H _ Ext.refl sr rfl⟩)
    · exact po2.elim
  | _ => exact po.elim
theorem pr_isN : Pr2 X W (fun x y s => match y with | .non => dIsN false x s | _ => .no) (fun x y H Q => y = .non ∧ Q (.bl (decide (x = .non))) H) := by
  intro ρ s H σ x y vx vy Q sr r1 r2 po
  cases y with
  | non =>
    refine ⟨r2, ?_⟩
    cases x with
    | non =>
      obtain rfl : vx = .non := r1
      exact po ρ H _ Ext.refl sr rfl
    | tup xs =>
      rw [VR] at r1
      obtain ⟨a, vs, rfl, _⟩ := r1
      exact po ρ H _ Ext.refl sr rfl
    | ref k =>
      rw [VR] at r1
      obtain ⟨_, rfl⟩ := r1
      exact po ρ H _ Ext.refl sr rfl
    | bl b =>
      obtain rfl : vx = .bl b := r1
      exact po ρ H _ Ext.refl sr rfl
    | int b =>
      obtain rfl : vx = .int b := r1
      exact po ρ H _ Ext.refl sr rfl
    | str b =>
      obtain rfl : vx = .str b := r1
      exact po ρ H _ Ext.refl sr rfl
  | _ => exact po.elim
theorem pr_notN : Pr2 X W (fun x y s => match y with | .non => dIsN true x s | _ => .no) (fun x y H Q => y = .non ∧ Q (.bl (!decide (x = .non))) H) := by
  intro ρ s H σ x y vx vy Q sr r1 r2 po
  cases y with
  | non =>
    refine ⟨r2, ?_⟩
    cases x with
    | non =>
      obtain rfl : vx = .non := r1
      exact po ρ H _ Ext.refl sr rfl
    | tup xs =>
      rw [VR] at r1
      obtain ⟨a, vs, rfl, _⟩ := r1
      exact po ρ H _ Ext.refl sr rfl
    | ref k =>
      rw [VR] at r1
      obtain ⟨_, rfl⟩ := r1
      exact po ρ H _ Ext.refl sr rfl
    | bl b =>
      obtain rfl : vx = .bl b := r1
      exact po ρ H _ Ext.refl sr rfl
    | int b =>
      obtain rfl : vx = .int b := r1
      exact po ρ H _ Ext.refl sr rfl
    | str b =>
      obtain rfl : vx = .str b := r1
      exact po ρ H _ Ext.refl sr rfl
  | _ => exact po.elim

/-! ### built-ins by name -/
theorem vr_seq {K : PySem.W.Frag} {mg : Str → Option Value} {ρ : Nat → Addr} {s : Sto} {H : Hp} (sr : SR K mg ρ s H) {d : D} {v : V} (r : VR K ρ s.length H d v) {xs : List D} (h : (match d with | .tup ys => some ys | .ref n => lstAt s n | _ => none) = some xs) :
    ∃ a vs, v = .ref a ∧ (SqL K H a vs ∨ SqT K H a vs) ∧ VRs K ρ s.length H xs vs := by
  cases d with
  | tup ys =>
    cases h
    rw [VR] at r
    obtain ⟨a, vs, rfl, sq, rr⟩ := r
    exact ⟨a, vs, rfl, .inr sq, rr⟩
  | ref n =>
    rw [VR] at r
    obtain ⟨_, rfl⟩ := r
    obtain ⟨vs, sq, rr⟩ := sr.lst h
    exact ⟨_, vs, rfl, .inl sq, rr⟩
  | _ => cases h
/-- the items of a list or a tuple -/
def seqD (s : Sto) (d : D) : Option (List D) := match d with
  | .tup ys => some ys
  | .ref n => lstAt s n
  | _ => none
def fLen (ds : List D) (s : Sto) : Rs D := match ds with
  | [.str z] => if z.length ≤ sizeLine then .ok (.int z.length) s else .no
  | [d] => match seqD s d with
    | some xs => .ok (.int xs.length) s
    | none => .no
  | _ => .no
def rLens (K : PySem.W.Frag) : List V → Hp → VK → Prop := fun xs H Q => (∃ z, xs = [.str z] ∧ z.length ≤ sizeLine ∧ Q (.int z.length) H) ∨ ∃ p ys, xs = [.ref p] ∧ (SqL K H p ys ∨ SqT K H p ys) ∧ Q (.int ys.length) H
theorem call_lens : CallR X (.builtin "len") (rLens X.K) := call_len_str.or call_len_seq
theorem pn_len : PrN X W fLen (rLens X.K) := by
  intro ρ s H σ xs vs Q sr r po
  unfold fLen at po
  split at po
  · rename_i z
    obtain ⟨v, rfl, rv⟩ := r.one
    obtain rfl : v = .str z := rv
    obtain ⟨h1, po⟩ := Po.ite po
    exact .inl ⟨z, rfl, h1, po ρ H _ Ext.refl sr rfl⟩
  · rename_i d _
    obtain ⟨v, rfl, rv⟩ := r.one
    cases e : seqD s d with
    | none => rw [e] at po; exact po.elim
    | some ys =>
      rw [e] at po
      obtain ⟨a, ws, rfl, sq, rr⟩ := vr_seq sr rv (xs := ys) (by cases d <;> exact e)
      exact .inr ⟨a, ws, rfl, sq, po ρ H _ Ext.refl sr (by rw [rr.length]; rfl)⟩
  · exact po.elim
def fList (ds : List D) (s : Sto) : Rs D := match ds with
  | [d] => match seqD s d with
    | some xs => if xs.length ≤ sizeLine then .ok (.ref s.length) (s ++ [.lst xs]) else .no
    | none => .no
  | _ => .no
theorem pn_list : PrN X W fList (fun xs H Q => ∃ p ys, xs = [.ref p] ∧ (SqL X.K H p ys ∨ SqT X.K H p ys) ∧ ∀ l, H l = none → Q (.ref l) (upd H l (.lst ys))) := by
  intro ρ s H σ xs vs Q sr r po
  unfold fList at po
  split at po
  · rename_i d
    obtain ⟨v, rfl, rv⟩ := r.one
    cases e : seqD s d with
    | none => rw [e] at po; exact po.elim
    | some ys =>
      rw [e] at po
      obtain ⟨hl, po⟩ := Po.ite po
      obtain ⟨a, ws, rfl, sq, rr⟩ := vr_seq sr rv (xs := ys) (by cases d <;> exact e)
      refine ⟨a, ws, rfl, sq, fun l hn => ?_⟩
      obtain ⟨x1, sr1, v1⟩ := new_lst sr hn rr
      exact po _ _ _ x1 sr1 v1
  · exact po.elim
def fTuple (ds : List D) (s : Sto) : Rs D := match ds with
  | [d] => match seqD s d with
    | some xs => .ok (.tup xs) s
    | none => .no
  | _ => .no
theorem pn_tuple : PrN X W fTuple (fun xs H Q => ∃ p ys, xs = [.ref p] ∧ ((SqL X.K H p ys ∧ ∀ l, H l = none → Q (.ref l) (upd H l (.tup ys))) ∨ (SqT X.K H p ys ∧ Q (.ref p) H))) := by
  intro ρ s H σ xs vs Q sr r po
  unfold fTuple at po
  split at po
  · rename_i d
    obtain ⟨v, rfl, rv⟩ := r.one
    cases e : seqD s d with
    | none => rw [e] at po; exact po.elim
    | some ys =>
      rw [e] at po
      obtain ⟨a, ws, rfl, sq, rr⟩ := vr_seq sr rv (xs := ys) (by cases d <;> exact e)
      refine ⟨a, ws, rfl, ?_⟩
      rcases sq with sq | sq
      · refine .inl ⟨sq, fun l hn => ?_⟩
        obtain ⟨x1, sr1, v1⟩ := new_tup sr hn rr
        exact po _ _ _ x1 sr1 v1
      · refine .inr ⟨sq, po ρ H _ Ext.refl sr ?_⟩
        rw [VR]
        exact ⟨a, ws, rfl, sq, rr⟩
  · exact po.elim
def fInt (ds : List D) (s : Sto) : Rs D := match ds with
  | [.int i] => .ok (.int i) s
  | [.bl b] => .ok (.int (if b then 1 else 0)) s
  | _ => .no
theorem pn_int : PrN X W fInt (fun xs H Q => (∃ i, xs = [.int i] ∧ Q (.int i) H) ∨ ∃ k, xs = [.bl k] ∧ Q (.int (if k then 1 else 0)) H) := by
  intro ρ s H σ xs vs Q sr r po
  unfold fInt at po
  split at po
  · rename_i i
    obtain ⟨v, rfl, rv⟩ := r.one
    obtain rfl : v = .int i := rv
    exact .inl ⟨i, rfl, po ρ H _ Ext.refl sr rfl⟩
  · rename_i b
    obtain ⟨v, rfl, rv⟩ := r.one
    obtain rfl : v = .bl b := rv
    exact .inr ⟨b, rfl, po ρ H _ Ext.refl sr rfl⟩
  · exact po.elim
def fAbs (ds : List D) (s : Sto) : Rs D := match ds with
  | [.int i] => .ok (.int (if i < 0 then -i else i)) s
  | _ => .no
theorem pn_abs : PrN X W fAbs (fun xs H Q => ∃ i, xs = [.int i] ∧ Q (.int (if i < 0 then -i else i)) H) := by
  intro ρ s H σ xs vs Q sr r po
  unfold fAbs at po
  split at po
  · rename_i i
    obtain ⟨v, rfl, rv⟩ := r.one
    obtain rfl : v = .int i := rv
    exact ⟨i, rfl, po ρ H _ Ext.refl sr rfl⟩
  · exact po.elim
def fMax2 (ds : List D) (s : Sto) : Rs D := match ds with
  | [.int i, .int j] => .ok (.int (if j > i then j else i)) s
  | _ => .no
def fMin2 (ds : List D) (s : Sto) : Rs D := match ds with
  | [.int i, .int j] => .ok (.int (if j < i then j else i)) s
  | _ => .no
theorem pn_max2 : PrN X W fMax2 (fun xs H Q => ∃ i j, xs = [.int i, .int j] ∧ Q (.int (if j > i then j else i)) H) := by
  intro ρ s H σ xs vs Q sr r po
  unfold fMax2 at po
  split at po
  · rename_i i j
    obtain ⟨v, vr, rfl, rv, rr⟩ := r.uncons
    obtain ⟨u, rfl, ru⟩ := rr.one
    obtain rfl : v = .int i := rv
    obtain rfl : u = .int j := ru
    exact ⟨i, j, rfl, po ρ H _ Ext.refl sr rfl⟩
  · exact po.elim
theorem pn_min2 : PrN X W fMin2 (fun xs H Q => ∃ i j, xs = [.int i, .int j] ∧ Q (.int (if j < i then j else i)) H) := by
  intro ρ s H σ xs vs Q sr r po
  unfold fMin2 at po
  split at po
  · rename_i i j
    obtain ⟨v, vr, rfl, rv, rr⟩ := r.uncons
    obtain ⟨u, rfl, ru⟩ := rr.one
    obtain rfl : v = .int i := rv
    obtain rfl : u = .int j := ru
    exact ⟨i, j, rfl, po ρ H _ Ext.refl sr rfl⟩
  · exact po.elim
def blD : D → Option Bool
  | .bl b => some b
  | _ => none
theorem bls_of {K : PySem.W.Frag} {ρ : Nat → Addr} {n : Nat} {H : Hp} : ∀ {xs : List D} {vs : List V} {bs : List Bool}, VRs K ρ n H xs vs → xs.mapM blD = some bs → vs = bs.map V.bl
  | [], vs, bs, r, h => by
    rw [VRs] at r
    subst r
    simp at h
    subst h
    rfl
  | x :: xs, vs, bs, r, h => by
    obtain ⟨v, vr, rfl, r1, r2⟩ := r.uncons
    rw [List.mapM_cons] at h
    obtain ⟨b, h1, h⟩ := Option.bind_eq_some_iff.mp h
    obtain ⟨cs, h2, h⟩ := Option.bind_eq_some_iff.mp h
    cases h
    rw [bls_of r2 h2]
    cases x with
    | bl b' =>
      cases h1
      obtain rfl : v = .bl _ := r1
      rfl
    | _ => cases h1
def fAllAny (all : Bool) (ds : List D) (s : Sto) : Rs D := match ds with
  | [.ref n] => match (lstAt s n).bind fun xs => xs.mapM blD with
    | some bs => .ok (.bl (if all then bs.all id else bs.any id)) s
    | none => .no
  | _ => .no
theorem pn_all : PrN X W (fAllAny true) (rAll X.K) := by
  intro ρ s H σ xs vs Q sr r po
  unfold fAllAny at po
  split at po
  · rename_i n
    obtain ⟨v, rfl, rv⟩ := r.one
    split at po
    · rename_i bs e
      obtain ⟨ys, h1, h2⟩ := Option.bind_eq_some_iff.mp e
      rw [VR] at rv
      obtain ⟨_, rfl⟩ := rv
      obtain ⟨ws, sq, rr⟩ := sr.lst h1
      rw [bls_of rr h2] at sq
      exact ⟨_, bs, rfl, sq, po ρ H _ Ext.refl sr rfl⟩
    · exact po.elim
  · exact po.elim
theorem pn_any : PrN X W (fAllAny false) (rAny X.K) := by
  intro ρ s H σ xs vs Q sr r po
  unfold fAllAny at po
  split at po
  · rename_i n
    obtain ⟨v, rfl, rv⟩ := r.one
    split at po
    · rename_i bs e
      obtain ⟨ys, h1, h2⟩ := Option.bind_eq_some_iff.mp e
      rw [VR] at rv
      obtain ⟨_, rfl⟩ := rv
      obtain ⟨ws, sq, rr⟩ := sr.lst h1
      rw [bls_of rr h2] at sq
      exact ⟨_, bs, rfl, sq, po ρ H _ Ext.refl sr rfl⟩
    · exact po.elim
  · exact po.elim
/-! ### sorted: data of one shape, stable, any length -/
open PySem.W in
def rSrt (X : Cx) : List V → Hp → VK → Prop := fun vs H Q => ∃ (a : Addr) (ps : List (D × V)) (enc : D → PyData), vs = [.ref a] ∧ SqL X.K H a (ps.map (·.2)) ∧ (∀ p ∈ ps, Dp X.K H p.2 (enc p.1)) ∧
  AllAlike (ps.map fun p => enc p.1) ∧ Sortable (ps.map fun p => enc p.1) ∧ (∀ p ∈ ps, X.A.units + 2 + (enc p.1).depth < cLine) ∧ ∀ q, H q = none → Q (.ref q) (upd H q (.lst ((ps.mergeSort (dataLe false fun p => enc p.1)).map (·.2))))
theorem each_vals {ps : List (D × V)} : ∀ {us : List Value}, PySem.W.EachIs (fun u (p : D × V) => RelV p.2 u) us ps → Vals (ps.map (·.2)) us := by
  induction ps with
  | nil =>
    intro us h
    cases h
    exact .nil
  | cons p ps ih =>
    intro us h
    cases h with
    | cons h1 h2 => exact .cons h1 (ih h2)
theorem vals_each {ps : List (D × V)} : ∀ {us : List Value}, Vals (ps.map (·.2)) us → PySem.W.EachIs (fun u (p : D × V) => RelV p.2 u) us ps := by
  induction ps with
  | nil =>
    intro us h
    cases h
    exact .nil
  | cons p ps ih =>
    intro us h
    cases h with
    | cons h1 h2 => exact .cons h1 (ih h2)
theorem call_srt : CallR X (.builtin "sorted") (rSrt X) := by
  intro pins s σ H vs us Q I r h
  obtain ⟨a, ps, enc, rfl, hs, hd, hal, hk, hu, q⟩ := h
  obtain ⟨its, rv, hl, hz⟩ := I.list hs
  rw [Vals.ref1 r]
  have e1 := vals_each rv
  have er : ∀ {qs : List (D × V)} {ws : List Value}, (∀ p ∈ qs, Dp X.K H p.2 (enc p.1)) → PySem.W.EachIs (fun u (p : D × V) => RelV p.2 u) ws qs → PySem.W.EachIs (fun v (p : D × V) => ∃ as, Reads s.heap v (enc p.1) as) ws qs := by
    intro qs
    induction qs with
    | nil =>
      intro ws _ h
      cases h
      exact .nil
    | cons p qs ih =>
      intro ws hp h
      cases h with
      | cons h1 h2 => exact .cons (Dp.reads I _ _ _ (hp p List.mem_cons_self) h1) (ih (fun z hz => hp z (List.mem_cons_of_mem _ hz)) h2)
  refine PySem.W.sorted_data (R := fun u (p : D × V) => RelV p.2 u) (enc := fun p => enc p.1) (bs := ps) hl.isList e1 (er hd e1) hal hk (by rw [List.length_map] at hz; exact hz) hu fun out ho eo => ?_
  obtain ⟨ep, he'⟩ := PyProof.Rows.sortedAll_at s.heap its out.toArray
  have hv := each_vals eo
  have hlen : ((ps.mergeSort (PySem.W.dataLe false fun p => enc p.1)).map (·.2)).length ≤ sizeLine := by rw [hv.length, ho]; rw [List.length_map] at hz; exact hz
  exact ⟨.ref _, upd H (s.heap.objs.size + 1) (.lst ((ps.mergeSort (PySem.W.dataLe false fun p => enc p.1)).map (·.2))), I.laid (t' := s.toks) (fun _ _ => PyProof.Rows.sortedAll_old) (Nat.le_succ _) ⟨hlen, out, ep, hv, he'⟩, rfl, q _ (I.hok.fresh (Nat.le_succ _))⟩
end
end Z

set_option Elab.async false
set_option linter.all false
set_option maxRecDepth 100000
set_option maxHeartbeats 4000000
namespace Z
open PySem PySem.Spec PyProof.Rows L2
variable [Row]

section
variable {X : Cx} {W : WX}
/-! ### sorted -/
def encD (s : Sto) (d : D) : PyData := (pyd 30 s d).getD .none
def tupB : PyData → Bool
  | .tuple (_ :: _) => true
  | _ => false
def noTupB : PyData → Bool
  | .tuple _ => false
  | .none => false
  | _ => true
def canSort (s : Sto) (xs : List D) : Bool := (xs.all fun d => (shp s d).isSome) && (xs.all fun d => xs.all fun e => PySem.W.alike (encD s d) (encD s e)) && ((xs.all fun d => tupB (encD s d)) || xs.all fun d => noTupB (encD s d))
def sortD (s : Sto) (xs : List D) : List D := xs.mergeSort (PySem.W.dataLe false (encD s))
theorem shp_enc {s : Sto} {d : D} (h : (shp s d).isSome = true) : pyd 30 s d = some (encD s d) ∧ SeqAt.shaped (encD s d) = true := by
  unfold shp at h
  unfold encD
  cases e : pyd 30 s d with
  | none => rw [e] at h; cases h
  | some p =>
    rw [e] at h
    by_cases hs : SeqAt.shaped p = true
    · exact ⟨rfl, hs⟩
    · simp [hs] at h
theorem VRs.pairs {K : PySem.W.Frag} {ρ : Nat → Addr} {n : Nat} {H : Hp} : ∀ {ds : List D} {vs : List V}, VRs K ρ n H ds vs → ∃ ps : List (D × V), ps.map (·.1) = ds ∧ ps.map (·.2) = vs ∧ ∀ p ∈ ps, VR K ρ n H p.1 p.2
  | [], vs, r => by
    rw [VRs] at r
    subst r
    exact ⟨[], rfl, rfl, fun p hp => absurd hp (by simp)⟩
  | d :: ds, vs, r => by
    obtain ⟨v, vr, rfl, r1, r2⟩ := r.uncons
    obtain ⟨ps, h1, h2, h3⟩ := VRs.pairs r2
    exact ⟨(d, v) :: ps, by simp [h1], by simp [h2], fun p hp => by
      rcases List.mem_cons.mp hp with rfl | hp
      · exact r1
      · exact h3 p hp⟩
theorem VRs.of_pairs {K : PySem.W.Frag} {ρ : Nat → Addr} {n : Nat} {H : Hp} : ∀ {ps : List (D × V)}, (∀ p ∈ ps, VR K ρ n H p.1 p.2) → VRs K ρ n H (ps.map (·.1)) (ps.map (·.2))
  | [], _ => VRs.nil
  | p :: ps, h => VRs.cons (h p List.mem_cons_self) (VRs.of_pairs fun q hq => h q (List.mem_cons_of_mem _ hq))
def fSorted (ds : List D) (s : Sto) : Rs D := match ds with
  | [.ref n] => match lstAt s n with
    | some xs => if canSort s xs = true then .ok (.ref s.length) (s ++ [.lst (sortD s xs)]) else .no
    | none => .no
  | _ => .no
theorem pn_sorted (hu : X.A.units + 66 < cLine) : PrN X W fSorted (rSrt X) := by
  intro ρ s H σ xs vs Q sr r po
  unfold fSorted at po
  split at po
  · rename_i n
    obtain ⟨v, rfl, rv⟩ := r.one
    split at po
    · rename_i ys h1
      obtain ⟨hc, po⟩ := Po.ite po
      rw [VR] at rv
      obtain ⟨_, rfl⟩ := rv
      obtain ⟨ws, sq, rr⟩ := sr.lst h1
      obtain ⟨ps, e1, e2, e3⟩ := rr.pairs
      unfold canSort at hc
      rw [Bool.and_eq_true, Bool.and_eq_true] at hc
      obtain ⟨⟨c1, c2⟩, c3⟩ := hc
      have mem1 : ∀ p ∈ ps, p.1 ∈ ys := fun p hp => by rw [← e1]; exact List.mem_map_of_mem hp
      refine ⟨ρ n, ps, encD s, rfl, by rw [e2]; exact sq, fun p hp => ?_, ?_, ?_, fun p hp => ?_, fun q hq => ?_⟩
      · exact pyd_dp sr 30 p.1 p.2 _ (shp_enc (List.all_eq_true.mp c1 p.1 (mem1 p hp))).1 (e3 p hp)
      · intro d hd d' hd'
        obtain ⟨p, hp, rfl⟩ := List.mem_map.mp hd
        obtain ⟨p', hp', rfl⟩ := List.mem_map.mp hd'
        exact List.all_eq_true.mp (List.all_eq_true.mp c2 p.1 (mem1 p hp)) p'.1 (mem1 p' hp')
      · rcases Bool.or_eq_true_iff.mp c3 with c3 | c3
        · refine .inl fun d hd => ?_
          obtain ⟨p, hp, rfl⟩ := List.mem_map.mp hd
          have := List.all_eq_true.mp c3 p.1 (mem1 p hp)
          revert this
          cases encD s p.1 with
          | tuple l => cases l with
            | nil => intro h; cases h
            | cons x r => intro _; exact ⟨x, r, rfl⟩
          | _ => intro h; cases h
        · refine .inr fun d hd => ?_
          obtain ⟨p, hp, rfl⟩ := List.mem_map.mp hd
          have := List.all_eq_true.mp c3 p.1 (mem1 p hp)
          revert this
          cases encD s p.1 with
          | tuple l => intro h; cases h
          | none => intro h; cases h
          | _ => intro _; exact ⟨(fun h => nomatch h), (fun l h => nomatch h)⟩
      · have := SeqAt.depth_of_shaped (shp_enc (List.all_eq_true.mp c1 p.1 (mem1 p hp))).2
        omega
      · have em : (ps.mergeSort (PySem.W.dataLe false fun p => encD s p.1)).map (·.1) = sortD s ys := by
          unfold sortD
          rw [← e1]
          exact List.map_mergeSort fun a _ b _ => rfl
        have rs : VRs X.K ρ s.length H (sortD s ys) ((ps.mergeSort (PySem.W.dataLe false fun p => encD s p.1)).map (·.2)) := by
          rw [← em]
          exact VRs.of_pairs fun p hp => e3 p ((List.mergeSort_perm _ _).mem_iff.mp hp)
        obtain ⟨x1, sr1, v1⟩ := new_lst sr hq rs
        exact po _ _ _ x1 sr1 v1
    · exact po.elim
  · exact po.elim

/-! ### subscripts, slices -/
def dIx (x y : D) (s : Sto) : Rs D := match y with
  | .int i => match x with
    | .str z => if z.length ≤ sizeLine then (match atI z.cps.toList i with
        | some c => .ok (.str ⟨#[c]⟩) s
        | none => .no) else .no
    | _ => match seqD s x with
      | some xs => match atI xs i with
        | some d => .ok d s
        | none => .no
      | none => .no
  | _ => .no
theorem VRs.atI {K : PySem.W.Frag} {ρ : Nat → Addr} {n : Nat} {H : Hp} {ds : List D} {vs : List V} {i : Int} {d : D} (r : VRs K ρ n H ds vs) (h : atI ds i = some d) : ∃ v, L2.atI vs i = some v ∧ VR K ρ n H d v := by
  unfold L2.atI at h ⊢
  rw [r.length]
  cases e : ixN ds.length i with
  | none => rw [e] at h; cases h
  | some j =>
    rw [e] at h
    exact r.get h
theorem pr_ix : Pr2 X W dIx (rIx X.K) := by
  intro ρ s H σ x y vx vy Q sr r1 r2 po
  cases y with
  | int i =>
    obtain rfl : vy = .int i := r2
    have gen : ∀ xs : List D, seqD s x = some xs → Po X.K X.mg (VR X.K) W σ ρ s.length H (match atI xs i with | some d => Rs.ok d s | none => .no) Q → rIx X.K vx (.int i) H Q := by
      intro xs e po
      cases h : atI xs i with
      | none => rw [h] at po; exact po.elim
      | some d =>
        rw [h] at po
        obtain ⟨a, vs, rfl, sq, rr⟩ := vr_seq sr r1 (xs := xs) (by cases x <;> exact e)
        obtain ⟨v, hv, rv⟩ := rr.atI h
        rcases sq with sq | sq
        · exact .inl ⟨a, vs, i, v, rfl, rfl, sq, hv, po ρ H _ Ext.refl sr rv⟩
        · exact .inr (.inl ⟨a, vs, i, v, rfl, rfl, sq, hv, po ρ H _ Ext.refl sr rv⟩)
    cases x with
    | str z =>
      obtain rfl : vx = .str z := r1
      obtain ⟨hl, po⟩ := Po.ite (c := z.length ≤ sizeLine) po
      cases h : L2.atI z.cps.toList i with
      | none => rw [h] at po; exact po.elim
      | some c =>
        rw [h] at po
        exact .inr (.inr ⟨z, i, c, rfl, rfl, hl, h, po ρ H _ Ext.refl sr rfl⟩)
    | tup xs => exact gen xs rfl po
    | ref n =>
      have po2 : Po X.K X.mg (VR X.K) W σ ρ s.length H (match lstAt s n with
        | some xs => match atI xs i with
          | some d => Rs.ok d s
          | none => .no
        | none => .no) Q := po
      cases e : lstAt s n with
      | none => rw [e] at po2; exact po2.elim
      | some xs =>
        rw [e] at po2
        exact gen xs e po2
    | _ => exact po.elim
  | _ =>
    unfold dIx at po
    exact po.elim
def cutD (xs : List D) (lo hi : Option Int) : List D := (xs.drop (HT.sIx xs.length 0 lo)).take (HT.sIx xs.length xs.length hi - HT.sIx xs.length 0 lo)
def dSl (x : D) (lo hi : Option Int) (s : Sto) : Rs D := match x with
  | .str z => if z.length ≤ sizeLine then .ok (.str (cutS z lo hi)) s else .no
  | .tup xs => .ok (.tup (cutD xs lo hi)) s
  | .ref n => match lstAt s n with
    | some xs => .ok (.ref s.length) (s ++ [.lst (cutD xs lo hi)])
    | none => .no
  | _ => .no
def rSls (K : PySem.W.Frag) : V → Option Int → Option Int → Hp → VK → Prop := fun x lo hi H Q => rSlS x lo hi H Q ∨ rSlA K x lo hi H Q ∨ rSlL K x lo hi H Q
theorem sl_all : SlR X (rSls X.K) := sl_str.or (sl_tupA.or sl_list)
theorem VRs.cut {K : PySem.W.Frag} {ρ : Nat → Addr} {n : Nat} {H : Hp} {ds : List D} {vs : List V} {lo hi : Option Int} (r : VRs K ρ n H ds vs) : VRs K ρ n H (cutD ds lo hi) (cutV vs lo hi) := by
  unfold cutD cutV
  rw [r.length]
  exact (r.drop _).take _
theorem ps_sl : PrS X W dSl (rSls X.K) := by
  intro ρ s H σ x vx lo hi Q sr r po
  cases x with
  | str z =>
    obtain rfl : vx = .str z := r
    obtain ⟨hl, po⟩ := Po.ite (c := z.length ≤ sizeLine) po
    exact .inl ⟨z, rfl, hl, po ρ H _ Ext.refl sr rfl⟩
  | tup xs =>
    have r' := r
    rw [VR] at r
    obtain ⟨a, vs, rfl, sq, rr⟩ := r
    refine .inr (.inl ⟨a, vs, rfl, sq, fun hh => ?_, fun _ p hp => ?_⟩)
    · refine po ρ H _ Ext.refl sr ?_
      have e : cutD xs lo hi = xs := by
        unfold cutD
        rw [← rr.length, hh.1, hh.2, List.drop_zero, rr.length, Nat.sub_zero, List.take_length]
      rw [e]
      exact r'
    · obtain ⟨x1, sr1, v1⟩ := new_tup sr hp (rr.cut (lo := lo) (hi := hi))
      exact po ρ _ _ x1 sr1 v1
  | ref n =>
    have po2 : Po X.K X.mg (VR X.K) W σ ρ s.length H (match lstAt s n with
      | some xs => Rs.ok (.ref s.length) (s ++ [.lst (cutD xs lo hi)])
      | none => .no) Q := po
    cases e : lstAt s n with
    | none => rw [e] at po2; exact po2.elim
    | some xs =>
      rw [e] at po2
      rw [VR] at r
      obtain ⟨_, rfl⟩ := r
      obtain ⟨vs, sq, rr⟩ := sr.lst e
      refine .inr (.inr ⟨_, vs, rfl, sq, fun p hp => ?_⟩)
      obtain ⟨x1, sr1, v1⟩ := new_lst sr hp (rr.cut (lo := lo) (hi := hi))
      exact po2 _ _ _ x1 sr1 v1
  | _ => exact po.elim
/-! ### stores to a place, methods of lists -/
def xSetL (o i x : D) (s : Sto) : Option Sto := match o, i with
  | .ref n, .int k => match s[n]? with
    | some (.lst xs) => (ixN xs.length k).map fun j => s.set n (.lst (xs.set j x))
    | _ => none
  | _, _ => none
theorem px_setL : PrSet X xSetL rSetL := by
  intro ρ s s' H o i x vo vi vx Q sr ro ri rx e q
  unfold xSetL at e
  split at e
  · rename_i n k
    split at e
    · rename_i xs h1
      obtain ⟨j, hj, rfl⟩ := Option.map_eq_some_iff.mp e
      rw [VR] at ro
      obtain ⟨_, rfl⟩ := ro
      obtain rfl : vi = .int k := ri
      obtain ⟨vs, hv, rv⟩ := sr.ob _ _ h1
      refine ⟨_, vs, k, j, rfl, rfl, hv, by rw [rv.length]; exact hj, ?_⟩
      have xw : Ext ρ s.length H ρ s.length (upd H (ρ n) (.lst (vs.set j vx))) := Ext.write (sr.ob _ _ h1) rfl
      refine q ρ _ (by rw [List.length_set]; exact xw) ?_
      exact sr.write h1 rfl rfl ⟨_, upd_same, (rv.set j rx).mono xw⟩
    · cases e
  · cases e
/-- a list's method that changes it -/
def mtL (f : List D → List D → Option (List D × D)) (x : D) (ds : List D) (s : Sto) : Rs D := match x with
  | .ref n => match s[n]? with
    | some (.lst xs) => match f xs ds with
      | some (ys, d) => .ok d (s.set n (.lst ys))
      | none => .no
    | _ => .no
  | _ => .no
theorem pm_L {f : List D → List D → Option (List D × D)} {r : V → List V → Hp → VK → Prop}
    (h : ∀ (ρ : Nat → Addr) (n : Nat) (H : Hp) (a : Addr) (xs ds ys : List D) (d : D) (vs us : List V) (Q : VK), H a = some (.lst vs) → VRs X.K ρ n H xs vs → VRs X.K ρ n H ds us → f xs ds = some (ys, d) →
      (∀ ws v, VRs X.K ρ n H ys ws → VR X.K ρ n H d v → Q v (upd H a (.lst ws))) → r (.ref a) us H Q) : PrM X W (mtL f) r := by
  intro ρ s H σ x ds v us Q sr r1 r2 po
  unfold mtL at po
  cases x with
  | ref n =>
    dsimp only at po
    split at po
    · rename_i xs h1
      split at po
      · rename_i ys d h2
        rw [VR] at r1
        obtain ⟨_, rfl⟩ := r1
        obtain ⟨vs, hv, rv⟩ := sr.ob _ _ h1
        refine h ρ s.length H (ρ n) xs ds ys d vs us Q hv rv r2 h2 fun ws v rw1 rd => ?_
        have xw : Ext ρ s.length H ρ s.length (upd H (ρ n) (.lst ws)) := Ext.write (sr.ob _ _ h1) rfl
        refine po ρ _ v (by rw [List.length_set]; exact xw) (sr.write h1 rfl rfl ⟨_, upd_same, rw1.mono xw⟩) (by rw [List.length_set]; exact rd.mono xw)
      · exact po.elim
    · exact po.elim
  | _ => exact po.elim
def lAppend (xs ds : List D) : Option (List D × D) := match ds with
  | [d] => if xs.length < sizeLine then some (xs ++ [d], .non) else none
  | _ => none
theorem pm_append : PrM X W (mtL lAppend) rAppend := pm_L fun ρ n H a xs ds ys d vs us Q hv rv ru e q => by
  unfold lAppend at e
  split at e
  · rename_i x
    split at e
    · rename_i hl
      cases e
      obtain ⟨u, rfl, r1⟩ := ru.one
      exact ⟨a, vs, u, rfl, rfl, hv, by rw [rv.length]; exact hl, q _ _ (rv.append (VRs.cons r1 VRs.nil)) rfl⟩
    · cases e
  · cases e
theorem VRs.eraseIdx {K : PySem.W.Frag} {ρ : Nat → Addr} {n : Nat} {H : Hp} : ∀ {ds : List D} {vs : List V} (i : Nat), VRs K ρ n H ds vs → VRs K ρ n H (ds.eraseIdx i) (vs.eraseIdx i)
  | [], vs, i, r => by
    rw [VRs] at r
    subst r
    exact VRs.nil
  | d :: ds, vs, 0, r => by
    obtain ⟨v, vr, rfl, r1, r2⟩ := r.uncons
    exact r2
  | d :: ds, vs, i + 1, r => by
    obtain ⟨v, vr, rfl, r1, r2⟩ := r.uncons
    exact VRs.cons r1 (VRs.eraseIdx i r2)
def lPopAt (xs ds : List D) : Option (List D × D) := match ds with
  | [.int i] => if -(2 ^ 63) ≤ i ∧ i < 2 ^ 63 then (seqIndex? i xs.length).bind fun k => (xs[k]?).map fun d => (xs.eraseIdx k, d) else none
  | _ => none
theorem pm_popAt : PrM X W (mtL lPopAt) rPopAt := pm_L fun ρ n H a xs ds ys d vs us Q hv rv ru e q => by
  unfold lPopAt at e
  split at e
  · rename_i i
    split at e
    · rename_i hi
      obtain ⟨k, h1, e⟩ := Option.bind_eq_some_iff.mp e
      obtain ⟨z, h2, e⟩ := Option.map_eq_some_iff.mp e
      cases e
      obtain ⟨u, rfl, r1⟩ := ru.one
      obtain rfl : u = .int i := r1
      obtain ⟨v, hk, rk⟩ := rv.get h2
      exact ⟨a, vs, i, k, v, rfl, rfl, hv, hi.1, hi.2, by rw [rv.length]; exact h1, hk, q _ _ (rv.eraseIdx k) rk⟩
    · cases e
  · cases e
def lReverse (xs ds : List D) : Option (List D × D) := match ds with
  | [] => some (xs.reverse, .non)
  | _ => none
theorem pm_reverse : PrM X W (mtL lReverse) rReverse := pm_L fun ρ n H a xs ds ys d vs us Q hv rv ru e q => by
  unfold lReverse at e
  split at e
  · cases e
    rw [VRs] at ru
    subst ru
    exact ⟨a, vs, rfl, rfl, hv, q _ _ rv.reverse rfl⟩
  · cases e
/-! ### texts -/
def strD : D → Option Str
  | .str x => some x
  | _ => none
theorem strs_of {K : PySem.W.Frag} {ρ : Nat → Addr} {n : Nat} {H : Hp} : ∀ {xs : List D} {vs : List V} {bs : List Str}, VRs K ρ n H xs vs → xs.mapM strD = some bs → vs = bs.map V.str
  | [], vs, bs, r, h => by
    rw [VRs] at r
    subst r
    simp at h
    subst h
    rfl
  | x :: xs, vs, bs, r, h => by
    obtain ⟨v, vr, rfl, r1, r2⟩ := r.uncons
    rw [List.mapM_cons] at h
    obtain ⟨b, h1, h⟩ := Option.bind_eq_some_iff.mp h
    obtain ⟨cs, h2, h⟩ := Option.bind_eq_some_iff.mp h
    cases h
    rw [strs_of r2 h2]
    cases x with
    | str b' =>
      cases h1
      obtain rfl : v = .str _ := r1
      rfl
    | _ => cases h1
def fJoin (x : D) (ds : List D) (s : Sto) : Rs D := match x, ds with
  | .str a, [d] => match (seqD s d).bind fun xs => xs.mapM strD with
    | some ys => if (ys.map (·.length)).sum + ys.length * a.length ≤ 16777216 then .ok (.str (Txt.join a ys)) s else .no
    | none => .no
  | _, _ => .no
theorem pm_join : PrM X W fJoin (fun x xs H Q => ∃ a p, ∃ ys : List Str, x = .str a ∧ xs = [.ref p] ∧ (SqL X.K H p (ys.map V.str) ∨ SqT X.K H p (ys.map V.str)) ∧
    (ys.map (·.length)).sum + ys.length * a.length ≤ 16777216 ∧ Q (.str (Txt.join a ys)) H) := by
  intro ρ s H σ x ds v us Q sr r1 r2 po
  unfold fJoin at po
  split at po
  · rename_i a d
    obtain rfl : v = .str a := r1
    obtain ⟨u, rfl, ru⟩ := r2.one
    split at po
    · rename_i ys e
      obtain ⟨hz, po⟩ := Po.ite po
      obtain ⟨xs, h1, h2⟩ := Option.bind_eq_some_iff.mp e
      obtain ⟨p, vs, rfl, sq, rr⟩ := vr_seq sr ru (xs := xs) (by cases d <;> exact h1)
      rw [strs_of rr h2] at sq
      exact ⟨a, p, ys, rfl, rfl, sq, hz, po ρ H _ Ext.refl sr rfl⟩
    · exact po.elim
  · exact po.elim
theorem vrs_strs {K : PySem.W.Frag} {ρ : Nat → Addr} {n : Nat} {H : Hp} : ∀ ys : List Str, VRs K ρ n H (ys.map D.str) (ys.map V.str)
  | [] => VRs.nil
  | _ :: ys => VRs.cons rfl (vrs_strs ys)
def fSplit (x : D) (ds : List D) (s : Sto) : Rs D := match x, ds with
  | .str a, [.str b] => if (b.length == 0) = false ∧ a.length + 2 ≤ sizeLine then .ok (.ref s.length) (s ++ [.lst ((Txt.split a b).map D.str)]) else .no
  | _, _ => .no
theorem pm_split : PrM X W fSplit (fun x xs H Q => ∃ a b, x = .str a ∧ xs = [.str b] ∧ (b.length == 0) = false ∧ a.length + 2 ≤ sizeLine ∧ rNewStrs (Txt.split a b) H Q) := by
  intro ρ s H σ x ds v us Q sr r1 r2 po
  unfold fSplit at po
  split at po
  · rename_i a b
    obtain rfl : v = .str a := r1
    obtain ⟨u, rfl, ru⟩ := r2.one
    obtain rfl : u = .str b := ru
    obtain ⟨⟨h1, h2⟩, po⟩ := Po.ite po
    refine ⟨a, b, rfl, rfl, h1, h2, fun p hp => ?_⟩
    obtain ⟨x1, sr1, v1⟩ := new_lst sr hp (vrs_strs (K := X.K) (ρ := ρ) (n := s.length) (H := H) (Txt.split a b))
    exact po _ _ _ x1 sr1 v1
  · exact po.elim
/-! ### f-strings -/
def fFmt (d : D) (s : Sto) : Rs D := match d with
  | .str y => if y.length ≤ sizeLine then .ok (.str y) s else .no
  | .int i => if i.natAbs.log2 < 1920 then .ok (.str (toString i)) s else .no
  | _ => .no
variable {pos : Pos} {e : Expr} {m : EM D}
theorem je_fmt (he : JE X W e m) : JE X W (.FormattedValue e (-1) none pos) (m1 fFmt m) := PE_imp (pe_fmt he) fun σ H Q ⟨ρ, env, s, sr, er, po⟩ => ⟨ρ, env, s, sr, er, (Po.bind po).imp fun v H1 ⟨ρ1, s1, d1, e1, sr1, r1, po1⟩ => by
  cases d1 with
  | str y =>
    obtain rfl : v = .str y := r1
    obtain ⟨h, po1⟩ := Po.ite (c := y.length ≤ sizeLine) po1
    exact .inl ⟨y, rfl, h, po1 ρ1 H1 _ Ext.refl sr1 rfl⟩
  | int i =>
    obtain rfl : v = .int i := r1
    obtain ⟨h, po1⟩ := Po.ite (c := i.natAbs.log2 < 1920) po1
    exact .inr ⟨i, rfl, h, po1 ρ1 H1 _ Ext.refl sr1 rfl⟩
  | _ => exact po1.elim⟩
def mJs : List (EM D) → Str → Ev → Sto → Rs D
  | [], acc, _, s => .ok (.str acc) s
  | m :: ms, acc, e, s => (m e s).bind fun d s1 => match d with
    | .str y => if (acc ++ y).length ≤ sizeLine then mJs ms (acc ++ y) e s1 else .no
    | _ => .no
inductive JP (X : Cx) (W : WX) : List Expr → List (EM D) → Prop where
  | nil : JP X W [] []
  | cons {e : Expr} {m : EM D} {es : List Expr} {ms : List (EM D)} (h : JE X W e m) (r : JP X W es ms) : JP X W (e :: es) (m :: ms)
theorem JP.pj {es : List Expr} {ms : List (EM D)} (h : JP X W es ms) : PJ X es (ms.map fun m => lE X.K X.mg W m) := by
  induction h with
  | nil => exact .nil
  | cons h _ ih => exact .cons h ih
theorem je_joined {v1 v2 : Expr} {rest : List Expr} {ms : List (EM D)} (h : JP X W (v1 :: v2 :: rest) ms) : JE X W (.JoinedStr (v1 :: v2 :: rest) pos) (mJs ms Str.empty) := by
  refine PE_imp (pe_joined h.pj) fun σ H Q ⟨ρ, env, s, sr, er, po⟩ => ?_
  have all : ∀ (ms : List (EM D)) (acc : Str) (ρ : Nat → Addr) (s : Sto) (H : Hp), SR X.K X.mg ρ s H → EnvR X.K ρ s.length H env σ → Po X.K X.mg (VR X.K) W σ ρ s.length H (mJs ms acc env s) Q → tJs (ms.map fun m => lE X.K X.mg W m) acc σ H fun out H1 => Q (.str out) H1 := by
    intro ms
    induction ms with
    | nil => intro acc ρ s H sr er po; exact po ρ H _ Ext.refl sr rfl
    | cons m ms ih =>
      intro acc ρ s H sr er po
      refine ⟨ρ, env, s, sr, er, (Po.bind (R := VR X.K) po).imp fun v H1 ⟨ρ1, s1, d1, e1, sr1, r1, po1⟩ => ?_⟩
      cases d1 with
      | str y =>
        obtain rfl : v = .str y := r1
        obtain ⟨h, po1⟩ := Po.ite (c := (acc ++ y).length ≤ sizeLine) po1
        exact ⟨y, rfl, h, ih _ ρ1 s1 H1 sr1 (er.mono e1) po1⟩
      | _ => exact po1.elim
  exact all ms Str.empty ρ s H sr er po
end
end Z

set_option Elab.async false
set_option linter.all false
set_option maxRecDepth 100000
set_option maxHeartbeats 4000000
namespace Z
open PySem PySem.Spec PyProof.Rows L2
variable [Row]

section
variable {X : Cx} {W : WX} {pos : Pos}
/-! ### further walks -/
def jEn (n : Nat) : Stp := fun i s => (lstAt s n).map fun xs => (xs[i]?).map fun d => .tup [.int i, d]
def jStr (x : Str) : Stp := fun i _ => some ((x.cps[i]?).map fun c => .str ⟨#[c]⟩)
def jZip (n m : Nat) : Stp := fun i s => match lstAt s n, lstAt s m with
  | some xs, some ys => some (match xs[i]?, ys[i]? with
    | some x, some y => some (.tup [x, y])
    | _, _ => none)
  | _, _ => none
def iEn (ms : EM (List D)) : EM (Nat × Stp) := fun e s => (ms e s).bind fun ds s1 => match ds with
  | [.ref n] => match lstAt s1 n with
    | some xs => .ok (xs.length, jEn n) s1
    | none => .no
  | _ => .no
def iSt (m : EM D) : EM (Nat × Stp) := fun e s => (m e s).bind fun d s1 => match d with
  | .str x => .ok (x.cps.size, jStr x) s1
  | _ => .no
def iZp (ms : EM (List D)) : EM (Nat × Stp) := fun e s => (ms e s).bind fun ds s1 => match ds with
  | [.ref n, .ref m] => match lstAt s1 n, lstAt s1 m with
    | some xs, some ys => .ok (xs.length, jZip n m) s1
    | _, _ => .no
  | _ => .no
theorem ri_en {ρ : Nat → Addr} {n m : Nat} {H : Hp} {N : Nat} (hm : m < n) : RI X.K X.mg ρ n H (N, jEn m) (Ite X.K (ρ m)) := by
  intro ρ' s' H' i e sr
  show match (lstAt s' m).map fun xs => (xs[i]?).map fun d => D.tup [.int i, d] with
    | none => True
    | some none => _
    | some (some d) => _
  cases h : lstAt s' m with
  | none => trivial
  | some xs =>
    obtain ⟨vs, sq, r⟩ := sr.lst h
    rw [e.ag m hm] at sq
    cases hx : xs[i]? with
    | none =>
      simp only [Option.map, hx]
      exact ⟨vs, sq, by rw [r.length]; exact List.getElem?_eq_none_iff.mp hx⟩
    | some d =>
      simp only [Option.map, hx]
      obtain ⟨v, hv, rv⟩ := r.get hx
      refine ⟨⟨vs, v, sq, hv⟩, fun x H'' y => ?_⟩
      obtain ⟨T, u, rfl, hT, rfl, y⟩ := y
      have q := y vs sq
      rw [hv] at q
      cases q
      exact new_tup sr hT (VRs.cons rfl (VRs.cons rv VRs.nil))
theorem ri_str {ρ : Nat → Addr} {n : Nat} {H : Hp} {N : Nat} {x : Str} : RI X.K X.mg ρ n H (N, jStr x) (Its x) := by
  intro ρ' s' H' i e sr
  show match some ((x.cps[i]?).map fun c => D.str ⟨#[c]⟩) with
    | none => True
    | some none => _
    | some (some d) => _
  cases hx : x.cps[i]? with
  | none =>
    simp only [Option.map]
    exact Array.getElem?_eq_none_iff.mp hx
  | some c =>
    simp only [Option.map]
    have hi : i < x.cps.size := (Array.getElem?_eq_some_iff.mp hx).1
    refine ⟨hi, fun v H'' y => ?_⟩
    obtain ⟨rfl, c', hc, rfl⟩ := y
    rw [hx] at hc
    cases hc
    exact ⟨Ext.refl, sr, rfl⟩
theorem ri_zip {ρ : Nat → Addr} {n m m2 : Nat} {H : Hp} {N : Nat} (hm : m < n) (hm2 : m2 < n) : RI X.K X.mg ρ n H (N, jZip m m2) (Itz X.K (ρ m) (ρ m2)) := by
  intro ρ' s' H' i e sr
  show match jZip m m2 i s' with
    | none => True
    | some none => _
    | some (some d) => _
  unfold jZip
  cases h : lstAt s' m with
  | none => trivial
  | some xs =>
    cases h2 : lstAt s' m2 with
    | none => trivial
    | some ys =>
      obtain ⟨vs, sq, r⟩ := sr.lst h
      obtain ⟨us, sq2, r2⟩ := sr.lst h2
      rw [e.ag m hm] at sq
      rw [e.ag m2 hm2] at sq2
      dsimp only
      cases hx : xs[i]? with
      | none => exact ⟨vs, us, sq, sq2, .inl (by rw [r.length]; exact List.getElem?_eq_none_iff.mp hx)⟩
      | some d =>
        cases hy : ys[i]? with
        | none => exact ⟨vs, us, sq, sq2, .inr (by rw [r2.length]; exact List.getElem?_eq_none_iff.mp hy)⟩
        | some d2 =>
          obtain ⟨v, hv, rv⟩ := r.get hx
          obtain ⟨u, hu, ru⟩ := r2.get hy
          refine ⟨⟨vs, us, v, u, sq, sq2, hv, hu⟩, fun z H'' y => ?_⟩
          obtain ⟨T, a, b, rfl, hT, rfl, y1, y2⟩ := y
          have q := y1 vs sq
          have q2 := y2 us sq2
          rw [hv] at q
          rw [hu] at q2
          cases q
          cases q2
          exact new_tup sr hT (VRs.cons rv (VRs.cons ru VRs.nil))
variable {tg e e2 : Expr} {ms : EM (List D)} {m : EM D} {p tpos : Pos} {elts : List Expr} {kk : Nat}
theorem ji_en (hg : Gl X "enumerate") (hm : X.mg "enumerate" = none) (ha : JA X W [e] ms) (hs : starEach [e] X.env = [(false, eval e X.env)] := by rfl) : JI X W (.Tuple elts kk tpos) (.Call (.Name "enumerate" p) [e] [] pos) (iEn ms) :=
  PI_imp (pi_enum hg hm ha hs) fun σ H Q ⟨ρ, env, s, sr, er, po⟩ => ⟨ρ, env, s, sr, er, (Po.bind po).imp fun v H1 ⟨ρ1, s1, d1, e1, sr1, r1, po1⟩ => by
    dsimp only at po1
    split at po1
    · rename_i n
      split at po1
      · rename_i xs hx
        obtain ⟨u, rfl, ru⟩ := r1.one
        rw [VR] at ru
        obtain ⟨hn, rfl⟩ := ru
        obtain ⟨vs, sq, rr⟩ := sr1.lst hx
        exact ⟨_, vs, rfl, sq, po1 ρ1 H1 _ Ext.refl sr1 (ri_en hn)⟩
      · exact po1.elim
    · exact po1.elim⟩
theorem ji_str (he : JE X W e m) : JI X W tg e (iSt m) := PI_imp (pi_str he) fun σ H Q ⟨ρ, env, s, sr, er, po⟩ => ⟨ρ, env, s, sr, er, (Po.bind po).imp fun v H1 ⟨ρ1, s1, d1, e1, sr1, r1, po1⟩ => by
  cases d1 with
  | str x =>
    obtain rfl : v = .str x := r1
    exact ⟨x, rfl, po1 ρ1 H1 _ Ext.refl sr1 ri_str⟩
  | _ => exact po1.elim⟩
theorem ji_zip (hg : Gl X "zip") (hm : X.mg "zip" = none) (ha : JA X W [e, e2] ms) (hs : starEach [e, e2] X.env = (false, eval e X.env) :: starEach [e2] X.env := by rfl) (hpl : (backTo pos (starEach [e2] X.env)).any (·.1) = false := by rfl) :
    JI X W (.Tuple elts kk tpos) (.Call (.Name "zip" p) [e, e2] [] pos) (iZp ms) :=
  PI_imp (pi_zip hg hm ha hs hpl) fun σ H Q ⟨ρ, env, s, sr, er, po⟩ => ⟨ρ, env, s, sr, er, (Po.bind po).imp fun v H1 ⟨ρ1, s1, d1, e1, sr1, r1, po1⟩ => by
    dsimp only at po1
    split at po1
    · rename_i n k
      split at po1
      · rename_i xs ys hx hy
        obtain ⟨u, ur, rfl, ru, rr⟩ := r1.uncons
        obtain ⟨u2, rfl, ru2⟩ := rr.one
        rw [VR] at ru ru2
        obtain ⟨hn, rfl⟩ := ru
        obtain ⟨hk, rfl⟩ := ru2
        obtain ⟨vs, sq, _⟩ := sr1.lst hx
        obtain ⟨us, sq2, _⟩ := sr1.lst hy
        exact ⟨_, _, vs, us, rfl, sq, sq2, po1 ρ1 H1 _ Ext.refl sr1 (ri_zip hn hk)⟩
      · exact po1.elim
    · exact po1.elim⟩
/-! ### int * int, list * int -/
def dMul2 (x y : D) (s : Sto) : Rs D := match x, y with
  | .int i, .int j => if cMul i j then .ok (.int (i * j)) s else .no
  | .ref n, .int k => match s[n]? with
    | some (.lst xs) => if (-(2 ^ 63) ≤ k ∧ k < 2 ^ 63) ∧ xs.length * k.toNat ≤ sizeLine then .ok (.ref s.length) (s ++ [.lst (List.replicate k.toNat xs).flatten]) else .no
    | _ => .no
  | _, _ => .no
def rMuls : R2 := fun x y H Q => rI CMul (fun i j => .int (i * j)) x y H Q ∨ rRep x y H Q
theorem op_muls : OpR X (binaryOp .Mult) rMuls := op_mul.or op_rep
theorem VRs.rep {K : PySem.W.Frag} {ρ : Nat → Addr} {n : Nat} {H : Hp} {ds : List D} {vs : List V} (r : VRs K ρ n H ds vs) : ∀ k : Nat, VRs K ρ n H (List.replicate k ds).flatten (List.replicate k vs).flatten
  | 0 => VRs.nil
  | k + 1 => by
    rw [List.replicate_succ, List.flatten_cons, List.replicate_succ, List.flatten_cons]
    exact r.append (VRs.rep r k)
theorem pr_mul2 : Pr2 X W dMul2 rMuls := by
  intro ρ s H σ x y vx vy Q sr r1 r2 po
  unfold dMul2 at po
  split at po
  · rename_i i j
    obtain ⟨hc, po⟩ := Po.ite po
    obtain rfl : vx = .int i := r1
    obtain rfl : vy = .int j := r2
    exact .inl ⟨i, j, rfl, rfl, hc, po ρ H _ Ext.refl sr rfl⟩
  · rename_i n k
    split at po
    · rename_i xs hx
      obtain ⟨⟨h1, h2⟩, po⟩ := Po.ite po
      rw [VR] at r1
      obtain ⟨_, rfl⟩ := r1
      obtain rfl : vy = .int k := r2
      obtain ⟨vs, hv, rv⟩ := sr.ob _ _ hx
      refine .inr ⟨_, k, vs, rfl, rfl, hv, h1.1, h1.2, by rw [rv.length]; exact h2, fun q hq => ?_⟩
      obtain ⟨x1, sr1, v1⟩ := new_lst sr hq (rv.rep k.toNat)
      exact po _ _ _ x1 sr1 v1
    · exact po.elim
  · exact po.elim
/-! ### isinstance with one built-in class -/
def tyN (s : Sto) : D → Option String
  | .non => some "NoneType"
  | .bl _ => some "bool"
  | .int _ => some "int"
  | .str _ => some "str"
  | .tup _ => some "tuple"
  | .ref n => match s[n]? with
    | some (.lst _) => some "list"
    | some (.frz _) => some "list"
    | some (.dict _ _) => some "dict"
    | _ => none
theorem tyN_ok {K : PySem.W.Frag} {mg : Str → Option Value} {ρ : Nat → Addr} {s : Sto} {H : Hp} (sr : SR K mg ρ s H) {d : D} {v : V} {t : String} (r : VR K ρ s.length H d v) (h : tyN s d = some t) : TyX K H v (.type t) := by
  cases d with
  | non =>
    cases h
    obtain rfl : v = .non := r
    exact .base .non
  | bl b =>
    cases h
    obtain rfl : v = .bl b := r
    exact .base (.bl b)
  | int b =>
    cases h
    obtain rfl : v = .int b := r
    exact .base (.int b)
  | str b =>
    cases h
    obtain rfl : v = .str b := r
    exact .base (.str b)
  | tup ds =>
    cases h
    rw [VR] at r
    obtain ⟨a, vs, rfl, sq, _⟩ := r
    rcases sq with (sq | ⟨o, sq⟩) | ⟨o, its, n, hk, hc, _⟩
    · exact .base (.tup sq)
    · exact .fTuple sq
    · exact .kTuple hk hc
  | ref n =>
    rw [VR] at r
    obtain ⟨_, rfl⟩ := r
    have h2 : (match s[n]? with
      | some (.lst _) => some "list"
      | some (.frz _) => some "list"
      | some (.dict _ _) => some "dict"
      | _ => none) = some t := h
    clear h
    split at h2
    · rename_i xs hx
      cases h2
      obtain ⟨vs, q, _⟩ := sr.ob _ _ hx
      exact .base (.lst q)
    · rename_i xs hx
      cases h2
      obtain ⟨vs, q, _⟩ := sr.ob _ _ hx
      rcases q with ⟨o, q⟩ | ⟨o, its, m, hk, hc, _⟩
      · exact .base (.frz q)
      · exact .kList hk hc
    · rename_i t kvs hx
      cases h2
      have ob := sr.ob _ _ hx
      cases t with
      | false =>
        obtain ⟨vs, q, _⟩ := ob
        exact .base (.dK q)
      | true =>
        obtain ⟨vs, q, _⟩ := ob
        exact .base (.dT q)
    · cases h2
def mIsi (T : String) (m : EM D) : EM D := fun e s => (m e s).bind fun d s1 => match tyN s1 d with
  | some a => match kitB a T with
    | some b => .ok (.bl b) s1
    | none => .no
  | none => .no
theorem je_isi {x : Str} {p1 p2 : Pos} {T : String} (hg : Gl X "isinstance") (hm : X.mg "isinstance" = none) (hg2 : Gl X x) (hm2 : X.mg x = none) (hv : bootBuiltins x = some (.type T)) (he : JE X W e m) (hn : x ≠ "__name__" := by decide) (hdb : (x == ("__debug__" : Str)) = false := by decide)
    (hs : starEach [e, .Name x p2] X.env = (false, eval e X.env) :: starEach [.Name x p2] X.env := by rfl) (hpl : (backTo pos (starEach [.Name x p2] X.env)).any (·.1) = false := by rfl) (hs2 : starEach [.Name x p2] X.env = (false, eval (.Name x p2) X.env) :: starEach [] X.env := by rfl) :
    JE X W (.Call (.Name "isinstance" p1) [e, .Name x p2] [] pos) (mIsi T m) := by
  refine PE_imp (pe_callB call_isi hg hm boot_isinstance (pa_cons he (pa_cons (pe_bltn (v := .ty T) hg2 hm2 hv rfl hn hdb) pa_nil hs2) hs) (he := hs) (hpl := hpl)) fun σ H Q ⟨ρ, env, s, sr, er, po⟩ => ⟨ρ, env, s, sr, er, (Po.bind po).imp fun v H1 ⟨ρ1, s1, d1, e1, sr1, r1, po1⟩ => ?_⟩
  dsimp only at po1
  split at po1
  · rename_i a ha
    split at po1
    · rename_i b hb
      exact ⟨v, .ty T, .type a, .type T, b, rfl, .ty T, tyN_ok sr1 r1 ha, kit_ty hb, po1 ρ1 H1 _ Ext.refl sr1 rfl⟩
    · exact po1.elim
  · exact po1.elim
/-! ### repr of data -/
def fRepr (ds : List D) (s : Sto) : Rs D := match ds with
  | [d] => match shp s d with
    | some p => if p.showable = true ∧ p.shown.length ≤ sizeLine then .ok (.str p.shown) s else .no
    | none => .no
  | _ => .no
def rReprD (K : PySem.W.Frag) : List V → Hp → VK → Prop := fun xs H Q => ∃ v p, xs = [v] ∧ Dp K H v p ∧ SeqAt.shaped p = true ∧ p.showable = true ∧ p.shown.length ≤ sizeLine ∧ Q (.str p.shown) H
theorem noDict_lay : (∀ d : PyData, d.canLay0 = true → d.hasDict = false) ∧ ∀ ds : List PyData, PyData.canLayAll0 ds = true → PyData.hasDictAll ds = false := by
  have h : ∀ n, (∀ d : PyData, sizeOf d < n → d.canLay0 = true → d.hasDict = false) ∧ ∀ ds : List PyData, sizeOf ds < n → PyData.canLayAll0 ds = true → PyData.hasDictAll ds = false := by
    intro n
    induction n with
    | zero => exact ⟨fun _ h => absurd h (Nat.not_lt_zero _), fun _ h => absurd h (Nat.not_lt_zero _)⟩
    | succ n ih =>
      refine ⟨fun d hd hl => ?_, fun ds hd hl => ?_⟩
      · cases d with
        | list xs =>
          rw [PyData.canLay0] at hl
          rw [PyData.hasDict]
          exact ih.2 xs (by simp at hd; omega) hl
        | tuple xs =>
          rw [PyData.canLay0] at hl
          rw [PyData.hasDict]
          exact ih.2 xs (by simp at hd; omega) hl
        | dict kvs => simp [PyData.canLay0] at hl
        | _ => rfl
      · cases ds with
        | nil => rfl
        | cons d ds =>
          rw [PyData.canLayAll0, Bool.and_eq_true] at hl
          rw [PyData.hasDictAll, ih.1 d (by simp at hd; omega) hl.1, ih.2 ds (by simp at hd; omega) hl.2]
          rfl
  exact ⟨fun d => (h _).1 d (Nat.lt_succ_self _), fun ds => (h _).2 ds (Nat.lt_succ_self _)⟩
theorem call_reprD (hg : X.A.guards = some []) (hu : X.A.units + 66 < cLine) : CallR X (.builtin "repr") (rReprD X.K) := by
  intro pins s σ H xs us Q I r h
  obtain ⟨v, p, rfl, dp, sh, hs, hz, q⟩ := h
  obtain ⟨u, rfl, ru⟩ := vals1 r
  cases dp with
  | non =>
    cases ru
    exact PySem.P.repr_of_none ⟨.str _, H, I.tok _, ⟨_, rfl⟩, q⟩
  | bl b =>
    cases ru
    refine PySem.P.repr_of_bool ⟨.str _, H, I.tok _, ⟨_, rfl⟩, ?_⟩
    cases b <;> exact q
  | int i =>
    obtain ⟨t, rfl⟩ := ru
    exact PySem.P.repr_of_int (of_decide_eq_true hs) ⟨.str _, H, I.tok _, ⟨_, rfl⟩, q⟩
  | str x =>
    obtain ⟨t, rfl⟩ := ru
    exact PySem.P.repr_of_str ⟨.str _, H, I.tok _, ⟨_, rfl⟩, q⟩ hz
  | lst sq ha =>
    obtain ⟨as, rd⟩ := Dp.reads I _ _ _ (Dp.lst sq ha) ru
    cases ru
    exact repr_of_reads' rd hs (PyData.noDict_hsm (noDict_lay.1 _ (SeqAt.canLay_of_shaped sh))) hg (by have := SeqAt.depth_of_shaped sh; omega) (fun _ _ e => e) (fun h' u tk kk => ⟨.str _, H, I.kept kk, ⟨_, rfl⟩, q⟩) hz
  | tup sq ha =>
    obtain ⟨as, rd⟩ := Dp.reads I _ _ _ (Dp.tup sq ha) ru
    cases ru
    exact repr_of_reads' rd hs (PyData.noDict_hsm (noDict_lay.1 _ (SeqAt.canLay_of_shaped sh))) hg (by have := SeqAt.depth_of_shaped sh; omega) (fun _ _ e => e) (fun h' u tk kk => ⟨.str _, H, I.kept kk, ⟨_, rfl⟩, q⟩) hz
theorem pn_repr : PrN X W fRepr (rReprD X.K) := by
  intro ρ s H σ xs vs Q sr r po
  unfold fRepr at po
  split at po
  · rename_i d
    obtain ⟨v, rfl, rv⟩ := r.one
    split at po
    · rename_i p hp
      obtain ⟨⟨h1, h2⟩, po⟩ := Po.ite po
      obtain ⟨a1, a2⟩ := shp_dp sr hp rv
      exact ⟨v, p, rfl, a1, a2, h1, h2, po ρ H _ Ext.refl sr rfl⟩
    · exact po.elim
  · exact po.elim
end
section
variable {X : Cx} {W : WX} {pos spos : Pos} {elt tg iter : Expr} {ifs : List Expr} {scope : Scope} {own : List (Str × Nat)} {mi : EM (Nat × Stp)} {g : GN} {is : List Nat} {t : EM Bool} {m : EM D} {i : Nat} {y : Str} {py : Pos}
/-- y = [..] on one line -/
theorem js_setLc {g' : TG} (hc : X.calm = true) (hN : X.N.Nodup) (hy : X.N[i]? = some y) (hyl : X.env.scope.names.lookup y = some .local)
    (hsw : swapsWith (.ListComp elt [⟨tg, iter, ifs, 0⟩] scope pos) (some (.Name y py)) spos.line X.env = pure true) (hi : JI X W tg iter mi) (ok : BlkOk X.N X.env.scope scope own) (his : ∀ i ∈ is, i ∈ own.map (·.2))
    (hg' : ∀ (s : Shared) (H : Hp) (C : Addr) (cl : List (Str × Addr)) (fp : List Addr), PG (X.blk s H scope (compEnvC scope cl C X.env) fp) tg g') (gq : GQ X.K g is g')
    (ht : ∀ (s : Shared) (H : Hp) (C : Addr) (cl : List (Str × Addr)) (fp : List Addr), PTs (X.blk s H scope (compEnvC scope cl C X.env) fp) ifs (lT X.K X.mg WF t))
    (he : ∀ (s : Shared) (H : Hp) (C : Addr) (cl : List (Str × Addr)) (fp : List Addr), JE (X.blk s H scope (compEnvC scope cl C X.env) fp) WF elt m) (hs : ∀ x, foldedSetIterable iter X.env x = pure x := by intro _; rfl) :
    JS X W (.Assign [.Name y py] (.ListComp elt [⟨tg, iter, ifs, 0⟩] scope pos) spos) (sA i (mL mi g t m (own.map (·.2)))) := by
  exact PS_imp (ps_setLc hc hN hy hyl hsw hi ok hg' ht he hs) fun σ H D ⟨ρ, env, s, sr, er, po⟩ =>
    llc (Q := fun x H1 => D.nx (σ.set i (some x)) H1) his gq (fun _ _ _ z => z) (fun _ _ _ z => z) ⟨ρ, env, s, sr, er, (PoS.st (R := VR X.K) er po).imp fun v H1 ⟨ρ1, s1, d1, e1, sr1, r1, er1, po1⟩ => po1 ρ1 H1 _ Ext.refl sr1 (er1.set r1)⟩
end
end Z

set_option Elab.async false
set_option linter.all false
set_option maxRecDepth 100000
set_option maxHeartbeats 4000000
namespace Z
open PySem PySem.Spec PyProof.Rows L2
variable [Row]

section
variable {X : Cx} {W : WX} {pos : Pos} {e : Expr} {m : EM D}
/-! ### truth -/
def trD (s : Sto) : D → Option Bool
  | .non => some false
  | .bl b => some b
  | .int i => some (i != 0)
  | .str y => if y.length ≤ sizeLine then some ((y.length : Int) != 0) else none
  | .tup xs => some (!xs.isEmpty)
  | .ref n => match s[n]? with
    | some (.lst xs) => some (!xs.isEmpty)
    | some (.frz xs) => some (!xs.isEmpty)
    | _ => none
theorem VRs.isEmpty {K : PySem.W.Frag} {ρ : Nat → Addr} {n : Nat} {H : Hp} {ds : List D} {vs : List V} (r : VRs K ρ n H ds vs) : ds.isEmpty = vs.isEmpty := by
  have := r.length
  cases ds <;> cases vs <;> first | rfl | simp at this
theorem trD_ok {K : PySem.W.Frag} {mg : Str → Option Value} {ρ : Nat → Addr} {s : Sto} {H : Hp} (sr : SR K mg ρ s H) {d : D} {v : V} {b : Bool} (r : VR K ρ s.length H d v) (h : trD s d = some b) : TruV K v H b := by
  cases d with
  | non =>
    cases h
    obtain rfl : v = .non := r
    rfl
  | bl c =>
    cases h
    obtain rfl : v = .bl b := r
    rfl
  | int c =>
    cases h
    obtain rfl : v = .int c := r
    rfl
  | str c =>
    obtain rfl : v = .str c := r
    have h2 : (if c.length ≤ sizeLine then some ((c.length : Int) != 0) else none) = some b := h
    clear h
    split at h2
    · rename_i hl
      cases h2
      exact ⟨hl, rfl⟩
    · cases h2
  | tup ds =>
    cases h
    rw [VR] at r
    obtain ⟨a, vs, rfl, sq, rr⟩ := r
    exact .inr (.inl ⟨vs, sq, by rw [rr.isEmpty]⟩)
  | ref n =>
    rw [VR] at r
    obtain ⟨_, rfl⟩ := r
    have h2 : (match s[n]? with
      | some (.lst xs) => some (!xs.isEmpty)
      | some (.frz xs) => some (!xs.isEmpty)
      | _ => none) = some b := h
    clear h
    split at h2
    · rename_i xs hx
      cases h2
      obtain ⟨vs, sq, rr⟩ := sr.lst (n := n) (xs := xs) (by unfold lstAt; rw [hx])
      exact .inl ⟨vs, sq, by rw [rr.isEmpty]⟩
    · rename_i xs hx
      cases h2
      obtain ⟨vs, sq, rr⟩ := sr.lst (n := n) (xs := xs) (by unfold lstAt; rw [hx])
      exact .inl ⟨vs, sq, by rw [rr.isEmpty]⟩
    · cases h2
def toT (m : EM D) : EM Bool := fun e s => (m e s).bind fun d s1 => match trD s1 d with
  | some b => .ok b s1
  | none => .no
theorem jt_tru (h : JE X W e m) (he : ∀ whole, isTrue e X.env whole = (do let v ← whole; standAt e.pos; holding [v] (truthy v)) := by intro _; rfl) : JT X W e (toT m) :=
  PT_imp (pt_truth h he) fun σ H Q ⟨ρ, env, s, sr, er, po⟩ => ⟨ρ, env, s, sr, er, (Po.bind po).imp fun v H1 ⟨ρ1, s1, d1, e1, sr1, r1, po1⟩ => by
    dsimp only at po1
    split at po1
    · rename_i b hb
      exact ⟨b, trD_ok sr1 r1 hb, po1 ρ1 H1 _ Ext.refl sr1 rfl⟩
    · exact po1.elim⟩
/-- a module's tuple -/
def TupC (K : PySem.W.Frag) (mg : Str → Option Value) (x : Str) (ds : List D) : Prop := ∃ a vs, mg x = some (.ref a) ∧ (∀ H, SqT K H a vs) ∧ ∀ ρ n H, VRs K ρ n H ds vs
theorem je_gt {x : Str} {ds : List D} (hg : Gl X x) (h : TupC X.K X.mg x ds) (hd : (x == ("__debug__" : Str)) = false := by decide) : JE X W (.Name x pos) (mC (.tup ds)) := by
  obtain ⟨a, vs, h1, h2, h3⟩ := h
  exact je_gtup hg h1 h2 h3 hd
end
/-! ### the head's facts: any check of the written part -/
abbrev AlZ : Type := Bool × List He.FnW
def obsZ (chk : PySem.W.Frag → Bool) (fn : List He.DefD) (K : PySem.W.Frag) : AlZ := (chk K && fn.all fun d => d.ok K, fn.map fun d => He.fnW K d.at_)
def valZ (fn : List He.DefD) : AlZ := (true, fn.map He.DefD.val)
def SaysZ (chk : PySem.W.Frag → Bool) (fn : List He.DefD) (K : PySem.W.Frag) : Prop := obsZ chk fn K = valZ fn
def obsZG (n : Nat) (chk : PySem.W.Frag → Bool) (fn : List He.DefD) (g : Addr → Option Obj) : AlZ := obsZ chk fn (He.frG g (He.asD g n))
def hookZ (n : Nat) (chk : PySem.W.Frag → Bool) (fn : List He.DefD) : PySem.W.Hook where
  α := AlZ
  obs := fun s => obsZG n chk fn s.heap.get?
  val := fun _ => valZ fn
  says := fun _ h => ∃ K : PySem.W.Frag, K.In h ∧ SaysZ chk fn K
  of := fun _ _ e => ⟨_, He.frG_in, e⟩
  keeps := fun _ _ _ ⟨K, hK, c⟩ k => ⟨K, PySem.W.Frag.In.keeps hK k, c⟩
omit [Row] in
theorem obsZG_eq {n : Nat} {chk : PySem.W.Frag → Bool} {fn : List He.DefD} {g : Addr → Option Obj} {s : Shared} (h : ∀ a, g a = s.heap.get? a) : obsZG n chk fn g = (hookZ n chk fn).obs s := by
  have e : g = s.heap.get? := funext h
  rw [e] <;> rfl
section
variable {chk : PySem.W.Frag → Bool} {fn : List He.DefD} {K : PySem.W.Frag}
theorem SaysZ.ok_ (c : SaysZ chk fn K) : chk K = true := (He.ba (show (chk K && fn.all fun d => d.ok K) = true from congrArg (fun z : AlZ => z.1) c)).1
theorem SaysZ.def_ (c : SaysZ chk fn K) (i : Nat) {d : He.DefD} (h : fn[i]? = some d := by rfl) : ∃ fd, FunD K d.name d.qual d.params d.body d.scope (d.dvs K) (d.kws K) (He.fAd K d.at_) fd := by
  have c2 := (He.ba (show (chk K && fn.all fun d => d.ok K) = true from congrArg (fun z : AlZ => z.1) c)).2
  have e : fn.map (fun d => He.fnW K d.at_) = fn.map He.DefD.val := congrArg (fun z : AlZ => z.2) c
  have e2 : (fn.map fun d => He.fnW K d.at_)[i]? = (fn.map He.DefD.val)[i]? := by rw [e]
  rw [List.getElem?_map, List.getElem?_map, h] at e2
  exact He.DefD.funD (Option.some.inj e2) (List.all_eq_true.mp c2 d (List.mem_of_getElem? h))
/-- the checks by number -/
def chkAll (fa : List He.Fa) (ts : List (Str × List He.Dv)) (K : PySem.W.Frag) : Bool := (fa.all fun f => f.ok K) && ts.all fun t => He.tupB K t.1 t.2
theorem chk_fa {fa : List He.Fa} {ts : List (Str × List He.Dv)} (h : chkAll fa ts K = true) (i : Nat) {f : He.Fa} (e : fa[i]? = some f := by rfl) : f.ok K = true := List.all_eq_true.mp (He.ba h).1 f (List.mem_of_getElem? e)
def dvD : He.Dv → D
  | .non => .non
  | .bl b => .bl b
  | .int i => .int i
  | .str x => .str x
  | _ => .non
def plainDv : He.Dv → Bool
  | .non => true
  | .bl _ => true
  | .int _ => true
  | .str _ => true
  | _ => false
theorem vrs_dv {ρ : Nat → Addr} {n : Nat} {H : Hp} : ∀ ds : List He.Dv, ds.all plainDv = true → VRs K ρ n H (ds.map dvD) (ds.map (He.Dv.v K))
  | [], _ => VRs.nil
  | d :: ds, h => by
    rw [List.all_cons, Bool.and_eq_true] at h
    refine VRs.cons ?_ (vrs_dv ds h.2)
    cases d <;> first | rfl | cases h.1
theorem chk_tup {fa : List He.Fa} {ts : List (Str × List He.Dv)} (h : chkAll fa ts K = true) {hp : Heap} {mg : Str → Option Value} (X : K.In hp) (G : hp.Ns mainGlobals mg) (i j : Nat) {x : Str} {ds : List He.Dv} (e : ts[i]? = some (x, ds) := by rfl) (e2 : fa[j]? = some (.glo x) := by rfl) (hd : ds.all plainDv = true := by rfl) :
    TupC K mg x (ds.map dvD) :=
  ⟨He.ga K x, ds.map (He.Dv.v K), He.glo_ok X G (chk_fa h j e2), fun H => He.tupB_ok (List.all_eq_true.mp (He.ba h).2 _ (List.mem_of_getElem? e)) H, fun ρ n H => vrs_dv ds hd⟩
end
end Z

set_option Elab.async false
set_option linter.all false
set_option maxRecDepth 100000
set_option maxHeartbeats 4000000
namespace Z
open PySem PySem.Spec PyProof.Rows L2
variable [Row]
theorem hu64 {a c : Nat} (h : a + 100 < c) : a + 64 < c := by omega
theorem hu65 {a c : Nat} (h : a + 100 < c) : a + 65 < c := by omega
theorem hu66 {a c : Nat} (h : a + 100 < c) : a + 66 < c := by omega
section
variable {X : Cx} {W : WX}
theorem jts_nil : PTs X [] (lT X.K X.mg W tY) := ⟨fun _ _ _ H _ I ⟨ρ, env, s, sr, er, po⟩ => wpAny_tests_nil ⟨H, I, po ρ H true Ext.refl sr rfl⟩⟩
def dIsN2 (x y : D) (s : Sto) : Rs D := match y with | .non => dIsN false x s | _ => .no
def dNotN2 (x y : D) (s : Sto) : Rs D := match y with | .non => dIsN true x s | _ => .no
theorem pr_isN2 : Pr2 X W dIsN2 (fun x y H Q => y = .non ∧ Q (.bl (decide (x = .non))) H) := pr_isN
theorem pr_notN2 : Pr2 X W dNotN2 (fun x y H Q => y = .non ∧ Q (.bl (!decide (x = .non))) H) := pr_notN
end
end Z

set_option Elab.async false
set_option linter.all false
set_option maxRecDepth 100000
set_option maxHeartbeats 4000000
namespace Z
open PySem PySem.Spec PyProof.Rows L2
/-! ### what a mirror answers: weakest preconditions -/
/-- an equation that simp takes as a proof, not as a computation -/
theorem nr {α : Sort u} {a b : α} (h : a = b) : a = b := h
def NE : Str → Str → D → Sto → Prop := fun _ _ _ _ => False
def Rs.wp {α : Type} (r : Rs α) (P : α → Sto → Prop) (E : Str → Str → D → Sto → Prop := NE) : Prop := match r with
  | .ok a s => P a s
  | .ex c f v s => E c f v s
  | .no => False
structure En where
  nx : Ev → Sto → Prop
  rt : D → Sto → Prop
  bk : Ev → Sto → Prop := fun _ _ => False
  ct : Ev → Sto → Prop := fun _ _ => False
  ex : Str → Str → D → Ev → Sto → Prop := fun _ _ _ _ _ => False
def RS.wp (r : RS) (Q : En) : Prop := match r with
  | .nx e s => Q.nx e s
  | .rt d s => Q.rt d s
  | .bk e s => Q.bk e s
  | .ct e s => Q.ct e s
  | .ex c f v e s => Q.ex c f v e s
  | .no => False
section
variable {α β : Type} {P : α → Sto → Prop} {P' : β → Sto → Prop} {E : Str → Str → D → Sto → Prop} {Q : En} {e : Ev} {s : Sto} {r : Rs α}
@[simp ↓] theorem z_ok {a : α} : (Rs.ok a s).wp P E = P a s := nr rfl
@[simp ↓] theorem z_ex {c f : Str} {v : D} : (Rs.ex c f v s : Rs α).wp P E = E c f v s := nr rfl
@[simp ↓] theorem z_no : (Rs.no : Rs α).wp P E = False := nr rfl
theorem z_bind {k : α → Sto → Rs β} : (r.bind k).wp P' E = r.wp (fun a s => (k a s).wp P' E) E := by cases r <;> rfl
theorem z_st {k : α → Sto → RS} : (r.st e k).wp Q = r.wp (fun a s => (k a s).wp Q) (fun c f v s => Q.ex c f v e s) := by cases r <;> rfl
theorem z_seq {r : RS} {k : SM} : (r.seq k).wp Q = r.wp { Q with nx := fun e s => (k e s).wp Q } := by cases r <;> rfl
@[simp ↓] theorem z_nx : (RS.nx e s).wp Q = Q.nx e s := nr rfl
@[simp ↓] theorem z_rt {d : D} : (RS.rt d s).wp Q = Q.rt d s := nr rfl
@[simp ↓] theorem z_bk : (RS.bk e s).wp Q = Q.bk e s := nr rfl
@[simp ↓] theorem z_ct : (RS.ct e s).wp Q = Q.ct e s := nr rfl
@[simp ↓] theorem z_rex {c f : Str} {v : D} : (RS.ex c f v e s).wp Q = Q.ex c f v e s := nr rfl
@[simp ↓] theorem z_rno : (RS.no).wp Q = False := nr rfl
theorem z_fin {r : RS} {P : D → Sto → Prop} : (r.fin).wp P E = r.wp { nx := fun _ s => P .non s, rt := P, ex := fun c f v _ s => E c f v s } := by cases r <;> rfl
theorem z_nox {P : α → Sto → Prop} : (r.nox).wp P E = r.wp P NE := by cases r <;> rfl
theorem wp_mono {P2 : α → Sto → Prop} {E2 : Str → Str → D → Sto → Prop} (h : r.wp P E) (hP : ∀ a s, P a s → P2 a s) (hE : ∀ c f v s, E c f v s → E2 c f v s) : r.wp P2 E2 := by
  cases r with
  | ok a s => exact hP a s h
  | ex c f v s => exact hE c f v s h
  | no => exact h
/-- the wish kept apart -/
theorem wp_of {P : α → Sto → Prop} (h : ∀ P2 : α → Sto → Prop, (∀ a s, P a s → P2 a s) → r.wp P2 E) : r.wp P E := h P fun _ _ h => h
/-- no error came: whatever is asked of errors -/
theorem wp_ne {P2 : α → Sto → Prop} (h : r.wp P) (hP : ∀ a s, P a s → P2 a s) : r.wp P2 E := wp_mono h hP fun _ _ _ _ z => z.elim
theorem z_fnM {ps n : Nat} {m : SM} {ds : List D} {P : D → Sto → Prop} (h : ds.length = ps) : (fnM ps n m ds s).wp P E = (m (ds.map some ++ List.replicate (n - ds.length) none) s).wp { nx := fun _ s => P .non s, rt := P, ex := fun c f v _ s => E c f v s } := by
  unfold fnM
  rw [if_pos h, z_fin]
theorem RS.wp_mono {r : RS} {Q Q2 : En} (h : r.wp Q) (h1 : ∀ e s, Q.nx e s → Q2.nx e s) (h2 : ∀ e s, Q.rt e s → Q2.rt e s) (h3 : ∀ e s, Q.bk e s → Q2.bk e s) (h4 : ∀ e s, Q.ct e s → Q2.ct e s) (h5 : ∀ c f v e s, Q.ex c f v e s → Q2.ex c f v e s) : r.wp Q2 := by
  cases r with
  | nx e s => exact h1 e s h
  | rt d s => exact h2 d s h
  | bk e s => exact h3 e s h
  | ct e s => exact h4 e s h
  | ex c f v e s => exact h5 c f v e s h
  | no => exact h
end
theorem ok_of_wp {r : Rs D} {d : D} (h : r.wp fun a _ => a = d) : ∃ s', r = .ok d s' := by
  cases r with
  | ok a s =>
    have h : a = d := h
    exact ⟨s, by rw [h]⟩
  | ex c f v s => exact h.elim
  | no => exact h.elim
/-! ### for, comprehensions by an invariant -/
section
variable {j : Stp} {g : GN} {body : SM} {Q : En} {N : Nat}
/-- one round of a for -/
def ForStep (j : Stp) (g : GN) (body : SM) (Q : En) (I : Nat → Ev → Sto → Prop) (N i : Nat) (e : Ev) (s : Sto) : Prop :=
  (i = N → j i s = some none ∧ Q.nx e s) ∧ (i < N → ∃ d e1, j i s = some (some d) ∧ g d e = some e1 ∧ (body e1 s).wp { nx := I (i + 1), ct := I (i + 1), bk := Q.nx, rt := Q.rt, ex := Q.ex })
theorem forL_wp (I : Nat → Ev → Sto → Prop) (st : ∀ i e s, i ≤ N → I i e s → ForStep j g body Q I N i e s) : ∀ (f i : Nat) (e : Ev) (s : Sto), i + f = N → I i e s → (forL j g body f i e s).wp Q
  | 0, i, e, s, h, hi => by
    obtain ⟨h1, h2⟩ := (st i e s (by omega) hi).1 (by omega)
    unfold forL
    rw [h1]
    exact h2
  | f + 1, i, e, s, h, hi => by
    obtain ⟨d, e1, h1, h2, h3⟩ := (st i e s (by omega) hi).2 (by omega)
    unfold forL
    rw [h1]
    dsimp only
    rw [h2]
    dsimp only
    cases hb : body e1 s with
    | nx e2 s2 =>
      rw [hb] at h3
      exact forL_wp I st f (i + 1) e2 s2 (by omega) h3
    | ct e2 s2 =>
      rw [hb] at h3
      exact forL_wp I st f (i + 1) e2 s2 (by omega) h3
    | bk e2 s2 => rw [hb] at h3; exact h3
    | rt d s2 => rw [hb] at h3; exact h3
    | ex c f v e s => rw [hb] at h3; exact h3
    | no => rw [hb] at h3; exact h3
variable {t : EM Bool} {m : EM D} {P : D → Sto → Prop} {l : Nat}
def LcStep (j : Stp) (g : GN) (t : EM Bool) (m : EM D) (l : Nat) (I : Nat → List D → Sto → Prop) (N i : Nat) (acc : List D) (e : Ev) (s : Sto) : Prop :=
  (i = N → j i s = some none) ∧ (i < N → ∃ d e1, j i s = some (some d) ∧ g d e = some e1 ∧
    (t e1 s).wp fun q s1 => if q then (m e1 s1).wp fun y s2 => s2[l]? = some (.lst acc) ∧ acc.length < sizeLine ∧ I (i + 1) (acc ++ [y]) (s2.set l (.lst (acc ++ [y])))
      else s1[l]? = some (.lst acc) ∧ I (i + 1) acc s1)
theorem lcL_wp (I : Nat → List D → Sto → Prop) {e : Ev} (st : ∀ i acc s, i ≤ N → I i acc s → s[l]? = some (.lst acc) → LcStep j g t m l I N i acc e s) : ∀ (f i : Nat) (acc : List D) (s : Sto), i + f = N → I i acc s → s[l]? = some (.lst acc) →
    (lcL j g t m l f i e s).wp fun d s' => d = .ref l ∧ ∃ ys, s'[l]? = some (.lst ys) ∧ I N ys s'
  | 0, i, acc, s, h, hi, hl => by
    have h1 := (st i acc s (by omega) hi hl).1 (by omega)
    unfold lcL
    rw [h1]
    have e1 : i = N := by omega
    subst e1
    exact ⟨rfl, acc, hl, hi⟩
  | f + 1, i, acc, s, h, hi, hl => by
    obtain ⟨d, e1, h1, h2, h3⟩ := (st i acc s (by omega) hi hl).2 (by omega)
    unfold lcL
    rw [h1]
    dsimp only
    rw [h2]
    dsimp only
    rw [z_bind, z_nox]
    refine wp_mono h3 (fun q s1 h4 => ?_) fun _ _ _ _ z => z.elim
    cases q with
    | true =>
      rw [if_pos rfl] at h4 ⊢
      rw [z_bind, z_nox]
      refine wp_mono h4 (fun y s2 h5 => ?_) fun _ _ _ _ z => z.elim
      obtain ⟨h6, h7, h8⟩ := h5
      rw [h6]
      dsimp only
      rw [if_pos h7]
      have hl2 : l < s2.length := (List.getElem?_eq_some_iff.mp h6).1
      exact lcL_wp I st f (i + 1) _ _ (by omega) h8 (by rw [List.getElem?_set_self hl2])
    | false =>
      simp only [Bool.false_eq_true, ↓reduceIte] at h4 ⊢
      exact lcL_wp I st f (i + 1) _ _ (by omega) h4.2 h4.1
end
/-! ### what a piece of code leaves as it was -/
/-- the bags: lists of two whole numbers -/
def Bag (s : Sto) (k : Nat) : Prop := ∃ a b : Int, s[k]? = some (.lst [.int a, .int b])
/-- from s to t: only the bags ks are changed -/
structure Eff (ks : List Nat) (s t : Sto) : Prop where
  le : s.length ≤ t.length
  eq : ∀ i, i < s.length → i ∉ ks → t[i]? = s[i]?
  bag : ∀ k ∈ ks, Bag s k → Bag t k
theorem Eff.refl {ks : List Nat} {s : Sto} : Eff ks s s := ⟨Nat.le_refl _, fun _ _ _ => rfl, fun _ _ h => h⟩
theorem Bag.lt {s : Sto} {k : Nat} (h : Bag s k) : k < s.length := by
  obtain ⟨a, b, h⟩ := h
  exact (List.getElem?_eq_some_iff.mp h).1
theorem Eff.trans {ks : List Nat} {s t u : Sto} (h : Eff ks s t) (h2 : Eff ks t u) : Eff ks s u :=
  ⟨Nat.le_trans h.le h2.le, fun i hi hk => (h2.eq i (Nat.lt_of_lt_of_le hi h.le) hk).trans (h.eq i hi hk), fun k hk hb => h2.bag k hk (h.bag k hk hb)⟩
theorem Eff.sub {ks js : List Nat} {s t : Sto} (h : Eff ks s t) (hs : ∀ k ∈ ks, k ∈ js) : Eff js s t := ⟨h.le, fun i hi hk => h.eq i hi fun hm => hk (hs i hm), fun k hk hb => by
  by_cases hm : k ∈ ks
  · exact h.bag k hm hb
  · obtain ⟨a, b, e⟩ := hb
    exact ⟨a, b, by rw [h.eq k (List.getElem?_eq_some_iff.mp e).1 hm]; exact e⟩⟩
theorem Eff.nil {js : List Nat} {s t : Sto} (h : Eff [] s t) : Eff js s t := h.sub fun _ h => by simp at h
theorem Eff.push {ks : List Nat} {s : Sto} {o : SO} : Eff ks s (s ++ [o]) := ⟨by simp, fun i hi _ => List.getElem?_append_left hi, fun k _ hb => by
  obtain ⟨a, b, e⟩ := hb
  exact ⟨a, b, by rw [List.getElem?_append_left (List.getElem?_eq_some_iff.mp e).1]; exact e⟩⟩
/-- a place made since is written -/
theorem Eff.set {ks : List Nat} {s t : Sto} (h : Eff ks s t) {n : Nat} {o : SO} (hn : s.length ≤ n) : Eff ks s (t.set n o) :=
  ⟨by simpa using h.le, fun i hi hk => by rw [List.getElem?_set_ne (by omega)]; exact h.eq i hi hk, fun k hk hb => by
    have hlt := hb.lt
    obtain ⟨a, b, e⟩ := h.bag k hk hb
    exact ⟨a, b, by rw [List.getElem?_set_ne (by omega)]; exact e⟩⟩
theorem Eff.get {ks : List Nat} {s t : Sto} (h : Eff ks s t) {i : Nat} {o : SO} (e : s[i]? = some o) (hi : i ∉ ks) : t[i]? = some o := by
  rw [h.eq i (List.getElem?_eq_some_iff.mp e).1 hi]
  exact e
theorem Eff.lst {ks : List Nat} {s t : Sto} (h : Eff ks s t) {i : Nat} {xs : List D} (e : lstAt s i = some xs) (hi : i ∉ ks) : lstAt t i = some xs := by
  have hl : i < s.length := lstAt_lt e
  unfold lstAt at e ⊢
  rw [h.eq i hl hi]
  exact e
theorem Bag.lst {s : Sto} {k : Nat} (h : Bag s k) : ∃ a b : Int, s[k]? = some (.lst [.int a, .int b]) ∧ lstAt s k = some [.int a, .int b] := by
  obtain ⟨a, b, e⟩ := h
  exact ⟨a, b, e, by unfold lstAt; rw [e]⟩
end Z

set_option Elab.async false
set_option linter.all false
set_option maxRecDepth 100000
set_option maxHeartbeats 4000000
namespace Z
open PySem PySem.Spec PyProof.Rows L2
/-! ### the steps of a mirror, for simp: outermost first -/
section
variable {P : D → Sto → Prop} {PL : List D → Sto → Prop} {PB : Bool → Sto → Prop} {PO : Option Int → Sto → Prop} {PI : Nat × Stp → Sto → Prop} {E : Str → Str → D → Sto → Prop} {Q : En} {e : Ev} {s : Sto}
variable {a b c : EM D} {ms : EM (List D)} {t u : EM Bool} {i : Nat} {d x y : D} {f h : D → D → Sto → Rs D} {f1 : D → Sto → Rs D} {fN : List D → Sto → Rs D} {fM : D → List D → Sto → Rs D}
theorem z_ite {c : Prop} [Decidable c] {α : Type} {a b : Rs α} {P : α → Sto → Prop} : (if c then a else b).wp P E = if c then a.wp P E else b.wp P E := by split <;> rfl
theorem z_iteS {c : Prop} [Decidable c] {a b : RS} : (if c then a else b).wp Q = if c then a.wp Q else b.wp Q := by split <;> rfl
theorem z_iteN {c : Prop} [Decidable c] {α : Type} {a : Rs α} {P : α → Sto → Prop} : (if c then a else .no).wp P E = (c ∧ a.wp P E) := by
  by_cases h : c <;> simp [h, Rs.wp]
/-- the value in a slot -/
def slotP (o : Option (Option D)) (P : D → Prop) : Prop := match o with
  | some (some d) => P d
  | _ => False
@[simp ↓] theorem slotP_some {P : D → Prop} : slotP (some (some d)) P = P d := nr rfl
@[simp ↓] theorem slotP_none {P : D → Prop} : slotP (some none) P = False := nr rfl
@[simp ↓] theorem z_mV : (mV i e s).wp P E = slotP e[i]? fun d => P d s := by
  unfold mV slotP
  cases e[i]? with
  | none => rfl
  | some o => cases o <;> rfl
@[simp ↓] theorem z_mC : (mC d e s).wp P E = P d s := nr rfl
@[simp ↓] theorem z_m2 : (m2 f a b e s).wp P E = (a e s).wp (fun x s1 => (b e s1).wp (fun y s2 => (f x y s2).wp P E) E) E := by
  unfold m2; simp only [z_bind]
@[simp ↓] theorem z_m1 : (m1 f1 a e s).wp P E = (a e s).wp (fun x s1 => (f1 x s1).wp P E) E := by
  unfold m1; simp only [z_bind]
@[simp ↓] theorem z_mN : (mN fN ms e s).wp P E = (ms e s).wp (fun xs s1 => (fN xs s1).wp P E) E := by
  unfold mN; simp only [z_bind]
@[simp ↓] theorem z_aN : (aN e s).wp PL E = PL [] s := nr rfl
@[simp ↓] theorem z_aC : (aC a ms e s).wp PL E = (a e s).wp (fun x s1 => (ms e s1).wp (fun xs s2 => PL (x :: xs) s2) E) E := by
  unfold aC; simp only [z_bind, z_ok]
def blP (d : D) (P : Bool → Prop) : Prop := match d with
  | .bl b => P b
  | _ => False
@[simp ↓] theorem blP_bl {b : Bool} {P : Bool → Prop} : blP (.bl b) P = P b := nr rfl
@[simp ↓] theorem z_toB : (toB a e s).wp PB E = (a e s).wp (fun d s1 => blP d fun b => PB b s1) E := by
  unfold toB blP; simp only [z_bind]
  congr 1
  funext d s1
  cases d <;> rfl
@[simp] theorem trD_bl {q : Bool} : trD s (.bl q) = some q := rfl
@[simp] theorem trD_non : trD s .non = some false := rfl
@[simp] theorem trD_int {j : Int} : trD s (.int j) = some (j != 0) := rfl
@[simp] theorem trD_tup {xs : List D} : trD s (.tup xs) = some (!xs.isEmpty) := rfl
theorem trD_str {z : Str} (h : z.length ≤ sizeLine) : trD s (.str z) = some ((z.length : Int) != 0) := if_pos h
@[simp ↓] theorem z_toT : (toT a e s).wp PB E = (a e s).wp (fun d s1 => ∃ b, trD s1 d = some b ∧ PB b s1) E := by
  unfold toT; simp only [z_bind]
  congr 1
  funext d s1
  cases h : trD s1 d <;> simp [Rs.wp]
@[simp ↓] theorem z_bAnd : (bAnd t u e s).wp PB E = (t e s).wp (fun x s1 => if x then (u e s1).wp PB E else PB false s1) E := by
  unfold bAnd; simp only [z_bind, z_ite, z_ok]
@[simp ↓] theorem z_bOr : (bOr t u e s).wp PB E = (t e s).wp (fun x s1 => if x then PB true s1 else (u e s1).wp PB E) E := by
  unfold bOr; simp only [z_bind, z_ite, z_ok]
@[simp ↓] theorem z_bNot : (bNot t e s).wp PB E = (t e s).wp (fun x s1 => PB (!x) s1) E := by
  unfold bNot; simp only [z_bind, z_ok]
@[simp ↓] theorem z_tY : (tY e s).wp PB E = PB true s := nr rfl
@[simp ↓] theorem z_mIf : (mIf t a b e s).wp P E = (t e s).wp (fun x s1 => if x then (a e s1).wp P E else (b e s1).wp P E) E := by
  unfold mIf; simp only [z_bind, z_ite]
@[simp ↓] theorem z_mAnd : (mAnd a b e s).wp P E = (a e s).wp (fun d s1 => blP d fun q => if q then (b e s1).wp P E else P (.bl false) s1) E := by
  unfold mAnd blP; simp only [z_bind]
  congr 1
  funext d s1
  cases d with
  | bl q => cases q <;> rfl
  | _ => rfl
@[simp ↓] theorem z_mOr : (mOr a b e s).wp P E = (a e s).wp (fun d s1 => blP d fun q => if q then P (.bl true) s1 else (b e s1).wp P E) E := by
  unfold mOr blP; simp only [z_bind]
  congr 1
  funext d s1
  cases d with
  | bl q => cases q <;> rfl
  | _ => rfl
@[simp ↓] theorem z_mNot : (mNot a e s).wp P E = (a e s).wp (fun d s1 => blP d fun q => P (.bl (!q)) s1) E := by
  unfold mNot blP; simp only [z_bind]
  congr 1
  funext d s1
  cases d <;> rfl
@[simp ↓] theorem z_mCh : (mCh f h a b c e s).wp P E = (a e s).wp (fun x s1 => (b e s1).wp (fun y s2 => (f x y s2).wp (fun z s3 => blP z fun q => if q then (c e s3).wp (fun w s4 => (h y w s4).wp P E) E else P (.bl false) s3) E) E) E := by
  unfold mCh blP; simp only [z_bind]
  congr 1
  funext d s1
  congr 1
  funext d2 s2
  congr 1
  funext d3 s3
  cases d3 with
  | bl q =>
    cases q with
    | false => rfl
    | true => simp only [z_bind]; rfl
  | _ => rfl
@[simp ↓] theorem z_mBM {T : String} : (mBM T fM a ms e s).wp P E = (a e s).wp (fun x s1 => isTy T s1 x = true ∧ (ms e s1).wp (fun xs s2 => (fM x xs s2).wp P E) E) E := by
  unfold mBM; simp only [z_bind, z_iteN]
@[simp ↓] theorem z_oN : (oN e s).wp PO E = PO none s := nr rfl
def intP (d : D) (P : Int → Prop) : Prop := match d with
  | .int i => P i
  | _ => False
@[simp ↓] theorem intP_int {j : Int} {P : Int → Prop} : intP (.int j) P = P j := nr rfl
@[simp ↓] theorem z_oS : (oS a e s).wp PO E = (a e s).wp (fun d s1 => intP d fun i => PO (some i) s1) E := by
  unfold oS intP; simp only [z_bind]
  congr 1
  funext d s1
  cases d <;> rfl
@[simp ↓] theorem z_mSl {fS : D → Option Int → Option Int → Sto → Rs D} {l k : EM (Option Int)} : (mSl fS a l k e s).wp P E = (a e s).wp (fun x s1 => (l e s1).wp (fun lo s2 => (k e s2).wp (fun hi s3 => (fS x lo hi s3).wp P E) E) E) E := by
  unfold mSl; simp only [z_bind]
@[simp ↓] theorem z_fTup {ds : List D} : (fTup ds s).wp P E = (ds.length ≤ sizeLine ∧ P (.tup ds) s) := by
  unfold fTup; rw [z_iteN, z_ok]
@[simp ↓] theorem z_fLst {ds : List D} : (fLst ds s).wp P E = (ds.length ≤ sizeLine ∧ P (.ref s.length) (s ++ [.lst ds])) := by
  unfold fLst; rw [z_iteN, z_ok]
/-! statements -/
variable {A B : SM} {g : GN} {mi : EM (Nat × Stp)}
@[simp ↓] theorem z_sN : (sN e s).wp Q = Q.nx e s := nr rfl
@[simp ↓] theorem z_sNo : (sNo e s).wp Q = False := nr rfl
@[simp ↓] theorem z_sC : (sC A B e s).wp Q = (A e s).wp { nx := fun e s => (B e s).wp Q, rt := Q.rt, bk := Q.bk, ct := Q.ct, ex := Q.ex } := by
  unfold sC; rw [z_seq]
/-- what comes next, not yet looked at -/
def nxt (B : SM) (Q : En) : Ev → Sto → Prop := fun e s => (B e s).wp Q
theorem z_sCn : (sC A B e s).wp Q = (A e s).wp { nx := nxt B Q, rt := Q.rt, bk := Q.bk, ct := Q.ct, ex := Q.ex } := z_sC
theorem z_nxt : nxt B Q e s = (B e s).wp Q := rfl
theorem z_nxC {B2 : SM} : nxt (sC B B2) Q e s = (B e s).wp { nx := nxt B2 Q, rt := Q.rt, bk := Q.bk, ct := Q.ct, ex := Q.ex } := z_sCn
@[simp ↓] theorem z_sA : (sA i a e s).wp Q = (a e s).wp (fun d s1 => Q.nx (e.set i (some d)) s1) (fun c f v s => Q.ex c f v e s) := by
  unfold sA; rw [z_st]; rfl
@[simp ↓] theorem z_sE : (sE a e s).wp Q = (a e s).wp (fun _ s1 => Q.nx e s1) (fun c f v s => Q.ex c f v e s) := by
  unfold sE; rw [z_st]; rfl
@[simp ↓] theorem z_sR : (sR a e s).wp Q = (a e s).wp (fun d s1 => Q.rt d s1) (fun c f v s => Q.ex c f v e s) := by
  unfold sR; rw [z_st]; rfl
@[simp ↓] theorem z_sR0 : (sR0 e s).wp Q = Q.rt .non s := nr rfl
@[simp ↓] theorem z_sI : (sI t A B e s).wp Q = (t e s).wp (fun q s1 => if q then (A e s1).wp Q else (B e s1).wp Q) (fun c f v s => Q.ex c f v e s) := by
  unfold sI; rw [z_st]; simp only [z_iteS]
def evP (o : Option Ev) (P : Ev → Prop) : Prop := match o with
  | some e => P e
  | none => False
@[simp ↓] theorem evP_some {e : Ev} {P : Ev → Prop} : evP (some e) P = P e := nr rfl
@[simp ↓] theorem z_sG : (sG g a e s).wp Q = (a e s).wp (fun d s1 => evP (g d e) fun e' => Q.nx e' s1) (fun c f v s => Q.ex c f v e s) := by
  unfold sG evP; rw [z_st]
  congr 1
  funext d s1
  cases g d e <;> rfl
def twoP (ds : List D) (P : D → D → Prop) : Prop := match ds with
  | [x, y] => P x y
  | _ => False
@[simp ↓] theorem twoP_two {P : D → D → Prop} : twoP [x, y] P = P x y := nr rfl
@[simp ↓] theorem z_sP {j : Nat} : (sP i j ms e s).wp Q = (ms e s).wp (fun ds s1 => twoP ds fun x y => Q.nx ((e.set i (some x)).set j (some y)) s1) (fun c f v s => Q.ex c f v e s) := by
  unfold sP; rw [z_st]
  congr 1
  funext d s1
  match d with
  | [] => rfl
  | [_] => rfl
  | [_, _] => rfl
  | _ :: _ :: _ :: _ => rfl
def stoP (o : Option Sto) (P : Sto → Prop) : Prop := match o with
  | some e => P e
  | none => False
@[simp ↓] theorem stoP_some {P : Sto → Prop} : stoP (some s) P = P s := nr rfl
@[simp ↓] theorem z_sX {fX : D → D → D → Sto → Option Sto} : (sX fX a b c e s).wp Q = (c e s).wp (fun x s1 => (a e s1).wp (fun o s2 => (b e s2).wp (fun i s3 => stoP (fX o i x s3) fun s4 => Q.nx e s4) (fun c f v s => Q.ex c f v e s)) (fun c f v s => Q.ex c f v e s)) (fun c f v s => Q.ex c f v e s) := by
  unfold sX stoP; simp only [z_st]
  congr 1
  funext d s1
  congr 1
  funext d2 s2
  congr 1
  funext d3 s3
  cases fX d2 d3 d s3 <;> rfl
@[simp ↓] theorem z_sF : (sF mi g A e s).wp Q = (mi e s).wp (fun jt s1 => (forL jt.2 g A jt.1 0 e s1).wp Q) (fun c f v s => Q.ex c f v e s) := by
  unfold sF; rw [z_st]
@[simp ↓] theorem z_mL {vs : List Nat} : (mL mi g t a vs e s).wp P E = (mi e s).wp (fun jt s1 => (lcL jt.2 g t a s1.length jt.1 0 (wipeD e vs) (s1 ++ [.lst []])).wp P E) E := by
  unfold mL; rw [z_bind]
/-- a list's items at a place -/
def lstP (o : Option (List D)) (P : List D → Prop) : Prop := match o with
  | some xs => P xs
  | none => False
@[simp ↓] theorem lstP_some {xs : List D} {P : List D → Prop} : lstP (some xs) P = P xs := nr rfl
/-- a list that may be written -/
def mlAt (s : Sto) (n : Nat) : Option (List D) := match s[n]? with
  | some (.lst xs) => some xs
  | _ => none
@[simp ↓] theorem z_setL {n : Nat} {j : Int} {PS : Sto → Prop} : stoP (xSetL (.ref n) (.int j) x s) PS = lstP (mlAt s n) fun xs => ∃ k, ixN xs.length j = some k ∧ PS (s.set n (.lst (xs.set k x))) := by
  unfold xSetL mlAt
  dsimp only
  cases h : s[n]? with
  | none => rfl
  | some o =>
    cases o with
    | lst xs =>
      dsimp only [lstP]
      cases ixN xs.length j <;> simp [stoP]
    | _ => rfl
/-! targets -/
@[simp ↓] theorem z_gN : gN i d e = some (e.set i (some d)) := nr rfl
@[simp ↓] theorem z_gT {gs : List GN} {ds : List D} : gT gs (.tup ds) e = gTs gs ds e := nr rfl
@[simp ↓] theorem z_gTs0 : gTs [] [] e = some e := nr rfl
@[simp ↓] theorem z_gTsC {gs : List GN} {ds : List D} : gTs (g :: gs) (d :: ds) e = (g d e).bind fun e' => gTs gs ds e' := nr rfl
@[simp ↓] theorem z_wipe0 : wipeD e [] = e := nr rfl
@[simp ↓] theorem z_wipeC {vs : List Nat} : wipeD e (i :: vs) = (wipeD e vs).set i none := nr rfl
/-! iterables -/
@[simp ↓] theorem z_iR1 : (iR1 ms e s).wp PI E = (ms e s).wp (fun ds s1 => ∃ j, ds = [.int j] ∧ (-(2 ^ 62) ≤ j ∧ j < 2 ^ 62) ∧ PI (j.toNat, jRng 0 j.toNat) s1) E := by
  unfold iR1; rw [z_bind]
  congr 1
  funext ds s1
  split
  · rename_i j
    rw [z_iteN, z_ok]
    simp
  · rename_i hn
    simp only [z_no, eq_iff_iff, false_iff, not_exists]
    intro j hj
    exact hn j hj.1
@[simp ↓] theorem z_iR2 : (iR2 ms e s).wp PI E = (ms e s).wp (fun ds s1 => ∃ i j, ds = [.int i, .int j] ∧ (-(2 ^ 62) ≤ i ∧ i < 2 ^ 62 ∧ -(2 ^ 62) ≤ j ∧ j < 2 ^ 62) ∧ PI ((j - i).toNat, jRng i (j - i).toNat) s1) E := by
  unfold iR2; rw [z_bind]
  congr 1
  funext ds s1
  split
  · rename_i i j
    rw [z_iteN, z_ok]
    simp only [eq_iff_iff]
    constructor
    · intro h; exact ⟨i, j, rfl, h⟩
    · rintro ⟨i', j', h1, h2⟩
      cases h1
      exact h2
  · rename_i hn
    simp only [z_no, eq_iff_iff, false_iff, not_exists]
    intro i j hj
    exact hn i j hj.1
@[simp ↓] theorem z_iSq : (iSq a e s).wp PI E = (a e s).wp (fun d s1 => match d with | .tup ds => PI (ds.length, jTup ds) s1 | .ref n => lstP (lstAt s1 n) fun xs => PI (xs.length, jLst n) s1 | _ => False) E := by
  unfold iSq; rw [z_bind]
  congr 1
  funext d s1
  cases d with
  | ref n =>
    dsimp only
    unfold lstAt lstP
    split <;> simp_all [Rs.wp]
  | _ => rfl
@[simp ↓] theorem z_iSt : (iSt a e s).wp PI E = (a e s).wp (fun d s1 => match d with | .str x => PI (x.cps.size, jStr x) s1 | _ => False) E := by
  unfold iSt; rw [z_bind]
  congr 1
  funext d s1
  cases d <;> rfl
@[simp ↓] theorem z_iEn : (iEn ms e s).wp PI E = (ms e s).wp (fun ds s1 => ∃ n, ds = [.ref n] ∧ lstP (lstAt s1 n) fun xs => PI (xs.length, jEn n) s1) E := by
  unfold iEn; rw [z_bind]
  congr 1
  funext ds s1
  split
  · rename_i n
    simp only [List.cons.injEq, D.ref.injEq, and_true, exists_eq_left']
    unfold lstP
    cases lstAt s1 n <;> rfl
  · rename_i hn
    simp only [z_no, eq_iff_iff, false_iff, not_exists]
    intro n hj
    exact hn n hj.1
@[simp ↓] theorem z_iZp : (iZp ms e s).wp PI E = (ms e s).wp (fun ds s1 => ∃ n m, ds = [.ref n, .ref m] ∧ lstP (lstAt s1 n) fun xs => lstP (lstAt s1 m) fun ys => PI (xs.length, jZip n m) s1) E := by
  unfold iZp; rw [z_bind]
  congr 1
  funext ds s1
  split
  · rename_i n m
    simp only [eq_iff_iff]
    constructor
    · intro h
      refine ⟨n, m, rfl, ?_⟩
      unfold lstP
      cases h1 : lstAt s1 n <;> cases h2 : lstAt s1 m <;> rw [h1, h2] at h <;> first | exact h | exact h.elim
    · rintro ⟨n', m', h1, h2⟩
      cases h1
      unfold lstP at h2
      cases h3 : lstAt s1 n <;> rw [h3] at h2 <;> first | exact h2.elim | skip
      cases h4 : lstAt s1 m <;> rw [h4] at h2 <;> first | exact h2.elim | exact h2
  · rename_i hn
    simp only [z_no, eq_iff_iff, false_iff, not_exists]
    intro n m hj
    exact hn n m hj.1
/-! primitives on what is known of them -/
theorem z_int {C : Int → Int → Prop} [∀ i j, Decidable (C i j)] {g : Int → Int → D} {i j : Int} : (dIc C g (.int i) (.int j) s).wp P E = (C i j ∧ P (g i j) s) := by
  show (if C i j then Rs.ok (g i j) s else Rs.no).wp P E = _
  rw [z_iteN, z_ok]
@[simp ↓] theorem z_sub {i j : Int} : (dSub (.int i) (.int j) s).wp P E = P (.int (i - j)) s := nr rfl
@[simp ↓] theorem z_lt {i j : Int} : (dLt (.int i) (.int j) s).wp P E = P (.bl (decide (i < j))) s := nr rfl
@[simp ↓] theorem z_le {i j : Int} : (dLe (.int i) (.int j) s).wp P E = P (.bl (decide (i ≤ j))) s := nr rfl
@[simp ↓] theorem z_gt {i j : Int} : (dGt (.int i) (.int j) s).wp P E = P (.bl (decide (j < i))) s := nr rfl
@[simp ↓] theorem z_ge {i j : Int} : (dGe (.int i) (.int j) s).wp P E = P (.bl (decide (j ≤ i))) s := nr rfl
@[simp ↓] theorem z_mul {i j : Int} : (dMul2 (.int i) (.int j) s).wp P E = (cMul i j ∧ P (.int (i * j)) s) := by
  show (if cMul i j then Rs.ok (D.int (i * j)) s else Rs.no).wp P E = _
  rw [z_iteN, z_ok]
@[simp ↓] theorem z_div {i j : Int} : (dDiv (.int i) (.int j) s).wp P E = ((0 < j ∧ j < 1073741824) ∧ P (.int (i / j)) s) := z_int
@[simp ↓] theorem z_mod {i j : Int} : (dMod (.int i) (.int j) s).wp P E = (0 < j ∧ P (.int (i % j)) s) := z_int
@[simp ↓] theorem z_pow {i j : Int} : (dPow (.int i) (.int j) s).wp P E = (cPow i j ∧ P (.int (i ^ j.toNat)) s) := z_int
@[simp ↓] theorem z_neg {i : Int} : (dNeg (.int i) s).wp P E = P (.int (-i)) s := nr rfl
@[simp ↓] theorem z_addI {i j : Int} : (dAdd (.int i) (.int j) s).wp P E = P (.int (i + j)) s := nr rfl
@[simp ↓] theorem z_addS {i j : Str} : (dAdd (.str i) (.str j) s).wp P E = (i.length + j.length ≤ sizeLine ∧ P (.str (i ++ j)) s) := by
  show (if _ then _ else _ : Rs D).wp P E = _
  rw [z_iteN, z_ok]
@[simp ↓] theorem z_addT {i j : List D} : (dAdd (.tup i) (.tup j) s).wp P E = (i.length + j.length ≤ sizeLine ∧ P (.tup (i ++ j)) s) := by
  show (if _ then _ else _ : Rs D).wp P E = _
  rw [z_iteN, z_ok]
@[simp ↓] theorem z_addL {n m : Nat} : (dAdd (.ref n) (.ref m) s).wp P E = lstP (mlAt s n) fun xs => lstP (mlAt s m) fun ys => xs.length + ys.length ≤ sizeLine ∧ P (.ref s.length) (s ++ [.lst (xs ++ ys)]) := by
  unfold dAdd mlAt lstP
  dsimp only
  cases s[n]? with
  | none => rfl
  | some o =>
    cases o with
    | lst xs =>
      cases s[m]? with
      | none => rfl
      | some o2 =>
        cases o2 with
        | lst ys => exact z_iteN
        | _ => rfl
    | _ => rfl
@[simp ↓] theorem z_fIntI {j : Int} : (fInt [.int j] s).wp P E = P (.int j) s := nr rfl
@[simp ↓] theorem z_fAbs {j : Int} : (fAbs [.int j] s).wp P E = P (.int (if j < 0 then -j else j)) s := nr rfl
@[simp ↓] theorem z_fMax {i j : Int} : (fMax2 [.int i, .int j] s).wp P E = P (.int (if j > i then j else i)) s := nr rfl
@[simp ↓] theorem z_fMin {i j : Int} : (fMin2 [.int i, .int j] s).wp P E = P (.int (if j < i then j else i)) s := nr rfl
@[simp ↓] theorem z_lenS {x : Str} : (fLen [.str x] s).wp P E = (x.length ≤ sizeLine ∧ P (.int x.length) s) := by
  show (if _ then _ else _ : Rs D).wp P E = _
  rw [z_iteN, z_ok]
@[simp ↓] theorem z_lenT {xs : List D} : (fLen [.tup xs] s).wp P E = P (.int xs.length) s := nr rfl
@[simp ↓] theorem z_lenL {n : Nat} : (fLen [.ref n] s).wp P E = lstP (lstAt s n) fun xs => P (.int xs.length) s := by
  unfold fLen seqD lstP
  dsimp only
  cases lstAt s n <;> rfl
@[simp ↓] theorem z_tupT {xs : List D} : (fTuple [.tup xs] s).wp P E = P (.tup xs) s := nr rfl
@[simp ↓] theorem z_tupL {n : Nat} : (fTuple [.ref n] s).wp P E = lstP (lstAt s n) fun xs => P (.tup xs) s := by
  unfold fTuple seqD lstP
  dsimp only
  cases lstAt s n <;> rfl
@[simp ↓] theorem z_listT {xs : List D} : (fList [.tup xs] s).wp P E = (xs.length ≤ sizeLine ∧ P (.ref s.length) (s ++ [.lst xs])) := by
  show (if _ then _ else _ : Rs D).wp P E = _
  rw [z_iteN, z_ok]
@[simp ↓] theorem z_listL {n : Nat} : (fList [.ref n] s).wp P E = lstP (lstAt s n) fun xs => xs.length ≤ sizeLine ∧ P (.ref s.length) (s ++ [.lst xs]) := by
  unfold fList seqD lstP
  dsimp only
  cases lstAt s n with
  | none => rfl
  | some xs => exact z_iteN
def datP (o : Option D) (P : D → Prop) : Prop := match o with
  | some d => P d
  | none => False
@[simp ↓] theorem datP_some {P : D → Prop} : datP (some d) P = P d := nr rfl
@[simp ↓] theorem z_ixT {xs : List D} {j : Int} : (dIx (.tup xs) (.int j) s).wp P E = datP (atI xs j) fun d => P d s := by
  unfold dIx seqD datP
  dsimp only
  cases atI xs j <;> rfl
@[simp ↓] theorem z_ixL {n : Nat} {j : Int} : (dIx (.ref n) (.int j) s).wp P E = lstP (lstAt s n) fun xs => datP (atI xs j) fun d => P d s := by
  unfold dIx seqD datP lstP
  dsimp only
  cases lstAt s n with
  | none => rfl
  | some xs => dsimp only; cases atI xs j <;> rfl
@[simp ↓] theorem z_ixS {x : Str} {j : Int} : (dIx (.str x) (.int j) s).wp P E = (x.length ≤ sizeLine ∧ ∃ c, atI x.cps.toList j = some c ∧ P (.str ⟨#[c]⟩) s) := by
  unfold dIx
  dsimp only
  rw [z_iteN]
  cases atI x.cps.toList j <;> simp [Rs.wp]
@[simp ↓] theorem z_slS {x : Str} {lo hi : Option Int} : (dSl (.str x) lo hi s).wp P E = (x.length ≤ sizeLine ∧ P (.str (cutS x lo hi)) s) := by
  show (if _ then _ else _ : Rs D).wp P E = _
  rw [z_iteN, z_ok]
@[simp ↓] theorem z_slT {xs : List D} {lo hi : Option Int} : (dSl (.tup xs) lo hi s).wp P E = P (.tup (cutD xs lo hi)) s := nr rfl
@[simp ↓] theorem z_slL {n : Nat} {lo hi : Option Int} : (dSl (.ref n) lo hi s).wp P E = lstP (lstAt s n) fun xs => P (.ref s.length) (s ++ [.lst (cutD xs lo hi)]) := by
  unfold dSl lstP
  dsimp only
  cases lstAt s n <;> rfl
@[simp ↓] theorem z_append {n : Nat} : (mtL lAppend (.ref n) [d] s).wp P E = lstP (mlAt s n) fun xs => xs.length < sizeLine ∧ P .non (s.set n (.lst (xs ++ [d]))) := by
  unfold mtL lAppend mlAt lstP
  dsimp only
  cases s[n]? with
  | none => rfl
  | some o =>
    cases o with
    | lst xs =>
      dsimp only
      by_cases q : xs.length < sizeLine <;> simp [q, Rs.wp]
    | _ => rfl
@[simp ↓] theorem z_fmtS {x : Str} : (fFmt (.str x) s).wp P E = (x.length ≤ sizeLine ∧ P (.str x) s) := by
  show (if _ then _ else _ : Rs D).wp P E = _
  rw [z_iteN, z_ok]
@[simp ↓] theorem z_js0 {acc : Str} : (mJs [] acc e s).wp P E = P (.str acc) s := nr rfl
def strP (d : D) (P : Str → Prop) : Prop := match d with
  | .str x => P x
  | _ => False
@[simp ↓] theorem strP_str {x : Str} {P : Str → Prop} : strP (.str x) P = P x := nr rfl
@[simp ↓] theorem z_jsC {r : List (EM D)} {acc : Str} : (mJs (a :: r) acc e s).wp P E = (a e s).wp (fun d s1 => strP d fun y => (acc ++ y).length ≤ sizeLine ∧ (mJs r (acc ++ y) e s1).wp P E) E := by
  rw [mJs]
  unfold strP
  rw [z_bind]
  congr 1
  funext d s1
  cases d with
  | str y => dsimp only; rw [z_iteN]
  | _ => rfl
theorem z_join {x : Str} : (fJoin (.str x) [d] s).wp P E = ∃ xs ys, seqD s d = some xs ∧ xs.mapM strD = some ys ∧ (ys.map (·.length)).sum + ys.length * x.length ≤ 16777216 ∧ P (.str (Txt.join x ys)) s := by
  unfold fJoin
  dsimp only
  cases h : seqD s d with
  | none => simp [Rs.wp]
  | some xs =>
    simp only [Option.bind_some, Option.some.injEq, exists_and_left, exists_eq_left']
    cases h2 : xs.mapM strD with
    | none => simp [Rs.wp]
    | some ys => simp [z_iteN, z_ok]
@[simp ↓] theorem z_split {x y : Str} : (fSplit (.str x) [.str y] s).wp P E = (((y.length == 0) = false ∧ x.length + 2 ≤ sizeLine) ∧ P (.ref s.length) (s ++ [.lst ((Txt.split x y).map D.str)])) := by
  show (if _ then _ else _ : Rs D).wp P E = _
  rw [z_iteN, z_ok]
theorem z_isi {T : String} : (mIsi T a e s).wp P E = (a e s).wp (fun d s1 => ∃ n b, tyN s1 d = some n ∧ kitB n T = some b ∧ P (.bl b) s1) E := by
  unfold mIsi
  rw [z_bind]
  congr 1
  funext d s1
  cases h : tyN s1 d with
  | none => simp [Rs.wp]
  | some n =>
    simp only [Option.some.injEq, exists_and_left, exists_eq_left']
    cases h2 : kitB n T <;> simp [Rs.wp]
theorem z_all {n : Nat} {q : Bool} : (fAllAny q [.ref n] s).wp P E = ∃ xs bs, lstAt s n = some xs ∧ xs.mapM blD = some bs ∧ P (.bl (if q then bs.all id else bs.any id)) s := by
  unfold fAllAny
  dsimp only
  cases h : lstAt s n with
  | none => simp [Rs.wp]
  | some xs =>
    simp only [Option.bind_some, Option.some.injEq, exists_and_left, exists_eq_left']
    cases h2 : xs.mapM blD <;> simp [Rs.wp]
def isNon : D → Bool
  | .non => true
  | _ => false
@[simp ↓] theorem z_isN : (dIsN2 x .non s).wp P E = P (.bl (isNon x)) s := by
  unfold dIsN2 dIsN isNon
  cases x <;> rfl
@[simp ↓] theorem z_notN : (dNotN2 x .non s).wp P E = P (.bl (!isNon x)) s := by
  unfold dNotN2 dIsN isNon
  cases x <;> rfl
@[simp ↓] theorem z_eqS {a b : Str} : (dEq (.str a) (.str b) s).wp P E = P (.bl (decide (a = b))) s := by
  show (Rs.ok (D.bl (false ^^ decide (a = b))) s).wp P E = _
  rw [Bool.false_xor, z_ok]
@[simp ↓] theorem z_neS {a b : Str} : (dNe (.str a) (.str b) s).wp P E = P (.bl (!decide (a = b))) s := by
  show (Rs.ok (D.bl (true ^^ decide (a = b))) s).wp P E = _
  rw [Bool.true_xor, z_ok]
theorem shp_str {a : Str} {p : PyData} (h : shp s (.str a) = some p) : p = .str a := by
  unfold shp at h
  rw [pyd] at h
  dsimp only at h
  split at h
  · cases h; rfl
  · cases h
theorem z_eqG {neg : Bool} {p q : PyData} (h1 : shp s x = some p) (h2 : shp s y = some q) : (dEqB neg x y s).wp P E = P (.bl (neg ^^ PyData.eqv p q)) s := by
  unfold dEqB
  split
  · rename_i a b
    rw [shp_str h1, shp_str h2, z_ok, PyData.eqv]
    rfl
  · rw [h1, h2, z_ok]
theorem z_eq {p q : PyData} (h1 : shp s x = some p) (h2 : shp s y = some q) : (dEq x y s).wp P E = P (.bl (PyData.eqv p q)) s := by
  unfold dEq
  rw [z_eqG h1 h2, Bool.false_xor]
theorem z_ne {p q : PyData} (h1 : shp s x = some p) (h2 : shp s y = some q) : (dNe x y s).wp P E = P (.bl (!PyData.eqv p q)) s := by
  unfold dNe
  rw [z_eqG h1 h2, Bool.true_xor]
@[simp ↓] theorem z_mulL {n : Nat} {j : Int} : (dMul2 (.ref n) (.int j) s).wp P E = lstP (mlAt s n) fun xs => ((-(2 ^ 63) ≤ j ∧ j < 2 ^ 63) ∧ xs.length * j.toNat ≤ sizeLine) ∧ P (.ref s.length) (s ++ [.lst (List.replicate j.toNat xs).flatten]) := by
  unfold dMul2 mlAt lstP
  dsimp only
  cases s[n]? with
  | none => rfl
  | some o =>
    cases o with
    | lst xs => exact z_iteN
    | _ => rfl
@[simp ↓] theorem z_mNk {n m : Nat} {mk : EM (List D)} : (mNk n m fN ms mk e s).wp P E = (ms e s).wp (fun xs s1 => (mk e s1).wp (fun ys s2 => (xs.length = n ∧ ys.length = m) ∧ (fN (xs ++ ys) s2).wp P E) E) E := by
  unfold mNk
  simp only [z_bind, z_iteN]
end
end Z

set_option Elab.async false
set_option linter.all false
set_option maxRecDepth 100000
set_option maxHeartbeats 4000000
namespace Z
open PySem PySem.Spec PyProof.Rows L2
/-! ### places -/
section
variable {s t : Sto} {k n : Nat} {xs ys : List D} {o : SO} {x y z : D}
theorem lstAt_some (h : s[k]? = some (.lst xs)) : lstAt s k = some xs := by unfold lstAt; rw [h]
theorem lstAt_frz (h : s[k]? = some (.frz xs)) : lstAt s k = some xs := by unfold lstAt; rw [h]
theorem mlAt_some (h : s[k]? = some (.lst xs)) : mlAt s k = some xs := by unfold mlAt; rw [h]
theorem lstAt_ml (h : mlAt s k = some xs) : lstAt s k = some xs := by
  unfold mlAt at h
  split at h
  · rename_i ys e
    cases h
    exact lstAt_some e
  · cases h
theorem mlAt_get (h : mlAt s k = some xs) : s[k]? = some (.lst xs) := by
  unfold mlAt at h
  split at h
  · rename_i ys e
    cases h
    exact e
  · cases h
theorem isTy_ml (h : mlAt s k = some xs) : isTy "list" s (.ref k) = true := by
  unfold isTy
  dsimp only
  rw [mlAt_get h]
  exact beq_self_eq_true _
@[simp] theorem mlAt_set_self (h : k < s.length) : mlAt (s.set k (.lst xs)) k = some xs := mlAt_some (List.getElem?_set_self h)
@[simp] theorem mlAt_set_ne (h : k ≠ n) : mlAt (s.set k o) n = mlAt s n := by unfold mlAt; rw [List.getElem?_set_ne h]
@[simp] theorem mlAt_push : mlAt (s ++ [.lst xs]) s.length = some xs := mlAt_some (by simp)
@[simp] theorem mlAt_app (h : n < s.length) : mlAt (s ++ t) n = mlAt s n := by unfold mlAt; rw [List.getElem?_append_left h]
@[simp] theorem lstAt_set_self (h : k < s.length) : lstAt (s.set k (.lst xs)) k = some xs := lstAt_some (List.getElem?_set_self h)
@[simp] theorem lstAt_set_ne (h : k ≠ n) : lstAt (s.set k o) n = lstAt s n := by unfold lstAt; rw [List.getElem?_set_ne h]
@[simp] theorem lstAt_push : lstAt (s ++ [.lst xs]) s.length = some xs := lstAt_some (by simp)
@[simp] theorem lstAt_app (h : n < s.length) : lstAt (s ++ t) n = lstAt s n := by unfold lstAt; rw [List.getElem?_append_left h]
theorem atI_of {α : Type} {xs : List α} {i : Nat} {a : α} (h : xs[i]? = some a) : atI xs (i : Int) = some a := by
  have hl : i < xs.length := (List.getElem?_eq_some_iff.mp h).1
  unfold atI ixN
  rw [if_pos (by omega), if_pos (by omega)]
  exact h
@[simp] theorem atI_0 {α : Type} {x : α} {xs : List α} : atI (x :: xs) 0 = some x := atI_of (i := 0) rfl
@[simp] theorem atI_1 {α : Type} {x y : α} {xs : List α} : atI (x :: y :: xs) 1 = some y := atI_of (i := 1) rfl
@[simp] theorem atI_2 {α : Type} {x y z : α} {xs : List α} : atI (x :: y :: z :: xs) 2 = some z := atI_of (i := 2) rfl
@[simp] theorem atI_3 {α : Type} {x y z w : α} {xs : List α} : atI (x :: y :: z :: w :: xs) 3 = some w := atI_of (i := 3) rfl
theorem atI_nat {α : Type} {xs : List α} {i : Int} (h0 : 0 ≤ i) (h1 : i < xs.length) : ∃ (a : α) (j : Nat), i = j ∧ xs[j]? = some a ∧ atI xs i = some a ∧ a ∈ xs := by
  obtain ⟨j, rfl⟩ := Int.eq_ofNat_of_zero_le h0
  have hj : j < xs.length := by omega
  refine ⟨xs[j], j, rfl, List.getElem?_eq_getElem hj, ?_, List.getElem_mem hj⟩
  unfold atI ixN
  rw [if_pos (by omega), if_pos (by omega)]
  simp [hj]
@[simp] theorem ixN_0 {n : Nat} : (ixN (n + 1) 0) = some 0 := by
  unfold ixN
  rw [if_pos (by omega), if_pos (by omega)]
  rfl
@[simp] theorem ixN_1 {n : Nat} : (ixN (n + 1 + 1) 1) = some 1 := by
  unfold ixN
  rw [if_pos (by omega), if_pos (by omega)]
  rfl
@[simp] theorem ixN_20 : (ixN 2 0) = some 0 := rfl
@[simp] theorem ixN_21 : (ixN 2 1) = some 1 := rfl
theorem mod_lt {i n : Int} (h : 0 < n) : 0 ≤ i % n ∧ i % n < n := ⟨Int.emod_nonneg _ (by omega), Int.emod_lt_of_pos _ h⟩
theorem Eff.bagset {a b : Int} (h : k < s.length) : Eff [k] s (s.set k (.lst [.int a, .int b])) :=
  ⟨by simp, fun i hi hk => by rw [List.getElem?_set_ne (by simp at hk; omega)], fun j hj _ => by
    obtain rfl : j = k := by simpa using hj
    exact ⟨a, b, List.getElem?_set_self h⟩⟩
theorem Bag.ml {s : Sto} {k : Nat} (h : Bag s k) : ∃ a b : Int, mlAt s k = some [.int a, .int b] ∧ lstAt s k = some [.int a, .int b] ∧ k < s.length := by
  obtain ⟨a, b, e, h1⟩ := h.lst
  exact ⟨a, b, mlAt_some e, h1, lstAt_lt h1⟩
theorem Eff.ml {ks : List Nat} {s t : Sto} (h : Eff ks s t) {i : Nat} {xs : List D} (e : mlAt s i = some xs) (hi : i ∉ ks) : mlAt t i = some xs := mlAt_some (h.get (mlAt_get e) hi)
end
end Z

set_option Elab.async false
set_option linter.all false
set_option maxRecDepth 100000
set_option maxHeartbeats 4000000
namespace Z
open PySem PySem.Spec PyProof.Rows L2
/-! ### what is walked -/
/-- the walk j gives the items xs, as long as only ks are changed -/
def ItOk (ks : List Nat) (s0 : Sto) (j : Stp) (N : Nat) (xs : List D) : Prop := N = xs.length ∧ ∀ i s, Eff ks s0 s → j i s = some xs[i]?
section
variable {ks : List Nat} {s0 s t : Sto} {n m : Nat} {xs ys : List D}
def rngD (lo : Int) (n : Nat) : List D := (List.range n).map fun i => .int (lo + (i : Nat))
def strDs (x : Str) : List D := x.cps.toList.map fun c => .str ⟨#[c]⟩
def enD (xs : List D) : List D := xs.mapIdx fun i d => .tup [.int i, d]
theorem it_rng {lo : Int} : ItOk ks s0 (jRng lo n) n (rngD lo n) := ⟨by simp [rngD], fun i s _ => by
  unfold jRng rngD
  by_cases h : i < n
  · simp [h]
  · simp [h]⟩
theorem it_tup {N : Nat} (e : N = xs.length := by simp) : ItOk ks s0 (jTup xs) N xs := ⟨e, fun i s _ => rfl⟩
theorem it_lst {N : Nat} (h : lstAt s0 n = some xs) (hn : n ∉ ks) (e : N = xs.length := by simp) : ItOk ks s0 (jLst n) N xs := ⟨e, fun i s e => by rw [jLst_eq, e.lst h hn]; rfl⟩
theorem it_en {N : Nat} (h : lstAt s0 n = some xs) (hn : n ∉ ks) (e : N = xs.length := by simp) : ItOk ks s0 (jEn n) N (enD xs) := ⟨by simp [enD, e], fun i s e => by
  unfold jEn enD
  rw [e.lst h hn]
  simp⟩
theorem it_str {x : Str} : ItOk ks s0 (jStr x) x.cps.size (strDs x) := ⟨by simp [strDs], fun i s _ => by
  unfold jStr strDs
  simp⟩
theorem it_zip (h : lstAt s0 n = some xs) (h2 : lstAt s0 m = some ys) (hn : n ∉ ks) (hm : m ∉ ks) (hl : xs.length = ys.length) : ItOk ks s0 (jZip n m) xs.length ((xs.zip ys).map fun p => .tup [p.1, p.2]) := ⟨by simp [hl], fun i s e => by
  unfold jZip
  rw [e.lst h hn, e.lst h2 hm, List.getElem?_map]
  dsimp only
  by_cases hi : i < xs.length
  · have hi2 : i < ys.length := by omega
    have hz : (xs.zip ys)[i]? = some (xs[i], ys[i]) := by simp [List.getElem?_zip_eq_some, hi, hi2]
    rw [hz, List.getElem?_eq_getElem hi, List.getElem?_eq_getElem hi2]
    rfl
  · have hz : (xs.zip ys)[i]? = none := List.getElem?_eq_none (by rw [List.length_zip]; omega)
    rw [hz, List.getElem?_eq_none (l := xs) (by omega)]
    rfl⟩
theorem ItOk.later {j : Stp} {N : Nat} (h : ItOk ks s j N xs) (e : Eff ks s t) : ItOk ks t j N xs := ⟨h.1, fun i u f => h.2 i u (e.trans f)⟩
/-! ### comprehensions -/
variable {j : Stp} {g : GN} {tt : EM Bool} {mm : EM D} {N : Nat} {e : Ev}
theorem lc_gen (it : ItOk ks s0 j N xs) (hb : ∀ k ∈ ks, Bag s0 k) (hl : xs.length < sizeLine) (R : Nat → D → Option D → Sto → Prop)
    (st : ∀ i d o s t, R i d o s → s.length ≤ t.length → (∀ n, n < s.length → s0.length < n → t[n]? = s[n]?) → R i d o t)
    (body : ∀ i d s, xs[i]? = some d → Eff ks s0 s → (∀ k ∈ ks, Bag s k) → s0.length < s.length → ∃ e1, g d e = some e1 ∧ (tt e1 s).wp fun q s1 => Eff ks s s1 ∧ if q then (mm e1 s1).wp fun y s2 => Eff ks s1 s2 ∧ R i d (some y) s2 else R i d none s1) :
    (lcL j g tt mm s0.length N 0 e (s0 ++ [.lst []])).wp fun d s' => d = .ref s0.length ∧ Eff ks s0 s' ∧ s0.length < s'.length ∧ ∃ zs : List (Option D), zs.length = xs.length ∧ mlAt s' s0.length = some (zs.filterMap id) ∧ ∀ i d o, xs[i]? = some d → zs[i]? = some o → R i d o s' := by
  have lks : s0.length ∉ ks := fun h => Nat.lt_irrefl _ (hb _ h).lt
  refine wp_ne (lcL_wp (N := N) (fun i acc s => Eff ks s0 s ∧ s0.length < s.length ∧ ∃ zs : List (Option D), zs.length = i ∧ acc = zs.filterMap id ∧ ∀ i d o, xs[i]? = some d → zs[i]? = some o → R i d o s) ?_ N 0 [] _ (by simp) ⟨Eff.push, by simp, [], rfl, rfl, by simp⟩ (by simp)) ?_
  · rintro i acc s hi ⟨ef, hlt, zs, hz, rfl, hR⟩ hs
    refine ⟨fun h => ?_, fun h => ?_⟩
    · rw [it.2 i s ef, List.getElem?_eq_none (by rw [← it.1]; omega)]
    · have hi2 : i < xs.length := by rw [← it.1]; exact h
      obtain ⟨e1, h1, h2⟩ := body i xs[i] s (List.getElem?_eq_getElem hi2) ef (fun k hk => ef.bag k hk (hb k hk)) hlt
      refine ⟨xs[i], e1, by rw [it.2 i s ef, List.getElem?_eq_getElem hi2], h1, wp_ne h2 fun q s1 ⟨ef1, h3⟩ => ?_⟩
      have hs1 : s1[s0.length]? = some (SO.lst (zs.filterMap id)) := ef1.get hs lks
      have Rm : ∀ {s2 : Sto}, s.length ≤ s2.length → (∀ n, n < s.length → s0.length < n → s2[n]? = s[n]?) → ∀ o', R i xs[i] o' s2 → ∀ i' d o, xs[i']? = some d → (zs ++ [o'])[i']? = some o → R i' d o s2 := by
        intro s2 hle heq o' hR' i' d o hx ho
        by_cases hi' : i' < zs.length
        · rw [List.getElem?_append_left hi'] at ho
          exact st _ _ _ _ _ (hR i' d o hx ho) hle heq
        · have : i' = i := by
            have := (List.getElem?_eq_some_iff.mp ho).1
            simp at this
            omega
          subst this
          rw [List.getElem?_append_right (by omega), hz, Nat.sub_self] at ho
          cases ho
          rw [List.getElem?_eq_getElem hi2] at hx
          cases hx
          exact hR'
      have fl : (zs.filterMap id).length ≤ zs.length := List.length_filterMap_le _ _
      cases q with
      | true =>
        rw [if_pos rfl] at h3 ⊢
        refine wp_ne h3 fun y s2 ⟨ef2, h4⟩ => ?_
        have hs2 := ef2.get hs1 lks
        refine ⟨hs2, by omega, ((ef.trans ef1).trans ef2).set (Nat.le_refl _), by rw [List.length_set]; have := ef1.le; have := ef2.le; omega, zs ++ [some y], by simp [hz], by simp, ?_⟩
        refine Rm (by rw [List.length_set]; exact Nat.le_trans ef1.le ef2.le) (fun n hn hn2 => ?_) (some y) (st _ _ _ _ _ h4 (by simp) fun n hn hn2 => by rw [List.getElem?_set_ne (by omega)])
        rw [List.getElem?_set_ne (by omega)]
        have nk : n ∉ ks := fun hk => by have := (hb n hk).lt; omega
        rw [ef2.eq n (Nat.lt_of_lt_of_le hn ef1.le) nk, ef1.eq n hn nk]
      | false =>
        simp only [Bool.false_eq_true, ↓reduceIte] at h3 ⊢
        refine ⟨hs1, ef.trans ef1, Nat.lt_of_lt_of_le hlt ef1.le, zs ++ [none], by simp [hz], by simp, ?_⟩
        exact Rm ef1.le (fun n hn hn2 => ef1.eq n hn fun hk => by have := (hb n hk).lt; omega) none h3
  · rintro d s' ⟨rfl, ys, h1, ef, hlt, zs, hz, rfl, hR⟩
    exact ⟨rfl, ef, hlt, zs, by rw [hz]; exact it.1, mlAt_some h1, hR⟩
/-- every item gives a value that keeps R -/
theorem lc_all (it : ItOk ks s0 j N xs) (hb : ∀ k ∈ ks, Bag s0 k) (hl : xs.length < sizeLine) (R : Nat → D → D → Prop)
    (body : ∀ i d s, xs[i]? = some d → Eff ks s0 s → (∀ k ∈ ks, Bag s k) → ∃ e1, g d e = some e1 ∧ (mm e1 s).wp fun y s2 => Eff ks s s2 ∧ R i d y) :
    (lcL j g tY mm s0.length N 0 e (s0 ++ [.lst []])).wp fun d s' => d = .ref s0.length ∧ Eff ks s0 s' ∧ s0.length < s'.length ∧ ∃ ys : List D, ys.length = xs.length ∧ mlAt s' s0.length = some ys ∧ ∀ i d y, xs[i]? = some d → ys[i]? = some y → R i d y := by
  refine wp_ne (lc_gen it hb hl (fun i d o _ => ∃ y, o = some y ∧ R i d y) (fun _ _ _ _ _ h _ _ => h) fun i d s hx ef hbs _ => ?_) ?_
  · obtain ⟨e1, h1, h2⟩ := body i d s hx ef hbs
    refine ⟨e1, h1, ?_⟩
    rw [z_tY, if_pos rfl]
    exact ⟨Eff.refl, wp_ne h2 fun y s2 ⟨h3, h4⟩ => ⟨h3, y, rfl, h4⟩⟩
  · rintro d s' ⟨rfl, ef, hlt, zs, hz, hm, hR⟩
    refine ⟨rfl, ef, hlt, _, ?_, hm, ?_⟩
    · have : ∀ (zs : List (Option D)), (∀ o ∈ zs, ∃ y, o = some y) → (zs.filterMap id).length = zs.length := by
        intro zs
        induction zs with
        | nil => intro _; rfl
        | cons z zs ih =>
          intro h
          obtain ⟨y, rfl⟩ := h z (by simp)
          simp [ih fun o ho => h o (by simp [ho])]
      rw [← hz]
      refine this zs fun o ho => ?_
      obtain ⟨i, hi, rfl⟩ := List.getElem_of_mem ho
      obtain ⟨y, h, _⟩ := hR i (xs[i]'(by omega)) _ (List.getElem?_eq_getElem (by omega)) (List.getElem?_eq_getElem hi)
      exact ⟨y, h⟩
    · have : ∀ (zs : List (Option D)), (∀ o ∈ zs, ∃ y, o = some y) → ∀ (i : Nat) (y : D), (zs.filterMap id)[i]? = some y → zs[i]? = some (some y) := by
        intro zs
        induction zs with
        | nil => intro _ i y h; simp at h
        | cons z zs ih =>
          intro h i y hy
          obtain ⟨y', rfl⟩ := h z (by simp)
          cases i with
          | zero => simpa using hy
          | succ i => simpa using ih (fun o ho => h o (by simp [ho])) i y (by simpa using hy)
      intro i d y hx hy
      have h5 := this zs (fun o ho => by
        obtain ⟨i, hi, rfl⟩ := List.getElem_of_mem ho
        obtain ⟨y, h, _⟩ := hR i (xs[i]'(by omega)) _ (List.getElem?_eq_getElem (by omega)) (List.getElem?_eq_getElem hi)
        exact ⟨y, h⟩) i y hy
      obtain ⟨y', h, h6⟩ := hR i d _ hx h5
      cases h
      exact h6
/-- a pure map -/
theorem lc_map (f : D → D) (it : ItOk ks s0 j N xs) (hb : ∀ k ∈ ks, Bag s0 k) (hl : xs.length < sizeLine)
    (body : ∀ d s, d ∈ xs → Eff ks s0 s → (∀ k ∈ ks, Bag s k) → ∃ e1, g d e = some e1 ∧ (mm e1 s).wp fun y s2 => Eff ks s s2 ∧ y = f d) :
    (lcL j g tY mm s0.length N 0 e (s0 ++ [.lst []])).wp fun d s' => d = .ref s0.length ∧ Eff ks s0 s' ∧ s0.length < s'.length ∧ mlAt s' s0.length = some (xs.map f) := by
  refine wp_ne (lc_all it hb hl (fun i d y => y = f d) fun i d s hx ef hbs => body d s (List.mem_of_getElem? hx) ef hbs) ?_
  rintro d s' ⟨rfl, ef, hlt, ys, h1, h2, h3⟩
  refine ⟨rfl, ef, hlt, ?_⟩
  rw [h2]
  congr 1
  refine List.ext_getElem (by simp [h1]) fun i hi hi2 => ?_
  rw [List.getElem_map]
  exact h3 i _ _ (List.getElem?_eq_getElem (by omega)) (List.getElem?_eq_getElem hi)
/-- a pure filter and map -/
theorem lc_filt (f : D → D) (p : D → Bool) (it : ItOk ks s0 j N xs) (hb : ∀ k ∈ ks, Bag s0 k) (hl : xs.length < sizeLine)
    (body : ∀ d s, d ∈ xs → Eff ks s0 s → (∀ k ∈ ks, Bag s k) → ∃ e1, g d e = some e1 ∧ (tt e1 s).wp fun q s1 => Eff ks s s1 ∧ q = p d ∧ (q = true → (mm e1 s1).wp fun y s2 => Eff ks s1 s2 ∧ y = f d)) :
    (lcL j g tt mm s0.length N 0 e (s0 ++ [.lst []])).wp fun d s' => d = .ref s0.length ∧ Eff ks s0 s' ∧ s0.length < s'.length ∧ mlAt s' s0.length = some ((xs.filter p).map f) := by
  refine wp_ne (lc_gen it hb hl (fun i d o _ => o = if p d then some (f d) else none) (fun _ _ _ _ _ h _ _ => h) fun i d s hx ef hbs _ => ?_) ?_
  · obtain ⟨e1, h1, h2⟩ := body d s (List.mem_of_getElem? hx) ef hbs
    refine ⟨e1, h1, wp_ne h2 fun q s1 ⟨h3, h4, h5⟩ => ⟨h3, ?_⟩⟩
    subst h4
    cases hp : p d with
    | true =>
      rw [if_pos rfl]
      exact wp_ne (h5 hp) fun y s2 ⟨h6, h7⟩ => ⟨h6, by rw [h7, if_pos rfl]⟩
    | false => simp
  · rintro d s' ⟨rfl, ef, hlt, zs, hz, hm, hR⟩
    refine ⟨rfl, ef, hlt, ?_⟩
    rw [hm]
    congr 1
    have : zs = xs.map fun d => if p d then some (f d) else none := by
      refine List.ext_getElem (by simp [hz]) fun i hi hi2 => ?_
      rw [List.getElem_map]
      exact hR i _ _ (List.getElem?_eq_getElem (by omega)) (List.getElem?_eq_getElem hi)
    rw [this, List.filterMap_map]
    have : ∀ xs : List D, List.filterMap (id ∘ fun d => if p d = true then some (f d) else none) xs = (xs.filter p).map f := by
      intro xs
      induction xs with
      | nil => rfl
      | cons x xs ih =>
        cases hp : p x <;> simp [hp] <;> simpa using ih
    exact this xs
/-- lc_map, lc_filt, lc_all over a store told apart -/
theorem lc_map2 (s0 : Sto) {l : Nat} {t : Sto} (f : D → D) (hs : l = s0.length) (ht : t = s0 ++ [SO.lst []]) (it : ItOk ks s0 j N xs) (hb : ∀ k ∈ ks, Bag s0 k) (hl : xs.length < sizeLine)
    (body : ∀ d s, d ∈ xs → Eff ks s0 s → (∀ k ∈ ks, Bag s k) → ∃ e1, g d e = some e1 ∧ (mm e1 s).wp fun y s2 => Eff ks s s2 ∧ y = f d) :
    (lcL j g tY mm l N 0 e t).wp fun d s' => d = .ref s0.length ∧ Eff ks s0 s' ∧ s0.length < s'.length ∧ mlAt s' s0.length = some (xs.map f) := by
  subst hs ht
  exact lc_map f it hb hl body
theorem lc_filt2 (s0 : Sto) {l : Nat} {t : Sto} (f : D → D) (p : D → Bool) (hs : l = s0.length) (ht : t = s0 ++ [SO.lst []]) (it : ItOk ks s0 j N xs) (hb : ∀ k ∈ ks, Bag s0 k) (hl : xs.length < sizeLine)
    (body : ∀ d s, d ∈ xs → Eff ks s0 s → (∀ k ∈ ks, Bag s k) → ∃ e1, g d e = some e1 ∧ (tt e1 s).wp fun q s1 => Eff ks s s1 ∧ q = p d ∧ (q = true → (mm e1 s1).wp fun y s2 => Eff ks s1 s2 ∧ y = f d)) :
    (lcL j g tt mm l N 0 e t).wp fun d s' => d = .ref s0.length ∧ Eff ks s0 s' ∧ s0.length < s'.length ∧ mlAt s' s0.length = some ((xs.filter p).map f) := by
  subst hs ht
  exact lc_filt f p it hb hl body
theorem lc_all2 (s0 : Sto) {l : Nat} {t : Sto} (hs : l = s0.length) (ht : t = s0 ++ [SO.lst []]) (it : ItOk ks s0 j N xs) (hb : ∀ k ∈ ks, Bag s0 k) (hl : xs.length < sizeLine) (R : Nat → D → D → Prop)
    (body : ∀ i d s, xs[i]? = some d → Eff ks s0 s → (∀ k ∈ ks, Bag s k) → ∃ e1, g d e = some e1 ∧ (mm e1 s).wp fun y s2 => Eff ks s s2 ∧ R i d y) :
    (lcL j g tY mm l N 0 e t).wp fun d s' => d = .ref s0.length ∧ Eff ks s0 s' ∧ s0.length < s'.length ∧ ∃ ys : List D, ys.length = xs.length ∧ mlAt s' s0.length = some ys ∧ ∀ i d y, xs[i]? = some d → ys[i]? = some y → R i d y := by
  subst hs ht
  exact lc_all it hb hl R body
end
end Z

set_option Elab.async false
set_option linter.all false
set_option maxRecDepth 100000
set_option maxHeartbeats 4000000
namespace Z
open PySem PySem.Spec PyProof.Rows L2
/-! ### draws: bag, take, of -/
def bagG (c0 c1 z : Int) (upd : EM D) (M p : Int) : SM :=
  sC (sA 2 (mIf (toB (m2 dLt (mV 1) (mN fLen (aC (mV 0) aN)))) (m2 dIx (mV 0) (mV 1)) (mC (.int 0))))
  (sC (sA 3 (m2 dAdd (m2 dMul2 (mC (.int c0)) (mV 1)) (mC (.int c1))))
  (sC (sF (iEn (aC (mSl dSl (mV 0) oN (oS (mC (.int z)))) aN)) (gT [gN 4, gN 5]) (sA 3 (m2 dMod (mN fInt (aC upd aN)) (mC (.int M)))))
  (sR (mN fLst (aC (mIf (toB (m2 dGe (mN fAbs (aC (mV 2) aN)) (m2 dPow (mC (.int 10)) (mC (.int p))))) (mN fAbs (aC (mV 2) aN)) (mC (.int 0))) (aC (mV 3) aN))))))
def updA (a b c : Int) : EM D := m2 dAdd (m2 dAdd (m2 dMul2 (mV 3) (mC (.int a))) (m2 dMod (mN fInt (aC (mV 5) aN)) (mC (.int b)))) (m2 dMul2 (mC (.int c)) (mV 4))
def updB (a b c d : Int) : EM D := m2 dAdd (updA a b c) (mC (.int d))
def smallI (i : Int) : Prop := -(2 ^ 64) < i ∧ i < 2 ^ 64
instance (i : Int) : Decidable (smallI i) := by unfold smallI; infer_instance
theorem two_le_line : 2 ≤ sizeLine := by decide
theorem bag_gen {c0 c1 z M p : Int} {upd : EM D} (h0 : smallI c0) (hM : 0 < M) (hp : cPow 10 p)
    (hu : ∀ (o0 o1 o2 : Option D) (m k j : Int) (s : Sto), (upd [o0, o1, o2, some (.int m), some (.int k), some (.int j)] s).wp fun d s' => s' = s ∧ ∃ i, d = .int i)
    {s : Sto} {n : Nat} {ns : List Int} {a : Nat} (hx : lstAt s n = some (ns.map D.int)) : (fnM 2 6 (bagG c0 c1 z upd M p) [.ref n, .int a] s).wp fun d s' => ∃ k, d = .ref k ∧ s.length ≤ k ∧ Bag s' k ∧ Eff [] s s' := by
  unfold bagG
  rw [z_fnM (by rfl)]
  have hn : n < s.length := lstAt_lt hx
  have hc : ∀ d, d ∈ cutD (ns.map D.int) none (some z) → ∃ i, d = .int i := fun d hd => by
    have := List.mem_of_mem_drop (List.mem_of_mem_take hd)
    obtain ⟨i, -, rfl⟩ := List.mem_map.mp this
    exact ⟨i, rfl⟩
  have first : ∀ Q : En, (∀ A : Int, Q.nx [some (.ref n), some (.int a), some (.int A), none, none, none] s) → (sA 2 (mIf (toB (m2 dLt (mV 1) (mN fLen (aC (mV 0) aN)))) (m2 dIx (mV 0) (mV 1)) (mC (.int 0))) [some (.ref n), some (.int a), none, none, none, none] s).wp Q := by
    intro Q hQ
    simp [hx]
    split
    · rename_i h
      obtain ⟨i, e⟩ : ∃ i, atI (ns.map D.int) (a : Int) = some (.int i) := ⟨_, atI_of (by rw [List.getElem?_map, List.getElem?_eq_getElem h]; rfl)⟩
      rw [e]
      exact hQ _
    · exact hQ _
  rw [z_sC]
  refine first _ fun A => ?_
  have loop : ∀ (j0 : Stp) (Q : En) (m : Int) (s1 : Sto), lstAt s1 s.length = some (cutD (ns.map D.int) none (some z)) → (∀ m o4 o5, Q.nx [some (.ref n), some (.int a), some (.int A), some (.int m), o4, o5] s1) →
      (forL (jEn s.length) (gT [gN 4, gN 5]) (sA 3 (m2 dMod (mN fInt (aC upd aN)) (mC (.int M)))) (cutD (ns.map D.int) none (some z)).length 0 [some (.ref n), some (.int a), some (.int A), some (.int m), none, none] s1).wp Q := by
    intro j0 Q m s1 hs1 hQ
    refine forL_wp (fun i e s2 => s2 = s1 ∧ ∃ m o4 o5, e = [some (.ref n), some (.int a), some (.int A), some (.int m), o4, o5]) ?_ _ 0 _ _ (Nat.zero_add _) ⟨rfl, m, none, none, rfl⟩
    rintro i e s2 hi ⟨rfl, m, o4, o5, rfl⟩
    refine ⟨fun h => ⟨by subst h; simp [jEn, hs1], hQ m o4 o5⟩, fun h => ?_⟩
    obtain ⟨j, hj⟩ := hc _ (List.getElem_mem h)
    refine ⟨.tup [.int i, .int j], _, by simp [jEn, hs1, h, hj], rfl, ?_⟩
    have := hu (some (.ref n)) (some (.int a)) (some (.int A)) m i j s2
    simp
    refine wp_ne this fun d s3 ⟨e1, i2, e2⟩ => ?_
    subst e1 e2
    simp [hM]
  simp [hx, cMul]
  refine ⟨.inl h0, loop (fun _ _ => none) _ _ _ (by simp) fun m o4 o5 => ?_⟩
  have fin : ∀ B : Int, 2 ≤ sizeLine ∧ s.length ≤ s.length + 1 ∧ Bag (s ++ [SO.lst (cutD (List.map D.int ns) none (some z)), SO.lst [D.int B, D.int m]]) (s.length + 1) ∧ Eff [] s (s ++ [SO.lst (cutD (List.map D.int ns) none (some z)), SO.lst [D.int B, D.int m]]) := fun B =>
    ⟨two_le_line, by omega, ⟨B, m, by rw [List.getElem?_append_right (by omega)]; simp⟩, by
      have := (Eff.push (ks := []) (s := s) (o := SO.lst (cutD (List.map D.int ns) none (some z)))).trans (Eff.push (o := SO.lst [D.int B, D.int m]))
      simpa using this⟩
  have f1 := fun B => (fin B).1
  have f3 := fun B => (fin B).2.2
  simp [hp]
  split <;> (try split) <;> first | exact ⟨two_le_line, f3 _⟩ | exact f3 _
theorem updA_ok {a b c : Int} (ha : smallI a) (hb : 0 < b) (hc : smallI c) (o0 o1 o2 : Option D) (m k j : Int) (s : Sto) : (updA a b c [o0, o1, o2, some (.int m), some (.int k), some (.int j)] s).wp fun d s' => s' = s ∧ ∃ i, d = .int i := by
  unfold updA
  simp [cMul, hb]
  exact ⟨.inr ha, .inl hc⟩
theorem updB_ok {a b c d : Int} (ha : smallI a) (hb : 0 < b) (hc : smallI c) (o0 o1 o2 : Option D) (m k j : Int) (s : Sto) : (updB a b c d [o0, o1, o2, some (.int m), some (.int k), some (.int j)] s).wp fun d s' => s' = s ∧ ∃ i, d = .int i := by
  unfold updB updA
  simp [cMul, hb]
  exact ⟨.inr ha, .inl hc⟩
/-- a draw: a whole number below n -/
def TakeOk (F : List D → Sto → Rs D) : Prop := ∀ {s : Sto} {k : Nat} {n : Int}, Bag s k → 0 < n → n < 1073741824 → (F [.ref k, .int n] s).wp fun d s' => ∃ i : Nat, d = .int i ∧ (i : Int) < n ∧ Eff [k] s s'
def takeG (c1 c2 M d1 c3 M2 d2 : Int) : SM := (sC (sI (toB (m2 dGt (m2 dIx (mV 0) (mC (.int 0))) (mC (.int 0)))) (sC (sA 2 (m2 dMod (mN fInt (aC (m2 dIx (mV 0) (mC (.int 0))) aN)) (mV 1))) (sC (sX xSetL (mV 0) (mC (.int 0)) (m2 dDiv (m2 dIx (mV 0) (mC (.int 0))) (mV 1))) (sR (mV 2)))) sN) (sC (sX xSetL (mV 0) (mC (.int 1)) (m2 dMod (mN fInt (aC (m2 dAdd (m2 dMul2 (m2 dIx (mV 0) (mC (.int 1))) (mC (.int c1))) (mC (.int c2))) aN)) (mC (.int M)))) (sR (m2 dMod (m2 dDiv (m2 dMod (mN fInt (aC (m2 dMul2 (m2 dDiv (m2 dIx (mV 0) (mC (.int 1))) (mC (.int d1))) (mC (.int c3))) aN)) (mC (.int M2))) (mC (.int d2))) (mV 1)))))
theorem take_gen {c1 c2 M d1 c3 M2 d2 : Int} (h1 : smallI c1) (h2 : smallI c3) (hM : 0 < M) (hM2 : 0 < M2) (hd1 : 0 < d1 ∧ d1 < 1073741824) (hd2 : 0 < d2 ∧ d2 < 1073741824) : TakeOk (fnM 2 3 (takeG c1 c2 M d1 c3 M2 d2)) := by
  intro s k n hb hn hn2
  obtain ⟨a, b, h, hl, hk⟩ := hb.ml
  unfold takeG
  rw [z_fnM (by rfl)]
  have h4 := fun i => mod_lt (i := i) hn
  have nat : ∀ i : Int, ∃ j : Nat, D.int (i % n) = D.int j ∧ (j : Int) < n := fun i => by
    obtain ⟨j, hj⟩ := Int.eq_ofNat_of_zero_le (h4 i).1
    exact ⟨j, by rw [hj], by rw [← hj]; exact (h4 i).2⟩
  have key : ∀ (i : Int) {t : Sto}, Eff [k] s t → ∃ j : Nat, i % n = j ∧ (j : Int) < n ∧ Eff [k] s t := fun i t e => by
    obtain ⟨j, hj⟩ := Int.eq_ofNat_of_zero_le (h4 i).1
    exact ⟨j, hj, by rw [← hj]; exact (h4 i).2, e⟩
  simp [hl, h, hk, hn, hn2, hM, hM2, hd1.1, hd1.2, hd2.1, hd2.2, cMul]
  split
  · exact key _ (Eff.bagset hk)
  · exact ⟨.inr h1, .inr h2, key _ (Eff.bagset hk)⟩
/-- one of a list's or a tuple's items -/
def OfOk (F : List D → Sto → Rs D) : Prop := ∀ {s : Sto} {k : Nat} {x : D} {xs : List D}, Bag s k → seqD s x = some xs → x ≠ .ref k → xs ≠ [] → xs.length < 1073741824 → (F [.ref k, x] s).wp fun d s' => d ∈ xs ∧ Eff [k] s s'
def ofG (take : List D → Sto → Rs D) : SM := (sR (m2 dIx (mV 1) (mN take (aC (mV 0) (aC (mN fLen (aC (mV 1) aN)) aN)))))
theorem of_gen {take : List D → Sto → Rs D} (T : TakeOk take) : OfOk (fnM 2 2 (ofG take)) := by
  intro s k x xs hb hx hk h0 hl
  have hp : 0 < xs.length := List.length_pos_iff.mpr h0
  unfold ofG
  rw [z_fnM (by rfl)]
  cases x with
  | ref n =>
    have hx : lstAt s n = some xs := hx
    have hn : n ≠ k := fun e => hk (by rw [e])
    simp [hx]
    refine wp_ne (T hb (by omega) (by omega)) fun d s' ⟨i, e, h1, ef⟩ => ?_
    subst e
    obtain ⟨c, j, -, -, h4, h5⟩ := atI_nat (xs := xs) (i := i) (by omega) h1
    simp [ef.lst hx (by simpa using hn), h4, h5, ef]
  | tup ys =>
    cases hx
    simp
    refine wp_ne (T hb (by omega) (by omega)) fun d s' ⟨i, e, h1, ef⟩ => ?_
    subst e
    obtain ⟨c, j, -, -, h4, h5⟩ := atI_nat (xs := xs) (i := i) (by omega) h1
    simp [h4, h5, ef]
  | _ => cases hx
end Z

set_option Elab.async false
set_option linter.all false
set_option maxRecDepth 100000
set_option maxHeartbeats 4000000
namespace Z
open PySem PySem.Spec PyProof.Rows L2 TL
/-! ### names -/
def abc : Str := "abcdefghijklmnopqrstuvwxyz"
def one (c : Nat) : Str := ⟨#[c]⟩
def isLow (c : Nat) : Prop := 97 ≤ c ∧ c ≤ 122
instance (c : Nat) : Decidable (isLow c) := by unfold isLow; infer_instance
structure IsName (x : Str) : Prop where
  pos : 1 ≤ (tl x).length
  len : (tl x).length ≤ 8
  low : ∀ c ∈ tl x, isLow c
theorem abc_tl : tl abc = (List.range 26).map (97 + ·) := by decide +kernel
theorem abc_len : abc.length = 26 := by decide +kernel
theorem abc_le : abc.length ≤ sizeLine := by decide +kernel
theorem abc_at {i : Nat} (h : i < 26) : atI (tl abc) (i : Int) = some (97 + i) := atI_of (by rw [abc_tl]; simp [h])
theorem tl_one (c : Nat) : tl (one c) = [c] := rfl
theorem tl_join0 : ∀ ys : List Str, tl (Txt.join "" ys) = (ys.map tl).flatten := by
  intro ys
  rw [join_eq, tl_join]
  have e : tl ("" : Str) = [] := by decide +kernel
  rw [e]
  have : ∀ l : List (List Nat), joinL [] l = l.flatten := by
    intro l
    induction l with
    | nil => rfl
    | cons a l ih =>
      cases l with
      | nil => simp [joinL]
      | cons b l =>
        show a ++ ([] ++ joinL [] (b :: l)) = _
        rw [ih]
        simp
  exact this _
theorem mapM_strD : ∀ ys : List Str, (ys.map D.str).mapM strD = some ys
  | [] => rfl
  | y :: ys => by
    rw [List.map_cons, List.mapM_cons, mapM_strD ys]
    rfl
theorem tl_ofl (l : List Nat) : tl ⟨l.toArray⟩ = l := rfl
/-- distinct names, n of them, in a new list -/
def NamesOk (F : List D → Sto → Rs D) : Prop := ∀ {s : Sto} {k n : Nat}, Bag s k → n ≤ 26 → (F [.ref k, .int n] s).wp fun d s' => ∃ (l : Nat) (ms : List Str), d = .ref l ∧ s.length ≤ l ∧ mlAt s' l = some (ms.map D.str) ∧ ms.length = n ∧ ms.Nodup ∧ (∀ x ∈ ms, IsName x) ∧ Eff [k] s s'
def namesB (take of_ : List D → Sto → Rs D) : SM := (sC (sA 2 (mC (.str "abcdefghijklmnopqrstuvwxyz"))) (sC (sA 3 (mBM "str" fJoin (mC (.str "")) (aC (mL (iR1 (aC (mN of_ (aC (mV 0) (aC (mN fLst (aC (mC (.int 0)) (aC (mC (.int 0)) (aC (mC (.int 1)) (aC (mC (.int 3)) (aC (mC (.int 7)) aN)))))) aN))) aN)) (gN 7) tY (m2 dIx (mV 2) (mN take (aC (mV 0) (aC (mC (.int 26)) aN)))) [7]) aN))) (sC (sG (gT [(gN 5), (gN 6)]) (mN fTup (aC (mN take (aC (mV 0) (aC (mC (.int 26)) aN))) (aC (mN take (aC (mV 0) (aC (mC (.int 2)) aN))) aN)))) (sC (sA 4 (mL (iR1 (aC (mV 1) aN)) (gN 7) tY (m2 dIx (mV 2) (m2 dMod (m2 dAdd (mV 5) (m2 dMul2 (mC (.int 5)) (mV 7))) (mC (.int 26)))) [7])) (sR (mL (iSq (mV 4)) (gN 8) tY (mIf (toT (mV 6)) (m2 dAdd (mV 3) (mV 8)) (m2 dAdd (mV 8) (mV 3))) [8]))))))
theorem rngD_mem {lo : Int} {n : Nat} {d : D} (h : d ∈ rngD lo n) : ∃ i : Nat, i < n ∧ d = .int (lo + i) := by
  unfold rngD at h
  obtain ⟨i, hi, rfl⟩ := List.mem_map.mp h
  exact ⟨i, by simpa using hi, rfl⟩
theorem rngD_get {lo : Int} {n i : Nat} {d : D} (h : (rngD lo n)[i]? = some d) : i < n ∧ d = .int (lo + i) := by
  unfold rngD at h
  rw [List.getElem?_map] at h
  by_cases hi : i < n
  · rw [List.getElem?_range hi] at h
    cases h
    exact ⟨hi, rfl⟩
  · rw [List.getElem?_eq_none (by simpa using hi)] at h
    cases h
theorem rngD_len {lo : Int} {n : Nat} : (rngD lo n).length = n := by simp [rngD]
theorem line_26 : 26 < sizeLine := by decide
theorem line_8 : 100 ≤ sizeLine := by decide
/-- texts of one letter each -/
theorem letters_of {ys : List D} (h : ∀ y ∈ ys, ∃ c, isLow c ∧ y = .str (one c)) : ∃ cs : List Nat, (∀ c ∈ cs, isLow c) ∧ ys = (cs.map one).map D.str := by
  induction ys with
  | nil => exact ⟨[], by simp, rfl⟩
  | cons y ys ih =>
    obtain ⟨c, hc, rfl⟩ := h y (by simp)
    obtain ⟨cs, h1, rfl⟩ := ih fun y hy => h y (by simp [hy])
    exact ⟨c :: cs, by simpa using ⟨hc, h1⟩, rfl⟩
theorem join_ones (cs : List Nat) : Txt.join "" (cs.map one) = ⟨cs.toArray⟩ := ext_tl (by
  rw [tl_join0, List.map_map]
  have : (tl ∘ one) = fun c => [c] := rfl
  rw [this, tl_ofl]
  induction cs with
  | nil => rfl
  | cons c cs ih => simpa using ih)
theorem sum_ones {α : Type} : ∀ l : List α, (l.map fun _ => 1).sum = l.length
  | [] => rfl
  | a :: l => by rw [List.map_cons, List.sum_cons, sum_ones l, List.length_cons]; omega
theorem isTy_str {s : Sto} {x : Str} : isTy "str" s (.str x) = true := by
  show ("str" == "str") = true
  exact beq_self_eq_true _
theorem five_inj {st i j : Int} (hi : 0 ≤ i ∧ i < 26) (hj : 0 ≤ j ∧ j < 26) (h : (st + 5 * i) % 26 = (st + 5 * j) % 26) : i = j := by omega
theorem names_genB {take of_ : List D → Sto → Rs D} (T : TakeOk take) (O : OfOk of_) : NamesOk (fnM 2 9 (namesB take of_)) := by
  intro s k n hb hn
  have hk := hb.lt
  have ea : (("abcdefghijklmnopqrstuvwxyz" : String) : Str) = abc := rfl
  refine wp_of fun P hP => ?_
  unfold namesB
  rw [z_fnM (by rfl), ea]
  -- the base
  simp
  refine ⟨isTy_str, Nat.le_trans (by decide) line_8, ?_⟩
  refine wp_ne (O (s := s ++ [SO.lst [D.int 0, D.int 0, D.int 1, D.int 3, D.int 7]]) (k := k) (x := .ref s.length) (Eff.push (ks := [k]) |>.bag k (by simp) hb) lstAt_push (by simp; omega) (by simp) (by simp)) fun d s1 ⟨hd, ef1⟩ => ?_
  have ef1 := (Eff.push (ks := [k])).trans ef1
  obtain ⟨q, rfl, hq⟩ : ∃ q : Nat, d = .int q ∧ q ≤ 7 := by
    simp at hd
    rcases hd with rfl | rfl | rfl | rfl
    · exact ⟨0, rfl, by decide⟩
    · exact ⟨1, rfl, by decide⟩
    · exact ⟨3, rfl, by decide⟩
    · exact ⟨7, rfl, by decide⟩
  simp
  refine ⟨by omega, ?_⟩
  have hb1 := ef1.bag k (by simp) hb
  refine wp_ne (lc_all (ks := [k]) it_rng (by simpa using hb1) (by rw [rngD_len]; exact Nat.lt_of_le_of_lt (Nat.le_trans hq (by decide)) line_26) (fun i d y => ∃ c, isLow c ∧ y = .str (one c)) fun i d s2 hx ef hbs => ⟨_, rfl, ?_⟩) ?_
  · simp
    refine wp_ne (T (hbs k (by simp)) (by omega) (by omega)) fun d s' ⟨j, e, h1, ef⟩ => ?_
    subst e
    have h2 : j < 26 := by omega
    simp [abc_le, abc_at h2, ef, one, isLow]
    omega
  rintro d s2 ⟨rfl, ef2, hlt2, ys, hy1, hy2, hy3⟩
  obtain ⟨cs, hcs, rfl⟩ := letters_of (ys := ys) fun y hy => by
    obtain ⟨i, hi, rfl⟩ := List.getElem_of_mem hy
    exact hy3 i _ _ (List.getElem?_eq_getElem (by omega)) (List.getElem?_eq_getElem hi)
  have hcl : cs.length = q := by
    rw [rngD_len] at hy1
    simpa using hy1
  have hs2 : lstAt s2 s1.length = some ((cs.map one).map D.str) := lstAt_ml hy2
  rw [z_join]
  refine ⟨_, _, hs2, mapM_strD _, ?_, ?_⟩
  · have e0 : ("" : Str).length = 0 := by decide +kernel
    have e1 : (List.map (fun x => x.length) (cs.map one)).sum = cs.length := by
      rw [List.map_map]
      have : ((fun x : Str => x.length) ∘ one) = fun _ => 1 := rfl
      rw [this, sum_ones]
    rw [e0, e1]
    omega
  rw [join_ones]
  have hb2 := ef2.bag k (by simp) hb1
  refine wp_ne (T hb2 (by omega) (by omega)) fun d s3 ⟨st, e, h1, ef3⟩ => ?_
  subst e
  have hb3 := ef3.bag k (by simp) hb2
  refine wp_ne (T hb3 (by omega) (by omega)) fun d s4 ⟨be, e, hbe, ef4⟩ => ?_
  subst e
  have hb4 := ef4.bag k (by simp) hb3
  refine ⟨two_le_line, ?_⟩
  refine ⟨by omega, ?_⟩
  refine wp_ne (lc_map (ks := []) (fun d => match d with | .int i => .str (one (97 + ((st + 5 * i) % 26).toNat)) | _ => .non) it_rng (by simp) (by rw [rngD_len]; exact Nat.lt_of_le_of_lt hn line_26) fun d s5 hd ef _ => ⟨_, rfl, ?_⟩) ?_
  · obtain ⟨i, hi, rfl⟩ := rngD_mem hd
    simp [cMul]
    obtain ⟨j, hj⟩ := Int.eq_ofNat_of_zero_le (Int.emod_nonneg ((st : Int) + 5 * i) (show (26 : Int) ≠ 0 by decide))
    have hj2 : j < 26 := by
      have := Int.emod_lt_of_pos ((st : Int) + 5 * i) (show (0 : Int) < 26 by decide)
      omega
    rw [hj]
    simp [abc_le, abc_at hj2, Eff.refl, one]
  rintro d s5 ⟨rfl, ef5, hlt5, hm5⟩
  generalize hx5 : List.map _ (rngD 0 n) = xs5 at hm5
  have hx5l : xs5.length = n := by rw [← hx5, List.length_map, rngD_len]
  simp [lstAt_ml hm5]
  refine wp_ne (lc_map (ks := []) (fun d => match d with | .str x => .str (if be = 0 then x ++ ⟨cs.toArray⟩ else ⟨cs.toArray⟩ ++ x) | _ => .non) (it_lst (lstAt_ml hm5) (by simp)) (by simp) (by rw [hx5l]; exact Nat.lt_of_le_of_lt hn line_26) fun d s6 hd ef _ => ⟨_, rfl, ?_⟩) ?_
  · rw [← hx5] at hd
    obtain ⟨d0, hd0, rfl⟩ := List.mem_map.mp hd
    obtain ⟨i, hi, rfl⟩ := rngD_mem hd0
    simp [z_toT, trD]
    have l1 : (⟨cs.toArray⟩ : Str).length = cs.length := rfl
    have l2 : ∀ c, (one c).length = 1 := fun _ => rfl
    have l3 : cs.length + 1 ≤ sizeLine := Nat.le_trans (by omega) line_8
    have l4 : 1 + cs.length ≤ sizeLine := Nat.le_trans (by omega) line_8
    by_cases h0 : be = 0
    · simp [h0, Eff.refl, l1, l2, l3, l4]
    · simp [h0, Eff.refl, l1, l2, l3, l4]
  rintro d s6 ⟨rfl, ef6, hlt6, hm6⟩
  refine hP _ _ ⟨_, (List.range n).map fun i : Nat => if be = 0 then one (97 + (((st : Int) + 5 * i) % 26).toNat) ++ ⟨cs.toArray⟩ else ⟨cs.toArray⟩ ++ one (97 + (((st : Int) + 5 * i) % 26).toNat), rfl, ?_, ?_, by simp, ?_, ?_, ?_⟩
  · have := ef1.le; have := ef2.le; have := ef3.le; have := ef4.le; have := ef5.le
    omega
  · rw [hm6, ← hx5]
    simp [rngD]
  · have nd : (List.range n).Nodup := List.nodup_range
    refine (List.pairwise_map).mpr (List.Pairwise.imp_of_mem ?_ nd)
    intro a b ha hb hab heq
    apply hab
    have ha : a < n := by simpa using ha
    have hb : b < n := by simpa using hb
    have e2 : (97 + (((st : Int) + 5 * a) % 26).toNat) = (97 + (((st : Int) + 5 * b) % 26).toNat) := by
      have := congrArg tl heq
      by_cases h0 : be = 0
      · simpa [h0, tl_append, tl_one] using this
      · simpa [h0, tl_append, tl_one] using this
    have := five_inj (st := st) (i := a) (j := b) (by omega) (by omega) (by omega)
    omega
  · intro x hx
    obtain ⟨i, hi, rfl⟩ := List.mem_map.mp hx
    have hlow : isLow (97 + (((st : Int) + 5 * i) % 26).toNat) := by unfold isLow; omega
    have h7 : (tl (⟨cs.toArray⟩ : Str)) = cs := rfl
    by_cases h0 : be = 0
    · refine ⟨?_, ?_, ?_⟩ <;> simp only [h0, if_true, tl_append, tl_one, h7]
      · simp
      · simp; omega
      · intro c hc
        rcases List.mem_append.mp hc with hc | hc
        · simp at hc; rw [hc]; exact hlow
        · exact hcs c hc
    · refine ⟨?_, ?_, ?_⟩ <;> simp only [h0, if_false, tl_append, tl_one, h7]
      · simp
      · simp; omega
      · intro c hc
        rcases List.mem_append.mp hc with hc | hc
        · exact hcs c hc
        · simp at hc; rw [hc]; exact hlow
  · exact ((((ef1.trans ef2).trans ef3).trans ef4).trans ef5.nil).trans ef6.nil
end Z

set_option Elab.async false
set_option linter.all false
set_option maxRecDepth 100000
set_option maxHeartbeats 4000000
namespace Z
open PySem PySem.Spec PyProof.Rows L2 TL
open PySem.PyData (strOk)
/-! ### data without places: none, ints, texts, tuples of these -/
mutual
def enc : D → PyData
  | .non => .none
  | .bl b => .bool b
  | .int i => .int i
  | .str x => .str x
  | .tup xs => .tuple (encs xs)
  | .ref _ => .none
def encs : List D → List PyData
  | [] => []
  | x :: xs => enc x :: encs xs
end
mutual
/-- plain, of depth below n -/
def plain : Nat → D → Bool
  | _, .non => true
  | _, .bl _ => false
  | _, .int _ => true
  | _, .str x => strOk x
  | 0, .tup _ => false
  | n + 1, .tup xs => plains n xs
  | _, .ref _ => false
def plains : Nat → List D → Bool
  | _, [] => true
  | n, x :: xs => plain n x && plains n xs
end
theorem encs_map : ∀ xs : List D, encs xs = xs.map enc
  | [] => rfl
  | x :: xs => by rw [encs, encs_map xs]; rfl
theorem plains_iff {n : Nat} : ∀ {xs : List D}, plains n xs = true ↔ ∀ x ∈ xs, plain n x = true
  | [] => by simp [plains]
  | x :: xs => by simp [plains, plains_iff (xs := xs)]
theorem mapM_some' {α β : Type} {f : α → Option β} {g : α → β} : ∀ {xs : List α}, (∀ x ∈ xs, f x = some (g x)) → xs.mapM f = some (xs.map g)
  | [], _ => rfl
  | x :: xs, h => by
    rw [List.mapM_cons, h x (by simp), mapM_some' fun y hy => h y (by simp [hy])]
    rfl
mutual
theorem pyd_plain (s : Sto) : ∀ (n : Nat) (d : D), plain n d = true → pyd (n + 1) s d = some (enc d)
  | n, .non, _ => by rw [pyd]; rfl
  | n, .bl _, h => by rw [plain] at h; cases h
  | n, .int _, _ => by rw [pyd]; rfl
  | n, .str _, _ => by rw [pyd]; rfl
  | 0, .tup _, h => by rw [plain] at h; cases h
  | n + 1, .tup xs, h => by
    rw [plain] at h
    rw [pyd, pyds_plain s n xs h]
    rfl
  | n, .ref _, h => by cases n <;> (rw [plain] at h; cases h)
theorem pyds_plain (s : Sto) : ∀ (n : Nat) (xs : List D), plains n xs = true → xs.mapM (pyd (n + 1) s) = some (encs xs)
  | _, [], _ => rfl
  | n, x :: xs, h => by
    rw [plains, Bool.and_eq_true] at h
    rw [List.mapM_cons, pyd_plain s n x h.1, pyds_plain s n xs h.2]
    rfl
end
theorem pyd_mono (s : Sto) : ∀ (n : Nat) (d : D) (p : PyData), pyd n s d = some p → pyd (n + 1) s d = some p
  | 0, d, p, h => by rw [pyd] at h; cases h
  | n + 1, .non, p, h => by rw [pyd] at h ⊢; exact h
  | n + 1, .bl _, p, h => by rw [pyd] at h ⊢; exact h
  | n + 1, .int _, p, h => by rw [pyd] at h ⊢; exact h
  | n + 1, .str _, p, h => by rw [pyd] at h ⊢; exact h
  | n + 1, .tup xs, p, h => by
    rw [pyd] at h ⊢
    obtain ⟨ps, h1, rfl⟩ := Option.map_eq_some_iff.mp h
    have : ∀ (xs : List D) (ps : List PyData), xs.mapM (pyd n s) = some ps → xs.mapM (pyd (n + 1) s) = some ps := by
      intro xs
      induction xs with
      | nil => intro ps h; exact h
      | cons x xs ih =>
        intro ps h
        rw [List.mapM_cons] at h ⊢
        obtain ⟨a, h1, h⟩ := Option.bind_eq_some_iff.mp h
        obtain ⟨b, h2, h⟩ := Option.bind_eq_some_iff.mp h
        cases h
        rw [pyd_mono s n x a h1, ih b h2]
        rfl
    rw [this xs ps h1]
    rfl
  | n + 1, .ref k, p, h => by
    rw [pyd] at h ⊢
    obtain ⟨xs, h0, h⟩ := Option.bind_eq_some_iff.mp h
    obtain ⟨ps, h1, rfl⟩ := Option.map_eq_some_iff.mp h
    have : ∀ (xs : List D) (ps : List PyData), xs.mapM (pyd n s) = some ps → xs.mapM (pyd (n + 1) s) = some ps := by
      intro xs
      induction xs with
      | nil => intro ps h; exact h
      | cons x xs ih =>
        intro ps h
        rw [List.mapM_cons] at h ⊢
        obtain ⟨a, h1, h⟩ := Option.bind_eq_some_iff.mp h
        obtain ⟨b, h2, h⟩ := Option.bind_eq_some_iff.mp h
        cases h
        rw [pyd_mono s n x a h1, ih b h2]
        rfl
    rw [h0, Option.bind_some, this xs ps h1]
    rfl
theorem pyd_le {s : Sto} {d : D} {p : PyData} {n m : Nat} (h : pyd n s d = some p) (hm : n ≤ m) : pyd m s d = some p := by
  induction hm with
  | refl => exact h
  | step _ ih => exact pyd_mono s _ d p ih
mutual
theorem canLay_plain : ∀ (n : Nat) (d : D), plain n d = true → (enc d).canLay0 = true ∧ (enc d).depth ≤ n
  | n, .non, _ => by simp [enc, PyData.canLay0, PyData.depth]
  | n, .bl _, h => by rw [plain] at h; cases h
  | n, .int _, _ => by simp [enc, PyData.canLay0, PyData.depth]
  | n, .str _, h => by
    rw [plain] at h
    simp [enc, PyData.canLay0, PyData.depth, h]
  | 0, .tup _, h => by rw [plain] at h; cases h
  | n + 1, .tup xs, h => by
    rw [plain] at h
    obtain ⟨h1, h2⟩ := canLays_plain n xs h
    rw [enc, PyData.canLay0, PyData.depth]
    exact ⟨h1, by omega⟩
  | n, .ref _, h => by cases n <;> (rw [plain] at h; cases h)
theorem canLays_plain : ∀ (n : Nat) (xs : List D), plains n xs = true → PyData.canLayAll0 (encs xs) = true ∧ PyData.depthAll (encs xs) ≤ n
  | _, [], _ => by simp [encs, PyData.canLayAll0, PyData.depthAll]
  | n, x :: xs, h => by
    rw [plains, Bool.and_eq_true] at h
    obtain ⟨h1, h2⟩ := canLay_plain n x h.1
    obtain ⟨h3, h4⟩ := canLays_plain n xs h.2
    rw [encs, PyData.canLayAll0, PyData.depthAll, h1, h3]
    exact ⟨rfl, Nat.max_le.mpr ⟨h2, h4⟩⟩
end
theorem plain_mono : ∀ (n : Nat) (d : D), plain n d = true → plain (n + 1) d = true
  | n, .non, _ => by rw [plain]
  | n, .bl _, h => by rw [plain] at h; cases h
  | n, .int _, _ => by rw [plain]
  | n, .str _, h => by rw [plain] at h ⊢; exact h
  | 0, .tup _, h => by rw [plain] at h; cases h
  | n + 1, .tup xs, h => by
    rw [plain] at h ⊢
    rw [plains_iff] at h ⊢
    exact fun x hx => plain_mono n x (h x hx)
  | n, .ref _, h => by cases n <;> (rw [plain] at h; cases h)
theorem plain_le {n m : Nat} {d : D} (h : plain n d = true) (hm : n ≤ m) : plain m d = true := by
  induction hm with
  | refl => exact h
  | step _ ih => exact plain_mono _ d ih
theorem shp_of {s : Sto} {d : D} {p : PyData} (h : pyd 30 s d = some p) (hs : SeqAt.shaped p = true) : shp s d = some p := by
  unfold shp
  rw [h]
  simp [hs]
theorem shaped_of {p : PyData} (h1 : p.canLay0 = true) (h2 : p.depth ≤ 64) : SeqAt.shaped p = true := by
  unfold SeqAt.shaped
  rw [h1]
  simpa using h2
theorem shp_plain {s : Sto} {d : D} (h : plain 20 d = true) : shp s d = some (enc d) := by
  obtain ⟨h1, h2⟩ := canLay_plain 20 d h
  exact shp_of (pyd_le (pyd_plain s 20 d h) (by omega)) (shaped_of h1 (by omega))
theorem shp_lst {s : Sto} {n : Nat} {xs : List D} (hx : lstAt s n = some xs) (h : plains 20 xs = true) : shp s (.ref n) = some (.list (encs xs)) := by
  obtain ⟨h1, h2⟩ := canLays_plain 20 xs h
  refine shp_of ?_ (shaped_of (by rw [PyData.canLay0]; exact h1) (by rw [PyData.depth]; omega))
  have : pyd 22 s (.ref n) = some (.list (encs xs)) := by
    rw [pyd, hx, Option.bind_some, pyds_plain s 20 xs h]
    rfl
  exact pyd_le this (by omega)
/-! ### == of plain data -/
mutual
theorem eqv_enc : ∀ (n : Nat) (a b : D), plain n a = true → plain n b = true → (PyData.eqv (enc a) (enc b) = true ↔ a = b)
  | n, .bl _, _, h, _ => by rw [plain] at h; cases h
  | n, .ref _, _, h, _ => by cases n <;> (rw [plain] at h; cases h)
  | n, .non, b, _, h => by
    cases b with
    | bl _ => rw [plain] at h; cases h
    | ref _ => cases n <;> (rw [plain] at h; cases h)
    | _ => simp [enc, PyData.eqv]
  | n, .int i, b, _, h => by
    cases b with
    | bl _ => rw [plain] at h; cases h
    | ref _ => cases n <;> (rw [plain] at h; cases h)
    | _ => simp [enc, PyData.eqv]
  | n, .str i, b, _, h => by
    cases b with
    | bl _ => rw [plain] at h; cases h
    | ref _ => cases n <;> (rw [plain] at h; cases h)
    | _ => simp [enc, PyData.eqv]
  | 0, .tup _, _, h, _ => by rw [plain] at h; cases h
  | n + 1, .tup xs, b, h1, h => by
    cases b with
    | bl _ => rw [plain] at h; cases h
    | ref _ => rw [plain] at h; cases h
    | tup ys =>
      rw [plain] at h1 h
      rw [enc, enc, PyData.eqv, eqvs_enc n xs ys h1 h]
      simp
    | _ => simp [enc, PyData.eqv]
theorem eqvs_enc : ∀ (n : Nat) (xs ys : List D), plains n xs = true → plains n ys = true → (PyData.eqvAll (encs xs) (encs ys) = true ↔ xs = ys)
  | _, [], [], _, _ => by simp [encs, PyData.eqvAll]
  | _, [], _ :: _, _, _ => by simp [encs, PyData.eqvAll]
  | _, _ :: _, [], _, _ => by simp [encs, PyData.eqvAll]
  | n, x :: xs, y :: ys, h1, h2 => by
    rw [plains, Bool.and_eq_true] at h1 h2
    rw [encs, encs, PyData.eqvAll, Bool.and_eq_true, eqv_enc n x y h1.1 h2.1, eqvs_enc n xs ys h1.2 h2.2]
    simp
end
section
variable {P : D → Sto → Prop} {E : Str → Str → D → Sto → Prop} {s : Sto} {a b : D} {xs ys : List D} {n m : Nat}
/-- the answer of == as a proposition -/
theorem z_eqP [Decidable (a = b)] (ha : plain 20 a = true) (hb : plain 20 b = true) : (dEq a b s).wp P E = P (.bl (decide (a = b))) s := by
  rw [z_eq (shp_plain ha) (shp_plain hb)]
  have := eqv_enc 20 a b ha hb
  have e : PyData.eqv (enc a) (enc b) = decide (a = b) := by
    by_cases h : a = b
    · rw [decide_eq_true h, this.mpr h]
    · rw [decide_eq_false h]
      exact Bool.eq_false_iff.mpr fun q => h (this.mp q)
  rw [e]
theorem z_neP [Decidable (a = b)] (ha : plain 20 a = true) (hb : plain 20 b = true) : (dNe a b s).wp P E = P (.bl (!decide (a = b))) s := by
  rw [z_ne (shp_plain ha) (shp_plain hb)]
  have := eqv_enc 20 a b ha hb
  have e : PyData.eqv (enc a) (enc b) = decide (a = b) := by
    by_cases h : a = b
    · rw [decide_eq_true h, this.mpr h]
    · rw [decide_eq_false h]
      exact Bool.eq_false_iff.mpr fun q => h (this.mp q)
  rw [e]
theorem eqv_lst [Decidable (xs = ys)] (h1 : plains 20 xs = true) (h2 : plains 20 ys = true) : PyData.eqv (.list (encs xs)) (.list (encs ys)) = decide (xs = ys) := by
  rw [PyData.eqv]
  have := eqvs_enc 20 xs ys h1 h2
  by_cases h : xs = ys
  · rw [decide_eq_true h, this.mpr h]
  · rw [decide_eq_false h]
    exact Bool.eq_false_iff.mpr fun q => h (this.mp q)
theorem z_eqL [Decidable (xs = ys)] (hx : lstAt s n = some xs) (hy : lstAt s m = some ys) (h1 : plains 20 xs = true) (h2 : plains 20 ys = true) : (dEq (.ref n) (.ref m) s).wp P E = P (.bl (decide (xs = ys))) s := by
  rw [z_eq (shp_lst hx h1) (shp_lst hy h2), eqv_lst h1 h2]
theorem z_neL [Decidable (xs = ys)] (hx : lstAt s n = some xs) (hy : lstAt s m = some ys) (h1 : plains 20 xs = true) (h2 : plains 20 ys = true) : (dNe (.ref n) (.ref m) s).wp P E = P (.bl (!decide (xs = ys))) s := by
  rw [z_ne (shp_lst hx h1) (shp_lst hy h2), eqv_lst h1 h2]
@[simp] theorem z_eqI {i j : Int} : (dEq (.int i) (.int j) s).wp P E = P (.bl (decide (i = j))) s := by
  rw [z_eq (shp_plain (s := s) (d := .int i) (by rw [plain])) (shp_plain (s := s) (d := .int j) (by rw [plain]))]
  rfl
@[simp] theorem z_neI {i j : Int} : (dNe (.int i) (.int j) s).wp P E = P (.bl (!decide (i = j))) s := by
  rw [z_ne (shp_plain (s := s) (d := .int i) (by rw [plain])) (shp_plain (s := s) (d := .int j) (by rw [plain]))]
  rfl
/-! ### in -/
theorem any_enc [Decidable (a ∈ xs)] (ha : plain 20 a = true) (hx : plains 20 xs = true) : ((encs xs).any fun z => PyData.eqv z (enc a)) = decide (a ∈ xs) := by
  rw [encs_map, List.any_map]
  rw [plains_iff] at hx
  by_cases h : a ∈ xs
  · rw [decide_eq_true h, List.any_eq_true]
    exact ⟨a, h, (eqv_enc 20 a a ha ha).mpr rfl⟩
  · rw [decide_eq_false h, List.any_eq_false]
    intro x hxm hq
    exact h (by rw [← (eqv_enc 20 x a (hx x hxm) ha).mp hq]; exact hxm)
theorem z_inT {neg : Bool} [Decidable (a ∈ xs)] (ha : plain 20 a = true) (hx : plains 19 xs = true) : (dInB neg a (.tup xs) s).wp P E = P (.bl (neg ^^ decide (a ∈ xs))) s := by
  have h2 : plain 20 (.tup xs) = true := by rw [plain]; exact hx
  have hx' : plains 20 xs = true := plains_iff.mpr fun x h => plain_mono _ _ (plains_iff.mp hx x h)
  unfold dInB
  dsimp only
  rw [shp_plain ha, shp_plain h2, enc]
  dsimp only
  rw [any_enc ha hx', z_ok]
theorem z_inL {neg : Bool} [Decidable (a ∈ xs)] (ha : plain 20 a = true) (hl : lstAt s n = some xs) (hx : plains 20 xs = true) : (dInB neg a (.ref n) s).wp P E = P (.bl (neg ^^ decide (a ∈ xs))) s := by
  unfold dInB
  dsimp only
  rw [shp_plain ha, shp_lst hl hx]
  dsimp only
  rw [any_enc ha hx, z_ok]
theorem z_inS {neg : Bool} {c : Nat} {y : Str} : (dInB neg (.str (one c)) (.str y) s).wp P E = P (.bl (neg ^^ decide (c ∈ tl y))) s := by
  unfold dInB
  dsimp only
  rw [if_pos (show (one c).length = 1 from rfl), z_ok]
  rfl
theorem z_eq_yes (ha : plain 20 a = true) : (dEq a a s).wp P E = P (.bl true) s := by
  classical
  rw [z_eqP ha ha, decide_eq_true rfl]
theorem z_eq_no (ha : plain 20 a = true) (hb : plain 20 b = true) (h : a ≠ b) : (dEq a b s).wp P E = P (.bl false) s := by
  classical
  rw [z_eqP ha hb, decide_eq_false h]
theorem z_ne_yes (ha : plain 20 a = true) (hb : plain 20 b = true) (h : a ≠ b) : (dNe a b s).wp P E = P (.bl true) s := by
  classical
  rw [z_neP ha hb, decide_eq_false h]
  rfl
theorem z_ne_no (ha : plain 20 a = true) : (dNe a a s).wp P E = P (.bl false) s := by
  classical
  rw [z_neP ha ha, decide_eq_true rfl]
  rfl
theorem z_inT_no {neg : Bool} (ha : plain 20 a = true) (hx : plains 19 xs = true) (h : a ∉ xs) : (dInB neg a (.tup xs) s).wp P E = P (.bl neg) s := by
  classical
  rw [z_inT ha hx, decide_eq_false h, Bool.xor_false]
theorem z_inT_yes {neg : Bool} (ha : plain 20 a = true) (hx : plains 19 xs = true) (h : a ∈ xs) : (dInB neg a (.tup xs) s).wp P E = P (.bl !neg) s := by
  classical
  rw [z_inT ha hx, decide_eq_true h, Bool.xor_true]
theorem z_inL_no {neg : Bool} (ha : plain 20 a = true) (hl : lstAt s n = some xs) (hx : plains 20 xs = true) (h : a ∉ xs) : (dInB neg a (.ref n) s).wp P E = P (.bl neg) s := by
  classical
  rw [z_inL ha hl hx, decide_eq_false h, Bool.xor_false]
theorem z_inL_yes {neg : Bool} (ha : plain 20 a = true) (hl : lstAt s n = some xs) (hx : plains 20 xs = true) (h : a ∈ xs) : (dInB neg a (.ref n) s).wp P E = P (.bl !neg) s := by
  classical
  rw [z_inL ha hl hx, decide_eq_true h, Bool.xor_true]
theorem z_eqL_yes (hx : lstAt s n = some xs) (hy : lstAt s m = some xs) (h1 : plains 20 xs = true) : (dEq (.ref n) (.ref m) s).wp P E = P (.bl true) s := by
  classical
  rw [z_eqL hx hy h1 h1, decide_eq_true rfl]
theorem z_neL_no (hx : lstAt s n = some xs) (hy : lstAt s m = some xs) (h1 : plains 20 xs = true) : (dNe (.ref n) (.ref m) s).wp P E = P (.bl false) s := by
  classical
  rw [z_neL hx hy h1 h1, decide_eq_true rfl]
  rfl
/-! ### sorted texts -/
def leS (a b : Str) : Bool := decide (tl a ≤ tl b)
def sortS (xs : List Str) : List Str := xs.mergeSort leS
theorem leS_trans (a b c : Str) (h1 : leS a b = true) (h2 : leS b c = true) : leS a c = true := by
  unfold leS at *
  simp only [decide_eq_true_eq] at *
  exact List.le_trans h1 h2
theorem leS_total (a b : Str) : (leS a b || leS b a) = true := by
  unfold leS
  simp only [Bool.or_eq_true, decide_eq_true_eq]
  exact List.le_total _ _
theorem plains_strs {ms : List Str} (h : ∀ x ∈ ms, strOk x = true) : plains n (ms.map D.str) = true := plains_iff.mpr fun d hd => by
  obtain ⟨x, hx, rfl⟩ := List.mem_map.mp hd
  rw [plain]
  exact h x hx
theorem encD_str {x : Str} : encD s (.str x) = .str x := by
  unfold encD
  rw [pyd]
  rfl
theorem z_sortS {ms : List Str} (hx : lstAt s n = some (ms.map D.str)) (h : ∀ x ∈ ms, strOk x = true) : (fSorted [.ref n] s).wp P E = P (.ref s.length) (s ++ [.lst ((sortS ms).map D.str)]) := by
  have hc : canSort s (ms.map D.str) = true := by
    unfold canSort
    simp only [List.all_map, Bool.and_eq_true, Bool.or_eq_true, List.all_eq_true, Function.comp_apply]
    refine ⟨⟨fun x hx => ?_, fun x hx y hy => ?_⟩, .inr fun x hx => ?_⟩
    · rw [shp_plain (by rw [plain]; exact h x hx)]
      rfl
    · rw [encD_str, encD_str]
      simp [PySem.W.alike]
    · rw [encD_str]
      rfl
  have hs : sortD s (ms.map D.str) = (sortS ms).map D.str := by
    unfold sortD sortS
    refine (List.map_mergeSort fun a _ b _ => ?_).symm
    rw [PySem.W.dataLe_eq]
    have := congrFun (congrFun (PySem.W.dataLe_str (fun x : Str => x)) a) b
    rw [PySem.W.dataLe_eq] at this
    simp only [encD_str, cond_false] at this ⊢
    rw [this]
    rfl
  unfold fSorted
  dsimp only
  rw [hx]
  dsimp only
  rw [if_pos hc, hs, z_ok]
theorem sortS_perm (ms : List Str) : (sortS ms).Perm ms := List.mergeSort_perm _ _
theorem sortS_sorted (ms : List Str) : (sortS ms).Pairwise fun a b => leS a b = true := List.pairwise_mergeSort leS_trans leS_total ms
theorem sortS_of {ms : List Str} (h : ms.Pairwise fun a b => leS a b = true) : sortS ms = ms := List.mergeSort_of_pairwise h
/-! ### repr -/
theorem z_repr : (fRepr [a] s).wp P E = ∃ p, shp s a = some p ∧ (p.showable = true ∧ p.shown.length ≤ sizeLine) ∧ P (.str p.shown) s := by
  unfold fRepr
  dsimp only
  cases h : shp s a with
  | none => simp [Rs.wp]
  | some p => simp [z_iteN, z_ok]
end
end Z

set_option Elab.async false
set_option linter.all false
set_option maxRecDepth 100000
set_option maxHeartbeats 4000000
namespace Z
open PySem PySem.Spec PyProof.Rows L2
variable [Row]
/-! ### list comprehensions of two walks -/
def lcI (j : Stp) (g : GN) (t : EM Bool) (m : EM D) (l : Nat) : Nat → Nat → Ev → Sto → Rs Unit
  | 0, i, e, s => match j i s with
    | some none => .ok () s
    | _ => .no
  | f + 1, i, e, s => match j i s with
    | none => .no
    | some none => .ok () s
    | some (some d) => match g d e with
      | none => .no
      | some e1 => (t e1 s).nox.bind fun q s1 => if q then (m e1 s1).nox.bind fun y s2 => match s2[l]? with
          | some (.lst acc) => if acc.length < sizeLine then lcI j g t m l f (i + 1) e (s2.set l (.lst (acc ++ [y]))) else .no
          | _ => .no
        else lcI j g t m l f (i + 1) e s1
def lcL2 (j : Stp) (g : GN) (t : EM Bool) (mi1 : EM (Nat × Stp)) (g1 : GN) (t1 : EM Bool) (m : EM D) (vs1 : List Nat) (l : Nat) : Nat → Nat → Ev → Sto → Rs D
  | 0, i, e, s => match j i s with
    | some none => .ok (.ref l) s
    | _ => .no
  | f + 1, i, e, s => match j i s with
    | none => .no
    | some none => .ok (.ref l) s
    | some (some d) => match g d e with
      | none => .no
      | some e1 => (t e1 s).nox.bind fun q s1 => if q then (mi1 e1 s1).nox.bind fun jt s2 => (lcI jt.2 g1 t1 m l jt.1 0 (wipeD e1 vs1) s2).bind fun _ s3 => lcL2 j g t mi1 g1 t1 m vs1 l f (i + 1) e s3
        else lcL2 j g t mi1 g1 t1 m vs1 l f (i + 1) e s1
def mL2 (mi : EM (Nat × Stp)) (g : GN) (t : EM Bool) (mi1 : EM (Nat × Stp)) (g1 : GN) (t1 : EM Bool) (m : EM D) (vs vs1 : List Nat) : EM D := fun e s => (mi e s).bind fun jt s1 => lcL2 jt.2 g t mi1 g1 t1 m vs1 s1.length jt.1 0 (wipeD e vs) (s1 ++ [.lst []])
omit [Row] in
theorem wipe_again (σ : L2.St) (vs : List Nat) : wipe (wipe σ vs) vs = wipe σ vs := by
  have ww : ∀ us : List Nat, (∀ u ∈ us, u ∈ vs) → wipe (wipe σ vs) us = wipe σ vs := by
    intro us
    induction us with
    | nil => intro _; rfl
    | cons u us ih =>
      intro hu
      show (wipe (wipe σ vs) us).set u none = wipe σ vs
      rw [ih fun z hz => hu z (List.mem_cons_of_mem _ hz)]
      have key : ∀ ws : List Nat, u ∈ ws → (wipe σ ws).set u none = wipe σ ws := by
        intro ws
        induction ws with
        | nil => intro h; simp at h
        | cons w ws ihw =>
          intro h
          show ((wipe σ ws).set w none).set u none = (wipe σ ws).set w none
          by_cases q : u = w
          · subst q
            rw [List.set_set]
          · rw [List.set_comm _ _ (Ne.symm q), ihw ((List.mem_cons.mp h).resolve_left q)]
      exact key vs (hu u List.mem_cons_self)
  exact ww vs fun _ h => h
omit [Row] in
theorem Rs.bind_assoc {α β γ : Type} {r : Rs α} {k : α → Sto → Rs β} {h : β → Sto → Rs γ} : (r.bind k).bind h = r.bind fun a s => (k a s).bind h := by cases r <;> rfl
section
variable {X : Cx} {W : WX} {pos : Pos} {elt tg iter tg1 iter1 : Expr} {ifs ifs1 : List Expr} {scope : Scope} {own : List (Str × Nat)} {mi mi1 : EM (Nat × Stp)} {g g1 : GN} {is is1 : List Nat} {t t1 : EM Bool} {m : EM D}
theorem llc2 {K : PySem.W.Frag} {mg : Str → Option Value} {vs vs1 : List Nat} {g' g1' : TG} {wi1 : TI} {tt tt1 : TT} {te : TE} (his : ∀ i ∈ is, i ∈ vs) (his1 : ∀ i ∈ is1, i ∈ vs1)
    (gq : GQ K g is g') (gq1 : GQ K g1 is1 g1')
    (ht : ∀ σ H Q, lT K mg WF t σ H Q → tt σ H Q) (hi1 : ∀ σ H Q, lG K mg (RI K mg) WF mi1 σ H Q → wi1 σ H Q) (ht1 : ∀ σ H Q, lT K mg WF t1 σ H Q → tt1 σ H Q) (he : ∀ σ H Q, lE K mg WF m σ H Q → te σ H Q) {σ : L2.St} {H : Hp} {Q : VK}
    (h : lE K mg W (mL2 mi g t mi1 g1 t1 m vs vs1) σ H Q) : tLc2 (lG K mg (RI K mg) W mi) g' tt wi1 g1' tt1 te vs vs1 σ H Q := by
  obtain ⟨ρ, env, s, sr, er, po⟩ := h
  refine ⟨ρ, env, s, sr, er, (Po.bind po).imp fun J H1 ⟨ρ1, s1, jt, e1, sr1, ri, po1⟩ => fun Dl hDl => ?_⟩
  obtain ⟨x2, sr2, r2⟩ := new_lst sr1 hDl (VRs.nil (K := K) (ρ := ρ1) (n := s1.length) (H := H1))
  refine ⟨fun i m2 H2 => ∃ ρ2 s2, Ext (ρup ρ1 s1.length Dl) (s1 ++ [SO.lst []]).length (upd H1 Dl (.lst [])) ρ2 s2.length H2 ∧ SR K mg ρ2 s2 H2 ∧ Po K mg (VR K) W σ ρ2 s2.length H2 (lcL2 jt.2 g t mi1 g1 t1 m vs1 s1.length m2 i (wipeD env vs) s2) Q, ⟨jt.1, ρup ρ1 s1.length Dl, _, Ext.refl, sr2, po1.rebase x2⟩, ?_⟩
  rintro i m2 H2 ⟨ρ2, s2, x3, sr3, po2⟩
  have x23 := x2.trans x3
  have hj := ri ρ2 s2 H2 i x23 sr3
  have lt1 : s1.length < (s1 ++ [SO.lst []]).length := by simp
  have rD : VR K ρ2 s2.length H2 (.ref s1.length) (.ref Dl) := r2.mono x3
  cases m2 with
  | zero =>
    rw [lcL2] at po2
    cases e : jt.2 i s2 with
    | none => rw [e] at po2; exact po2.elim
    | some o =>
      rw [e] at po2 hj
      cases o with
      | none => exact .inl ⟨hj, po2 ρ2 H2 _ Ext.refl sr3 rD⟩
      | some d => exact po2.elim
  | succ f =>
    rw [lcL2] at po2
    cases e : jt.2 i s2 with
    | none => rw [e] at po2; exact po2.elim
    | some o =>
      rw [e] at po2 hj
      cases o with
      | none => exact .inl ⟨hj, po2 ρ2 H2 _ Ext.refl sr3 rD⟩
      | some d =>
        dsimp only at po2 hj
        obtain ⟨go, yl⟩ := hj
        refine .inr ⟨go, _, fun H' w => ⟨f, Nat.lt_succ_self f, w⟩, fun x H' y => ?_⟩
        obtain ⟨x4, sr4, r4⟩ := yl x H' y
        cases hgd : g d (wipeD env vs) with
        | none => rw [hgd] at po2; exact po2.elim
        | some e4 =>
          rw [hgd] at po2
          dsimp only at po2
          have erw : EnvR K ρ2 s2.length H' (wipeD env vs) (wipe σ vs) := ((er.mono e1).mono (x23.trans x4)).wipe vs
          refine gq ρ2 s2 H' _ _ e4 d x _ erw r4 hgd fun σ4 er4 hw => ⟨by rw [hw vs his, wipe_again], ?_⟩
          refine ht _ _ _ ⟨ρ2, e4, s2, sr4, er4, (Po.bindx (po2.rebase x4)).imp fun q H5 ⟨ρ5, s5, q5, x5, sr5, r5, po5⟩ => ?_⟩
          have eq : q5 = q := r5
          subst eq
          have x35 := (x3.trans x4).trans x5
          cases q5 with
          | false => exact ⟨ρ5, s5, x35, sr5, po5⟩
          | true =>
            rw [if_pos rfl] at po5 ⊢
            refine hi1 _ _ _ ⟨ρ5, e4, s5, sr5, er4.mono x5, (Po.bindx po5).imp fun J1 H6 ⟨ρ6, s6, jt1, x6, sr6, ri6, po6⟩ => ?_⟩
            have x36 := x35.trans x6
            have er6 : EnvR K ρ6 s6.length H6 e4 σ4 := (er4.mono x5).mono x6
            dsimp only at po6
            refine ⟨fun i1 k1 H7 => ∃ ρ7 s7, Ext ρ6 s6.length H6 ρ7 s7.length H7 ∧ SR K mg ρ7 s7 H7 ∧ Po K mg (VR K) W σ ρ7 s7.length H7 ((lcI jt1.2 g1 t1 m s1.length k1 i1 (wipeD e4 vs1) s7).bind fun _ s3 => lcL2 jt.2 g t mi1 g1 t1 m vs1 s1.length f (i + 1) (wipeD env vs) s3) Q, ⟨jt1.1, ρ6, s6, Ext.refl, sr6, po6⟩, ?_⟩
            rintro i1 k1 H7 ⟨ρ7, s7, x7, sr7, po7⟩
            have hj7 := ri6 ρ7 s7 H7 i1 x7 sr7
            have x37 := x36.trans x7
            cases k1 with
            | zero =>
              rw [lcI] at po7
              cases e7 : jt1.2 i1 s7 with
              | none => rw [e7] at po7; exact po7.elim
              | some o =>
                rw [e7] at po7 hj7
                cases o with
                | none => exact .inl ⟨hj7, ρ7, s7, x37, sr7, po7⟩
                | some d => exact po7.elim
            | succ f7 =>
              rw [lcI] at po7
              cases e7 : jt1.2 i1 s7 with
              | none => rw [e7] at po7; exact po7.elim
              | some o =>
                rw [e7] at po7 hj7
                cases o with
                | none => exact .inl ⟨hj7, ρ7, s7, x37, sr7, po7⟩
                | some d7 =>
                  dsimp only at po7 hj7
                  obtain ⟨go7, yl7⟩ := hj7
                  refine .inr ⟨go7, _, fun H' w => ⟨f7, Nat.lt_succ_self f7, w⟩, fun x' H' y' => ?_⟩
                  obtain ⟨x8, sr8, r8⟩ := yl7 x' H' y'
                  cases hg7 : g1 d7 (wipeD e4 vs1) with
                  | none => rw [hg7] at po7; exact po7.elim
                  | some e8 =>
                    rw [hg7] at po7
                    dsimp only at po7
                    have erw8 : EnvR K ρ7 s7.length H' (wipeD e4 vs1) (wipe σ4 vs1) := (er6.mono (x7.trans x8)).wipe vs1
                    refine gq1 ρ7 s7 H' _ _ e8 d7 x' _ erw8 r8 hg7 fun σ8 er8 hw8 => ⟨by rw [hw8 vs1 his1, wipe_again], ?_⟩
                    rw [Rs.bind_assoc] at po7
                    refine ht1 _ _ _ ⟨ρ7, e8, s7, sr8, er8, (Po.bindx (po7.rebase x8)).imp fun q H9 ⟨ρ9, s9, q9, x9, sr9, r9, po9⟩ => ?_⟩
                    have eq9 : q9 = q := r9
                    subst eq9
                    have x79 := (x7.trans x8).trans x9
                    have x39 := (x37.trans x8).trans x9
                    cases q9 with
                    | false => exact ⟨ρ9, s9, x79, sr9, po9⟩
                    | true =>
                      rw [if_pos rfl] at po9 ⊢
                      rw [Rs.bind_assoc] at po9
                      refine he _ _ _ ⟨ρ9, e8, s9, sr9, er8.mono x9, (Po.bindx po9).imp fun y6 Ha ⟨ρa, sa, da, xa, sra, ra, poa⟩ => ?_⟩
                      have x3a := x39.trans xa
                      have eDa : ρa s1.length = Dl := by
                        rw [x3a.ag _ lt1, ρup_same]
                      dsimp only at poa
                      cases el : sa[s1.length]? with
                      | none => rw [el] at poa; exact poa.elim
                      | some o =>
                        rw [el] at poa
                        cases o with
                        | lst acc =>
                          dsimp only at poa
                          by_cases hl : acc.length < sizeLine
                          · rw [if_pos hl] at poa
                            obtain ⟨av, hav, rav⟩ := sra.ob _ _ el
                            rw [eDa] at hav
                            have ob' := sra.ob _ _ el
                            have xw : Ext ρa sa.length Ha ρa sa.length (upd Ha (ρa s1.length) (.lst (av ++ [y6]))) := Ext.write (u := .lst (av ++ [y6])) ob' rfl
                            refine ⟨av, hav, by rw [rav.length]; exact hl, ρa, sa.set s1.length (.lst (acc ++ [da])), ?_, ?_, ?_⟩
                            · rw [List.length_set]
                              have x7 := (x79.trans xa).trans xw
                              rw [eDa] at x7
                              exact x7
                            · rw [← eDa]
                              exact sra.write el rfl rfl ⟨av ++ [y6], upd_same, (rav.append (VRs.cons ra VRs.nil)).mono xw⟩
                            · rw [List.length_set, ← eDa]
                              exact poa.rebase xw
                          · rw [if_neg hl] at poa
                            exact poa.elim
                        | _ => exact poa.elim
theorem je_lc2 {g' g1' : TG} {vs1 : List Nat} (hc : X.calm = true) (hN : X.N.Nodup) (hi : JI X W tg iter mi) (ok : BlkOk X.N X.env.scope scope own) (hv : ∀ i ∈ vs1, i ∈ own.map (·.2)) (his : ∀ i ∈ is, i ∈ own.map (·.2)) (his1 : ∀ i ∈ is1, i ∈ vs1)
    (hg' : ∀ (s : Shared) (H : Hp) (C : Addr) (cl : List (Str × Addr)) (fp : List Addr), PG (X.blk s H scope (compEnvC scope cl C X.env) fp) tg g') (gq : GQ X.K g is g')
    (ht : ∀ (s : Shared) (H : Hp) (C : Addr) (cl : List (Str × Addr)) (fp : List Addr), PTs (X.blk s H scope (compEnvC scope cl C X.env) fp) ifs (lT X.K X.mg WF t))
    (hi1 : ∀ (s : Shared) (H : Hp) (C : Addr) (cl : List (Str × Addr)) (fp : List Addr), JI (X.blk s H scope (compEnvC scope cl C X.env) fp) WF tg1 iter1 mi1)
    (hg1 : ∀ (s : Shared) (H : Hp) (C : Addr) (cl : List (Str × Addr)) (fp : List Addr), PG (X.blk s H scope (compEnvC scope cl C X.env) fp) tg1 g1') (gq1 : GQ X.K g1 is1 g1')
    (ht1 : ∀ (s : Shared) (H : Hp) (C : Addr) (cl : List (Str × Addr)) (fp : List Addr), PTs (X.blk s H scope (compEnvC scope cl C X.env) fp) ifs1 (lT X.K X.mg WF t1))
    (he : ∀ (s : Shared) (H : Hp) (C : Addr) (cl : List (Str × Addr)) (fp : List Addr), JE (X.blk s H scope (compEnvC scope cl C X.env) fp) WF elt m) (hs : ∀ x, foldedSetIterable iter X.env x = pure x := by intro _; rfl) (hs1 : ∀ env x, foldedSetIterable iter1 env x = pure x := by intro _ _; rfl) :
    JE X W (.ListComp elt [⟨tg, iter, ifs, 0⟩, ⟨tg1, iter1, ifs1, 0⟩] scope pos) (mL2 mi g t mi1 g1 t1 m (own.map (·.2)) vs1) := by
  exact PE_imp (pe_lc2 hc hN hi ok hv hg' ht hi1 hg1 ht1 he hs hs1) fun σ H Q h => llc2 his his1 gq gq1 (fun _ _ _ z => z) (fun _ _ _ z => z) (fun _ _ _ z => z) (fun _ _ _ z => z) h
end
end Z

set_option Elab.async false
set_option linter.all false
set_option maxRecDepth 100000
set_option maxHeartbeats 4000000
namespace Z
open PySem PySem.Spec PyProof.Rows L2
variable [Row]
abbrev MF := List D → Sto → Rs D
/-! ### operations that may run defs -/
def OpD (X : Cx) (W : WX) (f : Value → Value → Sem Value) (F : D → D → Sto → Rs D) : Prop :=
  ∀ (pins : List (Addr × Obj)) (s : Shared) (σ : L2.St) (H : Hp) (ρ : Nat → Addr) (st : Sto) (x y : D) (vx vy : V) (ux uy : Value) (Q : VK), Inv X pins σ H s → SR X.K X.mg ρ st H → VR X.K ρ st.length H x vx → VR X.K ρ st.length H y vy → RelV vx ux → RelV vy uy →
    Po X.K X.mg (VR X.K) W σ ρ st.length H (F x y st) Q → wpAny (model X.prog X.w) X.A (f ux uy) (EP X pins σ Q) X.xe s
section
variable {X : Cx} {W : WX} {k : Nat} {F : D → D → Sto → Rs D} {x : Str} {p pos apos pos' : Pos} {a b e o value : Expr} {es : List Expr} {ma mb m mo : EM D} {ms mk : EM (List D)} {f : Str}
theorem OpD.of {g : Value → Value → Sem Value} {r : R2} (ho : OpR X g r) (hp : Pr2 X W F r) : OpD X W g F :=
  fun pins s σ H ρ st x y vx vy ux uy Q I sr rx ry e1 e2 po => ho pins s σ H vx vy ux uy Q I e1 e2 (hp ρ st H σ x y vx vy Q sr rx ry po)
theorem je_opd {op : Operator} (h : OpD X W (binaryOp op) F) (ha : JE X W a ma) (hb : JE X W b mb) : JE X W (.BinOp a op b pos) (m2 F ma mb) := by
  refine ⟨fun pins s σ H Q I ⟨ρ, env, st, sr, er, po⟩ => wpAny_BinOp ?_⟩
  exact thn (ha.run pins s σ H _ I ⟨ρ, env, st, sr, er, Po.bind po⟩) fun u s1 ⟨v, H1, I1, r1, ρ1, st1, d1, e1, sr1, vr1, po1⟩ =>
    thn (hb.run pins s1 σ H1 _ I1 ⟨ρ1, env, st1, sr1, er.mono e1, Po.bind po1⟩) fun u2 s2 ⟨v2, H2, I2, r2, ρ2, st2, d2, e2, sr2, vr2, po2⟩ => h pins s2 σ H2 ρ2 st2 d1 d2 v v2 u u2 Q I2 sr2 (vr1.mono e2) vr2 r1 r2 po2
theorem je_cmpd {op : CmpOp} (h : OpD X W (compareOp op) F) (ha : JE X W a ma) (hb : JE X W b mb) (hm : behindInMarks op b = false) : JE X W (.Compare a [op] [b] pos) (m2 F ma mb) := by
  refine ⟨fun pins s σ H Q I ⟨ρ, env, st, sr, er, po⟩ => wpAny_Compare1 ?_ hm⟩
  exact thn (ha.run pins s σ H _ I ⟨ρ, env, st, sr, er, Po.bind po⟩) fun u s1 ⟨v, H1, I1, r1, ρ1, st1, d1, e1, sr1, vr1, po1⟩ =>
    thn (hb.run pins s1 σ H1 _ I1 ⟨ρ1, env, st1, sr1, er.mono e1, Po.bind po1⟩) fun u2 s2 ⟨v2, H2, I2, r2, ρ2, st2, d2, e2, sr2, vr2, po2⟩ => h pins s2 σ H2 ρ2 st2 d1 d2 v v2 u u2 Q I2 sr2 (vr1.mono e2) vr2 r1 r2 po2
theorem jt_cmpd {op : CmpOp} (h : OpD X W (compareOp op) F) (ha : JE X W a ma) (hb : JE X W b mb) (hm : behindInMarks op b = false) : JT X W (.Compare a [op] [b] pos) (toB (m2 F ma mb)) := by
  refine ⟨fun pins s σ H Q I ⟨ρ, env, st, sr, er, po⟩ => ?_⟩
  have po : Po X.K X.mg RB W σ ρ st.length H ((ma env st).bind fun x1 t1 => (mb env t1).bind fun y1 t2 => (F x1 y1 t2).bind fun d t3 => match d with | .bl q => .ok q t3 | _ => .no) Q := by
    have e : (toB (m2 F ma mb)) env st = (ma env st).bind fun x1 t1 => (mb env t1).bind fun y1 t2 => (F x1 y1 t2).bind fun d t3 => match d with | .bl q => .ok q t3 | _ => .no := by
      unfold toB m2
      rw [Rs.bind_assoc]
      congr 1
      funext x1 t1
      rw [Rs.bind_assoc]
      try rfl
    rw [← e]
    exact po
  refine wpAny_isTrue_Compare1 (thn (ha.run pins s σ H _ I ⟨ρ, env, st, sr, er, Po.bind po⟩) fun u s1 ⟨v, H1, I1, r1, ρ1, st1, d1, e1, sr1, vr1, po1⟩ =>
    thn (hb.run pins s1 σ H1 _ I1 ⟨ρ1, env, st1, sr1, er.mono e1, Po.bind po1⟩) fun u2 s2 ⟨v2, H2, I2, r2, ρ2, st2, d2, e2, sr2, vr2, po2⟩ =>
    thn (h pins s2 σ H2 ρ2 st2 d1 d2 v v2 u u2 _ I2 sr2 (vr1.mono e2) vr2 r1 r2 (Po.bind po2)) fun c s3 ⟨z, H3, I3, r3, ρ3, st3, d3, e3, sr3, vr3, po3⟩ => ?_) hm
  cases d3 with
  | bl q =>
    obtain rfl : z = .bl q := vr3
    cases r3
    exact wpAny_truthy_bool ⟨H3, I3, po3 ρ3 H3 q Ext.refl sr3 rfl⟩
  | _ => exact po3.elim
/-! ### attributes of instances -/
def insC (s : Sto) : D → Option Str
  | .ref n => match s[n]? with
    | some (.ins c _) => some c
    | _ => none
  | _ => none
def FldOk (K : PySem.W.Frag) (mg : Str → Option Value) (cs : List Str) (f : Str) : Prop := ∀ c ∈ cs, ∃ C, mg c = some (.ref C) ∧ Cls K C ∧ NoAttr K C f
theorem fld_nil {K : PySem.W.Frag} {mg : Str → Option Value} : FldOk K mg [] f := fun _ h => by simp at h
theorem fld_cons {K : PySem.W.Frag} {mg : Str → Option Value} {c : Str} {cs : List Str} {C : Addr} (h1 : mg c = some (.ref C)) (h2 : Cls K C) (h3 : NoAttr K C f) (t : FldOk K mg cs f) : FldOk K mg (c :: cs) f := fun d h => by
  rcases List.mem_cons.mp h with rfl | h
  · exact ⟨C, h1, h2, h3⟩
  · exact t d h
def gFld (cs : List Str) (f : Str) (d : D) (s : Sto) : Rs D := match d with
  | .ref n => match s[n]? with
    | some (.ins c fs) => if c ∈ cs then (match fs.lookup f with | some v => .ok v s | none => .no) else .no
    | _ => .no
  | _ => .no
def mFld (cs : List Str) (f : Str) (m : EM D) : EM D := fun e s => (m e s).bind fun d s1 => gFld cs f d s1
theorem je_fld {cs : List Str} (h : FldOk X.K X.mg cs f) (he : JE X W e m) (hb : attributeBase e f X.env (eval e X.env) = eval e X.env := by rfl) : JE X W (.Attribute e f pos) (mFld cs f m) :=
  PE_imp (pe_fld he hb) fun σ H Q ⟨ρ, env, s, sr, er, po⟩ => ⟨ρ, env, s, sr, er, (Po.bind po).imp fun v H1 ⟨ρ1, s1, d1, e1, sr1, r1, po1⟩ => by
    cases d1 with
    | ref n =>
      rw [VR] at r1
      obtain ⟨hn, rfl⟩ := r1
      unfold gFld at po1
      dsimp only at po1
      cases hs : s1[n]? with
      | none => rw [hs] at po1; exact po1.elim
      | some ob =>
        rw [hs] at po1
        cases ob with
        | ins c fs =>
          dsimp only at po1
          obtain ⟨hc, po1⟩ := Po.ite po1
          obtain ⟨C, dx, vs, g1, g2, g3⟩ := sr1.ob n _ hs
          obtain ⟨C', k1, k2, k3⟩ := h c hc
          rw [g1] at k1
          cases k1
          cases hl : fs.lookup f with
          | none => rw [hl] at po1; exact po1.elim
          | some d =>
            rw [hl] at po1
            obtain ⟨u, l, r⟩ := g3.lookup hl
            exact ⟨ρ1 n, C, dx, vs, u, rfl, g2, k2, k3, l, po1 ρ1 H1 u Ext.refl sr1 r⟩
        | _ => exact po1.elim
    | _ => exact po1.elim⟩
/-- o.f = value -/
def sFldD (cs : List Str) (f : Str) (mo m : EM D) : SM := fun e s => (m e s).st e fun v s1 => (mo e s1).st e fun d s2 => match d with
  | .ref n => match s2[n]? with
    | some (.ins c fs) => if c ∈ cs ∧ fs.length < 1000 then .nx e (s2.set n (.ins c (putD f v fs))) else .no
    | _ => .no
  | _ => .no
theorem FR.lenD {K : PySem.W.Frag} {ρ : Nat → Addr} {n : Nat} {H : Hp} {fs : List (Str × D)} {vs : List (Str × V)} (h : FR K ρ n H fs vs) : vs.length = fs.length := h.length
theorem PoS.ite {K : PySem.W.Frag} {mg : Str → Option Value} {D : Ends} {ρ : Nat → Addr} {n : Nat} {H : Hp} {c : Prop} [Decidable c] {r : RS} (h : PoS K mg W D ρ n H (if c then r else .no)) : c ∧ PoS K mg W D ρ n H r := by
  by_cases hc : c
  · rw [if_pos hc] at h
    exact ⟨hc, h⟩
  · rw [if_neg hc] at h
    exact h.elim
theorem js_fld {cs : List Str} (h : FldOk X.K X.mg cs f) (ho : JE X W o mo) (hv : JE X W value m) (hs : swapsWith value (some (.Attribute o f pos')) pos.line X.env = pure false := by rfl) : JS X W (.Assign [.Attribute o f pos'] value pos) (sFldD cs f mo m) :=
  PS_imp (ps_fld ho hv hs) fun σ H D ⟨ρ, env, s, sr, er, po⟩ => ⟨ρ, env, s, sr, er, (PoS.st er po).imp fun v H1 ⟨ρ1, s1, d1, e1, sr1, r1, er1, po1⟩ =>
    ⟨ρ1, env, s1, sr1, er1, (PoS.st er1 po1).imp fun v2 H2 ⟨ρ2, s2, d2, e2, sr2, r2, er2, po2⟩ => by
      cases d2 with
      | ref n =>
        rw [VR] at r2
        obtain ⟨hn, rfl⟩ := r2
        dsimp only at po2
        cases hs : s2[n]? with
        | none => rw [hs] at po2; exact po2.elim
        | some ob =>
          rw [hs] at po2
          cases ob with
          | ins c fs =>
            dsimp only at po2
            obtain ⟨⟨hc, hl⟩, po2⟩ := PoS.ite po2
            obtain ⟨C, dx, vs, g1, g2, g3⟩ := sr2.ob n _ hs
            obtain ⟨C', k1, k2, k3⟩ := h c hc
            rw [g1] at k1
            cases k1
            refine ⟨ρ2 n, C, dx, vs, rfl, g2, k2, k3, by rw [g3.length]; exact hl, ?_⟩
            have ext : Ext ρ2 s2.length H2 ρ2 s2.length (upd H2 (ρ2 n) (.ins C dx (putF f v vs))) := Ext.write (sr2.ob n _ hs) rfl
            have w := sr2.write (u := .ins C dx (putF f v vs)) hs (o' := .ins c (putD f d1 fs)) rfl rfl ⟨C, dx, _, g1, upd_same, (g3.mono ext).put ((r1.mono e2).mono ext)⟩
            have ext2 : Ext ρ2 s2.length H2 ρ2 (s2.set n (.ins c (putD f d1 fs))).length (upd H2 (ρ2 n) (.ins C dx (putF f v vs))) := by rw [List.length_set]; exact ext
            refine po2 ρ2 _ σ ext2 w ?_
            rw [List.length_set]
            exact er2.mono ext
          | _ => exact po2.elim
      | _ => exact po2.elim⟩⟩
end
end Z

set_option Elab.async false
set_option linter.all false
set_option maxRecDepth 100000
set_option maxHeartbeats 4000000
namespace Z
open PySem PySem.Spec PyProof.Rows L2
variable [Row]
/-- what may be called somewhere below the body X -/
theorem run_at2 {X : Cx} {k : Nat} {f : Addr} {sp : Sp} {E : L2.St → XK} {n : Option Nat} {ks : List Str} {A : Around} {pins : List (Addr × Obj)} {σ : L2.St} {H : Hp} {s : Shared} {Q : VK} {us ws : List Value} {vs zs : List V} (F : FnG X.prog X.w X.K X.mg X.base k f n ks sp) (hr : Rm k A)
    (e0 : Env0 X.prog X.w X.K X.mg X.base A X.stack s H) (hx : PassesAt (L2.CX X.prog X.w) X σ (E σ))
    (I : Inv X pins σ H s) (r : Vals vs us) (rz : Vals zs ws) (hn : ∀ m, n = some m → us.length = m) (hks : ws.length = ks.length) (h : sp (vs ++ zs) H Q (E σ)) : wpAny (model X.prog X.w) A (call (.ref f) us (ks.zip ws)) (EP X pins σ Q) X.xe s := by
  refine wpAny_call (codeAny_mono (F A X.stack s H us ws vs zs Q (E σ) hr e0 r rz hn hks h) fun r s' hq => ?_)
  cases r with
  | error e => exact hx pins H s e s' I hq
  | ok fl =>
    cases fl with
    | ret u => exact I.after hq
    | next => exact False.elim hq
    | brk => exact False.elim hq
    | cont => exact False.elim hq
theorem Rm.in1 {k : Nat} {A : Around} (r : Rm (k + 1) A) : Rm k A.in1 := ⟨r.room.in1, r.gd⟩
theorem make_guards {A : Around} {C : Addr} {us : List Value} {kw : List (Str × Value)} : (A.under (.builtin "type.__call__" ⟨.ref C :: us, kw⟩)).guards = A.guards := by
  first | rfl | (obtain ⟨hd, d, fr, gs, u⟩ := A; simp [Around.under, Code.weight, Code.isCreation, Code.isGuard, Code.isCaller, Code.frames, Code.isFrame, guardIds, Code.guards, pushGuards]) 
theorem Rm.make {k : Nat} {A : Around} (r : Rm (k + 1) A) (C : Addr) (us : List Value) (kw : List (Str × Value)) : Rm k (A.under (.builtin "type.__call__" ⟨.ref C :: us, kw⟩)) := ⟨r.room.make C us kw, by rw [make_guards]; exact r.gd⟩
/-! ### an own class made -/
/-- the class named c, its __init__ does F -/
def CMk (P : Program) (w : World) (K : PySem.W.Frag) (mg : Str → Option Value) (base : Heap) (k : Nat) (c : Str) (n : Option Nat) (ks : List Str) (F : MF) : Prop := ∃ C g, mg c = some (.ref C) ∧ Mk K C g ∧ FnG P w K mg base k g n ks (spF K mg F)
def mkD (c : Str) (F : MF) : MF := fun ds s => (F (.ref s.length :: ds) (s ++ [.ins c []])).bind fun d s2 => match d with | .non => .ok (.ref s.length) s2 | _ => .no
section
variable {X : Cx} {W : WX} {k : Nat} {F : MF} {x c : Str} {p pos apos pos' : Pos} {a b e o value : Expr} {es : List Expr} {kws : List Keyword} {ma mb m mo : EM D} {ms mk : EM (List D)} {f : Str} {n : Option Nat} {ks : List Str}
theorem Ext.lt {ρ ρ' : Nat → Addr} {n n' : Nat} {H H' : Hp} (e : Ext ρ n H ρ' n' H') {i : Nat} (h : i < n) : i < n' := Nat.lt_of_lt_of_le h e.le
theorem vrs_app {K : PySem.W.Frag} {ρ : Nat → Addr} {n : Nat} {H : Hp} {ds : List D} {vs zs : List V} (h : VRs K ρ n H ds (vs ++ zs)) : VRs K ρ n H (ds.take vs.length) vs ∧ VRs K ρ n H (ds.drop vs.length) zs := by
  have h1 := h.take vs.length
  have h2 := h.drop vs.length
  rw [List.take_left' rfl] at h1
  rw [List.drop_left' rfl] at h2
  exact ⟨h1, h2⟩
/-- F says what becomes of the new instance -/
theorem run_mk {C g : Addr} {pins : List (Addr × Obj)} {σ : L2.St} {H : Hp} {s : Shared} {Q : VK} {us ws : List Value} {vs zs : List V} {ρ : Nat → Addr} {st : Sto} {ds : List D} (hm : X.mg c = some (.ref C)) (M : Mk X.K C g) (G : FnG X.prog X.w X.K X.mg X.base k g n ks (spF X.K X.mg F)) (hr : Rm (k + 1) X.A) (tk : Takes X W)
    (I : Inv X pins σ H s) (r : Vals vs us) (rz : Vals zs ws) (hn : ∀ m, n = some m → us.length + 1 = m) (hks : ws.length = ks.length) (sr : SR X.K X.mg ρ st H) (vr : VRs X.K ρ st.length H ds (vs ++ zs)) (po : Po X.K X.mg (VR X.K) W σ ρ st.length H (mkD c F ds st) Q) :
    wpAny (model X.prog X.w) X.A (call (.ref C) us (ks.zip ws)) (EP X pins σ Q) X.xe s := by
  have nx : H (s.heap.objs.size + 1) = none := I.hok.fresh (Nat.le_succ _)
  have nd : H s.heap.objs.size = none := I.hok.fresh (Nat.le_refl _)
  have I2 := Inv.made (C := C) I
  have st2 : ∀ b o, H b = some o → upd (upd H s.heap.objs.size (.own (s.heap.objs.size + 1))) (s.heap.objs.size + 1) (.ins C s.heap.objs.size []) b = some o := fun b o e => by
    rw [upd_ne (ne_of_none e nx), upd_ne (ne_of_none e nd)]
    exact e
  have sr2 := sr.alloc (o := .ins c []) nx st2 ⟨C, s.heap.objs.size, [], hm, upd_same, rfl⟩
  have ext : Ext ρ st.length H (ρup ρ st.length (s.heap.objs.size + 1)) (st.length + 1) _ := Ext.alloc st2
  have len : (st ++ [SO.ins c []]).length = st.length + 1 := by rw [List.length_append] <;> rfl
  have vr2 : VRs X.K (ρup ρ st.length (s.heap.objs.size + 1)) (st ++ [SO.ins c []]).length (upd (upd H s.heap.objs.size (.own (s.heap.objs.size + 1))) (s.heap.objs.size + 1) (.ins C s.heap.objs.size [])) (.ref st.length :: ds) (V.ref (s.heap.objs.size + 1) :: (vs ++ zs)) := by
    rw [len]
    refine VRs.cons ?_ (vr.mono ext)
    rw [VR]
    exact ⟨Nat.lt_succ_self _, by rw [ρup_same]⟩
  refine wpAny_call (make_map (f := g) I.kIn M.makes M.init (beq_iff_eq.mp M.fn) (codeAny_mono (G _ X.stack _ _ (Value.ref (s.heap.objs.size + 1) :: us) ws (V.ref (s.heap.objs.size + 1) :: vs) zs (fun v H2 => v = .non ∧ Q (.ref (s.heap.objs.size + 1)) H2) (WE W σ) (hr.make C us (ks.zip ws))
    (I2.env0.make C us (ks.zip ws)) (.cons rfl r) rz (fun m hm => by rw [List.length_cons]; exact hn m hm) hks ⟨_, _, _, sr2, vr2, ?_⟩) fun r s' hq' => ?_))
  · have po2 := (Po.rebase po ext)
    rw [← len] at po2
    exact ((Po.bind po2).congr fun _ _ _ z => z).imp fun v H2 ⟨ρ2, s2, d2, e2, sr2, r2, po3⟩ => by
      cases d2 with
      | non =>
        obtain rfl : v = .non := r2
        refine ⟨rfl, po3 ρ2 H2 _ Ext.refl sr2 ?_⟩
        rw [VR]
        exact ⟨e2.lt (by rw [len]; exact Nat.lt_succ_self _), by rw [e2.ag _ (by rw [len]; exact Nat.lt_succ_self _), ρup_same]⟩
      | _ => exact po3.elim
  · cases r with
    | error e => exact passAt tk σ pins _ _ e s' I2 hq'
    | ok fl =>
      cases fl with
      | ret u =>
        obtain ⟨v, H', I3, rv, ev, q3⟩ := I2.after hq'
        subst ev
        exact ⟨rv, ⟨V.ref (s.heap.objs.size + 1), H', I3, rfl, q3⟩⟩
      | next => exact False.elim hq'
      | brk => exact False.elim hq'
      | cont => exact False.elim hq'
theorem je_mk (M : CMk X.prog X.w X.K X.mg X.base k x none [] F) (hr : Rm (k + 1) X.A) (tk : Takes X W) (hg : Gl X x) (ha : JA X W (e :: es) ms) (hdb : (x == ("__debug__" : Str)) = false := by decide)
    (he : starEach (e :: es) X.env = (false, eval e X.env) :: starEach es X.env := by rfl) (hpl : (backTo pos (starEach es X.env)).any (·.1) = false := by rfl) : JE X W (.Call (.Name x p) (e :: es) [] pos) (mN (mkD x F) ms) := by
  obtain ⟨C, g, hm, M, G⟩ := M
  refine ⟨fun pins s σ H Q I ⟨ρ, env, st, sr, er, po⟩ => ?_⟩
  refine wpAny_Call_Name_kw (ld_glob I hg hm ?_ hdb)
  refine PySem.W.callWith_K (h₀ := X.base) I.ok.mod.kin M.kp (thn (ha.run pos pins s σ H _ I ⟨ρ, env, st, sr, er, Po.bind po⟩) fun us s1 ⟨vs, H1, I1, r, ρ1, s2, ds, e1, sr1, r1, po1⟩ => ⟨I1.kIn, ?_⟩) he hpl
  exact run_mk (us := us) (ws := []) (zs := []) hm M G hr tk I1 r .nil (fun _ h => nomatch h) rfl sr1 (by rw [List.append_nil]; exact r1) po1
theorem je_mk0 (M : CMk X.prog X.w X.K X.mg X.base k x none [] F) (hr : Rm (k + 1) X.A) (tk : Takes X W) (hg : Gl X x) (hdb : (x == ("__debug__" : Str)) = false := by decide) : JE X W (.Call (.Name x p) [] [] pos) (mN (mkD x F) aN) := by
  obtain ⟨C, g, hm, M, G⟩ := M
  refine ⟨fun pins s σ H Q I ⟨ρ, env, st, sr, er, po⟩ => ?_⟩
  refine wpAny_Call_Name_kw (ld_glob I hg hm ?_ hdb)
  exact PySem.W.callWith_K0 I.kIn M.kp (run_mk (us := []) (ws := []) (vs := []) (zs := []) hm M G hr tk I .nil .nil (fun _ h => nomatch h) rfl sr VRs.nil po)
/-- C(e, .., k = v, ..) -/
theorem je_mkk {n : Nat} (M : CMk X.prog X.w X.K X.mg X.base k x (some (n + 1)) ks F) (hr : Rm (k + 1) X.A) (tk : Takes X W) (hg : Gl X x) (ha : JA X W (e :: es) ms) (hkw : JK X W kws mk)
    (hall : (backToKw pos (keywordEach kws X.env)).all (·.1.isSome) = true := by rfl) (hks : (backToKw pos (keywordEach kws X.env)).filterMap (·.1) = ks := by rfl) (hdb : (x == ("__debug__" : Str)) = false := by decide)
    (he : starEach (e :: es) X.env = (false, eval e X.env) :: starEach es X.env := by rfl) (hpl : ((backTo pos (starEach (e :: es) X.env)).any (·.1) || (backToKw pos (keywordEach kws X.env)).any (·.1.isNone)) = false := by rfl) :
    JE X W (.Call (.Name x p) (e :: es) kws pos) (mNk n ks.length (mkD x F) ms mk) := by
  obtain ⟨C, g, hm, M, G⟩ := M
  refine ⟨fun pins s σ H Q I ⟨ρ, env, st, sr, er, po⟩ => ?_⟩
  refine wpAny_Call_Name_kw (ld_glob I hg hm ?_ hdb)
  refine PySem.W.callWith_KW (h₀ := X.base) I.ok.mod.kin M.kp hall (thn (ha.run pos pins s σ H _ I ⟨ρ, env, st, sr, er, Po.bind po⟩) fun us s1 ⟨vs, H1, I1, r, ρ1, s2, ds, e1, sr1, r1, po1⟩ => ?_) hpl he
  refine thn (hkw.run pos pins s1 σ H1 _ I1 ⟨ρ1, env, s2, sr1, er.mono e1, Po.bind po1⟩) fun ws s3 ⟨zs, H3, I3, rz, ρ3, s4, ys, e3, sr3, r3, po3⟩ => ⟨I3.kIn, ?_⟩
  rw [hks]
  obtain ⟨⟨h1, h2⟩, po4⟩ := Po.ite po3
  exact run_mk hm M G hr tk I3 r rz (fun m hm => by cases hm; show us.length + 1 = _; rw [← r.length, r1.length, h1]) (by rw [← rz.length, r3.length]; exact h2) sr3 ((r1.mono e3).append r3) po4
/-! ### starred arguments -/
def aS (ma : EM D) (ms : EM (List D)) : EM (List D) := fun env s => (ma env s).bind fun x s1 => match seqD s1 x with
  | some xs => (ms env s1).bind fun ys s2 => .ok (xs ++ ys) s2
  | none => .no
theorem ja_star (he : JE X W e m) (hr : JA X W es ms) (hs : starEach (.Starred e p :: es) X.env = (true, eval e X.env) :: starEach es X.env := by rfl) : JA X W (.Starred e p :: es) (aS m ms) :=
  PA_imp (StX.pa_star he hr hs) fun σ H Q ⟨ρ, env, s, sr, er, po⟩ => ⟨ρ, env, s, sr, er, (Po.bind po).imp fun v H1 ⟨ρ1, s1, d1, e1, sr1, r1, po1⟩ => by
    dsimp only at po1
    cases hx : seqD s1 d1 with
    | none => rw [hx] at po1; exact po1.elim
    | some xs =>
      rw [hx] at po1
      obtain ⟨q, vs, rfl, sq, rr⟩ := vr_seq sr1 r1 (xs := xs) (by unfold seqD at hx; cases d1 <;> first | exact hx | cases hx)
      refine ⟨q, vs, rfl, ?_, ρ1, env, s1, sr1, er.mono e1, (Po.bind po1).imp fun us H2 ⟨ρ2, s2, d2, e2, sr2, r2, po2⟩ => po2 ρ2 _ _ Ext.refl sr2 ((rr.mono e2).append r2)⟩
      rcases sq with z | z
      · exact .inr z
      · exact .inl z⟩
/-- the class called with a starred part behind plain ones -/
theorem je_mkS (M : CMk X.prog X.w X.K X.mg X.base k x none [] F) (hr : Rm (k + 1) X.A) (tk : Takes X W) (hg : Gl X x) (ha : JA X W (e :: es) ms) (hdb : (x == ("__debug__" : Str)) = false := by decide)
    (he : starEach (e :: es) X.env = (false, eval e X.env) :: starEach es X.env := by rfl) (hpl : (backTo pos (starEach es X.env)).any (·.1) = true := by rfl) : JE X W (.Call (.Name x p) (e :: es) [] pos) (mN (mkD x F) ms) := by
  obtain ⟨C, g, hm, M, G⟩ := M
  refine ⟨fun pins s σ H Q I ⟨ρ, env, st, sr, er, po⟩ => ?_⟩
  refine wpAny_Call_Name_kw (ld_glob I hg hm ?_ hdb)
  refine PySem.W.callWith_S2 (h₀ := X.base) I.ok.mod.kin M.kp (thn (ha.run pos pins s σ H _ I ⟨ρ, env, st, sr, er, Po.bind po⟩) fun us s1 ⟨vs, H1, I1, r, ρ1, s2, ds, e1, sr1, r1, po1⟩ => ⟨I1.kIn, ?_⟩) he hpl
  exact run_mk (us := us) (ws := []) (zs := []) hm M G hr tk I1 r .nil (fun _ h => nomatch h) rfl sr1 (by rw [List.append_nil]; exact r1) po1
theorem evalArgs_two {M : Model} {A : Around} {E : Value → Shared → Prop} {s : Shared} {f : Value} {y z : Bool × Sem Value} {rest : List (Bool × Sem Value)} {Q : Args → Shared → Prop}
    (h : wpAny M A (spliced (y :: z :: rest)) (fun vs s' => Q ⟨vs, []⟩ s') E s) : wpAny M A (evalArgs f true (y :: z :: rest) []) Q E s := by
  unfold evalArgs
  obtain ⟨b, y⟩ := y
  cases b
  all_goals
    show wpAny M A (spliced (_ :: z :: rest) >>= _) Q E s
    refine wpAny_bind (thn h fun vs s' h' => ?_)
    exact wpAny_holding (wpAny_bind (wpAny_pure (wpAny_bind (wpAny_pure (wpAny_pure h')))))
/-- the class called with two or more parts, the first one starred -/
theorem je_mkS1 {e2 : Expr} (M : CMk X.prog X.w X.K X.mg X.base k x none [] F) (hr : Rm (k + 1) X.A) (tk : Takes X W) (hg : Gl X x) (ha : JA X W (e :: e2 :: es) ms) (hdb : (x == ("__debug__" : Str)) = false := by decide)
    (he : ∃ y z rest, backTo pos (starEach (e :: e2 :: es) X.env) = y :: z :: rest ∧ y.1 = true := by exact ⟨_, _, _, rfl, rfl⟩) : JE X W (.Call (.Name x p) (e :: e2 :: es) [] pos) (mN (mkD x F) ms) := by
  obtain ⟨C, g, hm, M, G⟩ := M
  refine ⟨fun pins s σ H Q I ⟨ρ, env, st, sr, er, po⟩ => ?_⟩
  refine wpAny_Call_Name_kw (ld_glob I hg hm ?_ hdb)
  obtain ⟨y, z, rest, h1, h2⟩ := he
  have key := thn (ha.run pos pins s σ H _ I ⟨ρ, env, st, sr, er, Po.bind po⟩) (Q' := fun us s1 => X.K.In s1.heap ∧ wpAny (model X.prog X.w) X.A (call (.ref C) ([] ++ us) []) (EP X pins σ Q) X.xe s1) fun us s1 ⟨vs, H1, I1, r, ρ1, s2, ds, e1, sr1, r1, po1⟩ =>
    ⟨I1.kIn, run_mk (us := us) (ws := []) (zs := []) hm M G hr tk I1 r .nil (fun _ h => nomatch h) rfl sr1 (by rw [List.append_nil]; exact r1) po1⟩
  show wpAny _ _ (callWith pos (.ref C) [] (backTo pos (starEach (e :: e2 :: es) X.env)) []) _ _ _
  rw [h1] at key ⊢
  exact PySem.W.ks_call (by rw [List.any_cons, h2] <;> rfl) (PySem.W.keeps_K M.kp) (evalArgs_two key)
/-- the class called with one starred part alone -/
def aS1 (ma : EM D) : EM (List D) := fun env s => (ma env s).bind fun x s1 => match seqD s1 x with
  | some xs => .ok xs s1
  | none => .no
theorem je_mkS0 {sp_ : Pos} (M : CMk X.prog X.w X.K X.mg X.base k x none [] F) (hr : Rm (k + 1) X.A) (tk : Takes X W) (hg : Gl X x) (ha : JE X W e m) (hdb : (x == ("__debug__" : Str)) = false := by decide)
    (hst : starEach [.Starred e sp_] X.env = [(true, eval e X.env)] := by rfl) : JE X W (.Call (.Name x p) [.Starred e sp_] [] pos) (mN (mkD x F) (aS1 m)) := by
  obtain ⟨C, g, hm, M, G⟩ := M
  refine ⟨fun pins s σ H Q I ⟨ρ, env, st, sr, er, po⟩ => ?_⟩
  refine wpAny_Call_Name_kw (ld_glob I hg hm ?_ hdb)
  have po : Po X.K X.mg (VR X.K) W σ ρ st.length H ((m env st).bind fun d s1 => (match seqD s1 d with | some xs => (.ok xs s1 : Rs (List D)) | none => .no).bind fun ds s2 => mkD x F ds s2) Q := by
    have e : (mN (mkD x F) (aS1 m)) env st = (m env st).bind fun d s1 => (match seqD s1 d with | some xs => (.ok xs s1 : Rs (List D)) | none => .no).bind fun ds s2 => mkD x F ds s2 := by
      unfold mN aS1
      rw [Rs.bind_assoc]
    rw [← e]
    exact po
  refine PySem.W.callWith_S (h₀ := X.base) I.ok.mod.kin M.kp (thn (ha.run pins s σ H _ I ⟨ρ, env, st, sr, er, Po.bind po⟩) fun v s1 ⟨y, H1, I1, ry, ρ1, s2, d1, e1, sr1, r1, po1⟩ => ?_) hst
  dsimp only at po1
  cases hx : seqD s2 d1 with
  | none => rw [hx] at po1; exact po1.elim
  | some xs =>
    rw [hx] at po1
    obtain ⟨q, vs, rfl, sq, rr⟩ := vr_seq sr1 r1 (xs := xs) (by unfold seqD at hx; cases d1 <;> first | exact hx | cases hx)
    obtain rfl : v = Value.ref q := ry
    exact StX.star_any I1 (sq.elim .inr .inl) fun us s3 I3 rv => ⟨I3.kIn, run_mk (us := us) (ws := []) (zs := []) hm M G hr tk I3 rv .nil (fun _ h => nomatch h) rfl sr1 (by rw [List.append_nil]; exact rr) po1⟩
end
/-! ### a def with a starred parameter -/
/-- the values by parameters: what is left over is a tuple -/
def starF (n : Nat) (F : MF) : MF := fun ds s => if n ≤ ds.length ∧ ds.length ≤ sizeLine then F (ds.take n ++ [.tup (ds.drop n)]) s else .no
section
variable {P : Program} {w : World} {K : PySem.W.Frag} {mg : Str → Option Value} {base : Heap} {k : Nat} {f : Addr} {fd : FuncData} {x qual : Str} {params : Arguments} {body : List Stmt} {scope : Scope} {N ps : List Str} {m : SM} {pv : Str}
theorem fs_star (F : FunD K x qual params body scope [] [] f fd) (S : FnScope N (ps ++ [pv]) scope) (hb : Body P w K mg base k N qual scope f body m)
    (h : ∀ (kV doc pm : Value) (an : Option Addr) (cdv ct : Value) (us rest : List Value), us.length = ps.length → bindArgs (PySem.W.fnOf x qual params body scope .none kV doc pm an cdv ct) ⟨us ++ rest, []⟩ = (newTuple rest >>= fun t => pure (ps.zip us ++ [(pv, t)]))) :
    FS P w K mg base (k + 1) f (starF ps.length (fnM (ps ++ [pv]).length N.length m)) := by
  obtain ⟨oc, od, dV, kV, doc, pm, an, cdv, ct, osl, rfl, lk, hcd, hD, hK⟩ := F.ex
  intro A outer st H us ws vs zs Q E hr e0 rv rz _ hks ⟨ρ, s, ds, sr, rd, po⟩
  have hz : ws = [] := List.eq_nil_of_length_eq_zero hks
  subst hz
  have hz : zs = [] := List.eq_nil_of_length_eq_zero rz.length
  subst hz
  rw [List.append_nil] at rd
  obtain ⟨⟨hl, hsz⟩, po⟩ := Po.ite po
  have hl1 := rv.length
  have hl2 := rd.length
  have rd1 := rd.take ps.length
  have rd2 := rd.drop ps.length
  have dV0 : dV = .none := by
    rcases hD with ⟨_, e⟩ | ⟨e, _⟩
    · exact e
    · exact absurd rfl e
  subst dV0
  have r1 : Vals (vs.take ps.length) (us.take ps.length) := by
    obtain ⟨u1, u2, e, a, b⟩ := StX.vals_split (ws := vs.take ps.length) (rest := vs.drop ps.length) (us := us) (by rw [List.take_append_drop]; exact rv)
    have : us.take ps.length = u1 := by
      rw [e, List.take_left']
      rw [← a.length, List.length_take]
      omega
    rw [this]
    exact a
  have r2 : Vals (vs.drop ps.length) (us.drop ps.length) := by
    obtain ⟨u1, u2, e, a, b⟩ := StX.vals_split (ws := vs.take ps.length) (rest := vs.drop ps.length) (us := us) (by rw [List.take_append_drop]; exact rv)
    have : us.drop ps.length = u2 := by
      rw [e, List.drop_left']
      rw [← a.length, List.length_take]
      omega
    rw [this]
    exact b
  have lt : (us.take ps.length).length = ps.length := by rw [List.length_take]; omega
  have hn : H st.heap.objs.size = none := e0.hok.fresh (Nat.le_refl _)
  have eqs : bindArgs (PySem.W.fnOf x qual params body scope .none kV doc pm an cdv ct) ⟨us, []⟩ = (newTuple (us.drop ps.length) >>= fun t => pure (ps.zip (us.take ps.length) ++ [(pv, t)])) := by
    have := h kV doc pm an cdv ct (us.take ps.length) (us.drop ps.length) lt
    rwa [List.take_append_drop] at this
  have hd2 : (us.drop ps.length).length ≤ sizeLine := by rw [List.length_drop]; omega
  refine StX.run_bnd (N := N) (ps := ps ++ [pv]) lk hcd S hr.room e0 (G := fun xs H2 => ∃ q, H q = none ∧ xs = vs.take ps.length ++ [V.ref q] ∧ H2 = upd H q (.tup (vs.drop ps.length))) (fun A' Ex Q' hh => ?_) fun s2 H2 xs ⟨q, hq, ex, eH⟩ hr' => ?_
  · show wpAny _ _ (bindArgs _ ⟨us, []⟩) _ _ _
    rw [eqs]
    refine wpAny_bind (wpAny_newTuple (wpAny_pure ?_) hd2)
    have new : ObjOk P w (upd H st.heap.objs.size (.tup (vs.drop ps.length))) (st.heap.push ({ cls := .type "tuple", data := .seq (us.drop ps.length).toArray } : Obj)) st.heap.objs.size (.tup (vs.drop ps.length)) :=
      ⟨by rw [r2.length]; exact hd2, us.drop ps.length, r2, ⟨_, Heap.get?_push_size _ rfl, rfl, _, rfl⟩⟩
    have un := StX.un_laid (fs := frs outer) (s := st) (o := ({ cls := .type "tuple", data := .seq (us.drop ps.length).toArray } : Obj)) (u := .tup (vs.drop ps.length)) hn
    have z := hh _ _ (vs.take ps.length ++ [V.ref st.heap.objs.size]) (us.take ps.length ++ [Value.ref st.heap.objs.size]) (StX.env0_laid e0 new) un rfl (fun e s' => StX.cxUp outer st H _ _ E e s' un (fun b o q => Heap.get?_push_of_some _ q) rfl) (r1.append (.cons rfl .nil))
      (by rw [List.length_append, List.length_append, r1.length, lt] <;> rfl) ⟨_, hn, rfl, rfl⟩
    rw [List.zip_append lt.symm] at z
    exact z
  · subst ex eH
    obtain ⟨ext, sr2, vt⟩ := new_tup sr hq rd2
    have rD : VRs K ρ s.length (upd H q (.tup (vs.drop ps.length))) (ds.take ps.length ++ [.tup (ds.drop ps.length)]) (vs.take ps.length ++ [V.ref q]) := (rd1.mono ext).append (VRs.cons vt VRs.nil)
    have po2 : Po K mg (VR K) (fun c d _ H => E c d H) [] ρ s.length (upd H q (.tup (vs.drop ps.length))) (fnM (ps ++ [pv]).length N.length m (ds.take ps.length ++ [.tup (ds.drop ps.length)]) s) Q := po.rebase ext
    exact ⟨_, hb cdv A outer s2 _ E ⟨hr', hr.gd⟩, ρ, _, s, sr2, envR_start rD, PoS.fin (σ := []) (Po.ite po2).2⟩
end
end Z

set_option Elab.async false
set_option linter.all false
set_option maxRecDepth 100000
set_option maxHeartbeats 4000000
namespace Z
open PySem PySem.Spec PyProof.Rows L2
variable [Row]
/-! ### methods: by the class of the receiver -/
abbrev Tb := List (Str × MF)
/-- the classes of the table have the method m, at level k -/
def MTab (P : Program) (w : World) (K : PySem.W.Frag) (mg : Str → Option Value) (base : Heap) (k : Nat) (tb : Tb) (m : Str) : Prop :=
  ∀ c F, tb.lookup c = some F → ∃ C g, mg c = some (.ref C) ∧ Cls K C ∧ Meth K C m g ∧ FS P w K mg base k g F
section
variable {P : Program} {w : World} {K : PySem.W.Frag} {mg : Str → Option Value} {base : Heap} {j k : Nat} {tb : Tb} {m c : Str} {F : MF}
theorem mtab_nil : MTab P w K mg base k [] m := fun _ _ h => by cases h
theorem mtab_cons {C g : Addr} (h1 : mg c = some (.ref C)) (h2 : Cls K C) (h3 : Meth K C m g) (h4 : FS P w K mg base j g F) (hj : j ≤ k) (t : MTab P w K mg base k tb m) : MTab P w K mg base k ((c, F) :: tb) m := fun d G h => by
  rw [List.lookup_cons] at h
  split at h
  · rename_i q
    cases h
    obtain rfl : d = c := eq_of_beq q
    exact ⟨C, g, h1, h2, h3, h4.mono hj⟩
  · exact t d G h
end
def mMeth (tb : Tb) (m : Str) (mo : EM D) (ms : EM (List D)) : EM D := fun e s => (mo e s).bind fun d s1 => match d with
  | .ref n => match s1[n]? with
    | some (.ins c fs) => match tb.lookup c with
      | some F => if (fs.lookup m).isNone then (ms e s1).bind fun ds s2 => F (.ref n :: ds) s2 else .no
      | none => .no
    | _ => .no
  | _ => .no
section
variable {X : Cx} {W : WX} {k : Nat} {tb : Tb} {x c m : Str} {p pos apos pos' : Pos} {a b e o value : Expr} {es : List Expr} {mo ma mb : EM D} {ms : EM (List D)}
/-- an instance of a class of the table -/
theorem meth_of (T : MTab X.prog X.w X.K X.mg X.base k tb m) {ρ : Nat → Addr} {s : Sto} {H : Hp} {n : Nat} {c : Str} {fs : List (Str × D)} {F : MF} (sr : SR X.K X.mg ρ s H) (hs : s[n]? = some (.ins c fs)) (hF : tb.lookup c = some F) :
    ∃ C dx vs g, H (ρ n) = some (.ins C dx vs) ∧ FR X.K ρ s.length H fs vs ∧ Cls X.K C ∧ Meth X.K C m g ∧ FS X.prog X.w X.K X.mg X.base k g F := by
  obtain ⟨C, dx, vs, g1, g2, g3⟩ := sr.ob n _ hs
  obtain ⟨C', g, h1, h2, h3, h4⟩ := T c F hF
  rw [g1] at h1
  cases h1
  exact ⟨C, dx, vs, g, g2, g3, h2, h3, h4⟩
theorem lookup_non {K : PySem.W.Frag} {ρ : Nat → Addr} {n : Nat} {H : Hp} {fs : List (Str × D)} {vs : List (Str × V)} (r : FR K ρ n H fs vs) (h : (fs.lookup m).isNone = true) : vs.lookup m = none := r.lookup_none (by
  cases e : fs.lookup m with
  | none => rfl
  | some d => rw [e] at h; cases h)
theorem je_meth (T : MTab X.prog X.w X.K X.mg X.base k tb m) (hr : Rm k X.A) (tk : Takes X W) {pl : Sem Bool} (ho : JE X W o mo) (ha : JA X W (e :: es) ms)
    (hst : starEach (e :: es) X.env = (false, eval e X.env) :: starEach es X.env := by rfl) (hpl : (backTo pos (starEach es X.env)).any (·.1) = false := by rfl)
    (ht : eval (.Call (.Attribute o m apos) (e :: es) [] pos) X.env = (do
      let ov ← eval o X.env
      standAt apos.atName
      let (f, first) ← holding [ov] (getMethod ov m pl)
      callWith pos f first (backTo pos (starEach (e :: es) X.env)) (backToKw pos (keywordEach [] X.env))) := by rfl) : JE X W (.Call (.Attribute o m apos) (e :: es) [] pos) (mMeth tb m mo ms) := by
  refine ⟨fun pins s σ H Q I ⟨ρ, env, st, sr, er, po⟩ => ?_⟩
  refine PySem.W.methodCall_KW (pl := pl) (thn (ho.run pins s σ H _ I ⟨ρ, env, st, sr, er, Po.bind po⟩) fun u s1 ⟨v, H1, I1, rx, ρ1, st1, d1, e1, sr1, vr1, po1⟩ => ?_) ht
  cases d1 with
  | ref n =>
    have vr1' := vr1
    rw [VR] at vr1
    obtain ⟨hn, rfl⟩ := vr1
    dsimp only at po1
    split at po1
    · rename_i c fs hs
      split at po1
      · rename_i F hF
        obtain ⟨hl, po1⟩ := Po.ite po1
        obtain ⟨C, dx, vs, g, g2, g3, h2, h3, h4⟩ := meth_of T sr1 hs hF
        obtain rfl : u = Value.ref (ρ1 n) := rx
        refine getmeth_ok I1 g2 h2 h3 (lookup_non g3 hl) ?_
        refine PySem.W.callWith_K (first := [.ref (ρ1 n)]) (h₀ := X.base) I1.ok.mod.kin h3.kp (thn (ha.run pos pins s1 σ H1 _ I1 ⟨ρ1, env, st1, sr1, er.mono e1, Po.bind po1⟩) fun us s2 ⟨ys, H2, I2, r, ρ2, st2, ds, e2, sr2, r2, po2⟩ => ⟨I2.kIn, ?_⟩) hst hpl
        exact run_at (E := WE W) (us := .ref (ρ1 n) :: us) (ws := []) (vs := .ref (ρ1 n) :: ys) (zs := []) h4 hr (passAt tk σ) I2 (.cons rfl r) .nil (fun _ h => nomatch h) rfl ⟨ρ2, st2, .ref n :: ds, sr2, by rw [List.append_nil]; exact VRs.cons (vr1'.mono e2) r2, po2.congr fun _ _ _ z => z⟩
      · exact po1.elim
    · exact po1.elim
  | _ => exact po1.elim
theorem je_meth0 (T : MTab X.prog X.w X.K X.mg X.base k tb m) (hr : Rm k X.A) (tk : Takes X W) {pl : Sem Bool} (ho : JE X W o mo)
    (ht : eval (.Call (.Attribute o m apos) [] [] pos) X.env = (do
      let ov ← eval o X.env
      standAt apos.atName
      let (f, first) ← holding [ov] (getMethod ov m pl)
      callWith pos f first (backTo pos (starEach [] X.env)) (backToKw pos (keywordEach [] X.env))) := by rfl) : JE X W (.Call (.Attribute o m apos) [] [] pos) (mMeth tb m mo aN) := by
  refine ⟨fun pins s σ H Q I ⟨ρ, env, st, sr, er, po⟩ => ?_⟩
  refine PySem.W.methodCall_KW (pl := pl) (thn (ho.run pins s σ H _ I ⟨ρ, env, st, sr, er, Po.bind po⟩) fun u s1 ⟨v, H1, I1, rx, ρ1, st1, d1, e1, sr1, vr1, po1⟩ => ?_) ht
  cases d1 with
  | ref n =>
    have vr1' := vr1
    rw [VR] at vr1
    obtain ⟨hn, rfl⟩ := vr1
    dsimp only at po1
    split at po1
    · rename_i c fs hs
      split at po1
      · rename_i F hF
        obtain ⟨hl, po1⟩ := Po.ite po1
        obtain ⟨C, dx, vs, g, g2, g3, h2, h3, h4⟩ := meth_of T sr1 hs hF
        obtain rfl : u = Value.ref (ρ1 n) := rx
        refine getmeth_ok I1 g2 h2 h3 (lookup_non g3 hl) ?_
        exact PySem.W.callWith_K0 (first := [.ref (ρ1 n)]) I1.kIn h3.kp (run_at (E := WE W) (us := [.ref (ρ1 n)]) (ws := []) (vs := [.ref (ρ1 n)]) (zs := []) h4 hr (passAt tk σ) I1 (.cons rfl .nil) .nil (fun _ h => nomatch h) rfl ⟨ρ1, st1, [.ref n], sr1, VRs.cons vr1' VRs.nil, po1.congr fun _ _ _ z => z⟩)
      · exact po1.elim
    · exact po1.elim
  | _ => exact po1.elim
/-! ### operators that the class of an instance does -/
/-- the instance's place in the library's words -/
theorem inst_look {pins : List (Addr × Obj)} {σ : L2.St} {H : Hp} {s : Shared} {a C dx : Addr} {vs : List (Str × V)} (I : Inv X pins σ H s) (ea : H a = some (.ins C dx vs)) : ∃ ox od, PySem.W.InstAt s.heap a ox C od ∧ ox.data = .plain := by
  obtain ⟨mA, O, _, _, _, _⟩ := ins_get I.hok ea
  obtain ⟨od, J, _⟩ := O.look
  exact ⟨_, _, J, rfl⟩
/-- its def, called at A with one more value -/
theorem own_call {A : Around} {F : MF} {g : Addr} {pins : List (Addr × Obj)} {σ : L2.St} {H : Hp} {s : Shared} {Q : VK} {us : List Value} {vs : List V} {ρ : Nat → Addr} {st : Sto} {ds : List D} (hF : FS X.prog X.w X.K X.mg X.base k g F) (hr : Rm k A) (e0 : Env0 X.prog X.w X.K X.mg X.base A X.stack s H) (tk : Takes X W)
    (I : Inv X pins σ H s) (r : Vals vs us) (sr : SR X.K X.mg ρ st H) (vr : VRs X.K ρ st.length H ds vs) (po : Po X.K X.mg (VR X.K) W σ ρ st.length H (F ds st) Q) : wpAny (model X.prog X.w) A (call (.ref g) us) (EP X pins σ Q) X.xe s :=
  run_at2 (E := WE W) (us := us) (ws := []) (vs := vs) (zs := []) hF hr e0 (passAt tk σ) I r .nil (fun _ h => nomatch h) rfl ⟨ρ, st, ds, sr, by rw [List.append_nil]; exact vr, po.congr fun _ _ _ z => z⟩
/-- x in y, x not in y -/
def dInO (neg : Bool) (tb : Tb) (B : D → D → Sto → Rs D) (x y : D) (s : Sto) : Rs D := match insC s y with
  | some c => match tb.lookup c with
    | some F => (F [y, x] s).bind fun d s1 => match d with | .bl b => .ok (.bl (neg ^^ b)) s1 | _ => .no
    | none => .no
  | none => B x y s
theorem insC_some {s : Sto} {d : D} {c : Str} (h : insC s d = some c) : ∃ n fs, d = .ref n ∧ s[n]? = some (.ins c fs) := by
  unfold insC at h
  split at h
  · rename_i n
    split at h
    · rename_i c' fs hs
      cases h
      exact ⟨n, fs, rfl, hs⟩
    · cases h
  · cases h
theorem opd_in {op : CmpOp} {neg : Bool} {B : D → D → Sto → Rs D} (hop : (op = .In ∧ neg = false) ∨ (op = .NotIn ∧ neg = true)) (T : MTab X.prog X.w X.K X.mg X.base k tb "__contains__") (hr : Rm k X.A) (tk : Takes X W) (hB : OpD X W (compareOp op) B) : OpD X W (compareOp op) (dInO neg tb B) := by
  intro pins s σ H ρ st x y vx vy ux uy Q I sr rx ry e1 e2 po
  unfold dInO at po
  split at po
  · rename_i c hc
    split at po
    · rename_i F hF
      obtain ⟨n, fs, rfl, hs⟩ := insC_some hc
      obtain ⟨C, dx, vs, g, g2, g3, h2, h3, h4⟩ := meth_of T sr hs hF
      have ry' := ry
      rw [VR] at ry
      obtain ⟨hn, rfl⟩ := ry
      obtain rfl : uy = Value.ref (ρ n) := e2
      obtain ⟨ox, od, J, _⟩ := inst_look I g2
      obtain ⟨m, hF⟩ := I.fr
      have run := own_call (us := [.ref (ρ n), ux]) (vs := [.ref (ρ n), vx]) h4 hr I.env0 tk I (.cons rfl (.cons e1 .nil)) sr (VRs.cons ry' (VRs.cons rx VRs.nil)) (Po.bind po)
      rcases hop with ⟨rfl, rfl⟩ | ⟨rfl, rfl⟩
      · refine PySem.W.in_K hF I.ok.mod.kin J h3.at_ h3.fn (thn run fun u s2 ⟨v, H2, I2, r2, ρ2, st2, d2, e3, sr2, vr2, po2⟩ => ?_)
        cases d2 with
        | bl q =>
          obtain rfl : v = .bl q := vr2
          cases r2
          exact wpAny_truthy_bool ⟨.bl q, H2, I2, rfl, by simpa using po2 ρ2 H2 (.bl q) Ext.refl sr2 (by rw [VR]; simp)⟩
        | _ => exact po2.elim
      · refine PySem.W.notIn_K hF I.ok.mod.kin J h3.at_ h3.fn (thn run fun u s2 ⟨v, H2, I2, r2, ρ2, st2, d2, e3, sr2, vr2, po2⟩ => ?_)
        cases d2 with
        | bl q =>
          obtain rfl : v = .bl q := vr2
          cases r2
          exact wpAny_truthy_bool ⟨.bl (!q), H2, I2, rfl, by simpa using po2 ρ2 H2 (.bl (!q)) Ext.refl sr2 (by rw [VR]; simp)⟩
        | _ => exact po2.elim
    · exact po.elim
  · exact hB pins s σ H ρ st x y vx vy ux uy Q I sr rx ry e1 e2 po
/-! ### o[i] -/
def IxD (X : Cx) (W : WX) (F : D → D → Sto → Rs D) : Prop :=
  ∀ (value slice : Expr) (pins : List (Addr × Obj)) (s : Shared) (σ : L2.St) (H : Hp) (ρ : Nat → Addr) (st : Sto) (x y : D) (vx vy : V) (ux uy : Value) (Q : VK), Inv X pins σ H s → SR X.K X.mg ρ st H → VR X.K ρ st.length H x vx → VR X.K ρ st.length H y vy → RelV vx ux → RelV vy uy →
    Po X.K X.mg (VR X.K) W σ ρ st.length H (F x y st) Q → (∀ v u, subscripted slice false v u = operate [v, u] (getItem v u)) → (∀ v u, subscripted slice true v u = runValue (.builtin "lifetime.subscript" ⟨[v, u], []⟩)) → wpAny (model X.prog X.w) X.A (subscriptTail value slice ux uy) (EP X pins σ Q) X.xe s
theorem ixd_of {F : D → D → Sto → Rs D} {r : R2} (hr : IxR X r) (hp : Pr2 X W F r) : IxD X W F := fun value slice pins s σ H ρ st x y vx vy ux uy Q I sr rx ry e1 e2 po h1 h2 =>
  hr value slice pins s σ H vx vy ux uy Q I e1 e2 (hp ρ st H σ x y vx vy Q sr rx ry po) (h1 _ _)
def dIxO (tb : Tb) (B : D → D → Sto → Rs D) (x y : D) (s : Sto) : Rs D := match insC s x with
  | some c => match tb.lookup c with
    | some F => F [x, y] s
    | none => .no
  | none => B x y s
def FnTab (K : PySem.W.Frag) (mg : Str → Option Value) (tb : Tb) (m : Str) : Prop := ∀ c F, tb.lookup c = some F → ∀ C g, mg c = some (.ref C) → Meth K C m g → PySem.W.fnIn K g = true
theorem ixd_own {B : D → D → Sto → Rs D} (T : MTab X.prog X.w X.K X.mg X.base k tb "__getitem__") (T2 : FnTab X.K X.mg tb "__getitem__") (hr : Rm (k + 1) X.A) (tk : Takes X W) (hB : IxD X W B) : IxD X W (dIxO tb B) := by
  intro value slice pins s σ H ρ st x y vx vy ux uy Q I sr rx ry e1 e2 po q1 q2
  unfold dIxO at po
  split at po
  · rename_i c hc
    split at po
    · rename_i F hF
      obtain ⟨n, fs, rfl, hs⟩ := insC_some hc
      obtain ⟨C, dx, vs, g, g2, g3, h2, h3, h4⟩ := meth_of T sr hs hF
      have hfn : PySem.W.fnIn X.K g = true := by
        obtain ⟨C', dx', vs', k1, k2, _⟩ := sr.ob n _ hs
        rw [g2] at k2
        cases k2
        exact T2 c F hF C g k1 h3
      have rx' := rx
      rw [VR] at rx
      obtain ⟨hn, rfl⟩ := rx
      obtain rfl : ux = Value.ref (ρ n) := e1
      obtain ⟨ox, od, J, _⟩ := inst_look I g2
      obtain ⟨m, hFr⟩ := I.fr
      exact PySem.W.sub_K hFr I.ok.mod.kin J h3.at_ hfn h3.fn (own_call (us := [.ref (ρ n), uy]) (vs := [.ref (ρ n), vy]) h4 hr.in1 I.env0.in1 tk I (.cons rfl (.cons e2 .nil)) sr (VRs.cons rx' (VRs.cons ry VRs.nil)) po) (q2 _ _)
    · exact po.elim
  · exact hB value slice pins s σ H ρ st x y vx vy ux uy Q I sr rx ry e1 e2 po q1 q2
theorem je_ixd {F : D → D → Sto → Rs D} (h : IxD X W F) (ha : JE X W a ma) (hb : JE X W b mb) (hs : ∀ v u, subscripted b false v u = operate [v, u] (getItem v u) := by exact fun _ _ => rfl) (hs2 : ∀ v u, subscripted b true v u = runValue (.builtin "lifetime.subscript" ⟨[v, u], []⟩) := by (intro v u; with_unfolding_all rfl)) :
    JE X W (.Subscript a b pos) (m2 F ma mb) := by
  refine ⟨fun pins s σ H Q I ⟨ρ, env, st, sr, er, po⟩ => Subscript_ ?_⟩
  exact thn (ha.run pins s σ H _ I ⟨ρ, env, st, sr, er, Po.bind po⟩) fun u s1 ⟨v, H1, I1, r1, ρ1, st1, d1, e1, sr1, vr1, po1⟩ =>
    thn (hb.run pins s1 σ H1 _ I1 ⟨ρ1, env, st1, sr1, er.mono e1, Po.bind po1⟩) fun u2 s2 ⟨v2, H2, I2, r2, ρ2, st2, d2, e2, sr2, vr2, po2⟩ => h a b pins s2 σ H2 ρ2 st2 d1 d2 v v2 u u2 Q I2 sr2 (vr1.mono e2) vr2 r1 r2 po2 hs hs2
/-! ### len(o) -/
def CallD (X : Cx) (W : WX) (f : Value) (F : MF) : Prop :=
  ∀ (pins : List (Addr × Obj)) (s : Shared) (σ : L2.St) (H : Hp) (ρ : Nat → Addr) (st : Sto) (ds : List D) (vs : List V) (us : List Value) (Q : VK), Inv X pins σ H s → SR X.K X.mg ρ st H → VRs X.K ρ st.length H ds vs → Vals vs us →
    Po X.K X.mg (VR X.K) W σ ρ st.length H (F ds st) Q → wpAny (model X.prog X.w) X.A (call f us) (EP X pins σ Q) X.xe s
theorem calld_of {f : Value} {F : MF} {r : List V → Hp → VK → Prop} (hr : CallR X f r) (hp : PrN X W F r) : CallD X W f F := fun pins s σ H ρ st ds vs us Q I sr vr r po => hr pins s σ H vs us Q I r (hp ρ st H σ ds vs Q sr vr po)
theorem je_cbd {id : String} {F : MF} (hc : CallD X W (.builtin id) F) (hg : Gl X x) (hm : X.mg x = none) (hv : bootBuiltins x = some (.builtin id)) (ha : JA X W (e :: es) ms) (hn : x ≠ "__name__" := by decide) (hdb : (x == ("__debug__" : Str)) = false := by decide)
    (he : starEach (e :: es) X.env = (false, eval e X.env) :: starEach es X.env := by rfl) (hpl : (backTo pos (starEach es X.env)).any (·.1) = false := by rfl) : JE X W (.Call (.Name x p) (e :: es) [] pos) (mN F ms) := by
  refine ⟨fun pins s σ H Q I ⟨ρ, env, st, sr, er, po⟩ => ?_⟩
  refine wpAny_Call_Name_kw (ld_blt I hg hm hv ?_ hn hdb)
  exact PyProof.Rows.callWith_builtin1 (thn (ha.run pos pins s σ H _ I ⟨ρ, env, st, sr, er, Po.bind po⟩) fun us s1 ⟨vs, H1, I1, r1, ρ1, st1, ds, e1, sr1, vr1, po1⟩ => hc pins s1 σ H1 ρ1 st1 ds vs us Q I1 sr1 vr1 r1 po1) he hpl
theorem je_ctd {T : String} {F : MF} (hc : CallD X W (.type T) F) (hg : Gl X x) (hm : X.mg x = none) (hv : bootBuiltins x = some (.type T)) (ha : JA X W (e :: es) ms) (hn : x ≠ "__name__" := by decide) (hdb : (x == ("__debug__" : Str)) = false := by decide)
    (he : starEach (e :: es) X.env = (false, eval e X.env) :: starEach es X.env := by rfl) (hpl : (backTo pos (starEach es X.env)).any (·.1) = false := by rfl) : JE X W (.Call (.Name x p) (e :: es) [] pos) (mN F ms) := by
  refine ⟨fun pins s σ H Q I ⟨ρ, env, st, sr, er, po⟩ => ?_⟩
  refine wpAny_Call_Name_kw (ld_blt I hg hm hv ?_ hn hdb)
  exact PyProof.Rows.callWith_type1 (thn (ha.run pos pins s σ H _ I ⟨ρ, env, st, sr, er, Po.bind po⟩) fun us s1 ⟨vs, H1, I1, r1, ρ1, st1, ds, e1, sr1, vr1, po1⟩ => hc pins s1 σ H1 ρ1 st1 ds vs us Q I1 sr1 vr1 r1 po1) he hpl
def fLenO (tb : Tb) (B : MF) : MF := fun ds s => match ds with
  | [d] => match insC s d with
    | some c => match tb.lookup c with
      | some F => (F [d] s).bind fun d1 s1 => match d1 with | .int i => if 0 ≤ i ∧ i < 2 ^ 63 then .ok (.int i) s1 else .no | _ => .no
      | none => .no
    | none => B ds s
  | _ => B ds s
theorem calld_len {B : MF} (T : MTab X.prog X.w X.K X.mg X.base k tb "__len__") (hr : Rm (k + 1) X.A) (tk : Takes X W) (hB : CallD X W (.builtin "len") B) : CallD X W (.builtin "len") (fLenO tb B) := by
  intro pins s σ H ρ st ds vs us Q I sr vr r po
  unfold fLenO at po
  split at po
  · rename_i d
    split at po
    · rename_i c hc
      split at po
      · rename_i F hF
        obtain ⟨n, fs, rfl, hs⟩ := insC_some hc
        obtain ⟨C, dx, vs', g, g2, g3, h2, h3, h4⟩ := meth_of T sr hs hF
        obtain ⟨v, rfl, vr'⟩ := vr.one
        have vr2 := vr'
        rw [VR] at vr'
        obtain ⟨hn, rfl⟩ := vr'
        cases r with
        | cons r1 r2 =>
          cases r2
          obtain rfl : _ = Value.ref (ρ n) := r1
          obtain ⟨ox, od, J, _⟩ := inst_look I g2
          obtain ⟨m, hFr⟩ := I.fr
          refine PySem.W.len_K hFr I.ok.mod.kin J h3.at_ h3.fn (thn (own_call (us := [.ref (ρ n)]) (vs := [.ref (ρ n)]) h4 hr.in1 I.env0.in1 tk I (.cons rfl .nil) sr (VRs.cons vr2 VRs.nil) (Po.bind po)) fun u s2 ⟨v, H2, I2, r2, ρ2, st2, d2, e3, sr2, vr3, po2⟩ => ?_)
          cases d2 with
          | int i =>
            obtain rfl : v = .int i := vr3
            obtain ⟨t, rfl⟩ := r2
            obtain ⟨hi, po2⟩ := Po.ite po2
            exact ⟨hi, .int i, H2, I2.tok _, ⟨_, rfl⟩, po2 ρ2 H2 (.int i) Ext.refl sr2 (by rw [VR])⟩
          | _ => exact po2.elim
      · exact po.elim
    · exact hB pins s σ H ρ st _ vs us Q I sr vr r po
  · exact hB pins s σ H ρ st _ vs us Q I sr vr r po
end
end Z

set_option Elab.async false
set_option linter.all false
set_option maxRecDepth 100000
set_option maxHeartbeats 4000000
namespace Z
open PySem PySem.Spec PyProof.Rows L2
variable [Row]
/-! ### a class whose __iter__ walks a tuple of its own -/
/-- what its __iter__ at g does: a new walk over the tuple in the attribute f -/
def IterG (P : Program) (w : World) (K : PySem.W.Frag) (mg : Str → Option Value) (base : Heap) (k : Nat) (g C : Addr) (f : Str) : Prop :=
  ∀ (A : Around) (outer : List Env) (st : Shared) (H : Hp) (a dx t : Addr) (vs : List (Str × V)) (xs : List V), Rm k A → Env0 P w K mg base A outer st H → H a = some (.ins C dx vs) → vs.lookup f = some (.ref t) → SqT K H t xs →
    codeAny (model P w) A (.call (.ref g) ⟨[.ref a], []⟩) (fun r s' => ∃ it, r = .ok (.ret (.ref it)) ∧ CE outer P w H st (fun _ H' => H' = H) (.ref it) s' ∧ s'.heap.IsTupleIter it t 0 ∧ st.heap.objs.size ≤ it) st
theorem call_iter_tup {prog : Program} {w : World} {A : Around} {E : Value → Shared → Prop} {s : Shared} {t : Addr} {items : Array Value} {Q : Value → Shared → Prop} (ht : s.heap.IsTuple t items)
    (h : Q (.ref s.heap.objs.size) { s with heap := s.heap.push { cls := .type "tuple_iterator", data := .fields #[.ref t, .int 0 0] } }) : wpAny (model prog w) A (call (.builtin "iter") [.ref t]) Q E s := by
  refine Calls.call_function_entry (by decide +kernel) (by decide +kernel) PySem.W.kdk_entry_iter (PySem.W.kdk_args_iter _) ?_
  unfold Builtin.«iter»
  refine wpAny_bind (m := someArgs "iter" 1 2 _) (wpAny_of_eq (a := [Value.ref t]) (by first | rfl | kernel_rfl!) ?_)
  show wpAny _ _ (pyIter (.ref t) >>= _) _ _ s
  exact wpAny_bind (wpAny_pyIter_tuple ht (wpAny_pure ⟨_, rfl, h⟩))
section
variable {P : Program} {w : World} {K : PySem.W.Frag} {mg : Str → Option Value} {base : Heap} {k : Nat} {g C : Addr} {fd : FuncData} {x qual f : Str} {params : Arguments} {body : List Stmt} {scope : Scope} {N : List Str}
theorem iter_fn {p1 p2 p3 p4 p5 : Pos} (F : FunD K x qual params body scope [] [] g fd) (S : FnScope N ["self"] scope) (hN : N[0]? = some ("self" : Str)) (hb : body = [.Return (some (.Call (.Name "iter" p1) [.Attribute (.Name "self" p2) f p3] [] p4)) p5])
    (hgl : scope.names.lookup ("iter" : Str) = some .globalImplicit) (hm : mg ("iter" : Str) = none) (c : Cls K C) (na : NoAttr K C f)
    (h : ∀ (kV doc pm : Value) (an : Option Addr) (cdv ct : Value) (u : Value), bindArgs (PySem.W.fnOf x qual params body scope .none kV doc pm an cdv ct) ⟨[u], []⟩ = pure [(("self" : Str), u)]) : IterG P w K mg base (k + 1) g C f := by
  obtain ⟨oc, od, dV, kV, doc, pm, an, cdv, ct, osl, rfl, lk, hcd, hD, hK⟩ := F.ex
  intro A outer st H a dx t vs xs hr e0 ea hl sq
  have dV0 : dV = .none := by
    rcases hD with ⟨_, e⟩ | ⟨e, _⟩
    · exact e
    · exact absurd rfl e
  subst dV0
  have inK : K.In st.heap := e0.mod.kin.keeps fun b o e => (e0.bs b o e).1
  have noL : st.heap.NoLimit := e0.mod.nolimit.keeps fun b o e => (e0.bs b o e).1
  have kinds : ∀ y ∈ (["self"] : List Str).zip [Value.ref a], scope.names.lookup y.1 = some .local ∨ (scope.names.lookup y.1 = some .cell ∧ ((cellsFrom (st.heap.objs.size + 1) scope.names []).lookup y.1).isSome = true) := by
    rintro ⟨z, u⟩ hz
    rcases S.par z (List.of_mem_zip hz).1 with q | q
    · exact .inl q
    · exact .inr ⟨q, PySem.W.cellsFrom_some _ _ _ (.inl q)⟩
  refine codeAny_call_function hr.room.depth (inK _ _ lk) rfl S.co S.gen rfl (PySem.W.codeRec_of inK hcd) ?_
  rw [h kV doc pm an cdv ct (.ref a)]
  refine wpAny_pure (wpAny_newFunctionEnv_cells (S.kind) kinds fun env he st1 xx => ?_)
  subst he
  refine ⟨noL.keeps xx.toInCall.keep, codeAny_func ?_⟩
  have I := inv_start (CX := L2.CX P w) (E := fun _ _ _ => False) (vs := [V.ref a]) S hr.room.hd e0 rfl (.cons rfl .nil) xx
  subst hb
  have vis : Vis scope ("self" : Str) := (S.par "self" (List.Mem.head _)).elim (fun z => .inl z) (fun z => .inr (.inl z))
  refine wpAny_execs_cons (wpAny_Return_some (wpAny_Call_Name_kw (ld_blt I (u := .builtin "iter") hgl hm (by decide +kernel) ?_ (by decide) (by decide))))
  refine PyProof.Rows.callWith_builtin1 ?_ rfl rfl
  show wpAny _ _ (spliced (backTo _ (starEach [.Attribute (.Name "self" p2) f p3] (cxOf (L2.CX P w) P w K mg base N qual scope g cdv A outer st H fun _ _ _ => False).env))) _ _ _
  have pf : PA (cxOf (L2.CX P w) P w K mg base N qual scope g cdv A outer st H fun _ _ _ => False) [.Attribute (.Name "self" p2) f p3] _ := pa_cons (pe_fld (pe_var (i := 0) hN vis) rfl) pa_nil
  refine wpAny_mono (pf.run p4 [] st1 (L2.start N [V.ref a]) H (fun vs H' => vs = [V.ref t] ∧ H' = H) I ?_) (fun us s2 ⟨ys, H2, I2, r, e1, e2⟩ => ?_) fun e s' z => ?_
  · exact ⟨.ref a, by unfold L2.start; rfl, a, C, dx, vs, .ref t, rfl, ea, c, na, hl, rfl, rfl⟩
  · subst e1 e2
    cases r with
    | cons r1 r2 =>
      cases r2
      obtain rfl : _ = Value.ref t := r1
      obtain ⟨its, rv, p, hz⟩ := I2.tuple sq
      refine call_iter_tup (items := its.toArray) p ?_
      have J := I2.kept (h' := s2.heap.push { cls := .type "tuple_iterator", data := .fields #[.ref t, .int 0 0] }) (t' := s2.toks) fun b o e => Heap.get?_push_of_some _ e
      exact ⟨s2.heap.objs.size, rfl, ⟨V.ref s2.heap.objs.size, H2, J.os, J.bare, J.base, J.hok, rfl, rfl⟩, ⟨_, Heap.get?_push_size _ rfl, rfl, rfl⟩, I2.sz⟩
  · exact wpAny_mono z (fun _ s'' zz => by
      obtain ⟨_, _, _, _, _, _, _, _, _, _, _, _, zz⟩ := zz
      exact zz.elim) fun e' s'' zz => by
      obtain ⟨_, _, _, _, _, _, _, _, _, _, _, _, zz⟩ := zz
      exact zz.elim
end
/-- class, the attribute that its __iter__ walks -/
abbrev Itb := List (Str × Str)
def ITab (P : Program) (w : World) (K : PySem.W.Frag) (mg : Str → Option Value) (base : Heap) (k : Nat) (tb : Itb) : Prop :=
  ∀ c f, tb.lookup c = some f → ∃ C g, mg c = some (.ref C) ∧ Meth K C "__iter__" g ∧ IterG P w K mg base k g C f
section
variable {P : Program} {w : World} {K : PySem.W.Frag} {mg : Str → Option Value} {base : Heap} {j k : Nat} {tb : Itb} {f c : Str}
theorem itab_nil : ITab P w K mg base k [] := fun _ _ h => by cases h
theorem itab_cons {C g : Addr} (h1 : mg c = some (.ref C)) (h3 : Meth K C "__iter__" g) (h4 : IterG P w K mg base j g C f) (hj : j ≤ k) (t : ITab P w K mg base k tb) : ITab P w K mg base k ((c, f) :: tb) := fun d h' h => by
  rw [List.lookup_cons] at h
  split at h
  · rename_i q
    cases h
    obtain rfl : d = c := eq_of_beq q
    exact ⟨C, g, h1, h3, fun A outer st H a dx t vs xs hr => h4 A outer st H a dx t vs xs (hr.mono hj)⟩
  · exact t d h' h
end
/-- the items of the tuple that an instance walks -/
def itsO (tb : Itb) (s : Sto) (d : D) : Option (Option (List D)) := match d with
  | .ref n => match s[n]? with
    | some (.ins c fs) => some (match tb.lookup c with
      | some f => match fs.lookup f with | some (.tup xs) => some xs | _ => none
      | none => none)
    | _ => none
  | _ => none
def walkD (s : Sto) (d : D) : Rs (Nat × Stp) := match d with
  | .tup ds => .ok (ds.length, jTup ds) s
  | .ref n => match s[n]? with
    | some (.lst xs) => .ok (xs.length, jLst n) s
    | some (.frz xs) => .ok (xs.length, jLst n) s
    | _ => .no
  | _ => .no
def iOwn (tb : Itb) (m : EM D) : EM (Nat × Stp) := fun e s => (m e s).bind fun d s1 => match itsO tb s1 d with
  | some (some xs) => .ok (xs.length, jTup xs) s1
  | some none => .no
  | none => walkD s1 d
section
variable {X : Cx} {W : WX} {k : Nat} {tb : Itb} {tg e : Expr} {m : EM D}
theorem itsO_some {s : Sto} {d : D} {xs : List D} (h : itsO tb s d = some (some xs)) : ∃ n c fs f, d = .ref n ∧ s[n]? = some (.ins c fs) ∧ tb.lookup c = some f ∧ fs.lookup f = some (.tup xs) := by
  unfold itsO at h
  split at h
  · rename_i n
    split at h
    · rename_i c fs hs
      split at h
      · rename_i f hf
        split at h
        · rename_i ys hy
          cases h
          exact ⟨n, c, fs, f, rfl, hs, hf, hy⟩
        · cases h
      · cases h
    · cases h
  · cases h
/-- the walk's start, by values -/
theorem walk_start {pins : List (Addr × Obj)} {s : Shared} {σ : L2.St} {H : Hp} {ρ : Nat → Addr} {st : Sto} {d : D} {v : V} {u : Value} {R : It → Hp → Prop} {W' : WX} (I : Inv X pins σ H s) (sr : SR X.K X.mg ρ st H) (vr : VR X.K ρ st.length H d v) (ru : RelV v u)
    (po : Po X.K X.mg (RI X.K X.mg) W' σ ρ st.length H (walkD st d) R) : wpAny (model X.prog X.w) X.A (pyIter u) (PIE X pins σ tg R) X.xe s := by
  have lst : ∀ a, (∃ xs, SqL X.K H a xs) → R (Itl X.K a) H → wpAny (model X.prog X.w) X.A (pyIter (.ref a)) (PIE X pins σ tg R) X.xe s := fun a ⟨xs, hq⟩ q => by
    obtain ⟨its, rv, p, hz⟩ := I.list hq
    refine wpAny_pyIter_list p.isList ?_
    refine ⟨s.heap.objs.size, [s.heap.objs.size], _, _, H, rfl, I.kept (t' := s.toks) fun b o e => Heap.get?_push_of_some _ e, turn_list a _, ⟨_, Heap.get?_push_size _ rfl, rfl, rfl⟩, fun b hb => ?_, q⟩
    have e : b = s.heap.objs.size := by simpa using hb
    subst e
    exact I.fpOk (Nat.le_refl _) (I.hok.fresh (Nat.le_refl _))
  cases d with
  | tup ds =>
    rw [VR] at vr
    obtain ⟨a, vs, rfl, sq, r⟩ := vr
    obtain rfl : u = Value.ref a := ru
    obtain ⟨its, rv, p, hz⟩ := I.tuple sq
    refine wpAny_pyIter_tuple (show s.heap.IsTuple a its.toArray from p) ?_
    refine ⟨s.heap.objs.size, [s.heap.objs.size], _, _, H, rfl, I.kept (t' := s.toks) fun b o e => Heap.get?_push_of_some _ e, turn_tuple a _, ⟨_, Heap.get?_push_size _ rfl, rfl, rfl⟩, fun b hb => ?_, po ρ H _ Ext.refl sr (ri_tup sq r)⟩
    have e : b = s.heap.objs.size := by simpa using hb
    subst e
    exact I.fpOk (Nat.le_refl _) (I.hok.fresh (Nat.le_refl _))
  | ref n =>
    rw [VR] at vr
    obtain ⟨hn, rfl⟩ := vr
    obtain rfl : u = Value.ref (ρ n) := ru
    unfold walkD at po
    dsimp only at po
    cases e : st[n]? with
    | none => rw [e] at po; exact po.elim
    | some o =>
      rw [e] at po
      cases o with
      | lst xs =>
        obtain ⟨vs, sq, _⟩ := sr.lst (n := n) (xs := xs) (by unfold lstAt; rw [e])
        exact lst _ ⟨vs, sq⟩ (po ρ H _ Ext.refl sr (ri_lst hn))
      | frz xs =>
        obtain ⟨vs, sq, _⟩ := sr.lst (n := n) (xs := xs) (by unfold lstAt; rw [e])
        exact lst _ ⟨vs, sq⟩ (po ρ H _ Ext.refl sr (ri_lst hn))
      | _ => exact po.elim
  | _ => exact po.elim
theorem ji_own (T : ITab X.prog X.w X.K X.mg X.base k tb) (hr : Rm k X.A) (he : JE X W e m) : JI X W tg e (iOwn tb m) := by
  refine ⟨fun pins s σ H R I ⟨ρ, env, st, sr, er, po⟩ => ?_⟩
  refine thn (he.run pins s σ H _ I ⟨ρ, env, st, sr, er, Po.bind po⟩) fun u s1 ⟨v, H1, I1, r1, ρ1, st1, d1, e1, sr1, vr1, po1⟩ => ?_
  dsimp only at po1
  split at po1
  · rename_i xs hx
    obtain ⟨n, c, fs, f, rfl, hs, hf, hl⟩ := itsO_some hx
    rw [VR] at vr1
    obtain ⟨hn, rfl⟩ := vr1
    obtain rfl : u = Value.ref (ρ1 n) := r1
    obtain ⟨C, dx, vs, g1, g2, g3⟩ := sr1.ob n _ hs
    obtain ⟨C', g, k1, k2, k3⟩ := T c f hf
    rw [g1] at k1
    cases k1
    obtain ⟨t, ht, vt⟩ := g3.lookup hl
    rw [VR] at vt
    obtain ⟨a, zs, rfl, sq, rr⟩ := vt
    obtain ⟨ox, od, J, _⟩ := inst_look I1 g2
    obtain ⟨m0, hFr⟩ := I1.fr
    refine PySem.W.owit_iter hFr I1.ok.mod.kin J k2.at_ k2.fn (wpAny_call (codeAny_mono (k3 X.A X.stack s1 H1 (ρ1 n) dx a vs zs hr I1.env0 g2 ht sq) fun r s2 ⟨it, e2, ce, hit, hsz⟩ => ?_))
    subst e2
    obtain ⟨v2, H2, I2, rv, eH⟩ := I1.after ce
    subst eH
    show PySem.W.OwitIt _ _ _ _ _ _
    unfold PySem.W.OwitIt
    refine wpAny_specialOf hit.typeIs PySem.F.slot_tuple_iterator_next.lookup ?_
    refine ⟨it, [it], _, _, H2, rfl, I2, turn_tuple a it, hit, fun b hb => ?_, po1 ρ1 H2 _ Ext.refl sr1 (ri_tup sq rr)⟩
    have e : b = it := by simpa using hb
    subst e
    exact I1.fpOk hsz (I1.hok.fresh hsz)
  · exact po1.elim
  · exact walk_start I1 sr1 vr1 r1 po1
end
end Z

set_option Elab.async false
set_option linter.all false
set_option maxRecDepth 100000
set_option maxHeartbeats 4000000
namespace Z
open PySem PySem.Spec PyProof.Rows L2
variable [Row]
section
variable {X : Cx} {W : WX} {k : Nat} {tb : Tb} {itb : Itb} {x c m : Str}
/-- a def that raises nothing, called at A -/
theorem own_callN {A : Around} {F : MF} {g : Addr} {pins : List (Addr × Obj)} {σ : L2.St} {H : Hp} {s : Shared} {Q : VK} {us : List Value} {vs : List V} {ρ : Nat → Addr} {st : Sto} {ds : List D} {Ex : Value → Shared → Prop} (hF : FS X.prog X.w X.K X.mg X.base k g F) (hr : Rm k A) (e0 : Env0 X.prog X.w X.K X.mg X.base A X.stack s H)
    (I : Inv X pins σ H s) (r : Vals vs us) (sr : SR X.K X.mg ρ st H) (vr : VRs X.K ρ st.length H ds vs) (po : Po X.K X.mg (VR X.K) WF σ ρ st.length H (F ds st) Q) : wpAny (model X.prog X.w) A (call (.ref g) us) (EP X pins σ Q) Ex s := by
  refine wpAny_call (codeAny_mono (hF A X.stack s H us [] vs [] Q (fun _ _ _ => False) hr e0 r .nil (fun _ h => nomatch h) rfl ⟨ρ, st, ds, sr, by rw [List.append_nil]; exact vr, po.congr fun _ _ _ z => z⟩) fun r s' hq => ?_)
  cases r with
  | error e =>
    obtain ⟨_, _, _, _, _, _, _, _, _, _, _, _, zz⟩ := hq
    exact zz.elim
  | ok fl =>
    cases fl with
    | ret u => exact I.after hq
    | next => exact False.elim hq
    | brk => exact False.elim hq
    | cont => exact False.elim hq
/-- the loop that fills the list at q from a walk over the tuple at t -/
theorem fill_loop {A1 : Around} {pins : List (Addr × Obj)} {σ : L2.St} {H : Hp} {q t it : Addr} {xs : List V} {Rs : Result → Shared → Prop} (hh : A1.handled = none) (sq : ∀ ys, SqT X.K (upd H q (.lst ys)) t xs) (hz : xs.length ≤ sizeLine) (hne : it ≠ q)
    (fp : ∀ H', H' it = none → FpOk X pins H' it) (hdone : ∀ s, Inv X pins σ (upd H q (.lst xs)) s → Rs (.ok (.ret .none)) s) : ∀ (n i : Nat) (s : Shared), i + n = xs.length → Inv X pins σ (upd H q (.lst (xs.take i))) s → upd H q (.lst (xs.take i)) it = none → s.heap.IsTupleIter it t i →
      codeAny (model X.prog X.w) A1 (.builtin "list.extend.loop" ⟨[.ref q, .ref it, .none], []⟩) Rs s := by
  intro n
  induction n with
  | zero =>
    intro i s hi I hn hit
    refine codeAny_builtin PySem.F.entry_extend_loop ?_
    rw [Around.under_plainId PySem.F.plain_extend_loop _]
    show wpAny _ A1.in1 (pyNext (.ref it) >>= _) _ _ s
    obtain ⟨its, rv, p, hzz⟩ := I.tuple (sq _)
    have hl := rv.length
    refine wpAny_bind (wpAny_pyNext_tuple_end (by exact hh) hit (show s.heap.IsTuple t its.toArray from p) (by rw [List.getElem?_toArray]; exact List.getElem?_eq_none (by omega)) fun h' sb => wpAny_pure ?_)
    obtain ⟨f0, f1, f2, f3, f4, f5⟩ := fp _ hn
    have I1 : Inv X pins σ (upd H q (.lst (xs.take i))) { s with heap := h' } := I.turned (t' := s.toks) (fun b o hb e => sb b o hb e) f0 f1 f3 f4 f5
    have e : xs.take i = xs := List.take_of_length_le (by omega)
    rw [e] at I1
    exact hdone _ I1
  | succ n ih =>
    intro i s hi I hn hit
    refine codeAny_builtin PySem.F.entry_extend_loop ?_
    rw [Around.under_plainId PySem.F.plain_extend_loop _]
    show wpAny _ A1.in1 (pyNext (.ref it) >>= _) _ _ s
    obtain ⟨its, rv, p, hzz⟩ := I.tuple (sq _)
    have hl := rv.length
    have hx : xs[i]? = some xs[i] := List.getElem?_eq_getElem (by omega)
    obtain ⟨u, hu, ru⟩ := rv.get hx
    obtain ⟨f0, f1, f2, f3, f4, f5⟩ := fp _ hn
    refine wpAny_bind (wpAny_pyNext_tuple_item hit (show s.heap.IsTuple t its.toArray from p) (x := u) (by rw [List.getElem?_toArray]; exact hu) fun h' hit' sb => ?_)
    have I1 : Inv X pins σ (upd H q (.lst (xs.take i))) { s with heap := h' } := I.turned (t' := s.toks) (fun b o hb e => (sb.2 b hb).trans e) f0 f1 f3 f4 f5
    obtain ⟨z1, jts, kk, r2, hl2, e2⟩ := I1.lstM upd_same
    show wpAny _ A1.in1 (updateSeq q (·.push u) >>= _) _ _ _
    have hlen : jts.length = i := by rw [← hl2, List.length_take]; omega
    refine wpAny_bind (wpAny_updateSeq e2 rfl (wpAny_pure ⟨plainId_quiet PySem.F.plain_extend_loop _, ?_⟩) (by rw [List.size_toArray]; omega) (by show (jts.toArray.push u).size ≤ sizeLine + 1; rw [Array.size_push, List.size_toArray]; omega))
    have tk : xs.take i ++ [xs[i]] = xs.take (i + 1) := by
      rw [List.take_add_one, hx]
      rfl
    have I2 := I1.lset (its' := jts ++ [u]) (ys := xs.take i ++ [xs[i]]) (f := (·.push u)) (t' := s.toks) upd_same e2 (by simp) (r2.append (.cons ru .nil)) (by rw [List.length_append, List.length_singleton, List.length_take]; omega)
    rw [upd_upd, tk] at I2
    refine ih (i + 1) _ (by omega) I2 ?_ ?_
    · rw [upd_ne hne] at hn ⊢
      exact hn
    · obtain ⟨o, h1, h2, h3⟩ := hit'
      exact ⟨o, (Heap.get?_update_other _ _ (Ne.symm hne)).trans h1, h2, h3⟩
/-- list(o) -/
def fListO (tb : Tb) (itb : Itb) (B : MF) : MF := fun ds s => match ds with
  | [d] => match itsO itb s d with
    | some (some xs) => match insC s d with
      | some c => match tb.lookup c with
        | some F => (F [d] (s ++ [.lst []])).nox.bind fun k s2 => match k, s2[s.length]? with
          | .int i, some (.lst []) => if 0 ≤ i ∧ i ≤ sizeLine ∧ xs.length ≤ sizeLine then .ok (.ref s.length) (s2.set s.length (.lst xs)) else .no
          | _, _ => .no
        | none => .no
      | none => .no
    | some none => .no
    | none => B ds s
  | _ => B ds s
theorem Po.noxW {α β : Type} {K : PySem.W.Frag} {mg : Str → Option Value} {R : Rl α β} {W W' : WX} {σ σ' : L2.St} {ρ : Nat → Addr} {n : Nat} {H : Hp} {r : Rs α} {Q : β → Hp → Prop} (h : Po K mg R W σ ρ n H r.nox Q) : Po K mg R WF σ ρ n H r Q := by
  cases r with
  | ok d s => exact h
  | ex c f d s => exact (h : False).elim
  | no => exact h
theorem calld_listO {B : MF} (T : MTab X.prog X.w X.K X.mg X.base k tb "__len__") (T2 : ITab X.prog X.w X.K X.mg X.base k itb) (hr : Rm (k + 4) X.A) (hB : CallD X W (.type "list") B) : CallD X W (.type "list") (fListO tb itb B) := by
  intro pins s σ H ρ st ds vs us Q I sr vr r po
  unfold fListO at po
  split at po
  · rename_i d
    split at po
    · rename_i xs hx
      split at po
      · rename_i c hc
        split at po
        · rename_i F hF
          obtain ⟨n, c', fs, f, rfl, hs, hf, hl⟩ := itsO_some hx
          have ec : c' = c := by
            unfold insC at hc
            dsimp only at hc
            rw [hs] at hc
            exact Option.some.inj hc
          subst ec
          obtain ⟨v, rfl, vr'⟩ := vr.one
          have vr0 := vr'
          rw [VR] at vr'
          obtain ⟨hn, rfl⟩ := vr'
          cases r with
          | cons r1 r2 =>
            cases r2
            obtain rfl : _ = Value.ref (ρ n) := r1
            obtain ⟨C, dx, vs', g, g2, g3, h2, h3, h4⟩ := meth_of T sr hs hF
            obtain ⟨C', gi, k1, k2, k3⟩ := T2 c' f hf
            have eC : C' = C := by
              obtain ⟨C2, dx2, vs2, q1, q2, _⟩ := sr.ob n _ hs
              rw [q2] at g2
              cases g2
              rw [q1] at k1
              cases k1
              rfl
            subst eC
            obtain ⟨t, ht, vt⟩ := g3.lookup hl
            rw [VR] at vt
            obtain ⟨ta, zs, rfl, sq, rr⟩ := vt
            have hd : X.A.handled = none := hr.room.hd
            refine callType_codes (Q₁ := fun obj s₁ => obj = .ref s.heap.objs.size ∧ s₁ = { s with heap := s.heap.push { cls := .type "list", data := .seq #[] } }) PySem.F.called_list (PySem.F.typeCall_list_1 _) PySem.F.entry_list_init
              (code_list_new _ ⟨rfl, rfl⟩) fun obj s₁ h₁ => ?_
            obtain ⟨rfl, rfl⟩ := h₁
            have hS : (s.heap.push { cls := .type "list", data := .seq #[] }).get? s.heap.objs.size = some { cls := .type "list", data := .seq #[] } := Heap.get?_push_size _ rfl
            refine ⟨⟨_, hS, rfl⟩, PySem.F.args_list_init_2 _ _, ?_⟩
            have fr : H s.heap.objs.size = none := I.hok.fresh (Nat.le_refl _)
            have I1 : Inv X pins σ (upd H s.heap.objs.size (.lst [])) { s with heap := s.heap.push { cls := .type "list", data := .seq #[] } } := I.lnew (its := []) (t' := s.toks) .nil (Nat.zero_le _)
            show wpAny _ _ (do let old ← Builtin.List.listItems (.ref s.heap.objs.size); Builtin.List.listUpdate (.ref s.heap.objs.size) (fun _ => #[]); letGo old.toList.reverse; Builtin.List.listExtendWith (.ref s.heap.objs.size) (.ref (ρ n)) .none) _ _ _
            refine wpAny_bind ?_
            unfold Builtin.List.listItems
            refine wpAny_bind (wpAny_seqItems hS rfl (wpAny_pure ?_))
            show wpAny _ _ (updateSeq s.heap.objs.size (fun _ => #[]) >>= fun _ => letGo (#[] : Array Value).toList.reverse >>= fun _ => Builtin.List.listExtendWith (.ref s.heap.objs.size) (.ref (ρ n)) .none) _ _ _
            refine wpAny_bind (wpAny_updateSeq hS rfl ?_)
            have I2 := I1.lset (f := fun _ => #[]) (its := []) (its' := []) (ys := []) (t' := s.toks) upd_same hS rfl .nil (Nat.zero_le _)
            rw [upd_upd] at I2
            refine wpAny_bind (wpAny_letGo ?_)
            -- the store with the new list
            obtain ⟨ext, sr1, vq⟩ := new_lst (ds := []) (vs := []) sr fr VRs.nil
            have po1 := Po.rebase po ext
            have hs1 : (st ++ [SO.lst []])[n]? = some (.ins c' fs) := by rw [List.getElem?_append_left hn]; exact hs
            have ag : ρup ρ st.length s.heap.objs.size n = ρ n := ρup_ne (Nat.ne_of_lt hn)
            obtain ⟨C3, dx3, vs3, q1, q2, q3⟩ := sr1.ob n _ hs1
            rw [ag] at q2
            have e3 : C3 = C' ∧ dx3 = dx ∧ vs3 = vs' := by
              have z : upd H s.heap.objs.size (.lst []) (ρ n) = some (.ins C' dx vs') := by rw [upd_ne (ne_of_none g2 fr)]; exact g2
              rw [q2] at z
              cases z
              exact ⟨rfl, rfl, rfl⟩
            obtain ⟨rfl, rfl, rfl⟩ := e3
            have sq1 : SqT X.K (upd H s.heap.objs.size (.lst [])) ta zs := ext.sqt sq
            have rr1 := rr.mono ext
            have vr1 := vr0.mono ext
            obtain ⟨ox, od, J, _⟩ := inst_look I2 q2
            obtain ⟨m0, hFr⟩ := I2.fr
            unfold Builtin.List.listExtendWith
            refine wpAny_bind (J.type.here ?_)
            have hq : s.heap.objs.size ≠ ρ n := fun z => by
              rw [← z, fr] at g2
              cases g2
            have b1 : Builtin.List.listSameRef (.ref s.heap.objs.size) (.ref (ρ n)) = false := by simp [Builtin.List.listSameRef, hq]
            have b2 : (Value.ref C3 == Value.type "list") = false := rfl
            have b3 : (Value.ref C3 == Value.type "tuple") = false := rfl
            simp only [b1, b2, b3, Bool.or_false, Bool.false_eq_true, if_false]
            have r3 : Rm (k + 2) X.A.in1.in1 := (Rm.in1 (Rm.in1 hr))
            refine wpAny_bind (PySem.W.owit_iter hFr I2.ok.mod.kin J k2.at_ k2.fn (wpAny_call (codeAny_mono (k3 X.A.in1.in1 X.stack _ _ (ρ n) dx3 ta vs3 zs (r3.mono (by omega)) I2.env0.in1.in1 q2 ht sq1) fun r s2 ⟨it, e2, ce, hit, hsz⟩ => ?_)))
            subst e2
            obtain ⟨v2, H2, I3, rv, eH⟩ := I2.after ce
            subst eH
            show PySem.W.OwitIt _ _ _ _ _ _
            unfold PySem.W.OwitIt
            refine wpAny_specialOf hit.typeIs PySem.F.slot_tuple_iterator_next.lookup ?_
            refine wpAny_bind (wpAny_holding ?_)
            -- its length
            obtain ⟨ox3, od3, J3, _⟩ := inst_look I3 q2
            obtain ⟨m3, hFr3⟩ := I3.fr
            unfold Builtin.List.listLengthHint
            refine wpAny_bind (wpAny_bind (J3.type.here ((PySem.W.looks_findIn (I3.kIn) h3.at_).here ?_)))
            dsimp only
            refine PySem.W.KFB.if_not rfl ?_
            refine PySem.W.KFB.if_so rfl ?_
            refine wpAny_bind (wpAny_rule (wpAny_bind (wpAny_attempt ?_)))
            have vrs1 : VRs X.K (ρup ρ st.length s.heap.objs.size) (st ++ [SO.lst []]).length (upd H s.heap.objs.size (.lst [])) [.ref n] [V.ref (ρ n)] := VRs.cons vr1 VRs.nil
            have hsz0 : it ≠ s.heap.objs.size := fun z => by
              have h9 : (s.heap.push { cls := .type "list", data := .seq #[] }).objs.size = s.heap.objs.size + 1 := Heap.size_push ..
              have h8 : ((s.heap.push { cls := .type "list", data := .seq #[] }).update s.heap.objs.size (Obj.mapSeq fun _ => #[])).objs.size ≤ it := hsz
              have h7 : ((s.heap.push { cls := .type "list", data := .seq #[] }).update s.heap.objs.size (Obj.mapSeq fun _ => #[])).objs.size = (s.heap.push { cls := .type "list", data := .seq #[] }).objs.size := by simp [Heap.update]
              rw [h7, h9, z] at h8
              omega
            have fpi := I2.fpOk (H' := upd H s.heap.objs.size (.lst [])) hsz (I2.hok.fresh hsz)
            obtain ⟨oi, hoi, hci, hdi⟩ := id hit
            have I3p := I3.pinned (fp := [it]) (fun b hb => by rw [List.mem_singleton.mp hb]; exact fpi) fun b hb => by
              rw [List.mem_singleton.mp hb]
              exact ⟨oi, hoi, fun v z => by rw [hdi] at z; cases z⟩
            refine PySem.W.len_K hFr3 I3.ok.mod.kin J3 h3.at_ h3.fn (thn (own_callN (us := [.ref (ρ n)]) (vs := [.ref (ρ n)]) h4 ((Rm.in1 r3).mono (by omega)) I3p.env0.in1.in1.in1 I3p (.cons rfl .nil) sr1 vrs1 (Po.bindx po1)) fun u s3 ⟨v, H4, I4p, r4, ρ4, st4, d4, e4, sr4, vr4, po4⟩ => ?_)
            dsimp only at po4
            split at po4
            · rename_i i hlst
              obtain rfl : v = .int i := vr4
              obtain ⟨tt, rfl⟩ := r4
              obtain ⟨⟨hi0, hi1, hzl⟩, po5⟩ := Po.ite po4
              have hline := line63
              refine ⟨⟨hi0, by omega⟩, ?_⟩
              refine wpAny_bind (wpAny_pure ?_)
              dsimp only
              have nl : Builtin.List.listTooLong i.toNat = false := notLongL (by omega)
              rw [if_neg (by rw [nl]; exact Bool.false_ne_true)]
              refine wpAny_pure ?_
              have I4 := I4p.unpinned
              have pin4 : s3.heap.get? it = some oi ∧ H4 it = none := by
                have hmem : (it, oi) ∈ pinsAt [it] s2.heap := by
                  unfold pinsAt
                  simp [hoi]
                have := I4p.pin (it, oi) (List.mem_append_right _ (List.mem_append_right _ hmem))
                exact ⟨this.1, this.2.1⟩
              have hit4 : s3.heap.IsTupleIter it ta 0 := ⟨oi, pin4.1, hci, hdi⟩
              have lt4 : st.length < st4.length := (List.getElem?_eq_some_iff.mp hlst).1
              have e5 : ρ4 st.length = s.heap.objs.size := by
                rw [e4.ag st.length (by rw [List.length_append]; exact Nat.lt_succ_self _), ρup_same]
              obtain ⟨ws, hw, rw4⟩ := sr4.ob st.length _ hlst
              rw [e5] at hw
              have hw0 : ws = [] := by
                rw [VRs] at rw4
                exact rw4
              subst hw0
              have sq4 : SqT X.K H4 ta zs := e4.sqt sq1
              have upds : ∀ ys, SqT X.K (upd H4 s.heap.objs.size (.lst ys)) ta zs := fun ys => by
                refine sq4.elim (fun z => ?_) .inr
                refine .inl ?_
                rcases z with z | ⟨ob, z⟩
                · refine .inl ?_
                  rw [upd_ne]
                  · exact z
                  · intro qq
                    rw [qq, hw] at z
                    cases z
                · refine .inr ⟨ob, ?_⟩
                  rw [upd_ne]
                  · exact z
                  · intro qq
                    rw [qq, hw] at z
                    cases z
              have hup : ∀ {Hx : Hp}, Hx s.heap.objs.size = some (.lst []) → upd Hx s.heap.objs.size (.lst (zs.take 0)) = Hx := fun {Hx} e => by
                funext b
                by_cases hb : b = s.heap.objs.size
                · rw [hb, upd_same, e] <;> rfl
                · rw [upd_ne hb]
              have zl : zs.length ≤ sizeLine := by rw [rr.length]; exact hzl
              have fin : ∀ s', Inv X pins σ (upd H4 s.heap.objs.size (.lst zs)) s' → EP X pins σ Q (.ref s.heap.objs.size) s' := fun s' I' => by
                have rr4 : VRs X.K ρ4 st4.length H4 xs zs := rr1.mono e4
                have ext5 : Ext ρ4 st4.length H4 ρ4 st4.length (upd H4 (ρ4 st.length) (.lst zs)) := Ext.write (sr4.ob _ _ hlst) rfl
                have w := sr4.write (u := .lst zs) hlst (o' := .lst xs) rfl rfl ⟨zs, upd_same, rr4.mono ext5⟩
                rw [e5] at w ext5
                have ext6 : Ext ρ4 st4.length H4 ρ4 (st4.set st.length (.lst xs)).length (upd H4 s.heap.objs.size (.lst zs)) := by rw [List.length_set]; exact ext5
                refine ⟨.ref s.heap.objs.size, _, I', rfl, po5 ρ4 _ _ ext6 w ?_⟩
                rw [VR, List.length_set]
                exact ⟨lt4, by rw [e5]⟩
              have goal : ∀ s', Inv X pins σ H4 s' → s'.heap.IsTupleIter it ta 0 → codeAny (model X.prog X.w) X.A.in1 (.builtin "list.extend.loop" ⟨[.ref s.heap.objs.size, .ref it, .none], []⟩) (wants (fun r s₂ => r = .none ∧ EP X pins σ Q (.ref s.heap.objs.size) s₂) X.xe) s' := fun s' I' hit' =>
                fill_loop (X := X) (A1 := X.A.in1) (Rs := wants (fun r s₂ => r = .none ∧ EP X pins σ Q (.ref s.heap.objs.size) s₂) X.xe) (H := H4) (q := s.heap.objs.size) (t := ta) (it := it) (xs := zs) hd upds zl hsz0 (fun H' hn => ⟨hn, fpi.2⟩) (fun s'' I'' => ⟨rfl, fin s'' I''⟩) zs.length 0 s' (by omega) (by rw [hup hw]; exact I') (by rw [hup hw]; exact pin4.2) hit'
              have I5 := I4.tok (s3.toks + 1)
              refine wpAny_ite_split (fun _ => ?_) (fun _ => wpAny_pure ⟨plainId_quiet PySem.F.plain_extend_loop _, goal _ I5 hit4⟩)
              refine wpAny_bind (wpAny_rule ?_)
              refine wpAny_bind ?_
              obtain ⟨z0, jts, kk, r2, hl2, e2⟩ := I5.lstM hw
              cases r2
              show wpAny _ _ (updateSeq s.heap.objs.size (·.push .none) >>= fun _ => updateSeq s.heap.objs.size (·.pop)) _ _ _
              refine wpAny_bind (wpAny_updateSeq e2 rfl ?_)
              have I6 := I5.lset (f := (·.push Value.none)) (its' := [Value.none]) (ys := [.non]) (t' := s3.toks + 1) hw e2 (by simp) (.cons rfl .nil) (by rw [List.length_singleton, sizeLine_eq]; decide)
              obtain ⟨z7, its7, k7, r7, hl7, e7⟩ := I6.lstM upd_same
              obtain ⟨u7, rfl, ru7⟩ := r7.one
              refine wpAny_updateSeq e7 rfl ?_ (by show 1 ≤ sizeLine; rw [sizeLine_eq]; decide) (by show 0 ≤ sizeLine + 1; exact Nat.zero_le _)
              have I7 := I6.lset (f := (·.pop)) (its := [u7]) (its' := []) (ys := []) (t' := s3.toks + 1) upd_same e7 (by rfl) .nil (Nat.zero_le _)
              rw [upd_upd] at I7
              have hH : upd H4 s.heap.objs.size (.lst []) = H4 := hup hw
              rw [hH] at I7
              refine wpAny_pure ⟨plainId_quiet PySem.F.plain_extend_loop _, goal _ I7 ?_⟩
              exact ⟨oi, (Heap.get?_update_other _ _ (Ne.symm hsz0)).trans ((Heap.get?_update_other _ _ (Ne.symm hsz0)).trans pin4.1), hci, hdi⟩
            · exact po4.elim
        · exact po.elim
      · exact po.elim
    · exact po.elim
    · exact hB pins s σ H ρ st _ vs us Q I sr vr r po
  · exact hB pins s σ H ρ st _ vs us Q I sr vr r po
end
end Z

set_option Elab.async false
set_option linter.all false
set_option maxRecDepth 100000
set_option maxHeartbeats 4000000
namespace Z
open PySem PySem.Spec PyProof.Rows L2
variable [Row]
/-! ### + - | of an own instance -/
/-- the class fills no number slot of the operator -/
def noFillB (K : PySem.W.Frag) (C : Addr) (nm : String) : Bool :=
  ((PySem.W.clsIn K C).any fun cd => decide (cd.mro = [.ref C, .type "object"])) && (decide (PySem.W.findIn K (.ref C) (PySem.dunder nm) = some none) && decide (PySem.W.findIn K (.ref C) (dunderR nm) = some none))
theorem nofill_K {M : Model} {h : Heap} {K : PySem.W.Frag} {C : Addr} {nm : String} (X : K.In h) (e : noFillB K C nm = true) (ho : typeLookup (.type "object") (PySem.dunder nm) = pure none) (ho2 : typeLookup (.type "object") (dunderR nm) = pure none) : PySem.W.Looks M h (fillsNumberSlot (.ref C) nm) false := by
  obtain ⟨e1, e2⟩ := Bool.and_eq_true_iff.mp e
  obtain ⟨e2, e3⟩ := Bool.and_eq_true_iff.mp e2
  obtain ⟨cd, hc, hm⟩ := PySem.W.any_some e1
  have hm := of_decide_eq_true hm
  have e2 := of_decide_eq_true e2
  have e3 := of_decide_eq_true e3
  intro A Q E s k q
  unfold fillsNumberSlot
  refine wpAny_bind ((PySem.W.looks_clsIn X hc).andThen (f := fun cd => pure cd.mro) .now A _ E s k ?_)
  rw [hm, List.anyM_cons]
  refine wpAny_bind ?_
  show wpAny M A (List.anyM _ [PySem.dunder nm, dunderR nm]) _ _ _
  rw [List.anyM_cons]
  refine wpAny_bind (wpAny_bind (PySem.W.looks_findIn X e2 A _ E s k ?_))
  refine wpAny_pure ?_
  rw [if_neg Bool.false_ne_true]
  rw [List.anyM_cons]
  refine wpAny_bind (wpAny_bind (PySem.W.looks_findIn X e3 A _ E s k ?_))
  refine wpAny_pure ?_
  rw [if_neg Bool.false_ne_true]
  refine wpAny_pure ?_
  rw [if_neg Bool.false_ne_true]
  rw [List.anyM_cons]
  refine wpAny_bind ?_
  show wpAny M A (typeLookup (.type "object") (PySem.dunder nm) >>= _) _ _ _
  refine wpAny_bind (wpAny_of_eq ho ?_)
  show wpAny M A (typeLookup (.type "object") (dunderR nm) >>= _) _ _ _
  refine wpAny_bind (wpAny_of_eq ho2 ?_)
  refine wpAny_pure ?_
  exact wpAny_pure q
theorem relv_ni {v : V} (h : RelV v .notImplemented) : False := by
  cases v <;> first | (cases h; done) | (obtain ⟨_, h⟩ := h; cases h) | exact nomatch h
theorem str_nosub : fillsNumberSlot (.type "str") "sub" = pure false := by
  unfold fillsNumberSlot
  simp only [typeLookup_type, builtinLookup_eq_fast]
  kernel_rfl
theorem binop_any {prog : Program} {w : World} {A : Around} {E : Value → Shared → Prop} {s : Shared} {K : PySem.W.Frag} {x C L f : Addr} {h₀ : Heap} {m : Str → Option Value} {ox : Obj} {od : Option Obj} {op : Operator} {b tb : Value} {Q : Value → Shared → Prop} (F : Fr h₀ L s.heap m) (X₀ : K.In h₀) (I : PySem.W.InstAt s.heap x ox C od) (hb : PySem.W.Looks (model prog w) s.heap (typeOf b) tb)
    (hn : (Value.ref C == tb) = true ∨ PySem.W.Looks (model prog w) s.heap (fillsNumberSlot tb op.info.2) false) (hc : PySem.W.selfFirst K C = true) (hs : PySem.W.findIn K (.ref C) (PySem.dunder op.info.2) = some (some (.ref f))) (hf : PySem.W.isFn K (.ref f) = true)
    (h : wpAny (model prog w) A (call (.ref f) [.ref x, b]) (fun v s' => v ≠ .notImplemented ∧ Q v s') E s) : wpAny (model prog w) A (binaryOp op (.ref x) b) Q E s := by
  have X := X₀.keeps F.keep
  obtain ⟨cd, hcd, hm⟩ := PySem.W.any_some hc
  obtain ⟨rest, hm⟩ : ∃ rest, cd.mro = .ref C :: rest := by
    cases q : cd.mro with
    | nil => rw [q] at hm; cases hm
    | cons a r =>
      rw [q, List.head?_cons] at hm
      cases (beq_iff_eq.mp hm)
      exact ⟨r, rfl⟩
  unfold binaryOp
  refine wpAny_holding (wpAny_bind ?_)
  unfold binaryOp1
  refine wpAny_bind (I.type.here (wpAny_bind (hb.here (wpAny_bind ((PySem.W.fills_K X hcd hm hs).here ?_)))))
  have fin : wpAny (model prog w) A (tryMethod (.ref x) (PySem.dunder op.info.2) b) (fun r s' => ∃ v, r = some v ∧ Q v s') E s := by
    unfold tryMethod
    refine wpAny_bind (PySem.W.special_fn X I hs (beq_iff_eq.mp hf) (thn h fun v s' hv => ?_))
    cases v <;> first | exact absurd rfl hv.1 | exact wpAny_pure ⟨_, rfl, hv.2⟩
  by_cases q : (Value.ref C == tb) = true
  · rw [if_pos q]
    refine wpAny_bind (wpAny_pure ?_)
    simp only [Bool.and_false, Bool.false_eq_true, if_false, Bool.false_and, if_true]
    refine wpAny_bind (wpAny_pure ?_)
    simp only [Bool.false_eq_true, if_false]
    refine wpAny_bind (thn fin fun r s' ⟨v, e, q⟩ => ?_)
    subst e
    exact wpAny_pure (wpAny_pure q)
  · rw [if_neg q]
    refine wpAny_bind ((hn.resolve_left q).here ?_)
    simp only [Bool.and_false, Bool.false_eq_true, if_false, Bool.false_and, if_true]
    refine wpAny_bind (wpAny_pure ?_)
    simp only [Bool.false_eq_true, if_false]
    refine wpAny_bind (thn fin fun r s' ⟨v, e, q⟩ => ?_)
    subst e
    exact wpAny_pure (wpAny_pure q)
section
variable {X : Cx} {W : WX} {k : Nat} {tb : Tb} {x c m : Str}
/-- the right side: an instance of one of the classes rs, or a text where st -/
def rightOk (rs : List Str) (st : Bool) (s : Sto) : D → Bool
  | .str _ => st
  | .ref n => match s[n]? with
    | some (.ins c _) => rs.contains c
    | _ => false
  | _ => false
def dOwnL (tb : Tb) (rs : List Str) (st : Bool) (B : D → D → Sto → Rs D) (x y : D) (s : Sto) : Rs D := match insC s x with
  | some c => match tb.lookup c with
    | some F => if rightOk rs st s y then F [x, y] s else .no
    | none => .no
  | none => B x y s
/-- the classes rs fill no slot of the operator -/
def RTab (K : PySem.W.Frag) (mg : Str → Option Value) (rs : List Str) (nm : String) : Prop := ∀ c ∈ rs, ∃ C, mg c = some (.ref C) ∧ noFillB K C nm = true
def LTab (K : PySem.W.Frag) (mg : Str → Option Value) (tb : Tb) : Prop := ∀ c F, tb.lookup c = some F → ∀ C, mg c = some (.ref C) → PySem.W.selfFirst K C = true
theorem opd_binop {op : Operator} {rs : List Str} {st : Bool} {B : D → D → Sto → Rs D} (T : MTab X.prog X.w X.K X.mg X.base k tb (PySem.dunder op.info.2)) (T2 : LTab X.K X.mg tb) (T3 : RTab X.K X.mg rs op.info.2) (hst : st = true → op.info.2 = "sub") (hr : Rm k X.A) (tk : Takes X W)
    (ho : typeLookup (.type "object") (PySem.dunder op.info.2) = pure none) (ho2 : typeLookup (.type "object") (dunderR op.info.2) = pure none) (hB : OpD X W (binaryOp op) B) : OpD X W (binaryOp op) (dOwnL tb rs st B) := by
  intro pins s σ H ρ sto x y vx vy ux uy Q I sr rx ry e1 e2 po
  unfold dOwnL at po
  split at po
  · rename_i c hc
    split at po
    · rename_i F hF
      obtain ⟨hy, po⟩ := Po.ite po
      obtain ⟨n, fs, rfl, hs⟩ := insC_some hc
      obtain ⟨C, dx, vs, g, g2, g3, h2, h3, h4⟩ := meth_of T sr hs hF
      have sf : PySem.W.selfFirst X.K C = true := by
        obtain ⟨C2, dx2, vs2, q1, q2, _⟩ := sr.ob n _ hs
        rw [g2] at q2
        cases q2
        exact T2 c F hF C q1
      have rx' := rx
      rw [VR] at rx
      obtain ⟨hn, rfl⟩ := rx
      obtain rfl : ux = Value.ref (ρ n) := e1
      obtain ⟨ox, od, J, _⟩ := inst_look I g2
      obtain ⟨m, hFr⟩ := I.fr
      have run := own_call (us := [.ref (ρ n), uy]) (vs := [.ref (ρ n), vy]) h4 hr I.env0 tk I (.cons rfl (.cons e2 .nil)) sr (VRs.cons rx' (VRs.cons ry VRs.nil)) po
      have run2 := thn run (Q' := fun u s' => u ≠ .notImplemented ∧ EP X pins σ Q u s') fun u s' hu => ⟨fun z => by
        obtain ⟨v, H', _, r, _⟩ := hu
        rw [z] at r
        exact relv_ni r, hu⟩
      cases y with
      | str z =>
        obtain rfl : vy = .str z := ry
        obtain ⟨t, rfl⟩ := e2
        have hop := hst hy
        refine binop_any (tb := .type "str") hFr I.ok.mod.kin J ?_ (.inr ?_) sf h3.at_ h3.fn run2
        · exact PySem.W.Looks.of_pure (by first | rfl | kernel_rfl)
        · rw [hop]
          exact PySem.W.Looks.of_pure str_nosub
      | ref j =>
        have hy : (match sto[j]? with
          | some (.ins c _) => rs.contains c
          | _ => false) = true := hy
        rw [VR] at ry
        obtain ⟨hj, rfl⟩ := ry
        obtain rfl : uy = Value.ref (ρ j) := e2
        cases hsj : sto[j]? with
        | none => rw [hsj] at hy; cases hy
        | some o =>
          rw [hsj] at hy
          cases o with
          | ins c' fs' =>
            have hy : c' ∈ rs := List.contains_iff_mem.mp hy
            obtain ⟨C', dx', vs', q1, q2, _⟩ := sr.ob j _ hsj
            obtain ⟨C2, k1, k2⟩ := T3 c' hy
            rw [q1] at k1
            cases k1
            obtain ⟨oy, ody, Jy, _⟩ := inst_look I q2
            exact binop_any hFr I.ok.mod.kin J Jy.type (.inr (nofill_K I.kIn k2 ho ho2)) sf h3.at_ h3.fn run2
          | _ => cases hy
      | _ => cases hy
    · exact po.elim
  · exact hB pins s σ H ρ sto x y vx vy ux uy Q I sr rx ry e1 e2 po
theorem ob_add : typeLookup (.type "object") (PySem.dunder "add") = pure none := by rw [typeLookup_type, builtinLookup_eq_fast]; kernel_rfl
theorem ob_radd : typeLookup (.type "object") (dunderR "add") = pure none := by rw [typeLookup_type, builtinLookup_eq_fast]; kernel_rfl
theorem ob_sub : typeLookup (.type "object") (PySem.dunder "sub") = pure none := by rw [typeLookup_type, builtinLookup_eq_fast]; kernel_rfl
theorem ob_rsub : typeLookup (.type "object") (dunderR "sub") = pure none := by rw [typeLookup_type, builtinLookup_eq_fast]; kernel_rfl
theorem ob_or : typeLookup (.type "object") (PySem.dunder "or") = pure none := by rw [typeLookup_type, builtinLookup_eq_fast]; kernel_rfl
theorem ob_ror : typeLookup (.type "object") (dunderR "or") = pure none := by rw [typeLookup_type, builtinLookup_eq_fast]; kernel_rfl
def dNo2 : D → D → Sto → Rs D := fun _ _ _ => .no
theorem opd_no {f : Value → Value → Sem Value} : OpD X W f dNo2 := fun _ _ _ _ _ _ _ _ _ _ _ _ _ _ _ _ _ _ _ po => po.elim
end
end Z

set_option Elab.async false
set_option linter.all false
set_option maxRecDepth 100000
set_option maxHeartbeats 4000000
namespace Z
open PySem PySem.Spec PyProof.Rows L2
variable [Row]
/-! ### == and != of own instances -/
section
variable {prog : Program} {w : World} {A : Around} {E : Value → Shared → Prop} {s : Shared} {K : PySem.W.Frag} {x C L f : Addr} {h₀ : Heap} {m : Str → Option Value} {ox : Obj} {od : Option Obj} {b tb : Value}
theorem check_slotK {id owner n : String} {rest : List Value} {Q : Unit → Shared → Prop} (hk : builtinKind id = some .slot) (hs : splitId id = some (owner, n)) (ha : argsOk id ⟨.ref x :: rest, []⟩) (X : K.In s.heap) (I : PySem.W.InstAt s.heap x ox C od) (hsub : PySem.W.subIn K (.ref C) (.type owner) = some true) (hq : Q () s) :
    wpAny (model prog w) A (checkBuiltinCall id ⟨.ref x :: rest, []⟩) Q E s := by
  simp only [checkBuiltinCall, hk, hs]
  refine wpAny_bind (wpAny_bind (I.type.here ((PySem.W.looks_subIn X hsub).here ?_)))
  refine PySem.W.KFB.if_not rfl ?_
  cases hsig : Manifest.signature? id with
  | none => exact wpAny_pure hq
  | some sig =>
    simp only [argsOk, hsig] at ha
    have e : Bind.checkArgs id sig ⟨.ref x :: rest, []⟩ = pure () := ha
    show wpAny _ A (Bind.checkArgs id sig ⟨.ref x :: rest, []⟩) Q E _
    rw [e]
    exact wpAny_pure hq
theorem bound_slotK {name : Str} {id : String} {args : List Value} {Q : Option Value → Shared → Prop} (X : K.In s.heap) (I : PySem.W.InstAt s.heap x ox C od) (hn : PySem.W.findIn K (.ref C) name = some (some (.builtin id))) (hb : bindSpecial (.builtin id) (.ref x) = pure (.builtin id, [.ref x]))
    (h : wpAny (model prog w) A (call (.builtin id) (.ref x :: args)) (fun v => Q (some v)) E s) : wpAny (model prog w) A (callSpecialIfBound? (.ref x) name args) Q E s := by
  simp only [callSpecialIfBound?, bindSpecialIfBound?]
  refine wpAny_holding (wpAny_bind (wpAny_bind (wpAny_bind (I.type.here ((PySem.W.looks_findIn X hn).here ?_)))))
  dsimp only
  simp only [hb]
  refine wpAny_bind (wpAny_askSetting (wpAny_ite ?_))
  have fin : wpAny (model prog w) A (call (.builtin id) ([.ref x] ++ args) >>= fun v => pure (some v)) Q E s := wpAny_bind (thn h fun v s' h' => wpAny_pure h')
  split
  · exact wpAny_bind (wpAny_pure (wpAny_pure fin))
  · exact wpAny_tryCatch (wpAny_bind (wpAny_pure (wpAny_pure fin)))
/-- a != b where the class of a has == alone -/
theorem ne_K {Q : Value → Shared → Prop} (hu : A.units + 1 < cLine) (F : Fr h₀ L s.heap m) (X₀ : K.In h₀) (I : PySem.W.InstAt s.heap x ox C od) (hb : PySem.W.Looks (model prog w) s.heap (typeOf b) tb) (hn : PySem.W.notFirst K C tb = true)
    (hne : PySem.W.findIn K (.ref C) "__ne__" = some (some (.builtin "object.__ne__"))) (hs : PySem.W.findIn K (.ref C) "__eq__" = some (some (.ref f))) (hf : PySem.W.isFn K (.ref f) = true) (hsub : PySem.W.subIn K (.ref C) (.type "object") = some true)
    (h : wpAny (model prog w) A.in1 (call (.ref f) [.ref x, b]) (fun v s' => ∃ q, v = .bool q ∧ Q (.bool (!q)) s') E s) : wpAny (model prog w) A (richCompare .NotEq (.ref x) b) Q E s := by
  have X := X₀.keeps F.keep
  have one : wpAny (model prog w) A (tryCompare (.ref x) (cmpInfo .NotEq).2.1 b) (fun r s' => ∃ v, r = some v ∧ Q v s') E s := by
    unfold tryCompare
    refine wpAny_bind (bound_slotK (id := "object.__ne__") X I hne (PySem.F.slot_object_ne.bind _) ?_)
    refine wpAny_call (codeAny_call_builtin PySem.F.slot_object_ne.plain PySem.F.cmpEntry_ne ?_)
    refine check_slotK PySem.F.cmpKind_ne PySem.F.cmpSplit_ne (PySem.F.cmpArgs_ne _ _) X I hsub ?_
    unfold Builtin.«object.__ne__»
    refine wpAny_bind (wpAny_of_eq (a := (Value.ref x, [b])) (by first | rfl | kernel_rfl) ?_)
    dsimp only
    refine wpAny_bind (wpAny_cRoomFor hu ?_)
    refine wpAny_bind (PySem.W.ifBound_K X I hs hf (thn h fun v s' hv => ?_))
    obtain ⟨q, rfl, hq⟩ := hv
    dsimp only
    exact wpAny_bind (wpAny_truthy_bool (wpAny_pure (wpAny_pure ⟨_, rfl, hq⟩)))
  unfold richCompare
  simp only [oneThing_ref]
  refine wpAny_holding (wpAny_bind (wpAny_cRoomFor (Nat.lt_of_succ_lt hu) ?_))
  refine wpAny_bind (I.type.here (wpAny_bind (hb.here ?_)))
  split
  · rename_i q
    have e : PySem.W.subIn K tb (.ref C) = some false := by
      rcases Bool.or_eq_true_iff.mp hn with e | e
      · rw [beq_iff_eq.mp e] at q; simp at q
      · exact beq_iff_eq.mp e
    refine wpAny_bind ((PySem.W.looks_subIn X e).here ?_)
    simp only [Bool.false_eq_true, if_false]
    refine wpAny_bind (thn one fun r s' ⟨v, e, hq⟩ => ?_)
    subst e
    exact wpAny_pure hq
  · refine wpAny_bind (wpAny_pure ?_)
    simp only [Bool.false_eq_true, if_false]
    refine wpAny_bind (thn one fun r s' ⟨v, e, hq⟩ => ?_)
    subst e
    exact wpAny_pure hq
end
end Z

set_option Elab.async false
set_option linter.all false
set_option maxRecDepth 100000
set_option maxHeartbeats 4000000
namespace Z
open PySem PySem.Spec PyProof.Rows L2
variable [Row]
/-! ### what is known of the row's own classes -/
def tysB : List String := ["NoneType", "bool", "int", "str", "tuple", "list", "dict"]
def clsOne (K : PySem.W.Frag) (cs : List Str) (c : Str) : Bool :=
  (He.Fa.cls c).ok K && (decide (PySem.W.findIn K (.ref (He.ga K c)) "__class__" = some (some (.builtin "object.__class__"))) && (decide (PySem.W.specialIn K (.builtin "object.__class__") "__get__" = some (some (.builtin "getset_descriptor.__get__"))) &&
    (decide (PySem.W.takesIn K (.builtin "object.__class__") = some true) && (decide (PySem.W.mroIn K (He.ga K c) (.type "object") = some true) && ((tysB.all fun T => decide (PySem.W.kitOne K (.ref (He.ga K c)) (.type T) = some false) && (decide (PySem.W.subIn K (.type T) (.ref (He.ga K c)) = some false) && decide (PySem.W.kitOne K (.type T) (.ref (He.ga K c)) = some false))) &&
    (cs.all fun d => decide (PySem.W.kitOne K (.ref (He.ga K c)) (.ref (He.ga K d)) = some (decide (c = d))) && PySem.W.notFirst K (He.ga K c) (.ref (He.ga K d))))))))
def clsAll (K : PySem.W.Frag) (cs : List Str) : Bool := cs.all fun c => (He.Fa.glo c).ok K && clsOne K cs c
/-- the class facts of the row -/
structure ClsF (K : PySem.W.Frag) (mg : Str → Option Value) (cs : List Str) : Prop where
  at_ : ∀ c ∈ cs, mg c = some (.ref (He.ga K c))
  one : ∀ c ∈ cs, clsOne K cs c = true
theorem clsF_of {K : PySem.W.Frag} {mg : Str → Option Value} {hp : Heap} {cs : List Str} (X : K.In hp) (G : hp.Ns mainGlobals mg) (h : clsAll K cs = true) : ClsF K mg cs :=
  ⟨fun c hc => He.glo_ok X G (He.ba (List.all_eq_true.mp h c hc)).1, fun c hc => (He.ba (List.all_eq_true.mp h c hc)).2⟩
section
variable {K : PySem.W.Frag} {mg : Str → Option Value} {cs : List Str} {c d : Str}
theorem ClsF.cls (F : ClsF K mg cs) (h : c ∈ cs) : Cls K (He.ga K c) := He.cls_ok (He.ba (F.one c h)).1
theorem ClsF.rest (F : ClsF K mg cs) (h : c ∈ cs) : PySem.W.findIn K (.ref (He.ga K c)) "__class__" = some (some (.builtin "object.__class__")) ∧ PySem.W.specialIn K (.builtin "object.__class__") "__get__" = some (some (.builtin "getset_descriptor.__get__")) ∧ PySem.W.takesIn K (.builtin "object.__class__") = some true ∧ PySem.W.mroIn K (He.ga K c) (.type "object") = some true := by
  obtain ⟨_, h⟩ := He.ba (F.one c h)
  obtain ⟨h1, h⟩ := He.ba h
  obtain ⟨h2, h⟩ := He.ba h
  obtain ⟨h3, h⟩ := He.ba h
  obtain ⟨h4, h⟩ := He.ba h
  exact ⟨of_decide_eq_true h1, of_decide_eq_true h2, of_decide_eq_true h3, of_decide_eq_true h4⟩
theorem ClsF.tys (F : ClsF K mg cs) (h : c ∈ cs) {T : String} (hT : T ∈ tysB) : PySem.W.kitOne K (.ref (He.ga K c)) (.type T) = some false ∧ PySem.W.subIn K (.type T) (.ref (He.ga K c)) = some false ∧ PySem.W.kitOne K (.type T) (.ref (He.ga K c)) = some false := by
  obtain ⟨_, h⟩ := He.ba (F.one c h)
  obtain ⟨_, h⟩ := He.ba h
  obtain ⟨_, h⟩ := He.ba h
  obtain ⟨_, h⟩ := He.ba h
  obtain ⟨_, h⟩ := He.ba h
  obtain ⟨h, _⟩ := He.ba h
  obtain ⟨h1, h⟩ := He.ba (List.all_eq_true.mp h T hT)
  obtain ⟨h2, h3⟩ := He.ba h
  exact ⟨of_decide_eq_true h1, of_decide_eq_true h2, of_decide_eq_true h3⟩
theorem ClsF.pair (F : ClsF K mg cs) (h : c ∈ cs) (hd : d ∈ cs) : PySem.W.kitOne K (.ref (He.ga K c)) (.ref (He.ga K d)) = some (decide (c = d)) ∧ PySem.W.notFirst K (He.ga K c) (.ref (He.ga K d)) = true := by
  obtain ⟨_, h⟩ := He.ba (F.one c h)
  obtain ⟨_, h⟩ := He.ba h
  obtain ⟨_, h⟩ := He.ba h
  obtain ⟨_, h⟩ := He.ba h
  obtain ⟨_, h⟩ := He.ba h
  obtain ⟨_, h⟩ := He.ba h
  obtain ⟨h1, h2⟩ := He.ba (List.all_eq_true.mp h d hd)
  exact ⟨of_decide_eq_true h1, h2⟩
theorem tyN_mem {s : Sto} {d : D} {a : String} (h : tyN s d = some a) : a ∈ tysB := by
  unfold tyN at h
  split at h
  · cases h; decide
  · cases h; decide
  · cases h; decide
  · cases h; decide
  · cases h; decide
  · split at h <;> first | (cases h; decide) | cases h
/-- the type of a value: a built-in's name, or an own class -/
def clD (s : Sto) (d : D) : Option (String ⊕ Str) := match insC s d with
  | some c => some (.inr c)
  | none => (tyN s d).map .inl
def clV (K : PySem.W.Frag) : String ⊕ Str → Value
  | .inl a => .type a
  | .inr c => .ref (He.ga K c)
def clOk (cs : List Str) : String ⊕ Str → Bool
  | .inl a => decide (a ∈ tysB)
  | .inr c => decide (c ∈ cs)
theorem clD_ok (F : ClsF K mg cs) {ρ : Nat → Addr} {s : Sto} {H : Hp} (sr : SR K mg ρ s H) {d : D} {v : V} {t : String ⊕ Str} (r : VR K ρ s.length H d v) (h : clD s d = some t) (hc : clOk cs t = true) : TyX K H v (clV K t) := by
  unfold clD at h
  split at h
  · rename_i c hi
    cases h
    obtain ⟨n, fs, rfl, hs⟩ := insC_some hi
    rw [VR] at r
    obtain ⟨hn, rfl⟩ := r
    have hm : c ∈ cs := of_decide_eq_true hc
    obtain ⟨C, dx, vs, g1, g2, g3⟩ := sr.ob n _ hs
    rw [F.at_ c hm] at g1
    cases g1
    obtain ⟨h1, h2, h3, h4⟩ := F.rest hm
    exact .base (.ins g2 (F.cls hm) h1 h2 h3 h4)
  · cases e : tyN s d with
    | none => rw [e] at h; cases h
    | some a =>
      rw [e] at h
      cases h
      exact tyN_ok sr r e
end
section
variable {X : Cx} {W : WX} {pos : Pos} {e : Expr} {m : EM D} {cs : List Str}
/-! ### isinstance of any value, with a built-in class or an own one -/
def isiT (T : String) : String ⊕ Str → Option Bool
  | .inl a => kitB a T
  | .inr _ => if T ∈ tysB then some false else none
def mIsiA (cs : List Str) (T : String) (m : EM D) : EM D := fun e s => (m e s).bind fun d s1 => match clD s1 d with
  | some t => if clOk cs t then (match isiT T t with | some b => .ok (.bl b) s1 | none => .no) else .no
  | none => .no
theorem je_isiA (F : ClsF X.K X.mg cs) {x : Str} {p1 p2 : Pos} {T : String} (hg : Gl X "isinstance") (hm : X.mg "isinstance" = none) (hg2 : Gl X x) (hm2 : X.mg x = none) (hv : bootBuiltins x = some (.type T)) (he : JE X W e m) (hn : x ≠ "__name__" := by decide) (hdb : (x == ("__debug__" : Str)) = false := by decide)
    (hs : starEach [e, .Name x p2] X.env = (false, eval e X.env) :: starEach [.Name x p2] X.env := by rfl) (hpl : (backTo pos (starEach [.Name x p2] X.env)).any (·.1) = false := by rfl) (hs2 : starEach [.Name x p2] X.env = (false, eval (.Name x p2) X.env) :: starEach [] X.env := by rfl) :
    JE X W (.Call (.Name "isinstance" p1) [e, .Name x p2] [] pos) (mIsiA cs T m) := by
  refine PE_imp (pe_callB call_isi hg hm boot_isinstance (pa_cons he (pa_cons (pe_bltn (v := .ty T) hg2 hm2 hv rfl hn hdb) pa_nil hs2) hs) (he := hs) (hpl := hpl)) fun σ H Q ⟨ρ, env, s, sr, er, po⟩ => ⟨ρ, env, s, sr, er, (Po.bind po).imp fun v H1 ⟨ρ1, s1, d1, e1, sr1, r1, po1⟩ => ?_⟩
  dsimp only at po1
  split at po1
  · rename_i t ht
    obtain ⟨hc, po1⟩ := Po.ite po1
    split at po1
    · rename_i b hb
      refine ⟨v, .ty T, clV X.K t, .type T, b, rfl, .ty T, clD_ok F sr1 r1 ht hc, ?_, po1 ρ1 H1 _ Ext.refl sr1 rfl⟩
      cases t with
      | inl a => exact kit_ty hb
      | inr c =>
        have hb : (if T ∈ tysB then some false else none) = some b := hb
        split at hb
        · rename_i hT
          cases hb
          exact (F.tys (of_decide_eq_true hc) hT).1
        · cases hb
    · exact po1.elim
  · exact po1.elim
def isiC (c : Str) : String ⊕ Str → Bool
  | .inl _ => false
  | .inr d => decide (d = c)
def mIsiC (cs : List Str) (c : Str) (m : EM D) : EM D := fun e s => (m e s).bind fun d s1 => match clD s1 d with
  | some t => if clOk cs t then .ok (.bl (isiC c t)) s1 else .no
  | none => .no
theorem je_isiC (F : ClsF X.K X.mg cs) {c : Str} {p1 p2 : Pos} (hc0 : c ∈ cs) (hg : Gl X "isinstance") (hm : X.mg "isinstance" = none) (hg2 : Gl X c) (he : JE X W e m) (hdb : (c == ("__debug__" : Str)) = false := by decide)
    (hs : starEach [e, .Name c p2] X.env = (false, eval e X.env) :: starEach [.Name c p2] X.env := by rfl) (hpl : (backTo pos (starEach [.Name c p2] X.env)).any (·.1) = false := by rfl) (hs2 : starEach [.Name c p2] X.env = (false, eval (.Name c p2) X.env) :: starEach [] X.env := by rfl) :
    JE X W (.Call (.Name "isinstance" p1) [e, .Name c p2] [] pos) (mIsiC cs c m) := by
  refine PE_imp (pe_callB call_isi hg hm boot_isinstance (pa_cons he (pa_cons (pe_glob (v := .ref (He.ga X.K c)) hg2 (F.at_ c hc0) rfl hdb) pa_nil hs2) hs) (he := hs) (hpl := hpl)) fun σ H Q ⟨ρ, env, s, sr, er, po⟩ => ⟨ρ, env, s, sr, er, (Po.bind po).imp fun v H1 ⟨ρ1, s1, d1, e1, sr1, r1, po1⟩ => ?_⟩
  dsimp only at po1
  split at po1
  · rename_i t ht
    obtain ⟨hc, po1⟩ := Po.ite po1
    refine ⟨v, .ref (He.ga X.K c), clV X.K t, .ref (He.ga X.K c), isiC c t, rfl, .own _, clD_ok F sr1 r1 ht hc, ?_, po1 ρ1 H1 _ Ext.refl sr1 rfl⟩
    cases t with
    | inl a => exact (F.tys hc0 (of_decide_eq_true hc)).2.2
    | inr d => exact (F.pair (of_decide_eq_true hc) hc0).1
  · exact po1.elim
/-! ### own == -/
/-- the classes of the table have == alone -/
def ETab (K : PySem.W.Frag) (mg : Str → Option Value) (cs : List Str) (tb : Tb) : Prop := ∀ c F, tb.lookup c = some F → c ∈ cs ∧ PySem.W.findIn K (.ref (He.ga K c)) "__ne__" = some (some (.builtin "object.__ne__"))
theorem ty_look {pins : List (Addr × Obj)} {s : Shared} {σ : L2.St} {H : Hp} {v : V} {u t : Value} (I : Inv X pins σ H s) (ru : RelV v u) (ty : TyX X.K H v t) : PySem.W.Looks (model X.prog X.w) s.heap (typeOf u) t := by
  obtain ⟨P, Z, p, _⟩ := kit_of I ru ty
  exact Z.ty _ _ I.kIn p
def neS (b : Bool) (neg : Bool) : D := .bl (neg ^^ b)
/-- x == y, x an own instance: at A -/
theorem eq_inst {A : Around} {k : Nat} {tb : Tb} {neg : Bool} (F : ClsF X.K X.mg cs) (T : MTab X.prog X.w X.K X.mg X.base k tb "__eq__") (T2 : ETab X.K X.mg cs tb) (hfr : A.frames = X.A.frames) (hr : Rm (k + 1) A) (tk : Takes X W) {pins : List (Addr × Obj)} {s : Shared} {σ : L2.St} {H : Hp} {ρ : Nat → Addr} {st : Sto} {n : Nat} {c : Str} {fs : List (Str × D)} {G : MF} {y : D} {vy : V} {uy : Value} {t : String ⊕ Str} {Q : Bool → Hp → Prop}
    (I : Inv X pins σ H s) (sr : SR X.K X.mg ρ st H) (hs : st[n]? = some (.ins c fs)) (hF : tb.lookup c = some G) (hn : n < st.length) (ry : VR X.K ρ st.length H y vy) (e2 : RelV vy uy) (ht : clD st y = some t) (hc : clOk cs t = true)
    (po : Po X.K X.mg RB W σ ρ st.length H ((G [.ref n, y] st).bind fun d s1 => match d with | .bl b => .ok b s1 | _ => .no) Q) :
    wpAny (model X.prog X.w) A (richCompare (if neg then .NotEq else .Eq) (.ref (ρ n)) uy) (fun u s' => ∃ b, u = .bool (neg ^^ b) ∧ TP X pins σ Q b s') X.xe s := by
  obtain ⟨C, dx, vs, g, g2, g3, h2, h3, h4⟩ := meth_of T sr hs hF
  obtain ⟨hcc, hne⟩ := T2 c G hF
  have eC : C = He.ga X.K c := by
    obtain ⟨C2, dx2, vs2, q1, q2, _⟩ := sr.ob n _ hs
    rw [g2] at q2
    cases q2
    rw [F.at_ c hcc] at q1
    cases q1
    rfl
  subst eC
  obtain ⟨ox, od, J, _⟩ := inst_look I g2
  obtain ⟨m0, hFr⟩ := I.fr
  have lk := ty_look I e2 (clD_ok F sr ry ht hc)
  have nf : PySem.W.notFirst X.K (He.ga X.K c) (clV X.K t) = true := by
    cases t with
    | inl a =>
      unfold PySem.W.notFirst
      rw [show PySem.W.subIn X.K (clV X.K (.inl a)) (.ref (He.ga X.K c)) = some false from (F.tys hcc (of_decide_eq_true hc)).2.1]
      simp
    | inr d => exact (F.pair hcc (of_decide_eq_true hc)).2
  have vx : VR X.K ρ st.length H (.ref n) (.ref (ρ n)) := by rw [VR]; exact ⟨hn, rfl⟩
  have e0 : ∀ {A' : Around}, A'.frames = X.A.frames → Env0 X.prog X.w X.K X.mg X.base A' X.stack s H := fun {A'} h => by
    have e := I.env0
    exact ⟨by rw [h]; exact e.frames, e.mod, e.bs, e.bsz, e.funs, e.frf, e.hok, e.bare⟩
  have run : ∀ {A' : Around}, A'.frames = X.A.frames → Rm k A' → wpAny (model X.prog X.w) A' (call (.ref g) [.ref (ρ n), uy]) (fun u s' => ∃ b, u = .bool b ∧ TP X pins σ Q b s') X.xe s := fun {A'} h r =>
    thn (own_call (us := [.ref (ρ n), uy]) (vs := [.ref (ρ n), vy]) h4 r (e0 h) tk I (.cons rfl (.cons e2 .nil)) sr (VRs.cons vx (VRs.cons ry VRs.nil)) (Po.bind po)) fun u s2 ⟨v, H2, I2, r2, ρ2, st2, d2, e3, sr2, vr2, po2⟩ => by
      cases d2 with
      | bl q =>
        obtain rfl : v = .bl q := vr2
        cases r2
        exact ⟨q, rfl, H2, I2, po2 ρ2 H2 q Ext.refl sr2 rfl⟩
      | _ => exact po2.elim
  cases neg with
  | false =>
    refine PySem.W.cmp_K (op := .Eq) hr.room.units0 hFr I.ok.mod.kin J lk nf h3.at_ h3.fn (thn (run hfr (hr.mono (Nat.le_succ k))) fun u s' ⟨b, e, q⟩ => ?_)
    subst e
    exact ⟨b, by simp, q⟩
  | true =>
    refine ne_K (Nat.lt_of_lt_of_le (Nat.lt_succ_self _) (by have := hr.room.units; omega)) hFr I.ok.mod.kin J lk nf hne h3.at_ h3.fn (F.rest hcc).2.2.2 (thn (run (A' := A.in1) hfr hr.in1) fun u s' ⟨b, e, q⟩ => ?_)
    subst e
    exact ⟨b, rfl, b, by simp, q⟩
end
end Z

set_option Elab.async false
set_option linter.all false
set_option maxRecDepth 100000
set_option maxHeartbeats 4000000
namespace Z
open PySem PySem.Spec PyProof.Rows L2
variable [Row]
open PySem.SeqAt
open AutoSeq1 (wpAny_loadPart')
open MeetsSeq MeetsSeq2 MeetsSeq3 SeqRoads2
/-! ### == of lists of own instances -/
def mLst (s : Sto) (n : Nat) : Option (List D) := match s[n]? with
  | some (.lst xs) => some xs
  | _ => none
/-- two items: the same place, or own instances -/
def eqEl (cs : List Str) (tb : Tb) (x y : D) (s : Sto) : Rs Bool := match x, y with
  | .ref n, .ref j => match s[n]?, s[j]? with
    | some (.ins c fs), some (.ins d gs) => if n = j then .ok true s else if c ∈ cs ∧ d ∈ cs then (match tb.lookup c with
      | some G => (G [.ref n, .ref j] s).bind fun d s1 => match d with | .bl b => .ok b s1 | _ => .no
      | none => .no) else .no
    | _, _ => .no
  | _, _ => .no
def eqLoop (cs : List Str) (tb : Tb) (a b : Nat) : Nat → Nat → Sto → Rs Bool
  | 0, _, _ => .no
  | f + 1, i, s => match mLst s a, mLst s b with
    | some xs, some ys => match xs[i]?, ys[i]? with
      | some x, some y => (eqEl cs tb x y s).bind fun r s1 => if r then eqLoop cs tb a b f (i + 1) s1 else match mLst s1 a, mLst s1 b with
        | some xs1, some ys1 => if i < xs1.length ∧ i < ys1.length then .ok false s1 else .no
        | _, _ => .no
      | _, _ => .ok (decide (xs.length = ys.length)) s
    | _, _ => .no
theorem mLst_at {s : Sto} {n : Nat} {xs : List D} (h : mLst s n = some xs) : s[n]? = some (.lst xs) := by
  unfold mLst at h
  split at h
  · rename_i ys e
    cases h
    exact e
  · cases h
section
variable {X : Cx} {W : WX} {pos : Pos} {k : Nat} {cs : List Str} {tb : Tb}
theorem eq_el {A : Around} (F : ClsF X.K X.mg cs) (T : MTab X.prog X.w X.K X.mg X.base k tb "__eq__") (T2 : ETab X.K X.mg cs tb) (hfr : A.frames = X.A.frames) (hr : Rm (k + 1) A) (tk : Takes X W) {pins : List (Addr × Obj)} {s : Shared} {σ : L2.St} {H : Hp} {ρ : Nat → Addr} {st : Sto} {x y : D} {vx vy : V} {ux uy : Value} {Q : Bool → Hp → Prop}
    (I : Inv X pins σ H s) (sr : SR X.K X.mg ρ st H) (rx : VR X.K ρ st.length H x vx) (ry : VR X.K ρ st.length H y vy) (e1 : RelV vx ux) (e2 : RelV vy uy) (po : Po X.K X.mg RB W σ ρ st.length H (eqEl cs tb x y st) Q) :
    wpAny (model X.prog X.w) A (eqBool ux uy) (fun b s' => TP X pins σ Q b s') X.xe s := by
  unfold eqEl at po
  split at po
  · rename_i n j
    split at po
    · rename_i c fs d gs hn hj
      rw [VR] at rx
      obtain ⟨ln, rfl⟩ := rx
      have ry' := ry
      rw [VR] at ry
      obtain ⟨lj, rfl⟩ := ry
      obtain rfl : ux = Value.ref (ρ n) := e1
      obtain rfl : uy = Value.ref (ρ j) := e2
      split at po
      · rename_i e
        subst e
        unfold eqBool
        refine wpAny_holding ?_
        refine wpAny_ite_split (fun _ => wpAny_bind (wpAny_rule (wpAny_pure ⟨H, I, po ρ H true Ext.refl sr rfl⟩))) (fun h => absurd (by simp) h)
      · rename_i hne
        obtain ⟨⟨hc, hd⟩, po⟩ := Po.ite po
        have ha : ρ n ≠ ρ j := fun z => hne (sr.inj n j _ _ hn hj rfl rfl z)
        split at po
        · rename_i G hG
          refine GQ.eqBool_refG ha (thn (eq_inst (neg := false) F T T2 hfr hr tk I sr hn hG ln ry' rfl (t := .inr d) ?_ (by simpa [clOk] using hd) po) fun u s' ⟨b, e, q⟩ => ⟨b, by simpa using e, q⟩)
          unfold clD insC
          dsimp only
          rw [hj]
        · exact po.elim
    · exact po.elim
  · exact po.elim
def cmpCode (neg : Bool) : Int := if neg then 3 else 2
theorem eq_loopO {A : Around} (F : ClsF X.K X.mg cs) (T : MTab X.prog X.w X.K X.mg X.base k tb "__eq__") (T2 : ETab X.K X.mg cs tb) (hfr : A.frames = X.A.frames) (hr : Rm (k + 2) A) (tk : Takes X W) (neg : Bool) {pins : List (Addr × Obj)} {σ : L2.St} {a b : Nat} {R : Result → Shared → Prop} {Q : Bool → Hp → Prop}
    (hR : ∀ q s', TP X pins σ Q q s' → R (.ok (.ret (.bool (neg ^^ q)))) s') (hE : ∀ e s', X.xe e s' → R (.error e) s') : ∀ (f i : Nat) (s : Shared) (H : Hp) (ρ : Nat → Addr) (st : Sto), Inv X pins σ H s → SR X.K X.mg ρ st H →
      Po X.K X.mg RB W σ ρ st.length H (eqLoop cs tb a b f i st) Q →
      wpAny (model X.prog X.w) A.in1 (Builtin.«list.__eq__.loop» ⟨[.ref (ρ a), .ref (ρ b), rawInt i, rawInt (cmpCode neg)], []⟩) (GQ.FinOf X.prog X.w A R) (fun e s' => R (.error e) s') s := by
  intro f
  induction f with
  | zero => intro i s H ρ st I sr po; exact po.elim
  | succ f ih =>
    intro i s H ρ st I sr po
    unfold eqLoop at po
    split at po
    · rename_i xs ys hx hy
      have ax := mLst_at hx
      have ay := mLst_at hy
      obtain ⟨vs, h1, r1⟩ := sr.ob a _ ax
      obtain ⟨ws, h2, r2⟩ := sr.ob b _ ay
      obtain ⟨z1, its1, n1, q1, l1, g1⟩ := I.lstM h1
      obtain ⟨z2, its2, n2, q2, l2, g2⟩ := I.lstM h2
      have L1 : its1.length = xs.length := by rw [← l1, r1.length]
      have L2' : its2.length = ys.length := by rw [← l2, r2.length]
      split at po
      · rename_i x y ex ey
        obtain ⟨v1, hv1, w1⟩ := r1.get ex
        obtain ⟨v2, hv2, w2⟩ := r2.get ey
        obtain ⟨u1, hu1, m1⟩ := q1.get hv1
        obtain ⟨u2, hu2, m2⟩ := q2.get hv2
        have el := eq_el F T T2 (A := A.in1) (by exact hfr) hr.in1 tk I sr w1 w2 m1 m2 (Po.bind po)
        obtain ⟨hp, g, d, tk0, os⟩ := s
        have i1 : its1.toArray[((i : Nat) : Int).toNat]? = some u1 := by simpa using hu1
        have i2 : its2.toArray[((i : Nat) : Int).toNat]? = some u2 := by simpa using hu2
        have hc : ((i : Int) + 1) = ((i + 1 : Nat) : Int) := by omega
        cases neg
        all_goals
          wp_walk using wpAny_loadPart' g1, wpAny_loadPart' g2
          rw [i1, i2]
          refine wpAny_bind (wpAny_mono el (fun r s2 h2 => ?_) fun e s' he => hE e s' he)
          obtain ⟨H3, I3, ρ3, st3, d3, e3, sr3, rd, po3⟩ := h2
          obtain rfl : d3 = r := rd
          obtain ⟨hp2, g2', d2, tk2, os2⟩ := s2
          have la : a < st.length := (List.getElem?_eq_some_iff.mp ax).1
          have lb : b < st.length := (List.getElem?_eq_some_iff.mp ay).1
          have ea := e3.ag a la
          have eb := e3.ag b lb
          cases d3
          · rw [if_neg Bool.false_ne_true] at po3
            rw [if_neg Bool.false_ne_true]
            split at po3
            · rename_i xs1 ys1 hx3 hy3
              obtain ⟨⟨p1, p2⟩, po4⟩ := Po.ite po3
              obtain ⟨vs3, k1, t1⟩ := sr3.ob a _ (mLst_at hx3)
              obtain ⟨ws3, k2, t2⟩ := sr3.ob b _ (mLst_at hy3)
              rw [ea] at k1
              rw [eb] at k2
              obtain ⟨_, jts1, m1', c1, l3, f1⟩ := I3.lstM k1
              obtain ⟨_, jts2, m2', c2, l4, f2⟩ := I3.lstM k2
              have n1' : i < jts1.length := by rw [← l3, t1.length]; exact p1
              have n2' : i < jts2.length := by rw [← l4, t2.length]; exact p2
              have j1 : jts1.toArray[((i : Nat) : Int).toNat]? = some jts1[i] := by simp [n1']
              have j2 : jts2.toArray[((i : Nat) : Int).toNat]? = some jts2[i] := by simp [n2']
              wp_walk using wpAny_loadPart' f1, wpAny_loadPart' f2
              rw [j1, j2]
              wp_walk
              exact hR false _ ⟨H3, I3, po4 ρ3 H3 false Ext.refl sr3 rfl⟩
            · exact po3.elim
          · rw [if_pos rfl] at po3
            rw [if_pos rfl, hc]
            refine wpAny_pure ⟨plainId_quiet plain_eq_loop _, codeAny_builtin entry_eq_loop ?_⟩
            rw [Around.under_plainId plain_eq_loop _]
            have := ih (i + 1) _ H3 ρ3 st3 I3 sr3 po3
            rw [ea, eb] at this
            exact this
      · rename_i hnot
        have hq := hR (decide (xs.length = ys.length)) s ⟨H, I, po ρ H _ Ext.refl sr rfl⟩
        obtain ⟨hp, g, d, tk0, os⟩ := s
        have hsz : (its1.toArray.size == its2.toArray.size) = decide (xs.length = ys.length) := by
          rw [List.size_toArray, List.size_toArray, L1, L2']
          by_cases q : xs.length = ys.length <;> simp [q]
        have none2 : its1.toArray[((i : Nat) : Int).toNat]? = none ∨ its2.toArray[((i : Nat) : Int).toNat]? = none := by
          by_cases q : i < xs.length
          · by_cases q2 : i < ys.length
            · exact (hnot _ _ (List.getElem?_eq_getElem q) (List.getElem?_eq_getElem q2)).elim
            · exact .inr (by simp; omega)
          · exact .inl (by simp; omega)
        cases neg
        · wp_walk using wpAny_loadPart' g1, wpAny_loadPart' g2
          split
          · rename_i h9
            rcases none2 with z | z <;> rw [z] at h9 <;> simp at h9
          · wp_walk using wpAny_loadPart' g1, wpAny_loadPart' g2
            show R (.ok (.ret (.bool (its1.toArray.size == its2.toArray.size)))) _
            rw [hsz]
            simpa using hq
        · wp_walk using wpAny_loadPart' g1, wpAny_loadPart' g2
          split
          · rename_i h9
            rcases none2 with z | z <;> rw [z] at h9 <;> simp at h9
          · wp_walk using wpAny_loadPart' g1, wpAny_loadPart' g2
            show R (.ok (.ret (.bool (its1.toArray.size != its2.toArray.size)))) _
            rw [show (its1.toArray.size != its2.toArray.size) = !decide (xs.length = ys.length) from by rw [← hsz] <;> rfl]
            simpa using hq
    · exact po.elim
/-- == and != of two lists of own instances -/
theorem eq_lstO (F : ClsF X.K X.mg cs) (T : MTab X.prog X.w X.K X.mg X.base k tb "__eq__") (T2 : ETab X.K X.mg cs tb) (hr : Rm (k + 2) X.A) (tk : Takes X W) (neg : Bool) {pins : List (Addr × Obj)} {s : Shared} {σ : L2.St} {H : Hp} {ρ : Nat → Addr} {st : Sto} {a b f : Nat} {xs ys : List D} {Q : Bool → Hp → Prop}
    (I : Inv X pins σ H s) (sr : SR X.K X.mg ρ st H) (hx : mLst st a = some xs) (hy : mLst st b = some ys) (po : Po X.K X.mg RB W σ ρ st.length H (if xs.length = ys.length then eqLoop cs tb a b f 0 st else .ok false st) Q) :
    wpAny (model X.prog X.w) X.A (richCompare (if neg then .NotEq else .Eq) (.ref (ρ a)) (.ref (ρ b))) (fun u s' => ∃ q, u = .bool (neg ^^ q) ∧ TP X pins σ Q q s') X.xe s := by
  obtain ⟨vs, h1, r1⟩ := sr.ob a _ (mLst_at hx)
  obtain ⟨ws, h2, r2⟩ := sr.ob b _ (mLst_at hy)
  obtain ⟨z1, its1, n1, q1, l1, g1⟩ := I.lstM h1
  obtain ⟨z2, its2, n2, q2, l2, g2⟩ := I.lstM h2
  have L1 : its1.length = xs.length := by rw [← l1, r1.length]
  have L2' : its2.length = ys.length := by rw [← l2, r2.length]
  have body : ∀ {Rr : Result → Shared → Prop}, (∀ q s', TP X pins σ Q q s' → Rr (.ok (.ret (.bool (neg ^^ q)))) s') → (∀ e s', X.xe e s' → Rr (.error e) s') →
      wpAny (model X.prog X.w) X.A.in1 ((if neg then Builtin.«list.__ne__» else Builtin.«list.__eq__») ⟨[.ref (ρ a), .ref (ρ b)], []⟩) (GQ.FinOf X.prog X.w X.A Rr) (fun e s' => Rr (.error e) s') s := fun {Rr} hR hE => by
    have loop : xs.length = ys.length → wpAny (model X.prog X.w) X.A.in1 (Builtin.«list.__eq__.loop» ⟨[.ref (ρ a), .ref (ρ b), rawInt 0, rawInt (cmpCode neg)], []⟩) (GQ.FinOf X.prog X.w X.A Rr) (fun e s' => Rr (.error e) s') s := fun e => by
      rw [if_pos e] at po
      exact eq_loopO F T T2 rfl hr tk neg hR hE f 0 s H ρ st I sr po
    have f3 := AutoSeq1.sub_list_list
    by_cases e : xs.length = ys.length
    · have hl := loop e
      obtain ⟨hp, g, d, tk0, os⟩ := s
      have hne : ¬ (its1.toArray.size != its2.toArray.size) = true := by simp [L1, L2', e]
      cases neg
      · show wpAny _ _ (Builtin.«list.__eq__» ⟨[.ref (ρ a), .ref (ρ b)], []⟩) _ _ _
        wp_walk using wpAny_loadPart' g1, wpAny_loadPart' g2
        refine ⟨plainId_quiet plain_eq_loop _, codeAny_builtin entry_eq_loop ?_⟩
        rw [Around.under_plainId plain_eq_loop _]
        exact hl
      · show wpAny _ _ (Builtin.«list.__ne__» ⟨[.ref (ρ a), .ref (ρ b)], []⟩) _ _ _
        wp_walk using wpAny_loadPart' g1, wpAny_loadPart' g2
        refine ⟨plainId_quiet plain_eq_loop _, codeAny_builtin entry_eq_loop ?_⟩
        rw [Around.under_plainId plain_eq_loop _]
        exact hl
    · rw [if_neg e] at po
      have hq := hR false s ⟨H, I, po ρ H false Ext.refl sr rfl⟩
      obtain ⟨hp, g, d, tk0, os⟩ := s
      have hne : (its1.toArray.size != its2.toArray.size) = true := by simp [L1, L2', e]
      cases neg
      · show wpAny _ _ (Builtin.«list.__eq__» ⟨[.ref (ρ a), .ref (ρ b)], []⟩) _ _ _
        wp_walk using wpAny_loadPart' g1, wpAny_loadPart' g2
        exact hq
      · show wpAny _ _ (Builtin.«list.__ne__» ⟨[.ref (ρ a), .ref (ρ b)], []⟩) _ _ _
        wp_walk using wpAny_loadPart' g1, wpAny_loadPart' g2
        exact hq
  cases neg
  · refine wpAny_richCompare_same_room (op := .Eq) ⟨_, g1, rfl⟩ ⟨_, g2, rfl⟩ PySem.F.slot_list_eq (GQ.call_here PySem.F.slot_list_eq ⟨_, g1, rfl⟩ PySem.F.entry_list_eq (PySem.F.args_list_eq_2 _ _) ?_) hr.room.units0
    exact body (fun q s' h => ⟨(fun x => nomatch x), q, rfl, h⟩) fun e s' h => h
  · refine wpAny_richCompare_same_room (op := .NotEq) ⟨_, g1, rfl⟩ ⟨_, g2, rfl⟩ PySem.F.slot_list_ne (GQ.call_here PySem.F.slot_list_ne ⟨_, g1, rfl⟩ PySem.F.entry_list_ne (PySem.F.args_list_ne_2 _ _) ?_) hr.room.units0
    exact body (fun q s' h => ⟨(fun x => nomatch x), q, rfl, h⟩) fun e s' h => h
/-! ### == and != of any two values -/
def dEqO (cs : List Str) (tb : Tb) (neg : Bool) (x y : D) (s : Sto) : Rs D := match insC s x with
  | some c => match tb.lookup c, clD s y with
    | some G, some t => if clOk cs t then (G [x, y] s).bind fun d s1 => match d with | .bl b => .ok (.bl (neg ^^ b)) s1 | _ => .no else .no
    | _, _ => .no
  | none => match x, y with
    | .ref a, .ref b => match mLst s a, mLst s b with
      | some xs, some ys => if (shp s x).isSome && (shp s y).isSome then dEqB neg x y s else if a = b then .no else
          (if xs.length = ys.length then eqLoop cs tb a b (xs.length + 1) 0 s else .ok false s).bind fun q s1 => .ok (.bl (neg ^^ q)) s1
      | _, _ => dEqB neg x y s
    | _, _ => dEqB neg x y s
theorem opd_eqO (F : ClsF X.K X.mg cs) (T : MTab X.prog X.w X.K X.mg X.base k tb "__eq__") (T2 : ETab X.K X.mg cs tb) (hr : Rm (k + 2) X.A) (tk : Takes X W) (neg : Bool) (hB : OpD X W (compareOp (if neg then .NotEq else .Eq)) (dEqB neg)) : OpD X W (compareOp (if neg then .NotEq else .Eq)) (dEqO cs tb neg) := by
  have rc : ∀ a b, compareOp (if neg then .NotEq else .Eq) a b = richCompare (if neg then .NotEq else .Eq) a b := fun a b => by cases neg <;> rfl
  intro pins s σ H ρ st x y vx vy ux uy Q I sr rx ry e1 e2 po
  unfold dEqO at po
  split at po
  · rename_i c hc
    split at po
    · rename_i G t hG ht
      obtain ⟨hk, po⟩ := Po.ite po
      obtain ⟨n, fs, rfl, hs⟩ := insC_some hc
      rw [VR] at rx
      obtain ⟨hn, rfl⟩ := rx
      obtain rfl : ux = Value.ref (ρ n) := e1
      rw [rc]
      refine thn (eq_inst (Q := fun b H' => Q (.bl (neg ^^ b)) H') (neg := neg) F T T2 rfl (hr.mono (Nat.le_succ _)) tk I sr hs hG hn ry e2 ht hk ?_) fun u s' ⟨b, e, H', I', q⟩ => ?_
      · have po2 := po
        revert po2
        cases G [.ref n, y] st with
        | ok d s1 =>
          intro po2
          cases d with
          | bl b =>
            intro ρ' H' v e sr r
            obtain rfl : b = v := r
            exact po2 ρ' H' (.bl (neg ^^ b)) e sr rfl
          | _ => exact po2.elim
        | ex c f d s1 => exact fun po2 => po2
        | no => exact fun po2 => po2
      · subst e
        exact ⟨.bl (neg ^^ b), H', I', rfl, q⟩
    · exact po.elim
  · rename_i hin
    split at po
    · rename_i a b
      split at po
      · rename_i xs ys hx hy
        split at po
        · exact hB pins s σ H ρ st _ _ vx vy ux uy Q I sr rx ry e1 e2 po
        · split at po
          · exact po.elim
          · rw [VR] at rx ry
            obtain ⟨la, rfl⟩ := rx
            obtain ⟨lb, rfl⟩ := ry
            obtain rfl : ux = Value.ref (ρ a) := e1
            obtain rfl : uy = Value.ref (ρ b) := e2
            rw [rc]
            refine thn (eq_lstO (Q := fun q H' => Q (.bl (neg ^^ q)) H') F T T2 hr tk neg I sr hx hy (f := xs.length + 1) ?_) fun u s' ⟨q, e, H', I', hq⟩ => ?_
            · have po2 := po
              revert po2
              cases (if xs.length = ys.length then eqLoop cs tb a b (xs.length + 1) 0 st else .ok false st) with
              | ok d s1 =>
                intro po2 ρ' H' v e sr r
                obtain rfl : d = v := r
                exact po2 ρ' H' (.bl (neg ^^ d)) e sr rfl
              | ex c f d s1 => exact fun po2 => po2
              | no => exact fun po2 => po2
            · subst e
              exact ⟨.bl (neg ^^ q), H', I', rfl, hq⟩
      · exact hB pins s σ H ρ st _ _ vx vy ux uy Q I sr rx ry e1 e2 po
    · exact hB pins s σ H ρ st _ _ vx vy ux uy Q I sr rx ry e1 e2 po
end
end Z

set_option Elab.async false
set_option linter.all false
set_option maxRecDepth 100000
set_option maxHeartbeats 4000000
namespace Z
open PySem PySem.Spec PyProof.Rows L2
variable [Row]
/-! ### list.extend by a list or a tuple -/
def rExtA (K : PySem.W.Frag) : V → List V → Hp → VK → Prop := fun x vs H Q => ∃ l b xs zs, x = .ref l ∧ vs = [.ref b] ∧ H l = some (.lst xs) ∧ (SqL K H b zs ∨ SqT K H b zs) ∧ xs.length + zs.length ≤ sizeLine ∧ Q .non (upd H l (.lst (xs ++ zs)))
theorem meets_extend (T : String) (hT : T = "list" ∨ T = "tuple") (l : Addr) (items : Array Value) (n : Nat) (b : Addr) (items2 : Array Value) (n2 : Nat) (dd : Option Addr) (sl : Array (Option Value)) (hs0 : ¬(!items.isEmpty && Builtin.List.listTooLong (items.size + items2.size)) = true) (hs1 : items.size ≤ sizeLine) (hs2 : items.size + items2.size ≤ sizeLine + 1) :
    Meets (Builtin.«list.extend» ⟨[.ref l, .ref b], []⟩) (fun _ R s => s.heap.get? l = some { cls := .type "list", dict := none, data := .seq items n, slots := #[] } ∧ s.heap.get? b = some { cls := .type T, dict := dd, data := .seq items2 n2, slots := sl } ∧ R (.ok (.ret Value.none)) { s with heap := s.heap.update l (Obj.mapSeq fun x => x ++ items2), toks := s.toks }) :=
  .of_wp fun prog w A R s h => by
    obtain ⟨hp, g, d, tk, os⟩ := s
    obtain ⟨hl, hb, h⟩ := h
    have f1 := AutoSeq1.idx_int
    have f2 := AutoSeq1.sub_tuple_tuple
    have f3 := AutoSeq1.sub_list_list
    have f4 := AutoSeq1.sub_tuple_list
    have f5 := AutoSeq1.sub_list_tuple
    have hz' : (items ++ items2).size ≤ sizeLine + 1 := by rw [Array.size_append]; exact hs2
    rcases hT with rfl | rfl <;> (wp_walk using (wpAny_updateSeq hl rfl (hz := hs1) (_hz' := hz')), AutoSeq1.wpAny_loadPart' hl, AutoSeq1.wpAny_loadPart' hb; exact ⟨_, rfl, h⟩)
section
variable {X : Cx} {W : WX}
theorem mt_extA : MtR X "list.extend" (rExtA X.K) := by
  intro pins s σ H x vs v us Q I rx rv h
  obtain ⟨l, b, xs, zs, rfl, rfl, hH, hB, hz, q⟩ := h
  cases rx
  obtain ⟨u, rfl, ru⟩ := rv.one
  cases ru
  obtain ⟨z, its, n, r, hl, e⟩ := I.lstM hH
  have key : ∀ (T : String) (hT : T = "list" ∨ T = "tuple") (its2 : List Value) (n2 : Nat) (dd : Option Addr) (sl : Array (Option Value)), Vals zs its2 → s.heap.get? b = some { cls := .type T, dict := dd, data := .seq its2.toArray n2, slots := sl } → wpAny (model X.prog X.w) X.A (call (.builtin "list.extend") [.ref l, .ref b]) (EP X pins σ Q) X.xe s := by
    intro T hT its2 n2 dd sl r2 e2
    have hl2 := r2.length
    have hsz : its.toArray.size + its2.toArray.size ≤ sizeLine := by rw [List.size_toArray, List.size_toArray]; omega
    have hlong : ¬ (!its.toArray.isEmpty && Builtin.List.listTooLong (its.toArray.size + its2.toArray.size)) = true := by
      rw [notLongL hsz, Bool.and_false]
      exact Bool.false_ne_true
    refine call_meets PySem.F.slot_list_extend ⟨_, e, rfl⟩ PySem.F.entry_list_extend (PySem.F.args_list_extend_2 _ _) (meets_extend T hT l its.toArray n b its2.toArray n2 dd sl hlong (by rw [List.size_toArray]; omega) (by omega)) ⟨e, e2, ?_⟩
    refine ⟨.non, _, I.lset (its' := its ++ its2) hH e (by simp) (r.append r2) ?_, rfl, q⟩
    rw [List.length_append]
    omega
  rcases hB with hB | hB
  · obtain ⟨its2, r2, p, hz2⟩ := I.list hB
    obtain ⟨⟨c, dd, dt, sl⟩, e2, hc, n2, hd⟩ := p.isList
    dsimp only at hc hd
    subst hc hd
    exact key "list" (.inl rfl) its2 n2 dd sl r2 e2
  · obtain ⟨its2, r2, ⟨⟨c, dd, dt, sl⟩, e2, hc, n2, hd⟩, hz2⟩ := I.tuple hB
    dsimp only at hc hd
    subst hc hd
    exact key "tuple" (.inr rfl) its2 n2 dd sl r2 e2
def lExtend (x : D) (ds : List D) (s : Sto) : Rs D := match x, ds with
  | .ref n, [d] => match s[n]?, seqD s d with
    | some (.lst xs), some ys => if xs.length + ys.length ≤ sizeLine then .ok .non (s.set n (.lst (xs ++ ys))) else .no
    | _, _ => .no
  | _, _ => .no
theorem pm_extend : PrM X W lExtend (rExtA X.K) := by
  intro ρ s H σ x ds vx vs Q sr rx rv po
  unfold lExtend at po
  split at po
  · rename_i n d
    split at po
    · rename_i xs ys h1 h2
      obtain ⟨hl, po⟩ := Po.ite po
      rw [VR] at rx
      obtain ⟨hn, rfl⟩ := rx
      obtain ⟨v, rfl, rv1⟩ := rv.one
      obtain ⟨ws, hw, rw1⟩ := sr.ob _ _ h1
      obtain ⟨b, us, rfl, sq, ru⟩ := vr_seq sr rv1 (xs := ys) (by unfold seqD at h2; cases d <;> first | exact h2 | cases h2)
      have e1 := rw1.length
      have e2 := ru.length
      refine ⟨ρ n, b, ws, us, rfl, rfl, hw, sq, by omega, ?_⟩
      have ext : Ext ρ s.length H ρ s.length (upd H (ρ n) (.lst (ws ++ us))) := Ext.write (sr.ob _ _ h1) rfl
      refine po ρ _ .non (by rw [List.length_set]; exact ext) (sr.write h1 rfl rfl ⟨_, upd_same, (rw1.append ru).mono ext⟩) ?_
      rw [VR]
    · exact po.elim
  · exact po.elim
/-! ### texts in their order -/
def dLtS (x y : D) (s : Sto) : Rs D := match x, y with
  | .str a, .str b => .ok (.bl (decide (a.cps.toList < b.cps.toList))) s
  | _, _ => dLt x y s
theorem opd_ltS : OpD X W (compareOp .Lt) dLtS := by
  intro pins s σ H ρ st x y vx vy ux uy Q I sr rx ry e1 e2 po
  unfold dLtS at po
  split at po
  · rename_i a b
    obtain rfl : vx = .str a := rx
    obtain rfl : vy = .str b := ry
    exact op_lt_str pins s σ H _ _ ux uy Q I e1 e2 ⟨a, b, rfl, rfl, po ρ H (.bl _) Ext.refl sr (by rw [VR])⟩
  · exact OpD.of op_lt pr_lt pins s σ H ρ st x y vx vy ux uy Q I sr rx ry e1 e2 po
end
end Z

set_option Elab.async false
set_option linter.all false
set_option maxRecDepth 100000
set_option maxHeartbeats 4000000
namespace Z
open PySem PySem.Spec PyProof.Rows L2
/-! ### dicts: keys ints and texts -/
def getK (kvs : List (D × D)) (k : Key) : Option D := (kvs.find? fun p => decide (keyD p.1 = some k)).map (·.2)
def putKd (kvs : List (D × D)) (d : D) (k : Key) (v : D) : List (D × D) :=
  if (kvs.any fun p => decide (keyD p.1 = some k)) = true then kvs.map (fun p => if keyD p.1 = some k then (p.1, v) else p) else kvs ++ [(d, v)]
def mDN : EM D := fun _ s => .ok (.ref s.length) (s ++ [.dict false []])
def dctAt (s : Sto) (n : Nat) : Option (List (D × D)) := match s[n]? with
  | some (.dict false kvs) => some kvs
  | some (.lck false kvs) => some kvs
  | _ => none
def dGetD (x y : D) (s : Sto) : Rs D := match x, keyD y with
  | .ref n, some k => match dctAt s n with
    | some kvs => match getK kvs k with | some v => .ok v s | none => .no
    | none => .no
  | _, _ => .no
def dInD (neg : Bool) (y x : D) (s : Sto) : Rs D := match x, keyD y with
  | .ref n, some k => match dctAt s n with
    | some kvs => .ok (.bl (neg ^^ (getK kvs k).isSome)) s
    | none => .no
  | _, _ => .no
def dGet2 (x y z : D) (s : Sto) : Rs D := match x, keyD y with
  | .ref n, some k => match dctAt s n with
    | some kvs => .ok ((getK kvs k).getD z) s
    | none => .no
  | _, _ => .no
def m3 (f : D → D → D → Sto → Rs D) (ma mb mc : EM D) : EM D := fun env s => (ma env s).bind fun x s1 => (mb env s1).bind fun y s2 => (mc env s2).bind fun z s3 => f x y z s3
def xSetD (o i x : D) (s : Sto) : Option Sto := match o, keyD i with
  | .ref n, some k => match s[n]? with
    | some (.dict false kvs) => if kvs.length < sizeLine then some (s.set n (.dict false (putKd kvs i k x))) else none
    | _ => none
  | _, _ => none
/-! the walk over the keys, the pairs: the dict is locked -/
def jKey (n : Nat) : Stp := fun i s => match s[n]? with
  | some (.lck false kvs) => some ((kvs[i]?).map (·.1))
  | _ => none
def jItm (n : Nat) : Stp := fun i s => match s[n]? with
  | some (.lck false kvs) => some ((kvs[i]?).map fun p => .tup [p.1, p.2])
  | _ => none
def iKy (j : Nat → Stp) (m : EM D) : EM (Nat × Stp) := fun e s => (m e s).bind fun d s1 => match d with
  | .ref n => match s1[n]? with
    | some (.lck false kvs) => .ok (kvs.length, j n) s1
    | _ => .no
  | _ => .no
def unlS (n : Nat) (s : Sto) : Option Sto := match s[n]? with
  | some (.lck false kvs) => some (s.set n (.dict false kvs))
  | _ => none
def RS.unl (n : Nat) (r : RS) : RS := match r with
  | .nx e s => match unlS n s with | some s' => .nx e s' | none => .no
  | .rt d s => match unlS n s with | some s' => .rt d s' | none => .no
  | .bk e s => match unlS n s with | some s' => .bk e s' | none => .no
  | .ct e s => match unlS n s with | some s' => .ct e s' | none => .no
  | .ex c f v e s => .ex c f v e s
  | .no => .no
/-- a loop over a dict: it is locked meanwhile -/
def sLk (m : EM D) (b : SM) : SM := fun e s => match m e s with
  | .ok (.ref n) _ => match s[n]? with
    | some (.dict false kvs) => (b e (s.set n (.lck false kvs))).unl n
    | _ => .no
  | _ => .no
variable [Row]
section
variable {K : PySem.W.Frag} {mg : Str → Option Value} {ρ : Nat → Addr} {n : Nat} {H : Hp}
theorem keyD_vr {d : D} {k : Key} (h : keyD d = some k) {v : V} (r : VR K ρ n H d v) : v = kV k := by
  unfold keyD at h
  split at h
  · cases h
    exact r
  · cases h
    exact r
  · cases h
theorem vr_keyD {d : D} {k : Key} (h : keyD d = some k) : VR K ρ n H d (kV k) := by
  unfold keyD at h
  split at h
  · cases h
    rw [VR]
    rfl
  · cases h
    rw [VR]
    rfl
  · cases h
theorem KR.len {κ : Type} {key : D → Option κ} : ∀ {kvs : List (D × D)} {vs : List (κ × V)}, KR key K ρ n H kvs vs → vs.length = kvs.length
  | [], _, h => by
    have h : _ = ([] : List (κ × V)) := h
    rw [h] <;> rfl
  | _ :: _, _, ⟨k, v, r, e, _, _, t⟩ => by rw [e, List.length_cons, List.length_cons, KR.len t]
theorem KR.at {κ : Type} {key : D → Option κ} : ∀ {kvs : List (D × D)} {vs : List (κ × V)} {i : Nat} {p : D × D}, KR key K ρ n H kvs vs → kvs[i]? = some p → ∃ k v, vs[i]? = some (k, v) ∧ key p.1 = some k ∧ VR K ρ n H p.2 v
  | [], _, _, _, _, h => by simp at h
  | q :: _, _, 0, p, ⟨k, v, r, e, h1, h2, t⟩, h => by
    simp at h
    subst h e
    exact ⟨k, v, rfl, h1, h2⟩
  | q :: qs, _, i + 1, p, ⟨k, v, r, e, h1, h2, t⟩, h => by
    subst e
    simp at h
    obtain ⟨k', v', a, b, c⟩ := KR.at t h
    exact ⟨k', v', by simpa using a, b, c⟩
theorem KR.val {k : Key} : ∀ {kvs : List (D × D)} {vs : List (Key × V)}, KR keyD K ρ n H kvs vs → match getK kvs k with | some d => ∃ v, valV vs k = some v ∧ VR K ρ n H d v | none => valV vs k = none
  | [], _, h => by
    have h : _ = ([] : List (Key × V)) := h
    subst h
    rfl
  | q :: qs, _, ⟨j, v, r, e, h1, h2, t⟩ => by
    subst e
    unfold getK
    rw [List.find?_cons]
    by_cases hk : j = k
    · rw [show decide (keyD q.1 = some k) = true from by rw [h1, hk]; simp]
      exact ⟨v, valV_pos hk, h2⟩
    · rw [show decide (keyD q.1 = some k) = false from by rw [h1]; simp [hk]]
      rw [valV_neg (p := (j, v)) hk]
      exact KR.val t
theorem KR.any {k : Key} : ∀ {kvs : List (D × D)} {vs : List (Key × V)}, KR keyD K ρ n H kvs vs → (kvs.any fun p => decide (keyD p.1 = some k)) = vs.any fun kv => decide (kv.1 = k)
  | [], _, h => by
    have h : _ = ([] : List (Key × V)) := h
    subst h
    rfl
  | q :: qs, _, ⟨j, v, r, e, h1, h2, t⟩ => by
    subst e
    rw [List.any_cons, List.any_cons, KR.any t, h1]
    by_cases hk : j = k <;> simp [hk]
theorem KR.snoc {d x : D} {k : Key} {vx : V} (hk : keyD d = some k) (hx : VR K ρ n H x vx) : ∀ {kvs : List (D × D)} {vs : List (Key × V)}, KR keyD K ρ n H kvs vs → KR keyD K ρ n H (kvs ++ [(d, x)]) (vs ++ [(k, vx)])
  | [], _, h => by
    have h : _ = ([] : List (Key × V)) := h
    subst h
    exact ⟨k, vx, [], rfl, hk, hx, rfl⟩
  | q :: qs, _, ⟨j, v, r, e, h1, h2, t⟩ => by
    subst e
    exact ⟨j, v, _, rfl, h1, h2, KR.snoc hk hx t⟩
theorem KR.mapk {x : D} {k : Key} {vx : V} (hx : VR K ρ n H x vx) : ∀ {kvs : List (D × D)} {vs : List (Key × V)}, KR keyD K ρ n H kvs vs → KR keyD K ρ n H (kvs.map fun p => if keyD p.1 = some k then (p.1, x) else p) (vs.map fun kv => if kv.1 = k then (kv.1, vx) else kv)
  | [], _, h => by
    have h : _ = ([] : List (Key × V)) := h
    subst h
    rfl
  | q :: qs, _, ⟨j, v, r, e, h1, h2, t⟩ => by
    subst e
    rw [List.map_cons, List.map_cons]
    by_cases hk : j = k
    · rw [if_pos (show keyD q.1 = some k by rw [h1, hk]), if_pos hk]
      exact ⟨j, vx, _, rfl, h1, hx, KR.mapk hx t⟩
    · rw [if_neg (show ¬ keyD q.1 = some k by rw [h1]; simp [hk]), if_neg hk]
      exact ⟨j, v, _, rfl, h1, h2, KR.mapk hx t⟩
theorem KR.put {d x : D} {k : Key} {vx : V} (hk : keyD d = some k) (hx : VR K ρ n H x vx) {kvs : List (D × D)} {vs : List (Key × V)} (r : KR keyD K ρ n H kvs vs) : KR keyD K ρ n H (putKd kvs d k x) (putK vs k vx) := by
  unfold putKd putK
  rw [r.any]
  split
  · exact r.mapk hx
  · exact r.snoc hk hx
/-- a dict that is read -/
theorem SR.dct {s : Sto} (sr : SR K mg ρ s H) {m : Nat} {kvs : List (D × D)} (h : dctAt s m = some kvs) : ∃ vs, Rd H (ρ m) (.dK vs) ∧ KR keyD K ρ s.length H kvs vs := by
  unfold dctAt at h
  split at h
  · rename_i k e
    cases h
    obtain ⟨vs, h1, h2⟩ := sr.ob _ _ e
    exact ⟨vs, .inl h1, h2⟩
  · rename_i k e
    cases h
    obtain ⟨od, vs, h1, h2⟩ := sr.ob _ _ e
    exact ⟨vs, .inr ⟨od, h1⟩, h2⟩
  · cases h
end
section
variable {X : Cx} {W : WX} {pos apos cpos : Pos} {o e f i y : Expr} {mo me mf ma mb : EM D}
theorem je_dnew : JE X W (.Dict [] [] pos) mDN := PE_imp pe_dnewK fun σ H Q ⟨ρ, env, s, sr, er, po⟩ => fun p hp => by
  have st : ∀ b o, H b = some o → upd H p (.dK []) b = some o := fun b o e => by rw [upd_ne (ne_of_none e hp)]; exact e
  have w := sr.alloc (o := .dict false []) hp st ⟨[], upd_same, rfl⟩
  have len : (s ++ [SO.dict false []]).length = s.length + 1 := by rw [List.length_append] <;> rfl
  refine po _ _ _ (by rw [len]; exact Ext.alloc st) w ?_
  rw [VR, len]
  exact ⟨Nat.lt_succ_self _, by rw [ρup_same]⟩
theorem dget_of {ρ : Nat → Addr} {s : Sto} {H : Hp} (sr : SR X.K X.mg ρ s H) {n : Nat} {kvs : List (D × D)} {k : Key} (h : dctAt s n = some kvs) : match getK kvs k with | some d => ∃ v, DGet H (ρ n) (kV k) (some v) ∧ VR X.K ρ s.length H d v | none => DGet H (ρ n) (kV k) none := by
  obtain ⟨vs, h1, h2⟩ := sr.dct h
  have hv := h2.val (k := k)
  split
  · rename_i d hd
    rw [hd] at hv
    obtain ⟨v, e1, e2⟩ := hv
    exact ⟨v, .inl ⟨vs, k, h1, rfl, e1.symm⟩, e2⟩
  · rename_i hd
    rw [hd] at hv
    exact .inl ⟨vs, k, h1, rfl, hv.symm⟩
theorem je_dget (hu : X.A.units + 1 < cLine) (ha : JE X W o ma) (hb : JE X W i mb) (hs : NoSl i := by exact fun _ _ => rfl) : JE X W (.Subscript o i pos) (m2 dGetD ma mb) :=
  PE_imp (pe_dget hu ha hb hs) fun σ H Q ⟨ρ, env, s, sr, er, po⟩ => ⟨ρ, env, s, sr, er, (Po.bind po).imp fun v H1 ⟨ρ1, s1, d1, e1, sr1, r1, po1⟩ => ⟨ρ1, env, s1, sr1, er.mono e1, (Po.bind po1).imp fun v2 H2 ⟨ρ2, s2, d2, e2, sr2, r2, po2⟩ => by
    unfold dGetD at po2
    have r1' := r1.mono e2
    cases d1 with
    | ref n =>
      cases hk : keyD d2 with
      | none => rw [hk] at po2; exact po2.elim
      | some k =>
        rw [hk] at po2
        dsimp only at po2
        split at po2
        · rename_i kvs hd
          have hg := dget_of sr2 (k := k) hd
          split at po2
          · rename_i d hv
            rw [hv] at hg
            obtain ⟨w, g, rw1⟩ := hg
            rw [VR] at r1'
            obtain ⟨_, rfl⟩ := r1'
            rw [keyD_vr hk r2]
            exact ⟨ρ2 n, w, rfl, g, po2 ρ2 H2 w Ext.refl sr2 rw1⟩
          · exact po2.elim
        · exact po2.elim
    | _ => exact po2.elim⟩⟩
theorem je_dget2 (hu : X.A.units + 1 < cLine) (ho : JE X W o mo) (he : JE X W e me) (hf : JE X W f mf) (m : M2 X o "get" apos e f cpos) (hro : True := trivial) :
    JE X W (.Call (.Attribute o "get" apos) [e, f] [] cpos) (fun env s => (mo env s).bind fun x s1 => match x with | .ref n => (match dctAt s1 n with | some _ => (me env s1).bind fun y s2 => (mf env s2).bind fun z s3 => dGet2 x y z s3 | none => .no) | _ => .no) :=
  PE_imp (pe_dget2 hu ho he hf m) fun σ H Q ⟨ρ, env, s, sr, er, po⟩ => ⟨ρ, env, s, sr, er, (Po.bind po).imp fun v H1 ⟨ρ1, s1, d1, e1, sr1, r1, po1⟩ => by
    dsimp only at po1
    split at po1
    · rename_i n
      split at po1
      · rename_i kvs0 hd0
        have r1' := r1
        rw [VR] at r1
        obtain ⟨hn, rfl⟩ := r1
        obtain ⟨vs0, h0, _⟩ := sr1.dct hd0
        refine ⟨ρ1 n, rfl, .inl ⟨vs0, h0⟩, ρ1, env, s1, sr1, er.mono e1, (Po.bind po1).imp fun v2 H2 ⟨ρ2, s2, d2, e2, sr2, r2, po2⟩ => ⟨ρ2, env, s2, sr2, (er.mono e1).mono e2, (Po.bind po2).imp fun v3 H3 ⟨ρ3, s3, d3, e3, sr3, r3, po3⟩ => ?_⟩⟩
        unfold dGet2 at po3
        cases hk : keyD d2 with
        | none => rw [hk] at po3; exact po3.elim
        | some k =>
          rw [hk] at po3
          dsimp only at po3
          split at po3
          · rename_i kvs hd
            have hg := dget_of sr3 (k := k) hd
            have ea : ρ3 n = ρ1 n := by rw [e3.ag n (e2.lt hn), e2.ag n hn]
            rw [keyD_vr hk r2, ← ea]
            cases hv : getK kvs k with
            | none =>
              rw [hv] at hg po3
              exact ⟨none, hg, po3 ρ3 H3 v3 Ext.refl sr3 r3⟩
            | some d =>
              rw [hv] at hg po3
              obtain ⟨w, g, rw1⟩ := hg
              exact ⟨some w, g, po3 ρ3 H3 w Ext.refl sr3 rw1⟩
          · exact po3.elim
      · exact po1.elim
    · exact po1.elim⟩
theorem ld_in {neg : Bool} {t : TE} (ht : ∀ σ H Q, (lE X.K X.mg W me σ H fun y H1 => lE X.K X.mg W mo σ H1 fun x H2 => ∃ a ov, x = .ref a ∧ DGet H2 a y ov ∧ Q (.bl (neg ^^ ov.isSome)) H2) → t σ H Q) {σ : L2.St} {H : Hp} {Q : VK} (h : lE X.K X.mg W (m2 (dInD neg) me mo) σ H Q) : t σ H Q := by
  obtain ⟨ρ, env, s, sr, er, po⟩ := h
  refine ht σ H Q ⟨ρ, env, s, sr, er, (Po.bind po).imp fun v H1 ⟨ρ1, s1, d1, e1, sr1, r1, po1⟩ => ⟨ρ1, env, s1, sr1, er.mono e1, (Po.bind po1).imp fun v2 H2 ⟨ρ2, s2, d2, e2, sr2, r2, po2⟩ => ?_⟩⟩
  unfold dInD at po2
  dsimp only at po2
  split at po2
  · rename_i n k hk
    split at po2
    · rename_i kvs hd
      have hg := dget_of sr2 (k := k) hd
      rw [VR] at r2
      obtain ⟨_, rfl⟩ := r2
      rw [keyD_vr hk (r1.mono e2)]
      cases hv : getK kvs k with
      | none =>
        rw [hv] at hg po2
        exact ⟨_, none, rfl, hg, po2 ρ2 H2 _ Ext.refl sr2 (by rw [VR]; rfl)⟩
      | some d =>
        rw [hv] at hg po2
        obtain ⟨w, g, _⟩ := hg
        exact ⟨_, some w, rfl, g, po2 ρ2 H2 _ Ext.refl sr2 (by rw [VR]; rfl)⟩
    · exact po2.elim
  · exact po2.elim
theorem je_din (hu : X.A.units + 1 < cLine) (he : JE X W e me) (ho : JE X W o mo) (hm : behindInMarks .In o = false) : JE X W (.Compare e [.In] [o] pos) (m2 (dInD false) me mo) :=
  PE_imp (pe_cmp (pc_din hu he ho) hm) fun _ _ _ h => ld_in (neg := false) (fun σ H Q q => by simpa [tDIn, tDNotIn] using q) h
theorem je_dnotin (hu : X.A.units + 1 < cLine) (he : JE X W e me) (ho : JE X W o mo) (hm : behindInMarks .NotIn o = false) : JE X W (.Compare e [.NotIn] [o] pos) (m2 (dInD true) me mo) :=
  PE_imp (pe_cmp (pc_dnotin hu he ho) hm) fun _ _ _ h => ld_in (neg := true) (fun σ H Q q => by simpa [tDIn, tDNotIn] using q) h
theorem jt_din (hu : X.A.units + 1 < cLine) (he : JE X W e me) (ho : JE X W o mo) (hm : behindInMarks .In o = false) : JT X W (.Compare e [.In] [o] pos) (toB (m2 (dInD false) me mo)) :=
  PT_imp (pt_cmp (pc_din hu he ho) hm) fun _ _ _ h => ltoB (t := tDIn (lE X.K X.mg W me) (lE X.K X.mg W mo)) (fun _ q => ld_in (neg := false) (fun σ H Q q => by simpa [tDIn, tDNotIn] using q) q) h
theorem jt_dnotin (hu : X.A.units + 1 < cLine) (he : JE X W e me) (ho : JE X W o mo) (hm : behindInMarks .NotIn o = false) : JT X W (.Compare e [.NotIn] [o] pos) (toB (m2 (dInD true) me mo)) :=
  PT_imp (pt_cmp (pc_dnotin hu he ho) hm) fun _ _ _ h => ltoB (t := tDNotIn (lE X.K X.mg W me) (lE X.K X.mg W mo)) (fun _ q => ld_in (neg := true) (fun σ H Q q => by simpa [tDIn, tDNotIn] using q) q) h
theorem px_setD : PrSet X xSetD rSetD := by
  intro ρ s s' H o i x vo vi vx Q sr ro ri rx e q
  unfold xSetD at e
  split at e
  · rename_i n k hk
    split at e
    · rename_i kvs hs
      split at e
      · rename_i hl
        cases e
        rw [VR] at ro
        obtain ⟨hn, rfl⟩ := ro
        rw [keyD_vr hk ri]
        obtain ⟨vs, h1, h2⟩ := sr.ob _ _ hs
        have ext : Ext ρ s.length H ρ s.length (upd H (ρ n) (.dK (putK vs k vx))) := Ext.write (sr.ob _ _ hs) rfl
        refine ⟨ρ n, _, rfl, .inl ⟨vs, k, h1, rfl, by rw [h2.len]; exact hl, rfl⟩, ?_⟩
        exact q ρ _ (by rw [List.length_set]; exact ext) (sr.write hs rfl rfl ⟨_, upd_same, (h2.put hk rx).mono ext⟩)
      · cases e
    · cases e
  · cases e
end
end Z

set_option Elab.async false
set_option linter.all false
set_option maxRecDepth 100000
set_option maxHeartbeats 4000000
namespace Z
open PySem PySem.Spec PyProof.Rows L2
variable [Row]
section
variable {X : Cx} {W : WX} {pos apos cpos : Pos} {tg e : Expr} {m : EM D} {st : Stmt} {b : SM}
theorem lck_at {s : Sto} {n : Nat} {kvs : List (D × D)} {ρ : Nat → Addr} {H : Hp} (sr : SR X.K X.mg ρ s H) (h : s[n]? = some (.lck false kvs)) : ∃ od vs, H (ρ n) = some (.frz od (.dK vs)) ∧ KR keyD X.K ρ s.length H kvs vs := sr.ob _ _ h
theorem ri_key {ρ : Nat → Addr} {n m : Nat} {H : Hp} {N : Nat} {od : Obj} {vs : List (Key × V)} (hm : m < n) (hH : H (ρ m) = some (.frz od (.dK vs))) : RI X.K X.mg ρ n H (N, jKey m) (Itk (ρ m) od vs) := by
  intro ρ' s' H' i ext sr
  dsimp only
  unfold jKey
  split
  · trivial
  · rename_i h
    split at h
    · rename_i kvs hs
      obtain ⟨od', vs', h1, h2⟩ := lck_at sr hs
      rw [ext.ag m hm, ext.fz _ _ _ hH] at h1
      cases h1
      refine ⟨ext.fz _ _ _ hH, ?_⟩
      cases hk : kvs[i]? with
      | none =>
        have := h2.len
        have := List.getElem?_eq_none_iff.mp hk
        omega
      | some p => rw [hk] at h; cases h
    · cases h
  · rename_i d h
    split at h
    · rename_i kvs hs
      obtain ⟨od', vs', h1, h2⟩ := lck_at sr hs
      rw [ext.ag m hm, ext.fz _ _ _ hH] at h1
      cases h1
      cases hk : kvs[i]? with
      | none => rw [hk] at h; cases h
      | some p =>
        rw [hk] at h
        cases h
        obtain ⟨k, v, e1, e2, e3⟩ := h2.at hk
        refine ⟨⟨ext.fz _ _ _ hH, (List.getElem?_eq_some_iff.mp e1).1⟩, fun x H'' ⟨eH, k', v', e1', ex⟩ => ?_⟩
        rw [e1] at e1'
        cases e1'
        subst eH ex
        exact ⟨Ext.refl, sr, vr_keyD e2⟩
    · cases h
theorem ri_itm {ρ : Nat → Addr} {n m : Nat} {H : Hp} {N : Nat} {od : Obj} {vs : List (Key × V)} (hm : m < n) (hH : H (ρ m) = some (.frz od (.dK vs))) : RI X.K X.mg ρ n H (N, jItm m) (Iti (ρ m) od vs) := by
  intro ρ' s' H' i ext sr
  dsimp only
  unfold jItm
  split
  · trivial
  · rename_i h
    split at h
    · rename_i kvs hs
      obtain ⟨od', vs', h1, h2⟩ := lck_at sr hs
      rw [ext.ag m hm, ext.fz _ _ _ hH] at h1
      cases h1
      refine ⟨ext.fz _ _ _ hH, ?_⟩
      cases hk : kvs[i]? with
      | none =>
        have := h2.len
        have := List.getElem?_eq_none_iff.mp hk
        omega
      | some p => rw [hk] at h; cases h
    · cases h
  · rename_i d h
    split at h
    · rename_i kvs hs
      obtain ⟨od', vs', h1, h2⟩ := lck_at sr hs
      rw [ext.ag m hm, ext.fz _ _ _ hH] at h1
      cases h1
      cases hk : kvs[i]? with
      | none => rw [hk] at h; cases h
      | some p =>
        rw [hk] at h
        cases h
        obtain ⟨k, v, e1, e2, e3⟩ := h2.at hk
        refine ⟨⟨ext.fz _ _ _ hH, (List.getElem?_eq_some_iff.mp e1).1⟩, fun x H'' ⟨T, k', v', e1', ex, hT, eH⟩ => ?_⟩
        rw [e1] at e1'
        cases e1'
        subst eH ex
        obtain ⟨x1, x2, x3⟩ := new_tup (ds := [p.1, p.2]) (vs := [kV k, v]) sr hT (VRs.cons (vr_keyD e2) (VRs.cons e3 VRs.nil))
        exact ⟨x1, x2, x3⟩
    · cases h
theorem ji_keys (he : JE X W e m) : JI X W tg e (iKy jKey m) := PI_imp (pi_keys he) fun σ H Q ⟨ρ, env, s, sr, er, po⟩ => ⟨ρ, env, s, sr, er, (Po.bind po).imp fun v H1 ⟨ρ1, s1, d1, e1, sr1, r1, po1⟩ => by
  dsimp only at po1
  cases d1 with
  | ref n =>
    rw [VR] at r1
    obtain ⟨hn, rfl⟩ := r1
    dsimp only at po1
    split at po1
    · rename_i kvs hs
      obtain ⟨od, vs, h1, h2⟩ := lck_at sr1 hs
      exact ⟨ρ1 n, od, rfl, .inl ⟨vs, h1, po1 ρ1 H1 _ Ext.refl sr1 (ri_key hn h1)⟩⟩
    · exact po1.elim
  | _ => exact po1.elim⟩
theorem ji_items {elts : List Expr} {kk : Nat} {tpos : Pos} (he : JE X W e m) (hbase : attributeBase e "items" X.env (eval e X.env) = eval e X.env := by rfl) (hline : (apos.endLine == cpos.line) = true := by rfl) :
    JI X W (.Tuple elts kk tpos) (.Call (.Attribute e "items" apos) [] [] cpos) (iKy jItm m) := PI_imp (pi_items he hbase hline) fun σ H Q ⟨ρ, env, s, sr, er, po⟩ => ⟨ρ, env, s, sr, er, (Po.bind po).imp fun v H1 ⟨ρ1, s1, d1, e1, sr1, r1, po1⟩ => by
  dsimp only at po1
  cases d1 with
  | ref n =>
    rw [VR] at r1
    obtain ⟨hn, rfl⟩ := r1
    dsimp only at po1
    split at po1
    · rename_i kvs hs
      obtain ⟨od, vs, h1, h2⟩ := lck_at sr1 hs
      exact ⟨ρ1 n, od, vs, rfl, h1, po1 ρ1 H1 _ Ext.refl sr1 (ri_itm hn h1)⟩
    · exact po1.elim
  | _ => exact po1.elim⟩
/-! ### locking -/
theorem lock_sr {ρ : Nat → Addr} {s : Sto} {H : Hp} {n : Nat} {kvs : List (D × D)} {vs : List (Key × V)} {od : Obj} (sr : SR X.K X.mg ρ s H) (hs : s[n]? = some (.dict false kvs)) (hH : H (ρ n) = some (.dK vs)) (hk : KR keyD X.K ρ s.length H kvs vs) :
    SR X.K X.mg ρ (s.set n (.lck false kvs)) (upd H (ρ n) (.frz od (.dK vs))) ∧ Ext ρ s.length H ρ s.length (upd H (ρ n) (.frz od (.dK vs))) := by
  have ext : Ext ρ s.length H ρ s.length (upd H (ρ n) (.frz od (.dK vs))) := Ext.write (sr.ob _ _ hs) rfl
  exact ⟨sr.write hs rfl rfl ⟨od, vs, upd_same, hk.mono ext⟩, ext⟩
theorem unlock_sr {ρ : Nat → Addr} {s : Sto} {H : Hp} {n : Nat} {kvs : List (D × D)} {vs : List (Key × V)} {od : Obj} (sr : SR X.K X.mg ρ s H) (hs : s[n]? = some (.lck false kvs)) (hH : H (ρ n) = some (.frz od (.dK vs))) :
    SR X.K X.mg ρ (s.set n (.dict false kvs)) (upd H (ρ n) (.dK vs)) ∧ ∀ a us, SqT X.K H a us → SqT X.K (upd H (ρ n) (.dK vs)) a us := by
  obtain ⟨od', vs', h1, h2⟩ := lck_at sr hs
  rw [hH] at h1
  cases h1
  have tp : ∀ a us, SqT X.K H a us → SqT X.K (upd H (ρ n) (.dK vs)) a us := fun a us r => by
    refine r.elim (fun r => .inl ?_) .inr
    rcases r with r | ⟨ob, r⟩
    · refine .inl ?_
      rw [upd_ne]
      · exact r
      · intro z
        rw [z, hH] at r
        cases r
    · refine .inr ⟨ob, ?_⟩
      rw [upd_ne]
      · exact r
      · intro z
        rw [z, hH] at r
        cases r
  exact ⟨sr.put hs rfl rfl ⟨vs, upd_same, h2.tp tp⟩, tp⟩
/-- from the outer world to the unlocked one behind the locked one -/
theorem ext_unl {ρ ρ' : Nat → Addr} {n n' j : Nat} {H H' : Hp} {vs : List (Key × V)} {od : Obj} (hH : H (ρ j) = some (.dK vs)) (hj : j < n) (e : Ext ρ n (upd H (ρ j) (.frz od (.dK vs))) ρ' n' H') (h' : H' (ρ' j) = some (.frz od (.dK vs))) :
    Ext ρ n H ρ' n' (upd H' (ρ' j) (.dK vs)) := by
  have ea : ρ' j = ρ j := e.ag j hj
  rw [ea] at h' ⊢
  have ne : ∀ {a : Addr} {u : HO}, H a = some u → u ≠ .dK vs → a ≠ ρ j := fun {a u} h z q => by
    rw [q, hH] at h
    exact z (Option.some.inj h).symm
  refine ⟨e.le, e.ag, fun a us r => ?_, fun a o k r => ?_, fun a o k r => ?_⟩
  · have r0 : Rd (upd H (ρ j) (.frz od (.dK vs))) a (.tup us) := by
      rcases r with r | ⟨ob, r⟩
      · refine .inl ?_
        rw [upd_ne (ne r fun z => nomatch z)]
        exact r
      · refine .inr ⟨ob, ?_⟩
        rw [upd_ne (ne r fun z => nomatch z)]
        exact r
    have r1 := e.tp a us r0
    rcases r1 with r1 | ⟨ob, r1⟩
    · refine .inl ?_
      rw [upd_ne]
      · exact r1
      · intro z
        rw [z, h'] at r1
        cases r1
    · refine .inr ⟨ob, ?_⟩
      rw [upd_ne]
      · exact r1
      · intro z
        rw [z, h'] at r1
        cases r1
  · have na := ne r fun z => nomatch z
    have := e.fz a o k (by rw [upd_ne na]; exact r)
    rw [upd_ne na]
    exact this
  · have na := ne r fun z => nomatch z
    have := e.fzT a o k (by rw [upd_ne na]; exact r)
    rw [upd_ne na]
    exact this
theorem unlS_some {n : Nat} {s s' : Sto} (h : unlS n s = some s') : ∃ kvs, s[n]? = some (.lck false kvs) ∧ s' = s.set n (.dict false kvs) := by
  unfold unlS at h
  split at h
  · rename_i kvs e
    cases h
    exact ⟨kvs, e, rfl⟩
  · cases h
/-- a statement that runs while the dict that m tells is locked -/
theorem js_lk (hb : JS X W st b) : JS X W st (sLk m b) := by
  refine PS_imp (ps_lock hb) fun σ H D ⟨ρ, env, s, sr, er, po⟩ => ?_
  unfold sLk at po
  split at po
  · rename_i n s9 hm
    split at po
    · rename_i kvs hs
      obtain ⟨vs, hH, hk⟩ := sr.ob _ _ hs
      have hn : n < s.length := (List.getElem?_eq_some_iff.mp hs).1
      refine ⟨ρ n, .dK vs, hH, trivial, fun od => ?_⟩
      obtain ⟨sr1, ext1⟩ := lock_sr (od := od) sr hs hH hk
      refine ⟨ρ, env, _, sr1, by rw [List.length_set]; exact er.mono ext1, ?_⟩
      -- what each end asks
      have back : ∀ {ρ' : Nat → Addr} {s1 s2 : Sto} {H' : Hp}, unlS n s1 = some s2 → Ext ρ (s.set n (.lck false kvs)).length (upd H (ρ n) (.frz od (.dK vs))) ρ' s1.length H' → SR X.K X.mg ρ' s1 H' →
          H' (ρ n) = some (.frz od (.dK vs)) ∧ SR X.K X.mg ρ' s2 (upd H' (ρ n) (.dK vs)) ∧ Ext ρ s.length H ρ' s2.length (upd H' (ρ n) (.dK vs)) ∧ s2.length = s1.length ∧ ∀ a us, SqT X.K H' a us → SqT X.K (upd H' (ρ n) (.dK vs)) a us := by
        intro ρ' s1 s2 H' hu e2 sr2
        rw [List.length_set] at e2
        obtain ⟨kvs', h1, rfl⟩ := unlS_some hu
        have ea : ρ' n = ρ n := e2.ag n hn
        have hfz : H' (ρ n) = some (.frz od (.dK vs)) := e2.fz _ _ _ upd_same
        obtain ⟨a, bb⟩ := unlock_sr (vs := vs) (od := od) sr2 h1 (by rw [ea]; exact hfz)
        rw [ea] at a bb
        have := ext_unl (ρ' := ρ') (n' := s1.length) hH hn e2 (by rw [ea]; exact hfz)
        rw [ea] at this
        exact ⟨hfz, a, by rw [List.length_set]; exact this, by rw [List.length_set], bb⟩
      have ertp : ∀ {ρ' : Nat → Addr} {N : Nat} {H1 H2 : Hp} {ev : Ev} {σ' : L2.St}, (∀ a us, SqT X.K H1 a us → SqT X.K H2 a us) → EnvR X.K ρ' N H1 ev σ' → EnvR X.K ρ' N H2 ev σ' := fun tp h => ⟨h.1, fun i d q => let ⟨v, e1, r⟩ := h.2 i d q; ⟨v, e1, r.tp tp⟩⟩
      have po2 := po
      clear po
      revert po2
      cases b env (s.set n (.lck false kvs)) with
      | nx e1 s1 =>
        intro po2 ρ' H' σ' e2 sr2 er2
        unfold RS.unl at po2
        dsimp only at po2
        split at po2
        · rename_i s2 hu
          obtain ⟨z1, z2, z3, z4, z5⟩ := back hu e2 sr2
          exact ⟨z1, po2 ρ' _ σ' z3 z2 (by rw [z4]; exact ertp z5 er2)⟩
        · exact po2.elim
      | rt d1 s1 =>
        intro po2 ρ' H' v e2 sr2 r2
        unfold RS.unl at po2
        dsimp only at po2
        split at po2
        · rename_i s2 hu
          obtain ⟨z1, z2, z3, z4, z5⟩ := back hu e2 sr2
          exact ⟨z1, po2 ρ' _ v z3 z2 (by rw [z4]; exact r2.tp z5)⟩
        · exact po2.elim
      | bk e1 s1 =>
        intro po2 ρ' H' σ' e2 sr2 er2
        unfold RS.unl at po2
        dsimp only at po2
        split at po2
        · rename_i s2 hu
          obtain ⟨z1, z2, z3, z4, z5⟩ := back hu e2 sr2
          exact ⟨z1, po2 ρ' _ σ' z3 z2 (by rw [z4]; exact ertp z5 er2)⟩
        · exact po2.elim
      | ct e1 s1 =>
        intro po2 ρ' H' σ' e2 sr2 er2
        unfold RS.unl at po2
        dsimp only at po2
        split at po2
        · rename_i s2 hu
          obtain ⟨z1, z2, z3, z4, z5⟩ := back hu e2 sr2
          exact ⟨z1, po2 ρ' _ σ' z3 z2 (by rw [z4]; exact ertp z5 er2)⟩
        · exact po2.elim
      | ex c f v e1 s1 =>
        intro po2 ρ' H' σ' C dx u e2 sr2 er2
        rw [List.length_set] at e2
        exact po2 ρ' H' σ' C dx u (ext1.trans e2) sr2 er2
      | no => exact fun po2 => po2.elim
    · exact po.elim
  · exact po.elim
end
end Z

set_option Elab.async false
set_option linter.all false
set_option maxRecDepth 100000
set_option maxHeartbeats 4000000
namespace Z
open PySem PySem.Spec PyProof.Rows L2
/-! ### sets of keys -/
def mSet0 : EM D := fun _ s => .ok (.ref s.length) (s ++ [.set []])
def inKs (xs : List D) (k : Key) : Bool := xs.any fun y => decide (keyD y = some k)
def setAt (s : Sto) (n : Nat) : Option (List D) := match s[n]? with
  | some (.set xs) => some xs
  | _ => none
def mSAdd (mo : EM D) (ms : EM (List D)) : EM D := fun e s => (mo e s).bind fun d s1 => match d with
  | .ref n => match setAt s1 n with
    | some _ => (ms e s1).bind fun ds s2 => match ds, setAt s2 n with
      | [y], some xs => match keyD y with
        | some k => if xs.length + 1 < 4096 then .ok .non (s2.set n (.set (if inKs xs k then xs else xs ++ [y]))) else .no
        | none => .no
      | _, _ => .no
    | none => .no
  | _ => .no
/-- k in s, k not in s; else B -/
def dInSt (neg : Bool) (B : D → D → Sto → Rs D) (x y : D) (s : Sto) : Rs D := match y with
  | .ref n => match setAt s n with
    | some xs => match keyD x with
      | some k => .ok (.bl (neg ^^ inKs xs k)) s
      | none => .no
    | none => B x y s
  | _ => B x y s
theorem keysD_any {xs : List D} : ∀ {ks : List Key}, keysD xs = some ks → ∀ k, inKs xs k = true ↔ k ∈ ks := by
  induction xs with
  | nil =>
    intro ks h k
    cases h
    simp [inKs]
  | cons x xs ih =>
    intro ks h k
    unfold keysD at h
    split at h
    · rename_i j js h1 h2
      cases h
      have := ih h2 k
      unfold inKs at this ⊢
      rw [List.any_cons, Bool.or_eq_true, this, h1, List.mem_cons]
      simp only [decide_eq_true_eq, Option.some.injEq]
      constructor
      · rintro (rfl | h)
        · exact .inl rfl
        · exact .inr h
      · rintro (rfl | h)
        · exact .inl rfl
        · exact .inr h
    · cases h
theorem keysD_snoc {xs : List D} {y : D} {k : Key} (hk : keyD y = some k) : ∀ {ks : List Key}, keysD xs = some ks → keysD (xs ++ [y]) = some (ks ++ [k]) := by
  induction xs with
  | nil =>
    intro ks h
    cases h
    show keysD [y] = some [k]
    simp [keysD, hk]
  | cons x xs ih =>
    intro ks h
    unfold keysD at h
    split at h
    · rename_i j js h1 h2
      cases h
      show keysD (x :: (xs ++ [y])) = some (j :: (js ++ [k]))
      simp [keysD, h1, ih h2]
    · cases h
variable [Row]
section
variable {X : Cx} {W : WX} {p pos apos cpos : Pos} {o e : Expr} {es : List Expr} {mo : EM D} {ms : EM (List D)}
def IsRow (X : Cx) : Prop := X.prog = Row.prog ∧ X.w = Row.w
theorem set_of {ρ : Nat → Addr} {s : Sto} {H : Hp} (hX : IsRow X) (sr : SR X.K X.mg ρ s H) {n : Nat} {xs : List D} (h : setAt s n = some xs) : ∃ S m, H (ρ n) = some (SetH X.prog X.w (ρ n) S m) ∧ SetRl xs S m := by
  unfold setAt at h
  split at h
  · rename_i ys e
    cases h
    obtain ⟨S, m, h1, h2⟩ := sr.ob _ _ e
    rw [hX.1, hX.2]
    exact ⟨S, m, h1, h2⟩
  · cases h
theorem je_set0 (hX : IsRow X) (hg : Gl X "set") (hm : X.mg "set" = none) : JE X W (.Call (.Name "set" p) [] [] pos) mSet0 :=
  PE_imp (pe_callTy0 cr_z0 hg hm (by decide +kernel)) fun σ H Q ⟨ρ, env, s, sr, er, po⟩ => ⟨rfl, fun q hq => by
    have st : ∀ b u, H b = some u → upd H q (SetH X.prog X.w q (fun _ => false) 0) b = some u := fun b u e => by rw [upd_ne (ne_of_none e hq)]; exact e
    have w := sr.alloc (o := .set []) hq st ⟨fun _ => false, 0, by rw [upd_same, hX.1, hX.2], rfl, [], rfl, List.nodup_nil, fun k => by simp⟩
    have len : (s ++ [SO.set []]).length = s.length + 1 := by rw [List.length_append] <;> rfl
    refine po _ _ _ (by rw [len]; exact Ext.alloc st) w ?_
    rw [VR, len]
    exact ⟨Nat.lt_succ_self _, by rw [ρup_same]⟩⟩
theorem scan_big : 4096 ≤ scanBound := by decide
theorem je_sadd (hX : IsRow X) (ho : JE X W o mo) (ha : JA X W (e :: es) ms)
    (hbase : attributeBase o "add" X.env (eval o X.env) = eval o X.env := by rfl)
    (hfew : ((backTo cpos (starEach (e :: es) X.env)).all (fun x => !x.1) && (backToKw cpos (keywordEach [] X.env)).all (fun x => x.1.isSome)
      && decide ((e :: es).length + ([] : List Keyword).length + (if ([] : List Keyword).isEmpty then 0 else 1) < 30)) = true := by rfl)
    (hline : (apos.endLine == cpos.line) = true := by rfl) (hs : starEach (e :: es) X.env = (false, eval e X.env) :: starEach es X.env := by rfl) (hplain : (backTo cpos (starEach es X.env)).any (·.1) = false := by rfl) :
    JE X W (.Call (.Attribute o "add" apos) (e :: es) [] cpos) (mSAdd mo ms) :=
  PE_imp (pe_zadd ho ha hbase hfew hline hs hplain) fun σ H Q ⟨ρ, env, s, sr, er, po⟩ => ⟨ρ, env, s, sr, er, (Po.bind po).imp fun v H1 ⟨ρ1, s1, d1, e1, sr1, r1, po1⟩ => by
    cases d1 with
    | ref n =>
      rw [VR] at r1
      obtain ⟨hn, rfl⟩ := r1
      dsimp only at po1
      split at po1
      · rename_i xs0 h0
        obtain ⟨S0, m0, g0, _⟩ := set_of hX sr1 h0
        refine ⟨⟨ρ1 n, S0, m0, rfl, g0⟩, ρ1, env, s1, sr1, er.mono e1, (Po.bind po1).imp fun vs H2 ⟨ρ2, s2, ds, e2, sr2, r2, po2⟩ => ?_⟩
        dsimp only at po2
        split at po2
        · rename_i y xs hx
          obtain ⟨vy, rfl, ry⟩ := r2.one
          split at po2
          · rename_i k hk
            obtain ⟨hl, po2⟩ := Po.ite po2
            obtain ⟨S, m, g, hm, ks, k1, k2, k3⟩ := set_of hX sr2 hx
            have hs2 : s2[n]? = some (.set xs) := by
              unfold setAt at hx
              split at hx
              · rename_i ys q
                cases hx
                exact q
              · cases hx
            have ea : ρ2 n = ρ1 n := e2.ag n hn
            have hb := scan_big
            refine ⟨ρ1 n, k, S, m, rfl, by rw [keyD_vr hk ry], by rw [← ea]; exact g, by omega, ?_⟩
            rw [← ea]
            have ext : Ext ρ2 s2.length H2 ρ2 s2.length (upd H2 (ρ2 n) (SetH X.prog X.w (ρ2 n) (fun j => S j || decide (j = k)) (if S k = true then m else m + 1))) := Ext.write (sr2.ob _ _ hs2) rfl
            refine po2 ρ2 _ .non (by rw [List.length_set]; exact ext) (sr2.write hs2 rfl rfl ⟨_, _, by rw [upd_same, hX.1, hX.2], ?_⟩) (by rw [VR])
            have ink := keysD_any k1 k
            by_cases q : S k = true
            · have q2 : inKs xs k = true := ink.mpr ((k3 k).mp q)
              rw [if_pos q, if_pos q2]
              refine ⟨hm, ks, k1, k2, fun j => ?_⟩
              rw [Bool.or_eq_true, k3 j, decide_eq_true_eq]
              exact ⟨fun h => h.elim id fun z => by rw [z]; exact (k3 k).mp q, .inl⟩
            · have nk : k ∉ ks := fun z => q ((k3 k).mpr z)
              have q2 : ¬ inKs xs k = true := fun z => nk (ink.mp z)
              rw [if_neg q, if_neg q2]
              refine ⟨by rw [List.length_append, hm] <;> rfl, ks ++ [k], keysD_snoc hk k1, ?_, fun j => ?_⟩
              · rw [List.nodup_append]
                refine ⟨k2, by simp, fun a ha b hb => ?_⟩
                rw [List.mem_singleton] at hb
                subst hb
                exact fun z => nk (z ▸ ha)
              · rw [Bool.or_eq_true, k3 j, decide_eq_true_eq, List.mem_append, List.mem_singleton]
          · exact po2.elim
        · exact po2.elim
      · exact po1.elim
    | _ => exact po1.elim⟩
theorem opd_inSt {op : CmpOp} {neg : Bool} {B : D → D → Sto → Rs D} (hX : IsRow X) (hop : (op = .In ∧ neg = false) ∨ (op = .NotIn ∧ neg = true)) (hB : OpD X W (compareOp op) B) : OpD X W (compareOp op) (dInSt neg B) := by
  intro pins s σ H ρ st x y vx vy ux uy Q I sr rx ry e1 e2 po
  unfold dInSt at po
  split at po
  · rename_i n
    split at po
    · rename_i xs hx
      split at po
      · rename_i k hk
        obtain ⟨S, m, g, hm, ks, k1, k2, k3⟩ := set_of hX sr hx
        rw [VR] at ry
        obtain ⟨hn, rfl⟩ := ry
        have eq : inKs xs k = S k := by
          have := keysD_any k1 k
          rw [Bool.eq_iff_iff, this, k3]
        rw [eq] at po
        have vk := keyD_vr hk rx
        rcases hop with ⟨rfl, rfl⟩ | ⟨rfl, rfl⟩
        · exact or_zin pins s σ H vx _ ux uy Q I e1 e2 ⟨k, ρ n, S, m, vk, rfl, g, by simpa using po ρ H (.bl (S k)) Ext.refl sr (by rw [VR]; simp)⟩
        · exact or_znotin pins s σ H vx _ ux uy Q I e1 e2 ⟨k, ρ n, S, m, vk, rfl, g, by simpa using po ρ H (.bl (!S k)) Ext.refl sr (by rw [VR]; simp)⟩
      · exact po.elim
    · exact hB pins s σ H ρ st _ _ vx vy ux uy Q I sr rx ry e1 e2 po
  · exact hB pins s σ H ρ st _ _ vx vy ux uy Q I sr rx ry e1 e2 po
end
end Z

set_option Elab.async false
set_option linter.all false
set_option maxRecDepth 100000
set_option maxHeartbeats 4000000
namespace Z
open PySem PySem.Spec PySem.Calls PyProof.Rows L2
variable [Row]
section
variable {X : Cx} {W : WX}
open PySem.W in
theorem sorted_any {prog : Program} {w : World} {A : Around} {E : Value → Shared → Prop} {s : Shared} {β : Type} {vs : List Value} {bs : List β} {enc : β → PyData} {R : Value → β → Prop} {x : Value} {Q : Value → Shared → Prop}
    (hc : ∀ Q' : List Value → Shared → Prop, (∀ h', (∀ b o, s.heap.get? b = some o → h'.get? b = some o) → Q' vs { s with heap := h' }) → wpAny (model prog w) A.in1 (collect x) Q' E s)
    (e : EachIs R vs bs) (er : EachIs (fun v b => ∃ as, Reads s.heap v (enc b) as) vs bs) (hal : AllAlike (bs.map enc)) (hk : Sortable (bs.map enc)) (hL : bs.length ≤ sizeLine)
    (hu : ∀ b, b ∈ bs → A.units + 2 + (enc b).depth < cLine)
    (h : ∀ (h1 : Heap) (out : List Value) (a : Addr) (h' : Heap) (ep : Nat), (∀ b o, s.heap.get? b = some o → h1.get? b = some o) → out.length = bs.length → EachIs R out (bs.mergeSort (dataLe false enc)) → (∀ b o, h1.get? b = some o → h'.get? b = some o) → h1.objs.size ≤ a → h'.get? a = some (seqObj "list" out.toArray ep) → Q (.ref a) { s with heap := h' }) :
    wpAny (model prog w) A (call (.builtin "sorted") [x]) Q E s := by
  refine call_function_entry kind_sorted plain_sorted entry_sorted (args_sorted1 _) ?_
  unfold Builtin.«sorted»
  refine wpAny_bind (m := checkCount "sorted" 1 1 _) (wpAny_pure ?_)
  refine wpAny_bind (hc _ fun h' kp => ?_)
  have hl := e.length
  refine wpAny_bind (wpAny_newList ?_ (by rw [hl]; exact hL))
  have kp2 : ∀ b o, h'.get? b = some o → (h'.push { cls := .type "list", data := .seq vs.toArray }).get? b = some o := fun b o q => Heap.get?_push_of_some _ q
  have er2 : EachIs (fun v b => ∃ as, Reads (sortingHeap (h'.push { cls := .type "list", data := .seq vs.toArray }) h'.objs.size vs) v (enc b) as) vs bs := er.mono fun _ _ ⟨as, r⟩ => ⟨as, PyProof.Rows.Reads.keeps (fun b o q => sortingHeap_old (Nat.ne_of_lt (Heap.lt_size (kp b o q))) (kp2 b o (kp b o q))) r⟩
  have ho : (h'.push ({ cls := .type "list", data := .seq vs.toArray } : Obj)).get? h'.objs.size = some (seqObj "list" vs.toArray 0) := Heap.get?_push_size _ rfl
  refine wpAny_bind (wpAny_holding (wpAny_call_entry slot_list_sort ⟨_, ho, rfl⟩ entry_list_sort (list_sort_vals (κ := dataKind (sortingHeap (h'.push { cls := .type "list", data := .seq vs.toArray }) h'.objs.size vs) (bs.map enc))
    (s := { s with heap := h'.push { cls := .type "list", data := .seq vs.toArray } }) ho
    (SortsAt.data (s := { s with heap := sortingHeap (h'.push { cls := .type "list", data := .seq vs.toArray }) h'.objs.size vs }) (each_map (R := fun v d => ∃ as, Reads (sortingHeap (h'.push { cls := .type "list", data := .seq vs.toArray }) h'.objs.size vs) v d as) enc er2) hal hk (bound_map hu)) (by rw [hl]; exact hL) ⟨.none, rfl, ?_⟩) (args_list_sort _)))
  refine wpAny_pure ⟨_, rfl, ?_⟩
  have hs := sortVals_data (h' := sortingHeap (h'.push { cls := .type "list", data := .seq vs.toArray }) h'.objs.size vs) (R := R) (enc := enc) false e er2 hal
  obtain ⟨ep, hat⟩ := sortedHeap_at (out := (sortVals (dataKind (sortingHeap (h'.push { cls := .type "list", data := .seq vs.toArray }) h'.objs.size vs) (bs.map enc)) false vs vs).toArray) ho
  refine h h' _ h'.objs.size _ ep kp (by rw [sortVals_length false rfl]; exact hl) hs (fun b o q => ?_) (Nat.le_refl _) hat
  have lt : b < h'.objs.size := Heap.lt_size q
  exact (sortedHeap_old (Nat.ne_of_lt lt) (by rw [size_push']; exact Nat.lt_succ_of_lt lt)).trans (kp2 b o q)
open PySem.W in
def rSrtA (X : Cx) : List V → Hp → VK → Prop := fun vs H Q => ∃ (a : Addr) (ps : List (D × V)) (enc : D → PyData), vs = [.ref a] ∧ (SqL X.K H a (ps.map (·.2)) ∨ SqT X.K H a (ps.map (·.2))) ∧ (∀ p ∈ ps, Dp X.K H p.2 (enc p.1)) ∧
  AllAlike (ps.map fun p => enc p.1) ∧ Sortable (ps.map fun p => enc p.1) ∧ (∀ p ∈ ps, X.A.units + 2 + (enc p.1).depth < cLine) ∧ ∀ q, H q = none → Q (.ref q) (upd H q (.lst ((ps.mergeSort (dataLe false fun p => enc p.1)).map (·.2))))
theorem call_srtA : CallR X (.builtin "sorted") (rSrtA X) := by
  intro pins s σ H vs us Q I r h
  obtain ⟨a, ps, enc, rfl, hs, hd, hal, hk, hu, q⟩ := h
  rw [Vals.ref1 r]
  have er : ∀ {qs : List (D × V)} {ws : List Value}, (∀ p ∈ qs, Dp X.K H p.2 (enc p.1)) → PySem.W.EachIs (fun u (p : D × V) => RelV p.2 u) ws qs → PySem.W.EachIs (fun v (p : D × V) => ∃ as, Reads s.heap v (enc p.1) as) ws qs := by
    intro qs
    induction qs with
    | nil =>
      intro ws _ h
      cases h
      exact .nil
    | cons p qs ih =>
      intro ws hp h
      cases h with
      | cons h1 h2 => exact .cons (Dp.reads I _ _ _ (hp p List.mem_cons_self) h1) (ih (fun z hz => hp z (List.mem_cons_of_mem _ hz)) h2)
  obtain ⟨T, hT, its, rv, o, ho, hc, n, hdd, hz⟩ : ∃ T, (T = "list" ∨ T = "tuple") ∧ ∃ (its : List Value), Vals (ps.map (·.2)) its ∧ ∃ o, s.heap.get? a = some o ∧ o.cls = .type T ∧ ∃ n, o.data = .seq its.toArray n ∧ (ps.map (·.2)).length ≤ sizeLine := by
    rcases hs with hs | hs
    · obtain ⟨its, rv, hl, hz⟩ := I.list hs
      obtain ⟨o, ho, hc, n, hd⟩ := hl.isList
      exact ⟨"list", .inl rfl, its, rv, o, ho, hc, n, hd, hz⟩
    · obtain ⟨its, rv, hl, hz⟩ := I.tuple hs
      obtain ⟨o, ho, hc, n, hd⟩ := hl
      exact ⟨"tuple", .inr rfl, its, rv, o, ho, hc, n, hd, hz⟩
  have e1 := vals_each rv
  have hz2 : its.toArray.size ≤ sizeLine := by
    have := rv.length
    rw [List.size_toArray, ← this]
    exact hz
  refine sorted_any (vs := its) (R := fun u (p : D × V) => RelV p.2 u) (enc := fun p => enc p.1) (bs := ps) (fun Q' hq => wpAny_collect_seq a hT ho hc hdd hq hz2) e1 (er hd e1) hal hk (by rw [List.length_map] at hz; exact hz) hu fun h1 out a2 h' ep kp1 ho2 eo kp ha he => ?_
  · have I1 := I.kept (t' := s.toks) kp1
    have hv := each_vals eo
    have hlen : ((ps.mergeSort (PySem.W.dataLe false fun p => enc p.1)).map (·.2)).length ≤ sizeLine := by rw [hv.length, ho2]; rw [List.length_map] at hz; exact hz
    exact ⟨.ref _, upd H a2 (.lst ((ps.mergeSort (PySem.W.dataLe false fun p => enc p.1)).map (·.2))), I1.laid (s := { s with heap := h1 }) (t' := s.toks) kp ha ⟨hlen, out, ep, hv, he⟩, rfl, q _ (I1.hok.fresh ha)⟩
/-- sorted of a list or a tuple -/
def fSortA (ds : List D) (s : Sto) : Rs D := match ds with
  | [d] => match seqD s d with
    | some xs => if canSort s xs = true then .ok (.ref s.length) (s ++ [.lst (sortD s xs)]) else .no
    | none => .no
  | _ => .no
theorem pn_sortA (hu : X.A.units + 66 < cLine) : PrN X W fSortA (rSrtA X) := by
  intro ρ s H σ xs vs Q sr r po
  unfold fSortA at po
  split at po
  · rename_i d
    obtain ⟨v, rfl, rv⟩ := r.one
    split at po
    · rename_i ys h1
      obtain ⟨hc, po⟩ := Po.ite po
      obtain ⟨a, ws, rfl, sq, rr⟩ := vr_seq sr rv (xs := ys) (by unfold seqD at h1; cases d <;> first | exact h1 | cases h1)
      obtain ⟨ps, e1, e2, e3⟩ := rr.pairs
      obtain ⟨hc, c3⟩ := Bool.and_eq_true_iff.mp hc
      obtain ⟨c1, c2⟩ := Bool.and_eq_true_iff.mp hc
      have mem1 : ∀ p ∈ ps, p.1 ∈ ys := fun p hp => by rw [← e1]; exact List.mem_map_of_mem hp
      have get : ∀ {P : PyData → Prop}, (∀ x ∈ ys, P (encD s x)) → ∀ d ∈ ps.map fun p => encD s p.1, P d := fun h d hd => by
        obtain ⟨p, hp, rfl⟩ := List.mem_map.mp hd
        exact h _ (mem1 p hp)
      refine ⟨a, ps, encD s, rfl, by rw [e2]; exact sq, fun p hp => pyd_dp sr 30 p.1 p.2 _ (shp_enc (List.all_eq_true.mp c1 p.1 (mem1 p hp))).1 (e3 p hp), ?_, ?_, fun p hp => ?_, fun q hq => ?_⟩
      · exact get (P := fun d => ∀ d', d' ∈ (ps.map fun p => encD s p.1) → PySem.W.alike d d' = true) fun x hx => get fun y hy => List.all_eq_true.mp (List.all_eq_true.mp c2 x hx) y hy
      · rcases Bool.or_eq_true_iff.mp c3 with c3 | c3
        · refine .inl (get fun x hx => ?_)
          have := List.all_eq_true.mp c3 x hx
          revert this
          cases encD s x with
          | tuple l => cases l with
            | nil => exact fun h => nomatch h
            | cons y r => exact fun _ => ⟨y, r, rfl⟩
          | _ => exact fun h => nomatch h
        · refine .inr (get fun x hx => ?_)
          have := List.all_eq_true.mp c3 x hx
          revert this
          cases encD s x with
          | tuple l => exact fun h => nomatch h
          | none => exact fun h => nomatch h
          | _ => exact fun _ => ⟨(fun h => nomatch h), fun l h => nomatch h⟩
      · have := SeqAt.depth_of_shaped (shp_enc (List.all_eq_true.mp c1 p.1 (mem1 p hp))).2
        omega
      · have em : (ps.mergeSort (PySem.W.dataLe false fun p => encD s p.1)).map (·.1) = sortD s ys := by
          unfold sortD
          rw [← e1]
          exact List.map_mergeSort fun a _ b _ => rfl
        have rs : VRs X.K ρ s.length H (sortD s ys) ((ps.mergeSort (PySem.W.dataLe false fun p => encD s p.1)).map (·.2)) := by
          rw [← em]
          exact VRs.of_pairs fun p hp => e3 p ((List.mergeSort_perm _ _).mem_iff.mp hp)
        obtain ⟨x1, sr1, v1⟩ := new_lst sr hq rs
        exact po _ _ _ x1 sr1 v1
    · exact po.elim
  · exact po.elim
end
end Z

set_option Elab.async false
set_option linter.all false
set_option maxRecDepth 100000
set_option maxHeartbeats 4000000
namespace Z
open PySem PySem.Spec PyProof.Rows L2
variable [Row]
section
variable {K : PySem.W.Frag} {mg : Str → Option Value} {cs : List Str} {tb : Tb} {m c : Str} {F : MF} {C g : Addr}
theorem ltab_nil : LTab K mg [] := fun _ _ h => by cases h
theorem ltab_cons (h1 : mg c = some (.ref C)) (h2 : PySem.W.selfFirst K C = true) (t : LTab K mg tb) : LTab K mg ((c, F) :: tb) := fun d G h => by
  rw [List.lookup_cons] at h
  split at h
  · rename_i q
    intro C' h'
    rw [eq_of_beq q, h1] at h'
    cases h'
    exact h2
  · exact t d G h
theorem fntab_nil : FnTab K mg [] m := fun _ _ h => by cases h
theorem fntab_cons (h1 : mg c = some (.ref C)) (h3 : Meth K C m g) (h2 : PySem.W.fnIn K g = true) (t : FnTab K mg tb m) : FnTab K mg ((c, F) :: tb) m := fun d G h => by
  rw [List.lookup_cons] at h
  split at h
  · rename_i q
    intro C' g' h' h4
    rw [eq_of_beq q, h1] at h'
    cases h'
    have e := h3.at_.symm.trans h4.at_
    cases e
    exact h2
  · exact t d G h
theorem etab_nil : ETab K mg cs [] := fun _ _ h => by cases h
theorem etab_cons (h1 : c ∈ cs) (h2 : PySem.W.findIn K (.ref (He.ga K c)) "__ne__" = some (some (.builtin "object.__ne__"))) (t : ETab K mg cs tb) : ETab K mg cs ((c, F) :: tb) := fun d G h => by
  rw [List.lookup_cons] at h
  split at h
  · rename_i q
    obtain rfl : d = c := eq_of_beq q
    exact ⟨h1, h2⟩
  · exact t d G h
end
section
variable {X : Cx} {W : WX}
theorem ixd_no : IxD X W dNo2 := fun _ _ _ _ _ _ _ _ _ _ _ _ _ _ _ _ _ _ _ _ _ po => po.elim
end
theorem hu1 {a c : Nat} (h : a + 100 < c) : a + 1 < c := by omega
end Z

set_option Elab.async false
set_option linter.all false
set_option maxRecDepth 100000
set_option maxHeartbeats 4000000
namespace Z
open PySem PySem.Spec PyProof.Rows L2
variable [Row]
section
variable {X : Cx} {W : WX} {pos : Pos}
def sP3 (i j l : Nat) (ms : EM (List D)) : SM := fun e s => (ms e s).st e fun ds s1 => match ds with
  | [x, y, z] => .nx (((e.set i (some x)).set j (some y)).set l (some z)) s1
  | _ => .no
theorem js_par3 {i j l : Nat} {x y z : Str} {ea eb ec : Expr} {ms : EM (List D)} {px py pz pt : Pos} {kt k2 pt2} (hc : X.calm = true) (hN : X.N.Nodup) (hi : X.N[i]? = some x) (hj : X.N[j]? = some y) (hl : X.N[l]? = some z) (hij : i ≠ j) (hil : i ≠ l) (hjl : j ≠ l)
    (hx : X.env.scope.names.lookup x = some .local) (hy : X.env.scope.names.lookup y = some .local) (hz : X.env.scope.names.lookup z = some .local) (ha : JA X W [ea, eb, ec] ms)
    (hw : swappedStores [.Tuple [.Name x px, .Name y py, .Name z pz] kt pt] (.Tuple [ea, eb, ec] k2 pt2) X.env = pure (some [x, y, z]))
    (hs : swapsWithSole [.Tuple [.Name x px, .Name y py, .Name z pz] kt pt] (.Tuple [ea, eb, ec] k2 pt2) pos.line X.env = pure false := by rfl) :
    JS X W (.Assign [.Tuple [.Name x px, .Name y py, .Name z pz] kt pt] (.Tuple [ea, eb, ec] k2 pt2) pos) (sP3 i j l ms) := PS_imp (ps_par3 hc hN hi hj hl hij hil hjl hx hy hz ha hw hs) fun σ H D ⟨ρ, env, s, sr, er, po⟩ =>
  ⟨ρ, env, s, sr, er, (PoS.st (R := VRs X.K) er po).imp fun v H1 ⟨ρ1, s1, d1, e1, sr1, r1, er1, po1⟩ => by
    split at po1
    · obtain ⟨v1, vr, rfl, r2, r3⟩ := r1.uncons
      obtain ⟨v2, vr2, rfl, r4, r5⟩ := r3.uncons
      obtain ⟨v3, rfl, r6⟩ := r5.one
      exact ⟨v1, v2, v3, rfl, po1 ρ1 H1 _ Ext.refl sr1 (((er1.set r2).set r4).set r6)⟩
    · exact po1.elim⟩
end
end Z

set_option Elab.async false
set_option linter.all false
set_option maxRecDepth 100000
set_option maxHeartbeats 4000000
namespace Z
open PySem PySem.Spec PyProof.Rows L2
/-! ### the later steps of a mirror, for simp -/
section
variable {P : D → Sto → Prop} {PL : List D → Sto → Prop} {PB : Bool → Sto → Prop} {PI : Nat × Stp → Sto → Prop} {E : Str → Str → D → Sto → Prop} {Q : En} {e : Ev} {s : Sto}
variable {a b c : EM D} {ms : EM (List D)} {i n : Nat} {d x y : D} {f nm : Str} {fN F : MF} {cs : List Str} {fs : List (Str × D)} {tb : Tb} {itb : Itb}
def optP {α : Type} (o : Option α) (P : α → Prop) : Prop := match o with
  | some a => P a
  | none => False
@[simp ↓] theorem optP_some {α : Type} {a : α} {P : α → Prop} : optP (some a) P = P a := nr rfl
@[simp ↓] theorem optP_none {α : Type} {P : α → Prop} : optP (none : Option α) P = False := nr rfl
def refP (d : D) (P : Nat → Prop) : Prop := match d with
  | .ref n => P n
  | _ => False
@[simp ↓] theorem refP_ref {P : Nat → Prop} : refP (.ref n) P = P n := nr rfl
def insP (o : Option SO) (P : Str → List (Str × D) → Prop) : Prop := match o with
  | some (.ins c fs) => P c fs
  | _ => False
@[simp ↓] theorem insP_some {c : Str} {P : Str → List (Str × D) → Prop} : insP (some (.ins c fs)) P = P c fs := nr rfl
@[simp ↓] theorem z_mFld : (mFld cs f a e s).wp P E = (a e s).wp (fun d s1 => (gFld cs f d s1).wp P E) E := by
  unfold mFld; rw [z_bind]
@[simp ↓] theorem z_gFld : (gFld cs f (.ref n) s).wp P E = insP s[n]? fun c fs => c ∈ cs ∧ optP (fs.lookup f) fun v => P v s := by
  unfold gFld insP
  dsimp only
  cases s[n]? with
  | none => rfl
  | some o =>
    cases o with
    | ins c fs =>
      dsimp only
      rw [z_iteN]
      cases fs.lookup f <;> rfl
    | _ => rfl
/-- o.f = v -/
def fldP (cs : List Str) (f : Str) (v d : D) (s : Sto) (P : Sto → Prop) : Prop := refP d fun n => insP s[n]? fun c fs => (c ∈ cs ∧ fs.length < 1000) ∧ P (s.set n (.ins c (putD f v fs)))
@[simp ↓] theorem z_sFldD : (sFldD cs f a b e s).wp Q = (b e s).wp (fun v s1 => (a e s1).wp (fun d s2 => fldP cs f v d s2 fun s3 => Q.nx e s3) fun c f v s => Q.ex c f v e s) (fun c f v s => Q.ex c f v e s) := by
  unfold sFldD
  rw [z_st]
  congr 1
  funext v s1
  rw [z_st]
  congr 1
  funext d s2
  unfold fldP refP insP
  cases d with
  | ref n =>
    dsimp only
    cases s2[n]? with
    | none => rfl
    | some o =>
      cases o with
      | ins c fs =>
        dsimp only
        by_cases q : c ∈ cs ∧ fs.length < 1000
        · rw [if_pos q]
          simp [q]
        · rw [if_neg q]
          simp only [z_rno, eq_iff_iff, false_iff]
          exact fun h => q h.1
      | _ => rfl
  | _ => rfl
@[simp ↓] theorem z_mkD {c : Str} {ds : List D} : (mkD c F ds s).wp P E = (F (.ref s.length :: ds) (s ++ [.ins c []])).wp (fun d s2 => d = .non ∧ P (.ref s.length) s2) E := by
  unfold mkD
  rw [z_bind]
  congr 1
  funext d s2
  cases d <;> simp
@[simp ↓] theorem z_starF {k : Nat} {ds : List D} : (starF k F ds s).wp P E = ((k ≤ ds.length ∧ ds.length ≤ sizeLine) ∧ (F (ds.take k ++ [.tup (ds.drop k)]) s).wp P E) := by
  unfold starF
  rw [z_iteN]
@[simp ↓] theorem z_aS : (aS a ms e s).wp PL E = (a e s).wp (fun x s1 => optP (seqD s1 x) fun xs => (ms e s1).wp (fun ys s2 => PL (xs ++ ys) s2) E) E := by
  unfold aS
  rw [z_bind]
  congr 1
  funext x s1
  cases seqD s1 x with
  | none => rfl
  | some xs => simp only [z_bind, z_ok, optP_some]
@[simp ↓] theorem z_aS1 : (aS1 a e s).wp PL E = (a e s).wp (fun x s1 => optP (seqD s1 x) fun xs => PL xs s1) E := by
  unfold aS1
  rw [z_bind]
  congr 1
  funext x s1
  cases seqD s1 x <;> rfl
@[simp ↓] theorem seqD_tup {xs : List D} : seqD s (.tup xs) = some xs := nr rfl
@[simp ↓] theorem seqD_ref : seqD s (.ref n) = lstAt s n := nr rfl
@[simp ↓] theorem z_mMeth : (mMeth tb nm a ms e s).wp P E = (a e s).wp (fun d s1 => refP d fun n => insP s1[n]? fun c fs => optP (tb.lookup c) fun F => (fs.lookup nm).isNone = true ∧ (ms e s1).wp (fun ds s2 => (F (.ref n :: ds) s2).wp P E) E) E := by
  unfold mMeth
  rw [z_bind]
  congr 1
  funext d s1
  unfold refP
  cases d with
  | ref n =>
    dsimp only
    unfold insP
    cases s1[n]? with
    | none => rfl
    | some o =>
      cases o with
      | ins c fs =>
        dsimp only
        cases tb.lookup c with
        | none => rfl
        | some F =>
          dsimp only [optP]
          rw [z_iteN, z_bind]
      | _ => rfl
  | _ => rfl
/-- by the class of d, if it is an instance -/
def clsP (o : Option Str) (f : Str → Prop) (b : Prop) : Prop := match o with
  | some c => f c
  | none => b
@[simp ↓] theorem clsP_some {c : Str} {f : Str → Prop} {b : Prop} : clsP (some c) f b = f c := nr rfl
@[simp ↓] theorem clsP_none {f : Str → Prop} {b : Prop} : clsP none f b = b := nr rfl
theorem insC_ins {c : Str} (h : s[n]? = some (.ins c fs)) : insC s (.ref n) = some c := by
  unfold insC
  dsimp only
  rw [h]
theorem insC_lst {xs : List D} (h : lstAt s n = some xs) : insC s (.ref n) = none := by
  unfold insC
  dsimp only
  unfold lstAt at h
  split at h <;> simp_all
@[simp ↓] theorem insC_str {z : Str} : insC s (.str z) = none := nr rfl
@[simp ↓] theorem insC_tup {xs : List D} : insC s (.tup xs) = none := nr rfl
@[simp ↓] theorem insC_int {j : Int} : insC s (.int j) = none := nr rfl
@[simp ↓] theorem insC_bl {q : Bool} : insC s (.bl q) = none := nr rfl
@[simp ↓] theorem insC_non : insC s .non = none := nr rfl
@[simp ↓] theorem z_inO {neg : Bool} {B : D → D → Sto → Rs D} : (dInO neg tb B x y s).wp P E = clsP (insC s y) (fun c => optP (tb.lookup c) fun F => (F [y, x] s).wp (fun d s1 => blP d fun b => P (.bl (neg ^^ b)) s1) E) ((B x y s).wp P E) := by
  unfold dInO
  cases insC s y with
  | none => rfl
  | some c =>
    dsimp only [clsP]
    cases tb.lookup c with
    | none => rfl
    | some F =>
      dsimp only [optP]
      rw [z_bind]
      congr 1
      funext d s1
      cases d <;> rfl
@[simp ↓] theorem z_ixO {B : D → D → Sto → Rs D} : (dIxO tb B x y s).wp P E = clsP (insC s x) (fun c => optP (tb.lookup c) fun F => (F [x, y] s).wp P E) ((B x y s).wp P E) := by
  unfold dIxO
  cases insC s x with
  | none => rfl
  | some c =>
    dsimp only [clsP]
    cases tb.lookup c <;> rfl
@[simp ↓] theorem z_ownL {rs : List Str} {st : Bool} {B : D → D → Sto → Rs D} : (dOwnL tb rs st B x y s).wp P E = clsP (insC s x) (fun c => optP (tb.lookup c) fun F => rightOk rs st s y = true ∧ (F [x, y] s).wp P E) ((B x y s).wp P E) := by
  unfold dOwnL
  cases insC s x with
  | none => rfl
  | some c =>
    dsimp only [clsP]
    cases tb.lookup c with
    | none => rfl
    | some F =>
      dsimp only [optP]
      rw [z_iteN]
theorem z_lenO {B : MF} : (fLenO tb B [d] s).wp P E = clsP (insC s d) (fun c => optP (tb.lookup c) fun F => (F [d] s).wp (fun d1 s1 => intP d1 fun i => (0 ≤ i ∧ i < 2 ^ 63) ∧ P (.int i) s1) E) ((B [d] s).wp P E) := by
  unfold fLenO
  dsimp only
  cases insC s d with
  | none => rfl
  | some c =>
    dsimp only [clsP]
    cases tb.lookup c with
    | none => rfl
    | some F =>
      dsimp only [optP]
      rw [z_bind]
      congr 1
      funext d1 s1
      cases d1 with
      | int j => exact z_iteN
      | _ => rfl
/-- what a walk over an own instance, a list or a tuple goes through -/
def walkP (o : Option (Option (List D))) (s : Sto) (d : D) (P : Nat × Stp → Prop) : Prop := match o with
  | some (some xs) => P (xs.length, jTup xs)
  | some none => False
  | none => match d with
    | .tup ds => P (ds.length, jTup ds)
    | .ref n => lstP (lstAt s n) fun xs => P (xs.length, jLst n)
    | _ => False
@[simp ↓] theorem z_iOwn : (iOwn itb a e s).wp PI E = (a e s).wp (fun d s1 => walkP (itsO itb s1 d) s1 d fun j => PI j s1) E := by
  unfold iOwn
  rw [z_bind]
  congr 1
  funext d s1
  unfold walkP
  split <;> simp_all
  unfold walkD
  cases d with
  | ref n =>
    dsimp only
    unfold lstAt
    split <;> simp_all [lstP]
  | _ => rfl
@[simp ↓] theorem walkP_ins {xs : List D} {PJ : Nat × Stp → Prop} : walkP (some (some xs)) s d PJ = PJ (xs.length, jTup xs) := nr rfl
theorem itsO_ins {c : Str} {xs : List D} (h : s[n]? = some (.ins c fs)) (h1 : itb.lookup c = some f) (h2 : fs.lookup f = some (.tup xs)) : itsO itb s (.ref n) = some (some xs) := by
  unfold itsO
  dsimp only
  rw [h]
  dsimp only
  rw [h1]
  dsimp only
  rw [h2]
@[simp ↓] theorem itsO_tup {xs : List D} : itsO itb s (.tup xs) = none := nr rfl
theorem itsO_lst {xs : List D} (h : lstAt s n = some xs) : itsO itb s (.ref n) = none := by
  unfold itsO
  dsimp only
  unfold lstAt at h
  split at h <;> simp_all
@[simp ↓] theorem walkP_tup {xs : List D} {PJ : Nat × Stp → Prop} : walkP none s (.tup xs) PJ = PJ (xs.length, jTup xs) := nr rfl
@[simp ↓] theorem walkP_ref {PJ : Nat × Stp → Prop} : walkP none s (.ref n) PJ = lstP (lstAt s n) fun xs => PJ (xs.length, jLst n) := nr rfl
theorem z_isiA {T : String} : (mIsiA cs T a e s).wp P E = (a e s).wp (fun d s1 => optP (clD s1 d) fun t => clOk cs t = true ∧ optP (isiT T t) fun q => P (.bl q) s1) E := by
  unfold mIsiA
  rw [z_bind]
  congr 1
  funext d s1
  cases clD s1 d with
  | none => rfl
  | some t =>
    dsimp only [optP]
    rw [z_iteN]
    cases isiT T t <;> rfl
theorem z_isiC {c : Str} : (mIsiC cs c a e s).wp P E = (a e s).wp (fun d s1 => optP (clD s1 d) fun t => clOk cs t = true ∧ P (.bl (isiC c t)) s1) E := by
  unfold mIsiC
  rw [z_bind]
  congr 1
  funext d s1
  cases clD s1 d with
  | none => rfl
  | some t =>
    dsimp only [optP]
    rw [z_iteN]
    rfl
@[simp ↓] theorem z_extend {k : Nat} : (lExtend (.ref n) [d] s).wp P E = lstP (mlAt s n) fun xs => optP (seqD s d) fun ys => xs.length + ys.length ≤ sizeLine ∧ P .non (s.set n (.lst (xs ++ ys))) := by
  unfold lExtend mlAt lstP
  dsimp only
  cases s[n]? with
  | none => rfl
  | some o =>
    cases o with
    | lst xs =>
      cases seqD s d with
      | none => rfl
      | some ys => exact z_iteN
    | _ => rfl
@[simp ↓] theorem z_ltS {u v : Str} : (dLtS (.str u) (.str v) s).wp P E = P (.bl (decide (u.cps.toList < v.cps.toList))) s := nr rfl
/-! dicts -/
@[simp ↓] theorem z_mDN : (mDN e s).wp P E = P (.ref s.length) (s ++ [.dict false []]) := nr rfl
@[simp ↓] theorem z_getD : (dGetD (.ref n) x s).wp P E = optP (keyD x) fun k => optP (dctAt s n) fun kvs => optP (getK kvs k) fun v => P v s := by
  unfold dGetD optP
  cases keyD x with
  | none => rfl
  | some k =>
    dsimp only
    cases dctAt s n with
    | none => rfl
    | some kvs =>
      dsimp only
      cases getK kvs k <;> rfl
@[simp ↓] theorem z_inD {neg : Bool} : (dInD neg y (.ref n) s).wp P E = optP (keyD y) fun k => optP (dctAt s n) fun kvs => P (.bl (neg ^^ (getK kvs k).isSome)) s := by
  unfold dInD optP
  cases keyD y with
  | none => rfl
  | some k =>
    dsimp only
    cases dctAt s n <;> rfl
@[simp ↓] theorem z_get2 : (dGet2 (.ref n) x y s).wp P E = optP (keyD x) fun k => optP (dctAt s n) fun kvs => P ((getK kvs k).getD y) s := by
  unfold dGet2 optP
  cases keyD x with
  | none => rfl
  | some k =>
    dsimp only
    cases dctAt s n <;> rfl
@[simp ↓] theorem z_m3 {f3 : D → D → D → Sto → Rs D} : (m3 f3 a b c e s).wp P E = (a e s).wp (fun x s1 => (b e s1).wp (fun y s2 => (c e s2).wp (fun z s3 => (f3 x y z s3).wp P E) E) E) E := by
  unfold m3; simp only [z_bind]
def dctP (o : Option SO) (P : List (D × D) → Prop) : Prop := match o with
  | some (.dict false kvs) => P kvs
  | _ => False
@[simp ↓] theorem dctP_some {kvs : List (D × D)} {P : List (D × D) → Prop} : dctP (some (.dict false kvs)) P = P kvs := nr rfl
@[simp ↓] theorem z_setD {v : D} {PS : Sto → Prop} : stoP (xSetD (.ref n) x v s) PS = optP (keyD x) fun k => dctP s[n]? fun kvs => kvs.length < sizeLine ∧ PS (s.set n (.dict false (putKd kvs x k v))) := by
  unfold xSetD optP
  cases keyD x with
  | none => rfl
  | some k =>
    dsimp only
    unfold dctP
    cases s[n]? with
    | none => rfl
    | some o =>
      cases o with
      | dict b kvs =>
        cases b with
        | true => rfl
        | false =>
          dsimp only
          by_cases q : kvs.length < sizeLine <;> simp [q, stoP]
      | _ => rfl
def lckP (o : Option SO) (P : List (D × D) → Prop) : Prop := match o with
  | some (.lck false kvs) => P kvs
  | _ => False
@[simp ↓] theorem lckP_some {kvs : List (D × D)} {P : List (D × D) → Prop} : lckP (some (.lck false kvs)) P = P kvs := nr rfl
@[simp ↓] theorem z_iKy {j : Nat → Stp} : (iKy j a e s).wp PI E = (a e s).wp (fun d s1 => refP d fun n => lckP s1[n]? fun kvs => PI (kvs.length, j n) s1) E := by
  unfold iKy
  rw [z_bind]
  congr 1
  funext d s1
  unfold refP
  cases d with
  | ref n =>
    dsimp only
    unfold lckP
    cases s1[n]? with
    | none => rfl
    | some o =>
      cases o with
      | lck b kvs => cases b <;> rfl
      | _ => rfl
  | _ => rfl
theorem z_unl {r : RS} : (r.unl n).wp Q = r.wp { nx := fun e s => stoP (unlS n s) fun s => Q.nx e s, rt := fun d s => stoP (unlS n s) fun s => Q.rt d s, bk := fun e s => stoP (unlS n s) fun s => Q.bk e s, ct := fun e s => stoP (unlS n s) fun s => Q.ct e s, ex := Q.ex } := by
  unfold RS.unl
  cases r with
  | nx e s => simp only [z_nx, stoP]; cases unlS n s <;> rfl
  | rt e s => simp only [z_rt, stoP]; cases unlS n s <;> rfl
  | bk e s => simp only [z_bk, stoP]; cases unlS n s <;> rfl
  | ct e s => simp only [z_ct, stoP]; cases unlS n s <;> rfl
  | ex c f v e s => rfl
  | no => rfl
/-- a loop over a dict that stands in a slot -/
theorem z_sLk {B : SM} {kvs : List (D × D)} (h : e[i]? = some (some (.ref n))) (hs : s[n]? = some (.dict false kvs)) : (sLk (mV i) B e s).wp Q = (B e (s.set n (.lck false kvs))).wp { nx := fun e s => stoP (unlS n s) fun s => Q.nx e s, rt := fun d s => stoP (unlS n s) fun s => Q.rt d s, bk := fun e s => stoP (unlS n s) fun s => Q.bk e s, ct := fun e s => stoP (unlS n s) fun s => Q.ct e s, ex := Q.ex } := by
  unfold sLk mV
  rw [h]
  dsimp only
  rw [hs]
  dsimp only
  exact z_unl
theorem unl_of {kvs : List (D × D)} {PS : Sto → Prop} (h : s[n]? = some (.lck false kvs)) : stoP (unlS n s) PS = PS (s.set n (.dict false kvs)) := by
  unfold unlS
  rw [h]
  rfl
/-! sets -/
@[simp ↓] theorem z_mSet0 : (mSet0 e s).wp P E = P (.ref s.length) (s ++ [.set []]) := nr rfl
@[simp ↓] theorem z_mSAdd : (mSAdd a ms e s).wp P E = (a e s).wp (fun d s1 => refP d fun n => optP (setAt s1 n) fun _ => (ms e s1).wp (fun ds s2 => ∃ y xs k, ds = [y] ∧ setAt s2 n = some xs ∧ keyD y = some k ∧ xs.length + 1 < 4096 ∧ P .non (s2.set n (.set (if inKs xs k then xs else xs ++ [y])))) E) E := by
  unfold mSAdd
  rw [z_bind]
  congr 1
  funext d s1
  unfold refP
  cases d with
  | ref n =>
    dsimp only
    cases setAt s1 n with
    | none => rfl
    | some zs =>
      dsimp only [optP]
      rw [z_bind]
      congr 1
      funext ds s2
      split
      · rename_i y xs h
        rw [h]
        cases hk : keyD y with
        | none => simp [hk]
        | some k =>
          dsimp only
          rw [z_iteN, z_ok]
          simp [hk]
      · rename_i h
        rw [z_no]
        simp only [eq_iff_iff, false_iff]
        rintro ⟨y, xs, k, rfl, h2, _⟩
        exact h y xs rfl h2
  | _ => rfl
theorem z_inSt {neg : Bool} {xs : List D} {B : D → D → Sto → Rs D} (h : setAt s n = some xs) : (dInSt neg B x (.ref n) s).wp P E = optP (keyD x) fun k => P (.bl (neg ^^ inKs xs k)) s := by
  unfold dInSt
  dsimp only
  rw [h]
  dsimp only
  cases keyD x <;> rfl
@[simp ↓] theorem z_sP3 {i j l : Nat} : (sP3 i j l ms e s).wp Q = (ms e s).wp (fun ds s1 => ∃ x y z, ds = [x, y, z] ∧ Q.nx (((e.set i (some x)).set j (some y)).set l (some z)) s1) (fun c f v s => Q.ex c f v e s) := by
  unfold sP3
  rw [z_st]
  congr 1
  funext ds s1
  split
  · rw [z_nx, eq_iff_iff]
    refine ⟨fun h => ⟨_, _, _, rfl, h⟩, ?_⟩
    rintro ⟨x, y, z, h1, h2⟩
    cases h1
    exact h2
  · rename_i h
    simp only [z_rno, eq_iff_iff, false_iff]
    rintro ⟨x, y, z, rfl, _⟩
    exact h x y z rfl
@[simp ↓] theorem z_sortT {xs : List D} : (fSortA [.tup xs] s).wp P E = (canSort s xs = true ∧ P (.ref s.length) (s ++ [.lst (sortD s xs)])) := by
  show (if _ then _ else _ : Rs D).wp P E = _
  rw [z_iteN, z_ok]
@[simp ↓] theorem z_sortL : (fSortA [.ref n] s).wp P E = lstP (lstAt s n) fun xs => canSort s xs = true ∧ P (.ref s.length) (s ++ [.lst (sortD s xs)]) := by
  unfold fSortA
  dsimp only [seqD_ref]
  cases h : lstAt s n with
  | none => simp [seqD, h, lstP]
  | some xs =>
    simp only [seqD, h, lstP]
    rw [z_iteN, z_ok]
end
end Z

set_option Elab.async false
set_option linter.all false
set_option maxRecDepth 100000
set_option maxHeartbeats 4000000
namespace Z
open PySem PySem.Spec PyProof.Rows L2
/-! ### loops, comprehensions: more rules -/
section
variable {P : D → Sto → Prop} {E : Str → Str → D → Sto → Prop} {Q : En} {e : Ev} {s s0 s2 t : Sto} {j : Stp} {g g1 : GN} {body : SM} {N : Nat} {ks : List Nat} {xs : List D} {tt t1 : EM Bool} {mm : EM D} {mi1 : EM (Nat × Stp)} {vs vs1 : List Nat} {l : Nat}
/-- a for over known items -/
theorem for_it (it : ItOk ks s0 j N xs) (I : Nat → Ev → Sto → Prop) (hI : ∀ i e s, I i e s → Eff ks s0 s) (st : ∀ i d e s, xs[i]? = some d → I i e s → ∃ e1, g d e = some e1 ∧ (body e1 s).wp { nx := I (i + 1), ct := I (i + 1), bk := Q.nx, rt := Q.rt, ex := Q.ex })
    (h0 : I 0 e s) (fin : ∀ e s, I xs.length e s → Q.nx e s) : (forL j g body N 0 e s).wp Q := by
  refine forL_wp (N := N) I (fun i e s hi h => ⟨fun hN => ?_, fun hN => ?_⟩) N 0 e s (Nat.zero_add _) h0
  · subst hN
    exact ⟨by rw [it.2 i s (hI _ _ _ h), List.getElem?_eq_none (by rw [← it.1]; exact Nat.le_refl _)], fin _ _ (by rw [← it.1]; exact h)⟩
  · have hx : xs[i]? = some (xs[i]'(by rw [← it.1]; exact hN)) := List.getElem?_eq_getElem _
    obtain ⟨e1, h1, h2⟩ := st i _ e s hx h
    exact ⟨_, e1, by rw [it.2 i s (hI _ _ _ h), hx], h1, h2⟩
theorem lcI_wp (I : Nat → List D → Sto → Prop) {e : Ev} (st : ∀ i acc s, i ≤ N → I i acc s → s[l]? = some (.lst acc) → LcStep j g tt mm l I N i acc e s) : ∀ (f i : Nat) (acc : List D) (s : Sto), i + f = N → I i acc s → s[l]? = some (.lst acc) →
    (lcI j g tt mm l f i e s).wp fun _ s' => ∃ ys, s'[l]? = some (.lst ys) ∧ I N ys s'
  | 0, i, acc, s, h, hi, hl => by
    have h1 := (st i acc s (by omega) hi hl).1 (by omega)
    unfold lcI
    rw [h1]
    have e1 : i = N := by omega
    subst e1
    exact ⟨acc, hl, hi⟩
  | f + 1, i, acc, s, h, hi, hl => by
    obtain ⟨d, e1, h1, h2, h3⟩ := (st i acc s (by omega) hi hl).2 (by omega)
    unfold lcI
    rw [h1]
    dsimp only
    rw [h2]
    dsimp only
    rw [z_bind, z_nox]
    refine wp_mono h3 (fun q s1 h4 => ?_) fun _ _ _ _ z => z.elim
    cases q with
    | true =>
      rw [if_pos rfl] at h4 ⊢
      rw [z_bind, z_nox]
      refine wp_mono h4 (fun y s2 h5 => ?_) fun _ _ _ _ z => z.elim
      obtain ⟨h6, h7, h8⟩ := h5
      rw [h6]
      dsimp only
      rw [if_pos h7]
      have hl2 : l < s2.length := (List.getElem?_eq_some_iff.mp h6).1
      exact lcI_wp I st f (i + 1) _ _ (by omega) h8 (by rw [List.getElem?_set_self hl2])
    | false =>
      simp only [Bool.false_eq_true, ↓reduceIte] at h4 ⊢
      exact lcI_wp I st f (i + 1) _ _ (by omega) h4.2 h4.1
@[simp ↓] theorem z_mL2 {mi : EM (Nat × Stp)} : (mL2 mi g tt mi1 g1 t1 mm vs vs1 e s).wp P E = (mi e s).wp (fun jt s1 => (lcL2 jt.2 g tt mi1 g1 t1 mm vs1 s1.length jt.1 0 (wipeD e vs) (s1 ++ [.lst []])).wp P E) E := by
  unfold mL2; rw [z_bind]
/-- a walk that keeps as long as nothing but the places l and ks changes -/
def JOk (l : Nat) (ks : List Nat) (s2 : Sto) (jt : Nat × Stp) (zs : List D) : Prop := jt.1 = zs.length ∧ ∀ i s3, (∀ n, n < s2.length → n ≠ l → n ∉ ks → s3[n]? = s2[n]?) → jt.2 i s3 = some zs[i]?
theorem jok_tup {zs : List D} {n : Nat} (h : n = zs.length := by rfl) : JOk l ks s2 (n, jTup zs) zs := ⟨h, fun i s3 _ => rfl⟩
theorem jok_lst {p n : Nat} {zs : List D} (h : lstAt s2 p = some zs) (hp : p ≠ l) (hk : p ∉ ks) (hn : n = zs.length := by rfl) : JOk l ks s2 (n, jLst p) zs := ⟨hn, fun i s3 hs => by
  have e := hs p (lstAt_lt h) hp hk
  show jLst p i s3 = _
  rw [jLst_eq]
  have h' : lstAt s3 p = some zs := by
    unfold lstAt at h ⊢
    rw [e]
    exact h
  rw [h']
  rfl⟩
theorem lc2_gen (it : ItOk ks s0 j N xs) (hb : ∀ k ∈ ks, Bag s0 k) (F : Nat → List D) (hl : ((List.range xs.length).flatMap F).length < sizeLine)
    (st : ∀ i d s, xs[i]? = some d → Eff ks s0 s → (∀ k ∈ ks, Bag s k) → s0.length < s.length → ∃ e1, g d e = some e1 ∧ (tt e1 s).wp fun q s1 => Eff ks s s1 ∧ (q = false → F i = []) ∧ (q = true → (mi1 e1 s1).wp fun jt s2 => Eff ks s1 s2 ∧ ∃ (zs : List D) (os : List (Option D)), zs.length = os.length ∧ F i = os.filterMap id ∧ JOk s0.length ks s2 jt zs ∧
      ∀ (k : Nat) (d2 : D) (o : Option D) (s3 : Sto), zs[k]? = some d2 → os[k]? = some o → Eff ks s0 s3 → (∀ k ∈ ks, Bag s3 k) → s0.length < s3.length → ∃ e2, g1 d2 (wipeD e1 vs1) = some e2 ∧ (t1 e2 s3).wp fun q s4 => Eff ks s3 s4 ∧ q = o.isSome ∧ (q = true → (mm e2 s4).wp fun y s5 => Eff ks s4 s5 ∧ o = some y))) :
    (lcL2 j g tt mi1 g1 t1 mm vs1 s0.length N 0 e (s0 ++ [.lst []])).wp fun d s' => d = .ref s0.length ∧ Eff ks s0 s' ∧ s0.length < s'.length ∧ mlAt s' s0.length = some ((List.range xs.length).flatMap F) := by
  have lks : s0.length ∉ ks := fun h => Nat.lt_irrefl _ (hb _ h).lt
  have main : ∀ (f i : Nat) (s : Sto), i + f = N → Eff ks s0 s → s0.length < s.length → s[s0.length]? = some (.lst ((List.range i).flatMap F)) →
      (lcL2 j g tt mi1 g1 t1 mm vs1 s0.length f i e s).wp fun d s' => d = .ref s0.length ∧ Eff ks s0 s' ∧ s0.length < s'.length ∧ mlAt s' s0.length = some ((List.range xs.length).flatMap F) := by
    intro f
    induction f with
    | zero =>
      intro i s hi ef hlt hs
      unfold lcL2
      have : i = xs.length := by rw [← it.1]; omega
      rw [it.2 i s ef, List.getElem?_eq_none (by omega)]
      subst this
      exact ⟨rfl, ef, hlt, mlAt_some hs⟩
    | succ f ih =>
      intro i s hi ef hlt hs
      have hix : i < xs.length := by rw [← it.1]; omega
      have hx : xs[i]? = some xs[i] := List.getElem?_eq_getElem hix
      have tk : (List.range (i + 1)).flatMap F = (List.range i).flatMap F ++ F i := by
        rw [List.range_succ, List.flatMap_append]
        simp
      have pre : ((List.range (i + 1)).flatMap F).length ≤ ((List.range xs.length).flatMap F).length := by
        have e : List.range (i + 1) = (List.range xs.length).take (i + 1) := by rw [List.take_range, Nat.min_eq_left (by omega)]
        rw [e]
        conv => rhs; rw [← List.take_append_drop (i + 1) (List.range xs.length), List.flatMap_append, List.length_append]
        omega
      unfold lcL2
      rw [it.2 i s ef, hx]
      dsimp only
      obtain ⟨e1, h1, h2⟩ := st i xs[i] s hx ef (fun k hk => ef.bag k hk (hb k hk)) hlt
      rw [h1]
      dsimp only
      rw [z_bind, z_nox]
      refine wp_ne h2 fun q s1 ⟨ef1, hf, h3⟩ => ?_
      have efa := ef.trans ef1
      have hs1 := ef1.get hs lks
      cases q with
      | false =>
        rw [if_neg Bool.false_ne_true]
        refine ih (i + 1) s1 (by omega) efa (Nat.lt_of_lt_of_le hlt ef1.le) ?_
        rw [tk, hf rfl, List.append_nil]
        exact hs1
      | true =>
        rw [if_pos rfl, z_bind, z_nox]
        refine wp_ne (h3 rfl) fun jt s2 ⟨ef2, zs, os, hzo, hF, jok, hin⟩ => ?_
        have efb := efa.trans ef2
        have hs2 := ef2.get hs1 lks
        have hlt2 : s0.length < s2.length := Nat.lt_of_lt_of_le hlt (Nat.le_trans ef1.le ef2.le)
        rw [z_bind]
        refine wp_ne (lcI_wp (N := zs.length) (e := wipeD e1 vs1) (fun k acc s3 => Eff ks s0 s3 ∧ s0.length < s3.length ∧ (∀ n, n < s2.length → n ≠ s0.length → n ∉ ks → s3[n]? = s2[n]?) ∧ s2.length ≤ s3.length ∧ acc = (List.range i).flatMap F ++ (os.take k).filterMap id) ?_ jt.1 0 ((List.range i).flatMap F) s2 (by rw [jok.1]; omega) ⟨efb, hlt2, fun _ _ _ _ => rfl, Nat.le_refl _, by simp⟩ hs2) ?_
        · rintro k acc s3 hk ⟨ef3, hlt3, keep, hle, rfl⟩ hs3
          refine ⟨fun hN => ?_, fun hN => ?_⟩
          · rw [jok.2 k s3 keep, List.getElem?_eq_none (by omega)]
          · have hz : zs[k]? = some zs[k] := List.getElem?_eq_getElem hN
            have hz2 : os[k]? = some (os[k]'(by omega)) := List.getElem?_eq_getElem _
            generalize os[k]'(by omega) = o at hz2
            obtain ⟨e2, h4, h5⟩ := hin k zs[k] o s3 hz hz2 ef3 (fun k hk => ef3.bag k hk (hb k hk)) hlt3
            refine ⟨zs[k], e2, by rw [jok.2 k s3 keep, hz], h4, wp_ne h5 fun q s4 ⟨ef4, hq, h6⟩ => ?_⟩
            have hs4 := ef4.get hs3 lks
            have keep4 : ∀ n, n < s2.length → n ≠ s0.length → n ∉ ks → s4[n]? = s2[n]? := fun n hn h1 h2 => (ef4.eq n (by omega) h2).trans (keep n hn h1 h2)
            cases q with
            | false =>
              rw [if_neg Bool.false_ne_true]
              have hn : o = none := by
                cases o with
                | none => rfl
                | some y => cases hq
              exact ⟨hs4, ef3.trans ef4, Nat.lt_of_lt_of_le hlt3 ef4.le, keep4, Nat.le_trans hle ef4.le, by rw [List.take_add_one, hz2, List.filterMap_append]; simp [hn]⟩
            | true =>
              rw [if_pos rfl]
              refine wp_ne (h6 rfl) fun y s5 ⟨ef5, hy⟩ => ?_
              have hs5 := ef5.get hs4 lks
              refine ⟨hs5, ?_, ((ef3.trans ef4).trans ef5).set (Nat.le_refl _), by rw [List.length_set]; have := ef4.le; have := ef5.le; omega, fun n hn h1 h2 => ?_, by rw [List.length_set]; have := ef4.le; have := ef5.le; omega, by rw [List.take_add_one, hz2, List.filterMap_append]; simp [hy]⟩
              · have e5 : (os.take (k + 1)).filterMap id = (os.take k).filterMap id ++ [y] := by rw [List.take_add_one, hz2, List.filterMap_append]; simp [hy]
                have e6 : os.filterMap id = (os.take (k + 1)).filterMap id ++ (os.drop (k + 1)).filterMap id := by rw [← List.filterMap_append, List.take_append_drop]
                rw [tk, hF, e6, e5] at pre
                simp only [List.length_append, List.length_singleton] at pre ⊢
                omega
              · rw [List.getElem?_set_ne (by omega), ef5.eq n (by have := ef4.le; omega) h2]
                exact keep4 n hn h1 h2
        · rintro _ s3 ⟨ys, hs3, ef3, hlt3, keep, hle, rfl⟩
          refine ih (i + 1) s3 (by omega) ef3 hlt3 ?_
          rw [tk, hF, hs3, List.take_of_length_le (l := os) (by omega)]
  exact main N 0 _ (by omega) Eff.push (by simp) (by simp)
/-! ### item by item -/
def AllR {α : Type} (R : D → α → Prop) (ds : List D) (as : List α) : Prop := ds.length = as.length ∧ ∀ (i : Nat) (d : D) (a : α), ds[i]? = some d → as[i]? = some a → R d a
theorem AllR.nil {α : Type} {R : D → α → Prop} : AllR R [] [] := ⟨rfl, fun i d a h => by simp at h⟩
theorem AllR.mono {α : Type} {R R' : D → α → Prop} {ds : List D} {as : List α} (h : AllR R ds as) (hR : ∀ d a, R d a → R' d a) : AllR R' ds as := ⟨h.1, fun i d a h1 h2 => hR _ _ (h.2 i d a h1 h2)⟩
theorem AllR.get {α : Type} {R : D → α → Prop} {ds : List D} {as : List α} (h : AllR R ds as) {i : Nat} {d : D} (hd : ds[i]? = some d) : ∃ a, as[i]? = some a ∧ R d a := by
  have hi : i < as.length := by rw [← h.1]; exact (List.getElem?_eq_some_iff.mp hd).1
  exact ⟨as[i], List.getElem?_eq_getElem hi, h.2 i d _ hd (List.getElem?_eq_getElem hi)⟩
theorem AllR.mem {α : Type} {R : D → α → Prop} {ds : List D} {as : List α} (h : AllR R ds as) {d : D} (hd : d ∈ ds) : ∃ a ∈ as, R d a := by
  obtain ⟨i, hi, rfl⟩ := List.getElem_of_mem hd
  obtain ⟨a, h1, h2⟩ := h.get (List.getElem?_eq_getElem hi)
  exact ⟨a, List.mem_of_getElem? h1, h2⟩
theorem AllR.app {α : Type} {R : D → α → Prop} {ds es : List D} {as bs : List α} (h : AllR R ds as) (h2 : AllR R es bs) : AllR R (ds ++ es) (as ++ bs) := by
  refine ⟨by simp [h.1, h2.1], fun i d a hd ha => ?_⟩
  by_cases hi : i < ds.length
  · rw [List.getElem?_append_left hi] at hd
    rw [List.getElem?_append_left (by rw [← h.1]; exact hi)] at ha
    exact h.2 i d a hd ha
  · rw [List.getElem?_append_right (by omega)] at hd
    rw [List.getElem?_append_right (by have := h.1; omega), ← h.1] at ha
    exact h2.2 _ d a hd ha
theorem AllR.one {α : Type} {R : D → α → Prop} {d : D} {a : α} (h : R d a) : AllR R [d] [a] := ⟨rfl, fun i d' a' h1 h2 => by
  cases i with
  | zero => cases h1; cases h2; exact h
  | succ i => simp at h1⟩
/-- a value of each item, told by what it stands for -/
theorem AllR.map {α : Type} {R : D → α → Prop} {ds : List D} {as : List α} (h : AllR R ds as) {f : D → D} {k : α → D} (hf : ∀ d a, R d a → f d = k a) : ds.map f = as.map k := by
  refine List.ext_getElem (by simp [h.1]) fun i h1 h2 => ?_
  rw [List.getElem_map, List.getElem_map]
  exact hf _ _ (h.2 i _ _ (List.getElem?_eq_getElem (by simpa using h1)) (List.getElem?_eq_getElem (by simpa using h2)))
theorem AllR.flat {α : Type} {as : List α} {k : α → List D} : as.flatMap k = (List.range as.length).flatMap fun i => ((as[i]?).map k).getD [] := by
  induction as with
  | nil => rfl
  | cons a as ih =>
    rw [List.flatMap_cons, List.length_cons, List.range_succ_eq_map, List.flatMap_cons, ih, List.flatMap_map]
    rfl
/-- two walks over what stands for something -/
theorem lc2RR {α β : Type} (R : D → α → Prop) (k : α → List D) {as : List α} (hR : AllR R xs as) (it : ItOk ks s0 j N xs) (hb : ∀ k ∈ ks, Bag s0 k) (hl : (as.flatMap k).length < sizeLine)
    (st : ∀ d a s, R d a → a ∈ as → Eff ks s0 s → (∀ k ∈ ks, Bag s k) → s0.length < s.length → ∃ e1, g d e = some e1 ∧ (tt e1 s).wp fun q s1 => Eff ks s s1 ∧ (q = false → k a = []) ∧ (q = true → (mi1 e1 s1).wp fun jt s2 => Eff ks s1 s2 ∧ ∃ (zs : List D) (bs : List β) (R2 : D → β → Prop) (h : β → Option D), AllR R2 zs bs ∧ k a = bs.filterMap h ∧ JOk s0.length ks s2 jt zs ∧
      ∀ d2 b s3, R2 d2 b → b ∈ bs → Eff ks s0 s3 → (∀ k ∈ ks, Bag s3 k) → s0.length < s3.length → ∃ e2, g1 d2 (wipeD e1 vs1) = some e2 ∧ (t1 e2 s3).wp fun q s4 => Eff ks s3 s4 ∧ q = (h b).isSome ∧ (q = true → (mm e2 s4).wp fun y s5 => Eff ks s4 s5 ∧ h b = some y))) :
    (lcL2 j g tt mi1 g1 t1 mm vs1 s0.length N 0 e (s0 ++ [.lst []])).wp fun d s' => d = .ref s0.length ∧ Eff ks s0 s' ∧ s0.length < s'.length ∧ mlAt s' s0.length = some (as.flatMap k) := by
  have hF : (List.range xs.length).flatMap (fun i => ((as[i]?).map k).getD []) = as.flatMap k := by rw [hR.1, ← AllR.flat]
  have := lc2_gen (e := e) (g := g) (tt := tt) (mi1 := mi1) (g1 := g1) (t1 := t1) (mm := mm) (vs1 := vs1) it hb (fun i => ((as[i]?).map k).getD []) (by rw [hF]; exact hl) fun i d s hx ef hbs hlt => by
    obtain ⟨a, ha, hr⟩ := hR.get hx
    rw [ha]
    obtain ⟨e1, h1, h2⟩ := st d a s hr (List.mem_of_getElem? ha) ef hbs hlt
    refine ⟨e1, h1, wp_ne h2 fun q s1 ⟨h3, h4, h5⟩ => ⟨h3, h4, fun hq => wp_ne (h5 hq) fun jt s2 ⟨h6, zs, bs, R2, h, h7, h8, h9, h10⟩ => ⟨h6, zs, bs.map h, by rw [List.length_map, h7.1], ?_, h9, fun k2 d2 o s3 hz ho ef3 hb3 hlt3 => ?_⟩⟩⟩
    · show k a = _
      rw [h8, List.filterMap_map]
      rfl
    · rw [List.getElem?_map] at ho
      obtain ⟨b, hb1, rfl⟩ := Option.map_eq_some_iff.mp ho
      exact h10 d2 b s3 (h7.2 k2 d2 b hz hb1) (List.mem_of_getElem? hb1) ef3 hb3 hlt3
  rw [hF] at this
  exact this
theorem lc2R {α : Type} (R : D → α → Prop) (k : α → List D) {as : List α} (hR : AllR R xs as) (it : ItOk ks s0 j N xs) (hb : ∀ k ∈ ks, Bag s0 k) (hl : (as.flatMap k).length < sizeLine)
    (st : ∀ d a s, R d a → a ∈ as → Eff ks s0 s → (∀ k ∈ ks, Bag s k) → s0.length < s.length → ∃ e1, g d e = some e1 ∧ (tt e1 s).wp fun q s1 => Eff ks s s1 ∧ (q = false → k a = []) ∧ (q = true → (mi1 e1 s1).wp fun jt s2 => Eff ks s1 s2 ∧ ∃ (zs : List D) (h : D → Option D), k a = zs.filterMap h ∧ JOk s0.length ks s2 jt zs ∧
      ∀ d2 s3, d2 ∈ zs → Eff ks s0 s3 → (∀ k ∈ ks, Bag s3 k) → s0.length < s3.length → ∃ e2, g1 d2 (wipeD e1 vs1) = some e2 ∧ (t1 e2 s3).wp fun q s4 => Eff ks s3 s4 ∧ q = (h d2).isSome ∧ (q = true → (mm e2 s4).wp fun y s5 => Eff ks s4 s5 ∧ h d2 = some y))) :
    (lcL2 j g tt mi1 g1 t1 mm vs1 s0.length N 0 e (s0 ++ [.lst []])).wp fun d s' => d = .ref s0.length ∧ Eff ks s0 s' ∧ s0.length < s'.length ∧ mlAt s' s0.length = some (as.flatMap k) :=
  lc2RR (β := D) R k hR it hb hl fun d a s h1 h2 h3 h4 h5 => by
    obtain ⟨e1, h6, h7⟩ := st d a s h1 h2 h3 h4 h5
    refine ⟨e1, h6, wp_ne h7 fun q s1 ⟨h8, h9, h10⟩ => ⟨h8, h9, fun hq => wp_ne (h10 hq) fun jt s2 ⟨h11, zs, h, h12, h13, h14⟩ => ⟨h11, zs, zs, (· = ·), h, ⟨rfl, fun i d a e1 e2 => Option.some.inj (e1.symm.trans e2)⟩, h12, h13, fun d2 b s3 e hb => ?_⟩⟩⟩
    subst e
    exact h14 d2 s3 hb
end
end Z

set_option Elab.async false
set_option linter.all false
set_option maxRecDepth 100000
set_option maxHeartbeats 4000000
namespace Z
open PySem PySem.Spec PyProof.Rows L2 TL
open PySem.PyData (strOk)
/-! ### names, kinds, bodies -/
theorem IsName.ok {x : Str} (h : IsName x) : strOk x = true := by
  unfold PyData.strOk
  rw [Array.all_eq_true']
  intro c hc
  have := h.low c (by simpa using hc)
  unfold isLow at this
  simp
  omega
theorem IsName.l8 {x : Str} (h : IsName x) : x.length ≤ 8 := by rw [len_tl]; exact h.len
theorem size_line : sizeLine = 16777216 := by decide
theorem kit_str : kitB "str" "str" = some true := by rfl
theorem kit_int : kitB "int" "int" = some true := by rfl
theorem kit_ib : kitB "int" "bool" = some false := by decide +kernel
theorem isi_str {P : D → Sto → Prop} {E : Str → Str → D → Sto → Prop} {s : Sto} {e : Ev} {i : Nat} {x : Str} (h : e[i]? = some (some (.str x))) (hP : P (.bl true) s) : (mIsi "str" (mV i) e s).wp P E := by
  rw [z_isi, z_mV, h, slotP_some]
  exact ⟨"str", true, rfl, kit_str, hP⟩
theorem isi_int {P : D → Sto → Prop} {E : Str → Str → D → Sto → Prop} {s : Sto} {e : Ev} {i : Nat} {x : Int} (h : e[i]? = some (some (.int x))) (hP : P (.bl true) s) : (mIsi "int" (mV i) e s).wp P E := by
  rw [z_isi, z_mV, h, slotP_some]
  exact ⟨"int", true, rfl, kit_int, hP⟩
theorem isi_nb {P : D → Sto → Prop} {E : Str → Str → D → Sto → Prop} {s : Sto} {e : Ev} {i : Nat} {x : Int} (h : e[i]? = some (some (.int x))) (hP : P (.bl false) s) : (mIsi "bool" (mV i) e s).wp P E := by
  rw [z_isi, z_mV, h, slotP_some]
  exact ⟨"int", false, rfl, kit_ib, hP⟩
theorem mapM_bl : ∀ bs : List Bool, (bs.map D.bl).mapM blD = some bs
  | [] => rfl
  | b :: bs => by
    rw [List.map_cons, List.mapM_cons, mapM_bl bs]
    rfl
theorem map_tt {xs : List D} : xs.map (fun _ => D.bl true) = (List.replicate xs.length true).map D.bl := by simp [List.map_const', List.map_replicate]
def tIsName : SM := (sC (sI (bOr (bNot (toT (mIsi "str" (mV 0)))) (bNot (toB (mCh dLe dLe (mC (.int 1)) (mN fLen (aC (mV 0) aN)) (mC (.int 8)))))) (sR (mC (.bl false))) sN) (sR (mN (fAllAny true) (aC (mL (iSt (mV 0)) (gN 1) tY (m2 (dInB false) (mV 1) (mC (.str "abcdefghijklmnopqrstuvwxyz"))) [1]) aN))))
def IsNameOk (F : MF) : Prop := ∀ {s : Sto} {x : Str}, IsName x → (F [.str x] s).wp fun d s' => d = .bl true ∧ Eff [] s s'
theorem is_name_gen : IsNameOk (fnM 1 2 tIsName) := by
  intro s x h
  refine wp_of fun P hP => ?_
  unfold tIsName
  rw [z_fnM (by rfl)]
  have h8 := h.l8
  have h1 : 1 ≤ x.length := by rw [len_tl]; exact h.pos
  have hl : x.length ≤ sizeLine := by rw [size_line]; omega
  simp
  refine isi_str rfl ?_
  simp [trD, hl]
  have e1 : (1 : Int) ≤ x.length := by omega
  have e2 : (x.length : Int) ≤ 8 := by omega
  simp [e1, e2]
  refine wp_ne (lc_map (ks := []) (xs := strDs x) (fun d => .bl true) it_str (by simp) (by unfold strDs; rw [List.length_map, size_line]; have := len_tl x; unfold tl at this; omega) fun d s1 hd ef _ => ?_) ?_
  · obtain ⟨c, hc, rfl⟩ := List.mem_map.mp hd
    refine ⟨_, rfl, ?_⟩
    have hlow := h.low c hc
    have hin : c ∈ tl abc := by
      rw [abc_tl]
      unfold isLow at hlow
      exact List.mem_map.mpr ⟨c - 97, by simp; omega, by omega⟩
    simp
    show (dInB false (.str (one c)) (.str abc) s1).wp _ _
    rw [z_inS]
    simp [hin, Eff.refl]
  rintro d s1 ⟨rfl, ef, hlt, hm⟩
  rw [z_all]
  rw [map_tt] at hm
  refine ⟨_, _, lstAt_ml hm, mapM_bl _, ?_⟩
  rw [if_pos rfl]
  exact hP _ _ ⟨by simp, ef⟩
def tLook (F : MF) : SM := (sI (bNot (toT (mN F (aC (mV 0) aN)))) sNo sN)
def LookOk (p : D → Prop) (F : MF) : Prop := ∀ {s : Sto} {d : D}, p d → (F [d] s).wp fun d' s' => d' = .non ∧ Eff [] s s'
theorem look_gen {F : MF} {p : D → Prop} (h : ∀ {s : Sto} {d : D}, p d → (F [d] s).wp fun d' s' => d' = .bl true ∧ Eff [] s s') : LookOk p (fnM 1 1 (tLook F)) := by
  intro s d hd
  unfold tLook
  rw [z_fnM (by rfl)]
  simp
  refine wp_ne (h hd) ?_
  rintro d' s' ⟨rfl, ef⟩
  simp [ef]
def nameD (d : D) : Prop := ∃ x, d = .str x ∧ IsName x
theorem look_name_gen {F : MF} (h : IsNameOk F) : LookOk nameD (fnM 1 1 (tLook F)) := look_gen fun ⟨x, e, hx⟩ => by subst e; exact h hx
def kinds : List Str := ["weak", "common", "strong"]
def kindD (d : D) : Prop := ∃ k, d = .str k ∧ k ∈ kinds
theorem kinds_ok {k : Str} (h : k ∈ kinds) : strOk k = true := by
  unfold kinds at h
  simp only [List.mem_cons, List.not_mem_nil, or_false] at h
  rcases h with rfl | rfl | rfl <;> decide +kernel
def tIsKind (c : D) : SM := (sR (mAnd (mIsi "str" (mV 0)) (m2 (dInB false) (mV 0) (mC c))))
theorem is_kind_gen {s : Sto} {d : D} (h : kindD d) : (fnM 1 1 (tIsKind (.tup [.str "weak", .str "common", .str "strong"])) [d] s).wp fun d' s' => d' = .bl true ∧ Eff [] s s' := by
  obtain ⟨k, rfl, hk⟩ := h
  unfold tIsKind
  rw [z_fnM (by rfl)]
  simp
  refine isi_str rfl ?_
  simp
  have e : (D.tup [.str "weak", .str "common", .str "strong"]) = .tup (kinds.map D.str) := rfl
  rw [e, z_inT_yes (by rw [plain]; exact kinds_ok hk) (plains_strs fun x hx => kinds_ok hx) (List.mem_map_of_mem hk)]
  simp [Eff.refl]
def bodyD (d : D) : Prop := ∃ i : Int, d = .int i ∧ 0 ≤ i ∧ i ≤ 999999
def tLookBody : SM := (sI (bOr (bNot (toT (mIsi "int" (mV 0)))) (bOr (toT (mIsi "bool" (mV 0))) (bNot (toB (mCh dLe dLe (mC (.int 0)) (mV 0) (mC (.int 999999))))))) sNo sN)
theorem look_body_gen : LookOk bodyD (fnM 1 1 tLookBody) := by
  intro s d h
  obtain ⟨i, rfl, h0, h1⟩ := h
  unfold tLookBody
  rw [z_fnM (by rfl)]
  simp
  refine isi_int rfl ?_
  simp
  refine isi_nb rfl ?_
  simp [h0, h1, Eff.refl]
def tTwice : SM := (sC (sA 1 (mN fLst aN)) (sC (sF (iSq (mV 0)) (gN 2) (sC (sI (toB (m2 (dInB false) (mV 2) (mV 1))) (sR (mV 2)) sN) (sE (mBM "list" (mtL lAppend) (mV 1) (aC (mV 2) aN))))) (sR (mC .non))))
def TwiceOk (F : MF) : Prop := ∀ {s : Sto} {n : Nat} {ms : List Str}, lstAt s n = some (ms.map D.str) → ms.Nodup → (∀ x ∈ ms, strOk x = true) → ms.length ≤ 1000 → (F [.ref n] s).wp fun d s' => d = .non ∧ Eff [] s s'
theorem twice_gen : TwiceOk (fnM 1 3 tTwice) := by
  intro s n ms hx hd hok hl
  refine wp_of fun P hP => ?_
  unfold tTwice
  rw [z_fnM (by rfl)]
  have hn := lstAt_lt hx
  simp [lstAt_app hn, hx]
  refine for_it (ks := []) (s0 := s) (xs := ms.map D.str) (it_lst hx (by simp)) (fun i e s1 => Eff [] s s1 ∧ mlAt s1 s.length = some ((ms.take i).map D.str) ∧ ∃ o, e = [some (.ref n), some (.ref s.length), o]) (fun _ _ _ h => h.1) ?_ ⟨Eff.push, by simp, none, rfl⟩ ?_
  · rintro i d e s1 hd1 ⟨ef, hm, o, rfl⟩
    obtain ⟨x, hx1, rfl⟩ : ∃ x, ms[i]? = some x ∧ d = .str x := by
      rw [List.getElem?_map] at hd1
      obtain ⟨x, h1, h2⟩ := Option.map_eq_some_iff.mp hd1
      exact ⟨x, h1, h2.symm⟩
    have hi : i < ms.length := (List.getElem?_eq_some_iff.mp hx1).1
    have hxe : ms[i] = x := (List.getElem?_eq_some_iff.mp hx1).2
    refine ⟨_, rfl, ?_⟩
    have hs := plains_strs (n := 20) (ms := ms.take i) fun x hx => hok x (List.mem_of_mem_take hx)
    have ni2 : ¬ (D.str x) ∈ (ms.take i).map D.str := fun hmem => by
      obtain ⟨y, hy, e⟩ := List.mem_map.mp hmem
      cases e
      obtain ⟨j, hj2, e⟩ := List.getElem_of_mem hy
      rw [List.length_take] at hj2
      rw [List.getElem_take] at e
      exact (List.pairwise_iff_getElem.mp hd) j i (by omega) hi (by omega) (e.trans hxe.symm)
    simp
    rw [z_inL_no (by rw [plain]; exact hok _ (List.mem_of_getElem? hx1)) (lstAt_ml hm) hs ni2]
    have hlt : s.length < s1.length := lstAt_lt (lstAt_ml hm)
    simp [hm, hlt]
    refine ⟨isTy_ml hm, by rw [size_line]; omega, ef.set (Nat.le_refl _), ?_⟩
    rw [List.take_add_one, hd1]
    simp
  · rintro e s1 ⟨ef, hm, o, rfl⟩
    simp
    exact hP _ _ ⟨rfl, ef⟩
end Z

set_option Elab.async false
set_option linter.all false
set_option maxRecDepth 100000
set_option maxHeartbeats 4000000
namespace Z
open PySem PySem.Spec PyProof.Rows L2 TL
open PySem.PyData (strOk)
/-! ### members, archives, stores: what stands for them -/
abbrev DefA := Str × Str × Int
structure MemA where
  name : Str
  defs : List DefA
  wants : List Str
structure ArcA where
  name : Str
  mems : List MemA
def defD (p : DefA) : D := .tup [.str p.1, .str p.2.1, .int p.2.2]
def IsMem (s : Sto) (d : D) (m : MemA) : Prop := ∃ n, d = .ref n ∧ s[n]? = some (.ins "Member" [("name", .str m.name), ("defines", .tup (m.defs.map defD)), ("wants", .tup (m.wants.map D.str))])
def IsArc (s : Sto) (d : D) (a : ArcA) : Prop := ∃ n ds, d = .ref n ∧ s[n]? = some (.ins "Archive" [("name", .str a.name), ("members", .tup ds)]) ∧ AllR (IsMem s) ds a.mems
def IsSto (s : Sto) (d : D) (as : List ArcA) : Prop := ∃ n ds, d = .ref n ∧ s[n]? = some (.ins "Store" [("archives", .tup ds)]) ∧ AllR (IsArc s) ds as
def Bags (s : Sto) (ks : List Nat) : Prop := ∀ k ∈ ks, Bag s k
theorem bags_nil {s : Sto} : Bags s [] := fun _ h => by simp at h
theorem Bags.eff {s t : Sto} {ks : List Nat} (h : Bags s ks) (e : Eff ks s t) : Bags t ks := fun k hk => e.bag k hk (h k hk)
/-- an instance is no bag -/
theorem ins_no {s : Sto} {ks : List Nat} {n : Nat} {c : Str} {fs : List (Str × D)} (hb : Bags s ks) (h : s[n]? = some (.ins c fs)) : n ∉ ks := fun hk => by
  obtain ⟨a, b, e⟩ := hb n hk
  rw [h] at e
  cases e
theorem IsMem.eff {s t : Sto} {ks : List Nat} {d : D} {m : MemA} (h : IsMem s d m) (e : Eff ks s t) (hb : Bags s ks) : IsMem t d m := by
  obtain ⟨n, h1, h2⟩ := h
  exact ⟨n, h1, e.get h2 (ins_no hb h2)⟩
theorem IsArc.eff {s t : Sto} {ks : List Nat} {d : D} {m : ArcA} (h : IsArc s d m) (e : Eff ks s t) (hb : Bags s ks) : IsArc t d m := by
  obtain ⟨n, ds, h1, h2, h3⟩ := h
  exact ⟨n, ds, h1, e.get h2 (ins_no hb h2), h3.mono fun _ _ h => h.eff e hb⟩
theorem IsSto.eff {s t : Sto} {ks : List Nat} {d : D} {m : List ArcA} (h : IsSto s d m) (e : Eff ks s t) (hb : Bags s ks) : IsSto t d m := by
  obtain ⟨n, ds, h1, h2, h3⟩ := h
  exact ⟨n, ds, h1, e.get h2 (ins_no hb h2), h3.mono fun _ _ h => h.eff e hb⟩
theorem IsMem.eff0 {s t : Sto} {d : D} {m : MemA} (h : IsMem s d m) (e : Eff [] s t) : IsMem t d m := h.eff e bags_nil
theorem IsArc.eff0 {s t : Sto} {d : D} {m : ArcA} (h : IsArc s d m) (e : Eff [] s t) : IsArc t d m := h.eff e bags_nil
theorem IsSto.eff0 {s t : Sto} {d : D} {m : List ArcA} (h : IsSto s d m) (e : Eff [] s t) : IsSto t d m := h.eff e bags_nil
/-! attributes -/
section
variable {P : D → Sto → Prop} {E : Str → Str → D → Sto → Prop} {s : Sto} {d : D} {cs : List Str}
theorem g_ins {n : Nat} {c f : Str} {fs : List (Str × D)} {v : D} (h : s[n]? = some (.ins c fs)) (hl : fs.lookup f = some v) (hc : c ∈ cs) : gFld cs f (.ref n) s = .ok v s := by
  unfold gFld
  dsimp only
  rw [h]
  dsimp only
  rw [if_pos hc, hl]
theorem IsMem.gname {m : MemA} (h : IsMem s d m) (hc : ("Member" : Str) ∈ cs := by decide) : gFld cs "name" d s = .ok (.str m.name) s := by
  obtain ⟨n, rfl, h⟩ := h
  exact g_ins h rfl hc
theorem IsMem.gdefs {m : MemA} (h : IsMem s d m) (hc : ("Member" : Str) ∈ cs := by decide) : gFld cs "defines" d s = .ok (.tup (m.defs.map defD)) s := by
  obtain ⟨n, rfl, h⟩ := h
  exact g_ins h rfl hc
theorem IsMem.gwants {m : MemA} (h : IsMem s d m) (hc : ("Member" : Str) ∈ cs := by decide) : gFld cs "wants" d s = .ok (.tup (m.wants.map D.str)) s := by
  obtain ⟨n, rfl, h⟩ := h
  exact g_ins h rfl hc
theorem IsArc.gname {a : ArcA} (h : IsArc s d a) (hc : ("Archive" : Str) ∈ cs := by decide) : gFld cs "name" d s = .ok (.str a.name) s := by
  obtain ⟨n, ds, rfl, h, _⟩ := h
  exact g_ins h rfl hc
theorem IsArc.gmems {a : ArcA} (h : IsArc s d a) (hc : ("Archive" : Str) ∈ cs := by decide) : ∃ ds, gFld cs "members" d s = .ok (.tup ds) s ∧ AllR (IsMem s) ds a.mems := by
  obtain ⟨n, ds, rfl, h, h2⟩ := h
  exact ⟨ds, g_ins h rfl hc, h2⟩
theorem IsSto.garcs {a : List ArcA} (h : IsSto s d a) (hc : ("Store" : Str) ∈ cs := by decide) : ∃ ds, gFld cs "archives" d s = .ok (.tup ds) s ∧ AllR (IsArc s) ds a := by
  obtain ⟨n, ds, rfl, h, h2⟩ := h
  exact ⟨ds, g_ins h rfl hc, h2⟩
theorem IsMem.ins {m : MemA} (h : IsMem s d m) : insC s d = some ("Member" : Str) := by
  obtain ⟨n, rfl, h⟩ := h
  exact insC_ins h
theorem IsArc.ins {m : ArcA} (h : IsArc s d m) : insC s d = some ("Archive" : Str) := by
  obtain ⟨n, ds, rfl, h, _⟩ := h
  exact insC_ins h
theorem IsSto.ins {m : List ArcA} (h : IsSto s d m) : insC s d = some ("Store" : Str) := by
  obtain ⟨n, ds, rfl, h, _⟩ := h
  exact insC_ins h
end
/-! ### sorted definitions, wants -/
def encP (p : DefA) : PyData := .tuple [.str p.1, .str p.2.1, .int p.2.2]
def leP (a b : DefA) : Bool := PySem.W.dataLe false encP a b
def sortP (ps : List DefA) : List DefA := ps.mergeSort leP
theorem sortP_perm (ps : List DefA) : (sortP ps).Perm ps := List.mergeSort_perm _ _
theorem enc_defD {p : DefA} : enc (defD p) = encP p := by
  unfold defD encP
  rw [enc, encs, encs, encs, encs, enc, enc, enc]
def okP (p : DefA) : Prop := strOk p.1 = true ∧ strOk p.2.1 = true
theorem plain_defD {n : Nat} {p : DefA} (h : okP p) : plain (n + 1) (defD p) = true := by
  unfold defD
  rw [plain, plains_iff]
  intro x hx
  simp only [List.mem_cons, List.not_mem_nil, or_false] at hx
  rcases hx with rfl | rfl | rfl
  · rw [plain]; exact h.1
  · rw [plain]; exact h.2
  · rw [plain]
theorem plains_defs {n : Nat} {ps : List DefA} (h : ∀ p ∈ ps, okP p) : plains (n + 1) (ps.map defD) = true := plains_iff.mpr fun d hd => by
  obtain ⟨p, hp, rfl⟩ := List.mem_map.mp hd
  exact plain_defD (h p hp)
theorem encD_def {s : Sto} {p : DefA} (h : okP p) : encD s (defD p) = encP p := by
  unfold encD
  rw [pyd_le (pyd_plain s 20 (defD p) (plain_defD h)) (by omega), enc_defD]
  rfl
theorem sortD_defs {s : Sto} {ps : List DefA} (h : ∀ p ∈ ps, okP p) : canSort s (ps.map defD) = true ∧ sortD s (ps.map defD) = (sortP ps).map defD := by
  constructor
  · unfold canSort
    simp only [List.all_map, Bool.and_eq_true, Bool.or_eq_true, List.all_eq_true, Function.comp_apply]
    refine ⟨⟨fun x hx => ?_, fun x hx y hy => ?_⟩, .inl fun x hx => ?_⟩
    · rw [shp_plain (plain_defD (h x hx))]
      rfl
    · rw [encD_def (h x hx), encD_def (h y hy)]
      simp [PySem.W.alike, PySem.W.alikeAll, encP]
    · rw [encD_def (h x hx)]
      rfl
  · unfold sortD sortP
    refine (List.map_mergeSort fun a ha b hb => ?_).symm
    rw [leP, PySem.W.dataLe_eq, PySem.W.dataLe_eq]
    simp only [encD_def (h a ha), encD_def (h b hb)]
theorem sortD_strs {s : Sto} {ms : List Str} (h : ∀ x ∈ ms, strOk x = true) : canSort s (ms.map D.str) = true ∧ sortD s (ms.map D.str) = (sortS ms).map D.str := by
  constructor
  · unfold canSort
    simp only [List.all_map, Bool.and_eq_true, Bool.or_eq_true, List.all_eq_true, Function.comp_apply]
    refine ⟨⟨fun x hx => ?_, fun x hx y hy => ?_⟩, .inr fun x hx => ?_⟩
    · rw [shp_plain (by rw [plain]; exact h x hx)]
      rfl
    · rw [encD_str, encD_str]
      simp [PySem.W.alike]
    · rw [encD_str]
      rfl
  · unfold sortD sortS
    refine (List.map_mergeSort fun a _ b _ => ?_).symm
    rw [PySem.W.dataLe_eq]
    have := congrFun (congrFun (PySem.W.dataLe_str (fun x : Str => x)) a) b
    rw [PySem.W.dataLe_eq] at this
    simp only [encD_str, cond_false] at this ⊢
    rw [this]
    rfl
/-! ### Member(name, defines = .., wants = ..) -/
structure GoodM (nm : Str) (ps : List DefA) (ws : List Str) : Prop where
  nm : IsName nm
  defs : ∀ p ∈ ps, IsName p.1 ∧ p.2.1 ∈ kinds ∧ 0 ≤ p.2.2 ∧ p.2.2 ≤ 999999
  wants : ∀ w ∈ ws, IsName w
  nd : (ps.map (·.1) ++ ws).Nodup
  l1 : ps.length ≤ 6
  l2 : ws.length ≤ 6
theorem GoodM.okp {nm : Str} {ps : List DefA} {ws : List Str} (h : GoodM nm ps ws) : ∀ p ∈ ps, okP p := fun p hp => ⟨(h.defs p hp).1.ok, kinds_ok (h.defs p hp).2.1⟩
def tMember (lname lkind lbody twice : MF) (cs : List Str) : SM := (sC (sE (mN lname (aC (mV 1) aN))) (sC (sF (iSq (mV 2)) (gT [(gN 6), (gN 7), (gN 8)]) (sC (sE (mN lname (aC (mV 6) aN))) (sC (sE (mN lkind (aC (mV 7) aN))) (sE (mN lbody (aC (mV 8) aN)))))) (sC (sF (iSq (mV 3)) (gN 4) (sE (mN lname (aC (mV 4) aN)))) (sC (sA 5 (mN twice (aC (m2 dAdd (mL (iSq (mV 2)) (gN 9) tY (m2 dIx (mV 9) (mC (.int 0))) [9]) (mN fList (aC (mV 3) aN))) aN))) (sC (sI (toB (m2 dNotN2 (mV 5) (mC .non))) sNo sN) (sC (sI (bOr (toB (m2 dGt (mN fLen (aC (mV 2) aN)) (mC (.int 6)))) (toB (m2 dGt (mN fLen (aC (mV 3) aN)) (mC (.int 6))))) sNo sN) (sC (sFldD cs "name" (mV 0) (mV 1)) (sC (sFldD cs "defines" (mV 0) (mN fTuple (aC (mN fSortA (aC (mV 2) aN)) aN))) (sFldD cs "wants" (mV 0) (mN fTuple (aC (mN fSortA (aC (mV 3) aN)) aN)))))))))))
/-- a list or a tuple of items that stays -/
def SeqOf (s : Sto) (d : D) (xs : List D) : Prop := d = .tup xs ∨ ∃ n, d = .ref n ∧ lstAt s n = some xs
theorem SeqOf.eff0 {s t : Sto} {d : D} {xs : List D} (h : SeqOf s d xs) (e : Eff [] s t) : SeqOf t d xs := by
  rcases h with h | ⟨n, h1, h2⟩
  · exact .inl h
  · exact .inr ⟨n, h1, e.lst h2 (by simp)⟩
theorem z_iSqS {PI : Nat × Stp → Sto → Prop} {E : Str → Str → D → Sto → Prop} {s : Sto} {e : Ev} {i : Nat} {d : D} {xs : List D} (he : e[i]? = some (some d)) (h : SeqOf s d xs) (hP : ∀ j, ItOk [] s j xs.length xs → PI (xs.length, j) s) : (iSq (mV i) e s).wp PI E := by
  rw [z_iSq, z_mV, he, slotP_some]
  rcases h with rfl | ⟨n, rfl, h2⟩
  · exact hP _ (it_tup rfl)
  · show lstP _ _
    rw [h2, lstP_some]
    exact hP _ (it_lst h2 (by simp) rfl)
end Z

set_option Elab.async false
set_option linter.all false
set_option maxRecDepth 100000
set_option maxHeartbeats 4000000
namespace Z
open PySem PySem.Spec PyProof.Rows L2 TL
open PySem.PyData (strOk)
theorem SeqOf.len {s : Sto} {d : D} {xs : List D} (h : SeqOf s d xs) {P : D → Sto → Prop} {E : Str → Str → D → Sto → Prop} : (fLen [d] s).wp P E = P (.int xs.length) s := by
  rcases h with rfl | ⟨n, rfl, h2⟩
  · rw [z_lenT]
  · rw [z_lenL, h2, lstP_some]
theorem SeqOf.list {s : Sto} {d : D} {xs : List D} (h : SeqOf s d xs) {P : D → Sto → Prop} {E : Str → Str → D → Sto → Prop} : (fList [d] s).wp P E = (xs.length ≤ sizeLine ∧ P (.ref s.length) (s ++ [.lst xs])) := by
  rcases h with rfl | ⟨n, rfl, h2⟩
  · rw [z_listT]
  · rw [z_listL, h2, lstP_some]
theorem SeqOf.sort {s : Sto} {d : D} {xs : List D} (h : SeqOf s d xs) {P : D → Sto → Prop} {E : Str → Str → D → Sto → Prop} : (fSortA [d] s).wp P E = (canSort s xs = true ∧ P (.ref s.length) (s ++ [.lst (sortD s xs)])) := by
  rcases h with rfl | ⟨n, rfl, h2⟩
  · rw [z_sortT]
  · rw [z_sortL, h2, lstP_some]
theorem fldP_ins {cs : List Str} {f c : Str} {v : D} {s : Sto} {n : Nat} {fs : List (Str × D)} {PS : Sto → Prop} (h : s[n]? = some (.ins c fs)) (hc : c ∈ cs) (hl : fs.length < 1000) (hP : PS (s.set n (.ins c (putD f v fs)))) : fldP cs f v (.ref n) s PS := by
  unfold fldP
  rw [refP_ref, h, insP_some]
  exact ⟨⟨hc, hl⟩, hP⟩
theorem member_gen {lname lkind lbody twice : MF} {cs : List Str} (h1 : LookOk nameD lname) (h2 : LookOk kindD lkind) (h3 : LookOk bodyD lbody) (h4 : TwiceOk twice) (hc : ("Member" : Str) ∈ cs)
    {s : Sto} {nm : Str} {dd dw : D} {ps : List DefA} {ws : List Str} (g : GoodM nm ps ws) (hd : SeqOf s dd (ps.map defD)) (hw : SeqOf s dw (ws.map D.str)) :
    (mkD "Member" (fnM 4 10 (tMember lname lkind lbody twice cs)) [.str nm, dd, dw] s).wp fun d s' => IsMem s' d ⟨nm, sortP ps, sortS ws⟩ ∧ Eff [] s s' := by
  refine wp_of fun P hP => ?_
  rw [z_mkD, z_fnM (by rfl)]
  have e1 : Eff [] s (s ++ [SO.ins "Member" []]) := Eff.push
  have n1 : (s ++ [SO.ins "Member" []])[s.length]? = some (.ins "Member" []) := by simp
  generalize s ++ [SO.ins "Member" []] = s1 at e1 n1 ⊢
  show (tMember lname lkind lbody twice cs [some (.ref s.length), some (.str nm), some dd, some dw, none, none, none, none, none, none] s1).wp _
  unfold tMember
  rw [z_sCn]
  simp
  refine wp_ne (h1 ⟨nm, rfl, g.nm⟩) ?_
  rintro d s2 ⟨rfl, ef2⟩
  have n2 := ef2.get n1 (by simp)
  have e2 := e1.trans ef2
  clear ef2 n1 e1
  show nxt _ _ _ _
  rw [z_nxC]
  simp [-z_iSq]
  refine z_iSqS rfl (hd.eff0 e2) fun j it => ?_
  refine for_it (it.later Eff.refl) (fun i e s3 => Eff [] s2 s3 ∧ ∃ o6 o7 o8, e = [some (.ref s.length), some (.str nm), some dd, some dw, none, none, o6, o7, o8, none]) (fun _ _ _ h => h.1) ?_ ⟨Eff.refl, _, _, _, rfl⟩ ?_
  · rintro i d e s3 hdi ⟨ef, o6, o7, o8, rfl⟩
    obtain ⟨p, hp, rfl⟩ := List.mem_map.mp (List.mem_of_getElem? hdi)
    have gp := g.defs p hp
    refine ⟨[some (.ref s.length), some (.str nm), some dd, some dw, none, none, some (.str p.1), some (.str p.2.1), some (.int p.2.2), none], rfl, ?_⟩
    simp
    refine wp_ne (h1 ⟨_, rfl, gp.1⟩) ?_
    rintro d s4 ⟨rfl, ef4⟩
    refine wp_ne (h2 ⟨_, rfl, gp.2.1⟩) ?_
    rintro d s5 ⟨rfl, ef5⟩
    refine wp_ne (h3 ⟨_, rfl, gp.2.2.1, gp.2.2.2⟩) ?_
    rintro d s6 ⟨rfl, ef6⟩
    exact ((ef.trans ef4).trans ef5).trans ef6
  rintro e s3 ⟨ef3, o6, o7, o8, rfl⟩
  have n3 := ef3.get n2 (by simp)
  have e3 := e2.trans ef3
  clear ef3 n2 e2 it
  show nxt _ _ _ _
  rw [z_nxC]
  simp [-z_iSq]
  refine z_iSqS rfl (hw.eff0 e3) fun j it => ?_
  refine for_it (it.later Eff.refl) (fun i e s4 => Eff [] s3 s4 ∧ ∃ o4, e = [some (.ref s.length), some (.str nm), some dd, some dw, o4, none, o6, o7, o8, none]) (fun _ _ _ h => h.1) ?_ ⟨Eff.refl, _, rfl⟩ ?_
  · rintro i d e s4 hdi ⟨ef, o4, rfl⟩
    obtain ⟨w, hw1, rfl⟩ := List.mem_map.mp (List.mem_of_getElem? hdi)
    refine ⟨_, rfl, ?_⟩
    simp
    refine wp_ne (h1 ⟨_, rfl, g.wants w hw1⟩) ?_
    rintro d s5 ⟨rfl, ef5⟩
    exact ef.trans ef5
  rintro e s4 ⟨ef4, o4, rfl⟩
  have n4 := ef4.get n3 (by simp)
  have e4 := e3.trans ef4
  clear ef4 n3 e3 it
  show nxt _ _ _ _
  rw [z_nxC]
  have l1 := g.l1
  have l2 := g.l2
  simp [-z_iSq]
  refine z_iSqS rfl (hd.eff0 e4) fun j it => ?_
  refine wp_ne (lc_map (ks := []) (fun d => match d with | .tup (x :: _) => x | _ => .non) (it.later Eff.refl) (by simp) (by rw [List.length_map, size_line]; omega) fun d s5 hdm ef _ => ?_) ?_
  · obtain ⟨p, hp, rfl⟩ := List.mem_map.mp hdm
    refine ⟨_, rfl, ?_⟩
    simp [defD, Eff.refl]
  rintro d s5 ⟨rfl, ef5, hlt5, hm5⟩
  have hm5 : mlAt s5 s4.length = some ((ps.map (·.1)).map D.str) := by
    rw [hm5, List.map_map, List.map_map]
    rfl
  have n5 := ef5.get n4 (by simp)
  have e5 := e4.trans ef5
  clear ef5 n4 e4 it
  rw [(hw.eff0 e5).list]
  refine ⟨by rw [List.length_map, size_line]; omega, ?_⟩
  simp [hlt5, hm5]
  refine ⟨by rw [size_line]; omega, ?_⟩
  have e6 : Eff [] s5 (s5 ++ [SO.lst (ws.map D.str), SO.lst ((ps.map (D.str ∘ fun x => x.1)) ++ ws.map D.str)]) := by
    have := (Eff.push (ks := []) (s := s5) (o := SO.lst (ws.map D.str))).trans (Eff.push (o := SO.lst ((ps.map (D.str ∘ fun x => x.1)) ++ ws.map D.str)))
    simpa using this
  have hok : ∀ x ∈ ps.map (·.1) ++ ws, strOk x = true := fun x hx => by
    rcases List.mem_append.mp hx with hx | hx
    · obtain ⟨p, hp, rfl⟩ := List.mem_map.mp hx
      exact (g.defs p hp).1.ok
    · exact (g.wants x hx).ok
  refine wp_ne (h4 (ms := ps.map (·.1) ++ ws) (lstAt_some (by rw [List.getElem?_append_right (by omega)]; simp)) g.nd hok (by simp; omega)) ?_
  rintro d s6 ⟨rfl, ef6⟩
  have n6 := ef6.get (e6.get n5 (by simp)) (by simp)
  have e7 := (e5.trans e6).trans ef6
  clear ef6 e6 e5 n5 hm5 hlt5
  show nxt _ _ _ _
  rw [z_nxC]
  simp [isNon]
  show nxt _ _ _ _
  rw [z_nxC]
  simp
  have c1 : ¬ (6 : Int) < ps.length := by omega
  have c2 : ¬ (6 : Int) < ws.length := by omega
  rw [(hd.eff0 e7).len]
  simp [c1]
  rw [(hw.eff0 e7).len]
  simp [c2]
  show nxt _ _ _ _
  rw [z_nxC]
  simp
  refine fldP_ins n6 hc (by decide) ?_
  have hlt6 : s.length < s6.length := (List.getElem?_eq_some_iff.mp n6).1
  have n7 : (s6.set s.length (.ins "Member" (putD "name" (.str nm) [])))[s.length]? = some (.ins "Member" [("name", .str nm)]) := by rw [List.getElem?_set_self hlt6]; rfl
  have e8 := e7.set (n := s.length) (o := .ins "Member" (putD "name" (.str nm) [])) (Nat.le_refl _)
  clear e7 n6
  generalize s6.set s.length (.ins "Member" (putD "name" (.str nm) [])) = s7 at n7 e8 ⊢
  show nxt _ _ _ _
  rw [z_nxC]
  simp
  have sd := sortD_defs (s := s7) g.okp
  rw [(hd.eff0 e8).sort]
  refine ⟨sd.1, ?_⟩
  rw [sd.2]
  simp
  have n8 : (s7 ++ [SO.lst ((sortP ps).map defD)])[s.length]? = some (.ins "Member" [("name", .str nm)]) := Eff.push.get (ks := []) n7 (by simp)
  have e9 : Eff [] s (s7 ++ [SO.lst ((sortP ps).map defD)]) := e8.trans Eff.push
  refine fldP_ins n8 hc (by simp) ?_
  have hlt8 : s.length < (s7 ++ [SO.lst ((sortP ps).map defD)]).length := (List.getElem?_eq_some_iff.mp n8).1
  have n9 : ((s7 ++ [SO.lst ((sortP ps).map defD)]).set s.length (.ins "Member" (putD "defines" (.tup ((sortP ps).map defD)) [("name", .str nm)])))[s.length]? = some (.ins "Member" [("name", .str nm), ("defines", .tup ((sortP ps).map defD))]) := by rw [List.getElem?_set_self hlt8]; rfl
  have e10 := e9.set (n := s.length) (o := .ins "Member" (putD "defines" (.tup ((sortP ps).map defD)) [("name", .str nm)])) (Nat.le_refl _)
  clear e9 e8 n8 n7
  generalize (s7 ++ [SO.lst ((sortP ps).map defD)]).set s.length (.ins "Member" (putD "defines" (.tup ((sortP ps).map defD)) [("name", .str nm)])) = s8 at n9 e10 ⊢
  show nxt _ _ _ _
  rw [z_nxt]
  simp
  have sw := sortD_strs (s := s8) (ms := ws) fun x hx => (g.wants x hx).ok
  rw [(hw.eff0 e10).sort]
  refine ⟨sw.1, ?_⟩
  rw [sw.2]
  simp
  have n10 : (s8 ++ [SO.lst ((sortS ws).map D.str)])[s.length]? = some (.ins "Member" [("name", .str nm), ("defines", .tup ((sortP ps).map defD))]) := Eff.push.get (ks := []) n9 (by simp)
  have e11 : Eff [] s (s8 ++ [SO.lst ((sortS ws).map D.str)]) := e10.trans Eff.push
  refine fldP_ins n10 hc (by simp) ?_
  have hlt10 : s.length < (s8 ++ [SO.lst ((sortS ws).map D.str)]).length := (List.getElem?_eq_some_iff.mp n10).1
  refine hP _ _ ⟨⟨s.length, rfl, ?_⟩, e11.set (Nat.le_refl _)⟩
  rw [List.getElem?_set_self hlt10]
  rfl
/-! ### comprehensions over what stands for something -/
section
variable {E : Str → Str → D → Sto → Prop} {e : Ev} {s s0 : Sto} {j : Stp} {g : GN} {N : Nat} {ks : List Nat} {xs : List D} {tt : EM Bool} {mm : EM D}
theorem lc_mapR {α : Type} (R : D → α → Prop) (k : α → D) {as : List α} (hR : AllR R xs as) (it : ItOk ks s0 j N xs) (hb : Bags s0 ks) (hl : as.length < sizeLine)
    (body : ∀ d a s, R d a → a ∈ as → Eff ks s0 s → Bags s ks → ∃ e1, g d e = some e1 ∧ (mm e1 s).wp fun y s2 => Eff ks s s2 ∧ y = k a) :
    (lcL j g tY mm s0.length N 0 e (s0 ++ [.lst []])).wp fun d s' => d = .ref s0.length ∧ Eff ks s0 s' ∧ s0.length < s'.length ∧ mlAt s' s0.length = some (as.map k) := by
  refine wp_ne (lc_all it hb (by rw [hR.1]; exact hl) (fun i d y => ∃ a, as[i]? = some a ∧ y = k a) fun i d s hx ef hbs => ?_) ?_
  · obtain ⟨a, ha, hr⟩ := hR.get hx
    obtain ⟨e1, h1, h2⟩ := body d a s hr (List.mem_of_getElem? ha) ef hbs
    exact ⟨e1, h1, wp_ne h2 fun y s2 ⟨h3, h4⟩ => ⟨h3, a, ha, h4⟩⟩
  · rintro d s' ⟨rfl, ef, hlt, ys, h1, h2, h3⟩
    refine ⟨rfl, ef, hlt, ?_⟩
    rw [h2]
    congr 1
    refine List.ext_getElem (by rw [List.length_map, h1, hR.1]) fun i hi hi2 => ?_
    obtain ⟨a, h4, h5⟩ := h3 i (xs[i]'(by omega)) ys[i] (List.getElem?_eq_getElem (by omega)) (List.getElem?_eq_getElem hi)
    rw [List.getElem_map, h5]
    congr 1
    exact ((List.getElem?_eq_some_iff.mp h4).2).symm
/-- with a test: what is kept stands for what is kept -/
theorem lc_filtR {α : Type} (R : D → α → Prop) (R2 : D → α → Prop) (p : α → Bool) {as : List α} (hR : AllR R xs as) (it : ItOk ks s0 j N xs) (hb : Bags s0 ks) (hl : as.length < sizeLine)
    (body : ∀ d a s, R d a → a ∈ as → Eff ks s0 s → Bags s ks → ∃ e1, g d e = some e1 ∧ (tt e1 s).wp fun q s1 => Eff ks s s1 ∧ q = p a ∧ (q = true → (mm e1 s1).wp fun y s2 => Eff ks s1 s2 ∧ R2 y a)) :
    (lcL j g tt mm s0.length N 0 e (s0 ++ [.lst []])).wp fun d s' => d = .ref s0.length ∧ Eff ks s0 s' ∧ s0.length < s'.length ∧ ∃ ys, mlAt s' s0.length = some ys ∧ AllR R2 ys (as.filter p) := by
  refine wp_ne (lc_gen it hb (by rw [hR.1]; exact hl) (fun i d o _ => ∃ a, as[i]? = some a ∧ (if p a then ∃ y, o = some y ∧ R2 y a else o = none)) (fun _ _ _ _ _ h _ _ => h) fun i d s hx ef hbs _ => ?_) ?_
  · obtain ⟨a, ha, hr⟩ := hR.get hx
    obtain ⟨e1, h1, h2⟩ := body d a s hr (List.mem_of_getElem? ha) ef hbs
    refine ⟨e1, h1, wp_ne h2 fun q s1 ⟨h3, h4, h5⟩ => ⟨h3, ?_⟩⟩
    subst h4
    cases hp : p a with
    | true =>
      rw [if_pos rfl]
      exact wp_ne (h5 hp) fun y s2 ⟨h6, h7⟩ => ⟨h6, a, ha, by rw [hp, if_pos rfl]; exact ⟨y, rfl, h7⟩⟩
    | false =>
      rw [if_neg Bool.false_ne_true]
      exact ⟨a, ha, by rw [hp, if_neg Bool.false_ne_true]⟩
  · rintro d s' ⟨rfl, ef, hlt, zs, hz, hm, hR2⟩
    refine ⟨rfl, ef, hlt, _, hm, ?_⟩
    have key : ∀ (as : List α) (zs : List (Option D)), zs.length = as.length → (∀ (i : Nat) (a : α) (o : Option D), as[i]? = some a → zs[i]? = some o → (if p a then ∃ y, o = some y ∧ R2 y a else o = none)) → AllR R2 (zs.filterMap id) (as.filter p) := by
      intro as
      induction as with
      | nil =>
        intro zs h1 _
        have : zs = [] := List.eq_nil_of_length_eq_zero h1
        subst this
        exact AllR.nil
      | cons a as ih =>
        intro zs h1 h2
        cases zs with
        | nil => cases h1
        | cons z zs =>
          have h3 := h2 0 a z rfl rfl
          have h4 := ih zs (by simpa using h1) fun i b o hb ho => h2 (i + 1) b o (by simpa using hb) (by simpa using ho)
          cases hp : p a with
          | true =>
            rw [hp, if_pos rfl] at h3
            obtain ⟨y, rfl, hy⟩ := h3
            rw [List.filter_cons_of_pos hp]
            exact (AllR.one hy).app h4
          | false =>
            rw [hp, if_neg Bool.false_ne_true] at h3
            subst h3
            rw [List.filter_cons_of_neg (by rw [hp]; exact Bool.false_ne_true)]
            exact h4
    refine key as zs (by rw [hz, hR.1]) fun i a o ha ho => ?_
    have hi : i < xs.length := by rw [hR.1]; exact (List.getElem?_eq_some_iff.mp ha).1
    obtain ⟨a', h1, h2⟩ := hR2 i (xs[i]) o (List.getElem?_eq_getElem hi) ho
    rw [ha] at h1
    cases h1
    exact h2
end
end Z

set_option Elab.async false
set_option linter.all false
set_option maxRecDepth 100000
set_option maxHeartbeats 4000000
namespace Z
open PySem PySem.Spec PyProof.Rows L2 TL
open PySem.PyData (strOk)
/-! ### Archive(name, *members) -/
structure GoodA (nm : Str) (ms : List MemA) : Prop where
  nm : IsName nm
  names : ∀ m ∈ ms, IsName m.name
  nd : (ms.map (·.name)).Nodup
  len : ms.length ≤ 8
def tArchive (lname twice : MF) (cs csM : List Str) : SM := (sC (sE (mN lname (aC (mV 1) aN))) (sC (sA 3 (mN twice (aC (mL (iSq (mV 2)) (gN 4) tY (mFld csM "name" (mV 4)) [4]) aN))) (sC (sI (toB (m2 dNotN2 (mV 3) (mC .non))) sNo sN) (sC (sI (toB (m2 dGt (mN fLen (aC (mV 2) aN)) (mC (.int 8)))) sNo sN) (sC (sFldD cs "name" (mV 0) (mV 1)) (sFldD cs "members" (mV 0) (mV 2)))))))
theorem map_names {ms : List MemA} : ms.map (fun m => D.str m.name) = (ms.map (·.name)).map D.str := by rw [List.map_map]; rfl
theorem archive_gen {lname twice : MF} {cs csM : List Str} (h1 : LookOk nameD lname) (h4 : TwiceOk twice) (hc : ("Archive" : Str) ∈ cs) (hM : ("Member" : Str) ∈ csM)
    {s : Sto} {nm : Str} {ds : List D} {ms : List MemA} (g : GoodA nm ms) (hd : AllR (IsMem s) ds ms) :
    (mkD "Archive" (starF 2 (fnM 3 5 (tArchive lname twice cs csM))) (.str nm :: ds) s).wp fun d s' => IsArc s' d ⟨nm, ms⟩ ∧ Eff [] s s' := by
  refine wp_of fun P hP => ?_
  have hlen := g.len
  have hl := hd.1
  rw [z_mkD, z_starF]
  refine ⟨⟨by simp, by simp only [List.length_cons, size_line]; omega⟩, ?_⟩
  rw [z_fnM (by rfl)]
  have e1 : Eff [] s (s ++ [SO.ins "Archive" []]) := Eff.push
  have n1 : (s ++ [SO.ins "Archive" []])[s.length]? = some (.ins "Archive" []) := by simp
  generalize s ++ [SO.ins "Archive" []] = s1 at e1 n1 ⊢
  show (tArchive lname twice cs csM [some (.ref s.length), some (.str nm), some (.tup ds), none, none] s1).wp _
  unfold tArchive
  rw [z_sCn]
  simp
  refine wp_ne (h1 ⟨nm, rfl, g.nm⟩) ?_
  rintro d s2 ⟨rfl, ef2⟩
  have n2 := ef2.get n1 (by simp)
  have e2 := e1.trans ef2
  show nxt _ _ _ _
  rw [z_nxC]
  simp
  refine wp_ne (lc_mapR (ks := []) (IsMem s2) (fun m => D.str m.name) (hd.mono fun _ _ h => h.eff0 e2) (it_tup rfl) bags_nil (by rw [size_line]; omega) fun d m s3 hm _ ef _ => ?_) ?_
  · refine ⟨_, rfl, ?_⟩
    simp only [z_mFld, z_mV]
    simp
    rw [(hm.eff0 ef).gname hM, z_ok]
    exact ⟨Eff.refl, rfl⟩
  rintro d s3 ⟨rfl, ef3, hlt3, hm3⟩
  rw [map_names] at hm3
  refine wp_ne (h4 (lstAt_ml hm3) g.nd (fun x hx => by
    obtain ⟨m, hm, rfl⟩ := List.mem_map.mp hx
    exact (g.names m hm).ok) (by rw [List.length_map]; omega)) ?_
  rintro d s4 ⟨rfl, ef4⟩
  have n4 := ef4.get (ef3.get n2 (by simp)) (by simp)
  have e4 := (e2.trans ef3).trans ef4
  clear ef4 ef3 ef2 e1 e2 n1 n2 hm3 hlt3
  show nxt _ _ _ _
  rw [z_nxC]
  simp [isNon]
  show nxt _ _ _ _
  rw [z_nxC]
  have c1 : ¬ (8 : Int) < ds.length := by omega
  simp [c1]
  show nxt _ _ _ _
  rw [z_nxC]
  simp
  refine fldP_ins n4 hc (by decide) ?_
  have hlt4 : s.length < s4.length := (List.getElem?_eq_some_iff.mp n4).1
  have n5 : (s4.set s.length (.ins "Archive" (putD "name" (.str nm) [])))[s.length]? = some (.ins "Archive" [("name", .str nm)]) := by rw [List.getElem?_set_self hlt4]; rfl
  have e5 := e4.set (n := s.length) (o := .ins "Archive" (putD "name" (.str nm) [])) (Nat.le_refl _)
  generalize s4.set s.length (.ins "Archive" (putD "name" (.str nm) [])) = s5 at n5 e5 ⊢
  show nxt _ _ _ _
  rw [z_nxt]
  simp
  refine fldP_ins n5 hc (by simp) ?_
  have hlt5 : s.length < s5.length := (List.getElem?_eq_some_iff.mp n5).1
  have e6 := e5.set (n := s.length) (o := .ins "Archive" (putD "members" (.tup ds) [("name", .str nm)])) (Nat.le_refl _)
  refine hP _ _ ⟨⟨s.length, ds, rfl, ?_, hd.mono fun _ _ h => h.eff0 e6⟩, e6⟩
  rw [List.getElem?_set_self hlt5]
  rfl
/-! ### archive + member -/
def tAdd (init : MF) (cs : List Str) : SM := (sR (mN (mkD "Archive" init) (aC (mFld cs "name" (mV 0)) (aS (mFld cs "members" (mV 0)) (aC (mV 1) aN)))))
theorem add_gen {lname twice : MF} {cs csM cs2 : List Str} (h1 : LookOk nameD lname) (h4 : TwiceOk twice) (hc : ("Archive" : Str) ∈ cs) (hM : ("Member" : Str) ∈ csM) (hc2 : ("Archive" : Str) ∈ cs2)
    {s : Sto} {da dm : D} {a : ArcA} {m : MemA} (g : GoodA a.name (a.mems ++ [m])) (ha : IsArc s da a) (hm : IsMem s dm m) :
    (fnM 2 2 (tAdd (starF 2 (fnM 3 5 (tArchive lname twice cs csM))) cs2) [da, dm] s).wp fun d s' => IsArc s' d ⟨a.name, a.mems ++ [m]⟩ ∧ Eff [] s s' := by
  refine wp_of fun P hP => ?_
  rw [z_fnM (by rfl)]
  unfold tAdd
  simp only [z_sR, z_mN, z_aC, z_aS, z_aN, z_mFld, z_mV]
  simp [-z_mkD]
  rw [ha.gname hc2, z_ok]
  obtain ⟨ds, e, hds⟩ := ha.gmems hc2
  rw [e, z_ok, seqD_tup, optP_some]
  exact wp_ne (archive_gen h1 h4 hc hM g (hds.app (AllR.one hm))) fun d s' h => hP _ _ h
end Z

set_option Elab.async false
set_option linter.all false
set_option maxRecDepth 100000
set_option maxHeartbeats 4000000
namespace Z
open PySem PySem.Spec PyProof.Rows L2 TL
open PySem.PyData (strOk)
theorem IsArc.its {s : Sto} {d : D} {a : ArcA} {itb : Itb} (h : IsArc s d a) (hi : itb.lookup ("Archive" : Str) = some ("members" : Str)) : ∃ ds, itsO itb s d = some (some ds) ∧ AllR (IsMem s) ds a.mems := by
  obtain ⟨n, ds, rfl, h, h2⟩ := h
  exact ⟨ds, itsO_ins h hi rfl, h2⟩
theorem IsSto.its {s : Sto} {d : D} {a : List ArcA} {itb : Itb} (h : IsSto s d a) (hi : itb.lookup ("Store" : Str) = some ("archives" : Str)) : ∃ ds, itsO itb s d = some (some ds) ∧ AllR (IsArc s) ds a := by
  obtain ⟨n, ds, rfl, h, h2⟩ := h
  exact ⟨ds, itsO_ins h hi rfl, h2⟩
/-! ### Store(*archives) -/
abbrev KeyA := Str × Int
def kP (p : DefA) : KeyA := (p.1, p.2.2)
def kM (m : MemA) : List KeyA := m.defs.map kP
def kA (a : ArcA) : List KeyA := a.mems.flatMap kM
def kS (as : List ArcA) : List KeyA := as.flatMap kA
def pairD (k : KeyA) : D := .tup [.str k.1, .int k.2]
theorem pairD_inj {a b : KeyA} (h : pairD a = pairD b) : a = b := by
  obtain ⟨a1, a2⟩ := a
  obtain ⟨b1, b2⟩ := b
  unfold pairD at h
  simp at h
  exact Prod.ext h.1 h.2
theorem plain_pair {n : Nat} {k : KeyA} (h : strOk k.1 = true) : plain (n + 1) (pairD k) = true := by
  unfold pairD
  rw [plain, plains_iff]
  intro x hx
  simp only [List.mem_cons, List.not_mem_nil, or_false] at hx
  rcases hx with rfl | rfl
  · rw [plain]; exact h
  · rw [plain]
theorem plains_pairs {n : Nat} {ks : List KeyA} (h : ∀ k ∈ ks, strOk k.1 = true) : plains (n + 1) (ks.map pairD) = true := plains_iff.mpr fun d hd => by
  obtain ⟨k, hk, rfl⟩ := List.mem_map.mp hd
  exact plain_pair (h k hk)
structure GoodS (as : List ArcA) : Prop where
  names : ∀ a ∈ as, IsName a.name
  nd : (as.map (·.name)).Nodup
  ok : ∀ k ∈ kS as, strOk k.1 = true
  kd : (kS as).Nodup
  kl : (kS as).length ≤ 10000
  len : as.length ≤ 6
def tStore (twice : MF) (cs csA csM : List Str) (itb : Itb) : SM := (sC (sA 2 (mN twice (aC (mL (iSq (mV 1)) (gN 4) tY (mFld csA "name" (mV 4)) [4]) aN))) (sC (sI (toB (m2 dNotN2 (mV 2) (mC .non))) sNo sN) (sC (sA 3 (mN fLst aN)) (sC (sF (iSq (mV 1)) (gN 4) (sF (iOwn itb (mV 4)) (gN 5) (sF (iSq (mFld csM "defines" (mV 5))) (gT [(gN 6), (gN 7), (gN 8)]) (sC (sI (toB (m2 (dInB false) (mN fTup (aC (mV 6) (aC (mV 8) aN))) (mV 3))) sNo sN) (sE (mBM "list" (mtL lAppend) (mV 3) (aC (mN fTup (aC (mV 6) (aC (mV 8) aN))) aN))))))) (sC (sI (toB (m2 dGt (mN fLen (aC (mV 1) aN)) (mC (.int 6)))) sNo sN) (sFldD cs "archives" (mV 0) (mV 1)))))))
theorem map_anames {ms : List ArcA} : ms.map (fun m => D.str m.name) = (ms.map (·.name)).map D.str := by rw [List.map_map]; rfl
theorem take_split1 {α : Type} {l : List α} {i : Nat} {a : α} (h : l[i]? = some a) : l = l.take i ++ a :: l.drop (i + 1) := by
  have hi := (List.getElem?_eq_some_iff.mp h).1
  have e := (List.getElem?_eq_some_iff.mp h).2
  conv => lhs; rw [← List.take_append_drop i l]
  rw [← e, List.getElem_cons_drop]
theorem take_snoc {α : Type} {l : List α} {i : Nat} {a : α} (h : l[i]? = some a) : l.take (i + 1) = l.take i ++ [a] := by
  rw [List.take_add_one, h]
  rfl
/-- the keys so far, and one more -/
theorem keys_at {as : List ArcA} {i k q : Nat} {a : ArcA} {m : MemA} {p : DefA} (h1 : as[i]? = some a) (h2 : a.mems[k]? = some m) (h3 : m.defs[q]? = some p) :
    ∃ rest, kS as = ((as.take i).flatMap kA ++ (a.mems.take k).flatMap kM ++ (m.defs.take q).map kP) ++ kP p :: rest := by
  refine ⟨(m.defs.drop (q + 1)).map kP ++ (a.mems.drop (k + 1)).flatMap kM ++ (as.drop (i + 1)).flatMap kA, ?_⟩
  have e1 : kM m = (m.defs.take q).map kP ++ kP p :: (m.defs.drop (q + 1)).map kP := by
    unfold kM
    conv => lhs; rw [take_split1 h3]
    simp
  have e2 : kA a = (a.mems.take k).flatMap kM ++ kM m ++ (a.mems.drop (k + 1)).flatMap kM := by
    unfold kA
    conv => lhs; rw [take_split1 h2]
    simp
  have e3 : kS as = (as.take i).flatMap kA ++ kA a ++ (as.drop (i + 1)).flatMap kA := by
    unfold kS
    conv => lhs; rw [take_split1 h1]
    simp
  rw [e3, e2, e1]
  simp
theorem store_gen {twice : MF} {cs csA csM : List Str} {itb : Itb} (h4 : TwiceOk twice) (hc : ("Store" : Str) ∈ cs) (hA : ("Archive" : Str) ∈ csA) (hM : ("Member" : Str) ∈ csM) (hi : itb.lookup ("Archive" : Str) = some ("members" : Str))
    {s : Sto} {ds : List D} {as : List ArcA} (g : GoodS as) (hd : AllR (IsArc s) ds as) :
    (mkD "Store" (starF 1 (fnM 2 9 (tStore twice cs csA csM itb))) ds s).wp fun d s' => IsSto s' d as ∧ Eff [] s s' := by
  refine wp_of fun P hP => ?_
  have hlen := g.len
  have hl := hd.1
  rw [z_mkD, z_starF]
  refine ⟨⟨by simp, by simp only [List.length_cons, size_line]; omega⟩, ?_⟩
  rw [z_fnM (by rfl)]
  have e1 : Eff [] s (s ++ [SO.ins "Store" []]) := Eff.push
  have n1 : (s ++ [SO.ins "Store" []])[s.length]? = some (.ins "Store" []) := by simp
  generalize s ++ [SO.ins "Store" []] = s1 at e1 n1 ⊢
  show (tStore twice cs csA csM itb [some (.ref s.length), some (.tup ds), none, none, none, none, none, none, none] s1).wp _
  unfold tStore
  rw [z_sCn]
  simp
  refine wp_ne (lc_mapR (ks := []) (IsArc s1) (fun m => D.str m.name) (hd.mono fun _ _ h => h.eff0 e1) (it_tup rfl) bags_nil (by rw [size_line]; omega) fun d m s3 hm _ ef _ => ?_) ?_
  · refine ⟨_, rfl, ?_⟩
    simp only [z_mFld, z_mV]
    simp
    rw [(hm.eff0 ef).gname hA, z_ok]
    exact ⟨Eff.refl, rfl⟩
  rintro d s3 ⟨rfl, ef3, hlt3, hm3⟩
  rw [map_anames] at hm3
  refine wp_ne (h4 (lstAt_ml hm3) g.nd (fun x hx => by
    obtain ⟨m, hm, rfl⟩ := List.mem_map.mp hx
    exact (g.names m hm).ok) (by rw [List.length_map]; omega)) ?_
  rintro d s4 ⟨rfl, ef4⟩
  have n4 := ef4.get (ef3.get n1 (by simp)) (by simp)
  have e4 := (e1.trans ef3).trans ef4
  clear ef4 ef3 e1 n1 hm3 hlt3
  show nxt _ _ _ _
  rw [z_nxC]
  simp [isNon]
  show nxt _ _ _ _
  rw [z_nxC]
  simp
  show nxt _ _ _ _
  rw [z_nxC]
  have hd4 := hd.mono fun _ _ h => h.eff0 e4
  have inv0 : Eff [] s4 (s4 ++ [SO.lst []]) := Eff.push
  rw [z_sF]
  simp
  refine for_it (ks := []) (s0 := s4) (xs := ds) (it_tup rfl) (fun i e s5 => Eff [] s4 s5 ∧ mlAt s5 s4.length = some (((as.take i).flatMap kA).map pairD) ∧ ∃ o4 o5 o6 o7 o8, e = [some (.ref s.length), some (.tup ds), some .non, some (.ref s4.length), o4, o5, o6, o7, o8]) (fun _ _ _ h => h.1) ?_ ⟨inv0, by simp, _, _, _, _, _, rfl⟩ ?_
  · rintro i d e s5 hdi ⟨ef5, hm5, o4, o5, o6, o7, o8, rfl⟩
    obtain ⟨a, hai, ha⟩ := hd4.get hdi
    obtain ⟨n, ms, rfl, hn, hms⟩ := ha
    refine ⟨_, rfl, ?_⟩
    simp
    rw [itsO_ins (ef5.get hn (by simp)) hi rfl, walkP_ins]
    refine for_it (ks := []) (s0 := s4) (xs := ms) (it_tup rfl) (fun k e s6 => Eff [] s4 s6 ∧ mlAt s6 s4.length = some (((as.take i).flatMap kA ++ (a.mems.take k).flatMap kM).map pairD) ∧ ∃ o5 o6 o7 o8, e = [some (.ref s.length), some (.tup ds), some .non, some (.ref s4.length), some (.ref n), o5, o6, o7, o8]) (fun _ _ _ h => h.1) ?_ ⟨ef5, by simpa using hm5, _, _, _, _, rfl⟩ ?_
    · rintro k d2 e s6 hdk ⟨ef6, hm6, o5, o6, o7, o8, rfl⟩
      obtain ⟨m, hmk, hm⟩ := hms.get hdk
      refine ⟨_, rfl, ?_⟩
      simp
      rw [(hm.eff0 ef6).gdefs hM, z_ok]
      refine for_it (ks := []) (s0 := s4) (xs := m.defs.map defD) (it_tup rfl) (fun q e s7 => Eff [] s4 s7 ∧ mlAt s7 s4.length = some (((as.take i).flatMap kA ++ (a.mems.take k).flatMap kM ++ (m.defs.take q).map kP).map pairD) ∧ ∃ o6 o7 o8, e = [some (.ref s.length), some (.tup ds), some .non, some (.ref s4.length), some (.ref n), some d2, o6, o7, o8]) (fun _ _ _ h => h.1) ?_ ⟨ef6, by simpa using hm6, _, _, _, rfl⟩ ?_
      · rintro q d3 e s7 hdq ⟨ef7, hm7, o6, o7, o8, rfl⟩
        obtain ⟨p, hp, rfl⟩ : ∃ p, m.defs[q]? = some p ∧ d3 = defD p := by
          rw [List.getElem?_map] at hdq
          obtain ⟨p, h1, h2⟩ := Option.map_eq_some_iff.mp hdq
          exact ⟨p, h1, h2.symm⟩
        obtain ⟨rest, hk⟩ := keys_at hai hmk hp
        refine ⟨[some (.ref s.length), some (.tup ds), some .non, some (.ref s4.length), some (.ref n), some d2, some (.str p.1), some (.str p.2.1), some (.int p.2.2)], rfl, ?_⟩
        have two : 2 ≤ sizeLine := by decide
        simp [two]
        have kd := g.kd
        have kl := g.kl
        have ok := g.ok
        rw [hk] at kd kl ok
        show (dInB false (pairD (kP p)) (.ref s4.length) s7).wp _ _
        rw [z_inL_no (plain_pair (ok (kP p) (by simp))) (lstAt_ml hm7) (plains_pairs fun x hx => ok x (List.mem_append_left _ hx)) (fun hmem => by
          obtain ⟨y, hy, e⟩ := List.mem_map.mp hmem
          rw [pairD_inj e] at hy
          exact (List.nodup_append.mp kd).2.2 _ hy _ (List.mem_cons_self) rfl)]
        have hlt7 : s4.length < s7.length := lstAt_lt (lstAt_ml hm7)
        simp [hm7]
        have hq : q < m.defs.length := (List.getElem?_eq_some_iff.mp hp).1
        refine ⟨isTy_ml hm7, ?_, ef7.set (Nat.le_refl _), ?_⟩
        · have kl2 := kl
          simp at kl2
          rw [size_line]
          omega
        · rw [mlAt_set_self hlt7, take_snoc (show (m.defs.map (pairD ∘ kP))[q]? = some (pairD (kP p)) by rw [List.getElem?_map, hp]; rfl)]
          rfl
      · rintro e s7 ⟨ef7, hm7, o6, o7, o8, rfl⟩
        refine ⟨ef7, ?_, _, _, _, _, rfl⟩
        rw [hm7, take_snoc hmk, List.length_map, List.take_of_length_le (Nat.le_refl _)]
        simp [kM]
    · rintro e s6 ⟨ef6, hm6, o5, o6, o7, o8, rfl⟩
      refine ⟨ef6, ?_, _, _, _, _, _, rfl⟩
      rw [hm6, take_snoc hai, List.take_of_length_le (l := a.mems) (by rw [hms.1]; exact Nat.le_refl _)]
      simp [kA]
  · rintro e s5 ⟨ef5, hm5, o4, o5, o6, o7, o8, rfl⟩
    have n5 := ef5.get n4 (by simp)
    have e5 := e4.trans ef5
    show nxt _ _ _ _
    rw [z_nxC]
    have c1 : ¬ (6 : Int) < ds.length := by omega
    simp [c1]
    show nxt _ _ _ _
    rw [z_nxt]
    simp
    refine fldP_ins n5 hc (by simp) ?_
    have hlt5 : s.length < s5.length := (List.getElem?_eq_some_iff.mp n5).1
    have e6 := e5.set (n := s.length) (o := .ins "Store" (putD "archives" (.tup ds) [])) (Nat.le_refl _)
    refine hP _ _ ⟨⟨s.length, ds, rfl, ?_, hd.mono fun _ _ h => h.eff0 e6⟩, e6⟩
    rw [List.getElem?_set_self hlt5]
    rfl
end Z

set_option Elab.async false
set_option linter.all false
set_option maxRecDepth 100000
set_option maxHeartbeats 4000000
namespace Z
open PySem PySem.Spec PyProof.Rows L2 TL
open PySem.PyData (strOk)
/-! ### in, [] -/
def tCont (cs csI : List Str) (f : Str) : SM := (sR (mAnd (mIsi "str" (mV 1)) (m2 (dInB false) (mV 1) (mL (iSq (mFld cs f (mV 0))) (gN 2) tY (mFld csI "name" (mV 2)) [2]))))
theorem mem_strs {x : Str} {ms : List Str} : D.str x ∈ ms.map D.str ↔ x ∈ ms := by
  rw [List.mem_map]
  constructor
  · rintro ⟨y, hy, e⟩
    cases e
    exact hy
  · exact fun h => ⟨x, h, rfl⟩
theorem z_inStr {P : D → Sto → Prop} {E : Str → Str → D → Sto → Prop} {s : Sto} {n : Nat} {x : Str} {ms : List Str} {neg : Bool} (hx : strOk x = true) (hl : lstAt s n = some (ms.map D.str)) (hm : ∀ y ∈ ms, strOk y = true) : (dInB neg (.str x) (.ref n) s).wp P E = P (.bl (neg ^^ decide (x ∈ ms))) s := by
  classical
  rw [z_inL (by rw [plain]; exact hx) hl (plains_strs hm)]
  have e : decide (D.str x ∈ ms.map D.str) = decide (x ∈ ms) := by
    by_cases h : x ∈ ms
    · rw [decide_eq_true h, decide_eq_true (mem_strs.mpr h)]
    · rw [decide_eq_false h, decide_eq_false fun q => h (mem_strs.mp q)]
  rw [e]
theorem cont_arc {cs csI : List Str} (hc : ("Archive" : Str) ∈ cs) (hI : ("Member" : Str) ∈ csI) {s : Sto} {d : D} {x : Str} {a : ArcA} (ha : IsArc s d a) (hx : strOk x = true) (ho : ∀ m ∈ a.mems, strOk m.name = true) (hl : a.mems.length ≤ 1000) :
    (fnM 2 3 (tCont cs csI "members") [d, .str x] s).wp fun d' s' => d' = .bl (decide (x ∈ a.mems.map (·.name))) ∧ Eff [] s s' := by
  refine wp_of fun P hP => ?_
  rw [z_fnM (by rfl)]
  unfold tCont
  simp only [z_sR, z_mAnd]
  refine isi_str rfl ?_
  rw [blP_bl, if_pos rfl]
  obtain ⟨ds, e, hds⟩ := ha.gmems hc
  simp
  rw [e, z_ok]
  refine wp_ne (lc_mapR (ks := []) (IsMem s) (fun m => D.str m.name) hds (it_tup rfl) bags_nil (by rw [size_line]; omega) fun d m s3 hm _ ef _ => ?_) ?_
  · refine ⟨_, rfl, ?_⟩
    simp only [z_mFld, z_mV]
    simp
    rw [(hm.eff0 ef).gname hI, z_ok]
    exact ⟨Eff.refl, rfl⟩
  rintro d2 s2 ⟨rfl, ef, hlt, hm⟩
  rw [map_names] at hm
  rw [z_inStr hx (lstAt_ml hm) fun y hy => by
    obtain ⟨m, hm, rfl⟩ := List.mem_map.mp hy
    exact ho m hm]
  exact hP _ _ ⟨by rw [Bool.false_xor], ef⟩
theorem cont_sto {cs csI : List Str} (hc : ("Store" : Str) ∈ cs) (hI : ("Archive" : Str) ∈ csI) {s : Sto} {d : D} {x : Str} {as : List ArcA} (ha : IsSto s d as) (hx : strOk x = true) (ho : ∀ m ∈ as, strOk m.name = true) (hl : as.length ≤ 1000) :
    (fnM 2 3 (tCont cs csI "archives") [d, .str x] s).wp fun d' s' => d' = .bl (decide (x ∈ as.map (·.name))) ∧ Eff [] s s' := by
  refine wp_of fun P hP => ?_
  rw [z_fnM (by rfl)]
  unfold tCont
  simp only [z_sR, z_mAnd]
  refine isi_str rfl ?_
  rw [blP_bl, if_pos rfl]
  obtain ⟨ds, e, hds⟩ := ha.garcs hc
  simp
  rw [e, z_ok]
  refine wp_ne (lc_mapR (ks := []) (IsArc s) (fun m => D.str m.name) hds (it_tup rfl) bags_nil (by rw [size_line]; omega) fun d m s3 hm _ ef _ => ?_) ?_
  · refine ⟨_, rfl, ?_⟩
    simp only [z_mFld, z_mV]
    simp
    rw [(hm.eff0 ef).gname hI, z_ok]
    exact ⟨Eff.refl, rfl⟩
  rintro d2 s2 ⟨rfl, ef, hlt, hm⟩
  rw [map_anames] at hm
  rw [z_inStr hx (lstAt_ml hm) fun y hy => by
    obtain ⟨m, hm, rfl⟩ := List.mem_map.mp hy
    exact ho m hm]
  exact hP _ _ ⟨by rw [Bool.false_xor], ef⟩
/-- archive[name] -/
def tGetA (tb : Tb) (cs csI : List Str) : SM := (sC (sI (toB (m2 (dInO true tb dNo2) (mV 1) (mV 0))) sNo sN) (sR (m2 dIx (mL (iSq (mFld cs "members" (mV 0))) (gN 2) (toB (m2 dEq (mFld csI "name" (mV 2)) (mV 1))) (mV 2) [2]) (mC (.int 0)))))
theorem get_arc {F : MF} {tb : Tb} {cs csI : List Str} (hc : ("Archive" : Str) ∈ cs) (hI : ("Member" : Str) ∈ csI) (ht : tb.lookup ("Archive" : Str) = some F)
    {s : Sto} {d : D} {a : ArcA} {m : MemA} (hF : (F [d, .str m.name] s).wp fun d' s' => d' = .bl (decide (m.name ∈ a.mems.map (·.name))) ∧ Eff [] s s') (ha : IsArc s d a) (hm : m ∈ a.mems) (nd : (a.mems.map (·.name)).Nodup) (hl : a.mems.length ≤ 1000) :
    (fnM 2 3 (tGetA tb cs csI) [d, .str m.name] s).wp fun d' s' => IsMem s' d' m ∧ Eff [] s s' := by
  refine wp_of fun P hP => ?_
  rw [z_fnM (by rfl)]
  unfold tGetA
  rw [z_sCn]
  simp
  rw [ha.ins, clsP_some, ht, optP_some]
  refine wp_ne hF ?_
  rintro d' s1 ⟨rfl, ef1⟩
  have hin : m.name ∈ a.mems.map (·.name) := List.mem_map_of_mem hm
  simp [show ∃ x, x ∈ a.mems ∧ x.name = m.name from ⟨m, hm, rfl⟩]
  show nxt _ _ _ _
  rw [z_nxt]
  obtain ⟨ds, e, hds⟩ := (ha.eff0 ef1).gmems hc
  simp
  rw [e, z_ok]
  refine wp_ne (lc_filtR (ks := []) (IsMem s1) (IsMem s1) (fun m2 => decide (m2.name = m.name)) hds (it_tup rfl) bags_nil (by rw [size_line]; omega) fun d m2 s3 hm2 _ ef _ => ?_) ?_
  · refine ⟨_, rfl, ?_⟩
    simp
    rw [(hm2.eff0 ef).gname hI, z_ok, z_eqS, blP_bl]
    refine ⟨Eff.refl, rfl, fun _ => ⟨Eff.refl, hm2⟩⟩
  rintro d2 s2 ⟨rfl, ef, hlt, ys, hy, hR⟩
  have key : ∀ ms : List MemA, m ∈ ms → (ms.map (·.name)).Nodup → ms.filter (fun m2 => decide (m2.name = m.name)) = [m] := by
    intro ms
    induction ms with
    | nil => intro h; simp at h
    | cons x ms ih =>
      intro h nd
      rw [List.map_cons, List.nodup_cons] at nd
      rcases List.mem_cons.mp h with rfl | h
      · rw [List.filter_cons_of_pos (by simp)]
        congr 1
        rw [List.filter_eq_nil_iff]
        intro y hy
        simp only [decide_eq_true_eq]
        intro q
        exact nd.1 (q ▸ List.mem_map_of_mem hy)
      · rw [List.filter_cons_of_neg (by
          simp only [decide_eq_true_eq]
          intro q
          exact nd.1 (q ▸ List.mem_map_of_mem h))]
        exact ih h nd.2
  rw [key a.mems hm nd] at hR
  obtain ⟨y, rfl⟩ : ∃ y, ys = [y] := List.length_eq_one_iff.mp hR.1
  have hy1 := hR.2 0 y m rfl rfl
  rw [z_ixL, lstAt_ml hy]
  simp
  exact hP _ _ ⟨(hy1.eff0 ef), ef1.trans ef⟩
/-! ### store / archive: put in -/
def orA (as : List ArcA) (a : ArcA) : List ArcA := if a.name ∈ as.map (·.name) then as.map (fun o => if o.name = a.name then a else o) else as ++ [a]
def tOr (init : MF) (tb : Tb) (cs csA : List Str) : SM := (sC (sI (toB (m2 (dInO true tb dNo2) (mFld csA "name" (mV 1)) (mV 0))) (sR (mN (mkD "Store" init) (aS (mFld cs "archives" (mV 0)) (aC (mV 1) aN)))) sN) (sC (sA 2 (mL (iSq (mFld cs "archives" (mV 0))) (gN 3) tY (mIf (toB (m2 dEq (mFld csA "name" (mV 3)) (mFld csA "name" (mV 1)))) (mV 1) (mV 3)) [3])) (sR (mN (mkD "Store" init) (aS1 (mV 2))))))
/-- what Store(..) is known to do -/
def StoreOk (init : MF) : Prop := ∀ {s : Sto} {ds : List D} {as : List ArcA}, GoodS as → AllR (IsArc s) ds as → (mkD "Store" init ds s).wp fun d s' => IsSto s' d as ∧ Eff [] s s'
theorem lc_allR2 {α : Type} {e : Ev} {s0 : Sto} {j : Stp} {g : GN} {N : Nat} {ks : List Nat} {xs : List D} {mm : EM D} (R : D → α → Prop) (R2 : D → α → Prop) {as : List α} (hR : AllR R xs as) (it : ItOk ks s0 j N xs) (hb : Bags s0 ks) (hl : as.length < sizeLine)
    (body : ∀ d a s, R d a → a ∈ as → Eff ks s0 s → Bags s ks → ∃ e1, g d e = some e1 ∧ (mm e1 s).wp fun y s2 => Eff ks s s2 ∧ R2 y a) :
    (lcL j g tY mm s0.length N 0 e (s0 ++ [.lst []])).wp fun d s' => d = .ref s0.length ∧ Eff ks s0 s' ∧ s0.length < s'.length ∧ ∃ ys, mlAt s' s0.length = some ys ∧ AllR R2 ys as := by
  refine wp_ne (lc_filtR R R2 (fun _ => true) hR it hb hl fun d a s h1 h2 h3 h4 => ?_) ?_
  · obtain ⟨e1, h5, h6⟩ := body d a s h1 h2 h3 h4
    refine ⟨e1, h5, ?_⟩
    rw [z_tY]
    exact ⟨Eff.refl, rfl, fun _ => h6⟩
  · rintro d s' ⟨h1, h2, h3, ys, h4, h5⟩
    refine ⟨h1, h2, h3, ys, h4, ?_⟩
    rw [List.filter_eq_self.mpr (by simp)] at h5
    exact h5
theorem or_gen {init F : MF} {tb : Tb} {cs csA : List Str} (hS : StoreOk init) (hc : ("Store" : Str) ∈ cs) (hA : ("Archive" : Str) ∈ csA) (ht : tb.lookup ("Store" : Str) = some F)
    {s : Sto} {d da : D} {as : List ArcA} {a : ArcA} (hF : (F [d, .str a.name] s).wp fun d' s' => d' = .bl (decide (a.name ∈ as.map (·.name))) ∧ Eff [] s s') (hs : IsSto s d as) (ha : IsArc s da a) (g : GoodS (orA as a)) :
    (fnM 2 4 (tOr init tb cs csA) [d, da] s).wp fun d' s' => IsSto s' d' (orA as a) ∧ Eff [] s s' := by
  refine wp_of fun P hP => ?_
  rw [z_fnM (by rfl)]
  unfold tOr
  rw [z_sCn]
  simp [-z_mkD]
  rw [ha.gname hA, z_ok]
  rw [hs.ins, clsP_some, ht, optP_some]
  refine wp_ne hF ?_
  rintro d' s1 ⟨rfl, ef1⟩
  unfold orA at g hP
  by_cases hn : a.name ∈ as.map (·.name)
  · rw [if_pos hn] at g hP
    rw [decide_eq_true hn]
    simp [-z_mkD]
    show nxt _ _ _ _
    rw [z_nxC]
    obtain ⟨ds, e, hds⟩ := (hs.eff0 ef1).garcs hc
    have ha1 := ha.eff0 ef1
    simp [-z_mkD]
    rw [e, z_ok]
    have gl := g.len
    rw [List.length_map] at gl
    refine wp_ne (lc_allR2 (ks := []) (IsArc s1) (fun y o => IsArc s1 y (if o.name = a.name then a else o)) hds (it_tup rfl) bags_nil (by rw [size_line]; omega) fun d o s3 ho _ ef _ => ?_) ?_
    · refine ⟨_, rfl, ?_⟩
      simp
      rw [(ho.eff0 ef).gname hA, z_ok, (ha1.eff0 ef).gname hA, z_ok, z_eqS, blP_bl]
      by_cases q : o.name = a.name
      · simp [q]
        exact ⟨Eff.refl, ha1⟩
      · simp [q]
        exact ⟨Eff.refl, ho⟩
    rintro d2 s2 ⟨rfl, ef, hlt, ys, hy, hR⟩
    show nxt _ _ _ _
    rw [z_nxt]
    simp [-z_mkD]
    rw [lstAt_ml hy, optP_some]
    refine wp_ne (hS g (ds := ys) ?_) fun d3 s3 ⟨h1, h2⟩ => hP _ _ ⟨h1, (ef1.trans ef).trans h2⟩
    refine ⟨by rw [hR.1, List.length_map], fun i d o h1 h2 => ?_⟩
    rw [List.getElem?_map] at h2
    obtain ⟨o', h3, rfl⟩ := Option.map_eq_some_iff.mp h2
    exact (hR.2 i d o' h1 h3).eff0 ef
  · rw [if_neg hn] at g hP
    rw [decide_eq_false hn]
    obtain ⟨ds, e, hds⟩ := (hs.eff0 ef1).garcs hc
    simp [-z_mkD]
    rw [e, z_ok, seqD_tup, optP_some]
    exact wp_ne (hS g (hds.app (AllR.one (ha.eff0 ef1)))) fun d3 s3 ⟨h1, h2⟩ => hP _ _ ⟨h1, ef1.trans h2⟩
end Z

set_option Elab.async false
set_option linter.all false
set_option maxRecDepth 100000
set_option maxHeartbeats 4000000
namespace Z
open PySem PySem.Spec PyProof.Rows L2 TL
open PySem.PyData (strOk)
/-- a for whose items the invariant tells -/
theorem for_j {j : Stp} {g : GN} {body : SM} {Q : En} {N : Nat} {xs : List D} {e : Ev} {s : Sto} (hN : N = xs.length) (I : Nat → Ev → Sto → Prop) (hI : ∀ i e s, I i e s → j i s = some xs[i]?) (st : ∀ i d e s, xs[i]? = some d → I i e s → ∃ e1, g d e = some e1 ∧ (body e1 s).wp { nx := I (i + 1), ct := I (i + 1), bk := Q.nx, rt := Q.rt, ex := Q.ex })
    (h0 : I 0 e s) (fin : ∀ e s, I xs.length e s → Q.nx e s) : (forL j g body N 0 e s).wp Q := by
  refine forL_wp (N := N) I (fun i e s hi h => ⟨fun hN2 => ?_, fun hN2 => ?_⟩) N 0 e s (Nat.zero_add _) h0
  · subst hN2
    exact ⟨by rw [hI _ _ _ h, List.getElem?_eq_none (by omega)], fin _ _ (by rw [← hN]; exact h)⟩
  · have hx : xs[i]? = some (xs[i]'(by omega)) := List.getElem?_eq_getElem _
    obtain ⟨e1, h1, h2⟩ := st i _ e s hx h
    exact ⟨_, e1, by rw [hI _ _ _ h, hx], h1, h2⟩
theorem jlst_at {s : Sto} {p i : Nat} {xs : List D} (h : lstAt s p = some xs) : jLst p i s = some xs[i]? := by rw [jLst_eq, h]; rfl
theorem AllR.of_map {α : Type} {f : α → D} {as : List α} : AllR (fun d a => d = f a) (as.map f) as := ⟨List.length_map _, fun i d a h1 h2 => by
  rw [List.getElem?_map, h2] at h1
  exact (Option.some.inj h1).symm⟩
theorem AllR.eq_map {α : Type} {f : α → D} {ds : List D} {as : List α} (h : AllR (fun d a => d = f a) ds as) : ds = as.map f := by
  refine List.ext_getElem (by simp [h.1]) fun i h1 h2 => ?_
  rw [List.getElem_map]
  exact h.2 i _ _ (List.getElem?_eq_getElem h1) (List.getElem?_eq_getElem (by simpa using h2))
theorem setAt_some {s : Sto} {n : Nat} {xs : List D} (h : s[n]? = some (.set xs)) : setAt s n = some xs := by unfold setAt; rw [h]
theorem setAt_get {s : Sto} {n : Nat} {xs : List D} (h : setAt s n = some xs) : s[n]? = some (.set xs) := by
  unfold setAt at h
  split at h
  · rename_i ys e
    cases h
    exact e
  · cases h
theorem Eff.st {ks : List Nat} {s t : Sto} (h : Eff ks s t) {i : Nat} {xs : List D} (e : setAt s i = some xs) (hi : i ∉ ks) : setAt t i = some xs := setAt_some (h.get (setAt_get e) hi)
theorem fm_congr {α β : Type} {f g : α → Option β} : ∀ {l : List α}, (∀ x ∈ l, f x = g x) → l.filterMap f = l.filterMap g
  | [], _ => rfl
  | x :: l, h => by
    rw [List.filterMap_cons, List.filterMap_cons, h x List.mem_cons_self, fm_congr fun y hy => h y (List.mem_cons_of_mem _ hy)]
/-! ### live members -/
def dnames (m : MemA) : List Str := m.defs.map (·.1)
def isLive (seen : List Str) (m : MemA) : Bool := (dnames m).any fun x => !decide (x ∈ seen)
def liveA (ms : List MemA) : List MemA := (List.range ms.length).filterMap fun i => (ms[i]?).bind fun m => if isLive ((ms.take i).flatMap dnames) m then some m else none
theorem liveA_take {ms : List MemA} {i : Nat} {m : MemA} (h : ms[i]? = some m) : liveA (ms.take (i + 1)) = liveA (ms.take i) ++ if isLive ((ms.take i).flatMap dnames) m then [m] else [] := by
  have hi := (List.getElem?_eq_some_iff.mp h).1
  unfold liveA
  rw [List.length_take, List.length_take, Nat.min_eq_left (by omega), Nat.min_eq_left (by omega), List.range_succ, List.filterMap_append]
  congr 1
  · refine fm_congr fun j hj => ?_
    have hj : j < i := List.mem_range.mp hj
    rw [List.getElem?_take, List.getElem?_take, if_pos (by omega), if_pos hj, List.take_take, List.take_take, Nat.min_eq_left (by omega), Nat.min_eq_left (by omega)]
  · rw [List.filterMap_cons, List.filterMap_nil, List.getElem?_take, if_pos (by omega), h, List.take_take, Nat.min_eq_left (by omega), Option.bind_some]
    by_cases q : isLive ((ms.take i).flatMap dnames) m = true <;> simp [q]
theorem liveA_mem {ms : List MemA} {m : MemA} (h : m ∈ liveA ms) : m ∈ ms := by
  unfold liveA at h
  obtain ⟨i, _, h⟩ := List.mem_filterMap.mp h
  obtain ⟨m', h1, h2⟩ := Option.bind_eq_some_iff.mp h
  split at h2
  · cases h2
    exact List.mem_of_getElem? h1
  · cases h2
def tLive (csA csM csN : List Str) : SM := (sC (sA 1 (mN fLst aN)) (sC (sA 2 mSet0) (sC (sF (iSq (mFld csA "members" (mV 0))) (gN 3) (sC (sA 4 (mL (iSq (mFld csM "defines" (mV 3))) (gN 6) (toB (m2 (dInSt true (dInB true)) (m2 dIx (mV 6) (mC (.int 0))) (mV 2))) (m2 dIx (mV 6) (mC (.int 0))) [6])) (sC (sF (iSq (mV 4)) (gN 5) (sE (mSAdd (mV 2) (aC (mV 5) aN)))) (sI (toB (m2 dNe (mV 4) (mN fLst aN))) (sE (mBM "list" (mtL lAppend) (mV 1) (aC (mFld csN "name" (mV 3)) aN))) sN)))) (sR (mV 1)))))
/-- the set's keys are the texts -/
def SetIs (s : Sto) (l : Nat) (seen : List Str) : Prop := ∃ xs, setAt s l = some xs ∧ xs.length ≤ seen.length ∧ ∀ x : Str, inKs xs (.inr x) = decide (x ∈ seen)
theorem inKs_snoc {xs : List D} {x y : Str} : inKs (xs ++ [.str x]) (.inr y) = (inKs xs (.inr y) || decide (x = y)) := by
  unfold inKs
  rw [List.any_append]
  simp [keyD]
theorem SetIs.add {s : Sto} {l : Nat} {seen : List Str} {x : Str} (h : SetIs s l seen) (hl : seen.length + 1 < 4096) : ∃ xs, setAt s l = some xs ∧ xs.length + 1 < 4096 ∧ SetIs (s.set l (.set (if inKs xs (.inr x) then xs else xs ++ [.str x]))) l (seen ++ [x]) := by
  obtain ⟨xs, h1, h2, h3⟩ := h
  have hlt : l < s.length := (List.getElem?_eq_some_iff.mp (setAt_get h1)).1
  refine ⟨xs, h1, by omega, _, setAt_some (List.getElem?_set_self hlt), ?_, fun y => ?_⟩
  · split <;> simp <;> omega
  · rw [h3]
    by_cases q : x ∈ seen
    · rw [decide_eq_true q, if_pos rfl, h3]
      by_cases q2 : y ∈ seen
      · simp [q2]
      · have : y ≠ x := fun e => q2 (e ▸ q)
        simp [q2, this]
    · rw [decide_eq_false q, if_neg Bool.false_ne_true, inKs_snoc, h3]
      by_cases q2 : y ∈ seen
      · simp [q2]
      · by_cases q3 : x = y
        · simp [q2, q3]
        · have : y ≠ x := fun e => q3 e.symm
          simp [q2, q3, this]
theorem SetIs.mono {s t : Sto} {l : Nat} {seen seen' : List Str} (h : SetIs s l seen) (ht : t[l]? = s[l]?) (h1 : seen.length ≤ seen'.length) (h2 : ∀ x, x ∈ seen ↔ x ∈ seen') : SetIs t l seen' := by
  obtain ⟨xs, h3, h4, h5⟩ := h
  refine ⟨xs, setAt_some (by rw [ht]; exact setAt_get h3), by omega, fun x => ?_⟩
  rw [h5]
  exact decide_eq_decide.mpr (h2 x)
theorem flat_le {α β : Type} {f : α → List β} {a : α} : ∀ {l : List α}, a ∈ l → (f a).length ≤ (l.flatMap f).length
  | [], h => by simp at h
  | x :: l, h => by
    rw [List.flatMap_cons, List.length_append]
    rcases List.mem_cons.mp h with rfl | h
    · omega
    · have := flat_le (f := f) h
      omega
theorem flat_take {α β : Type} {f : α → List β} {l : List α} {i : Nat} : ((l.take i).flatMap f).length ≤ (l.flatMap f).length := by
  conv => rhs; rw [← List.take_append_drop i l, List.flatMap_append, List.length_append]
  omega
theorem live_gen {csA csM csN : List Str} (hA : ("Archive" : Str) ∈ csA) (hM : ("Member" : Str) ∈ csM) (hN : ("Member" : Str) ∈ csN)
    {s : Sto} {d : D} {a : ArcA} (ha : IsArc s d a) (ok : ∀ m ∈ a.mems, ∀ p ∈ m.defs, strOk p.1 = true) (hl : (a.mems.flatMap dnames).length ≤ 2000) (hl2 : a.mems.length ≤ 1000) :
    (fnM 1 7 (tLive csA csM csN) [d] s).wp fun d' s' => Eff [] s s' ∧ ∃ n, d' = .ref n ∧ mlAt s' n = some ((liveA a.mems).map fun m => .str m.name) := by
  refine wp_of fun P hP => ?_
  rw [z_fnM (by rfl)]
  unfold tLive
  rw [z_sCn]
  simp
  show nxt _ _ _ _
  rw [z_nxC]
  simp
  show nxt _ _ _ _
  rw [z_nxC]
  have ef0 : Eff [] s (s ++ [SO.lst [], SO.set []]) := by
    have := (Eff.push (ks := []) (s := s) (o := SO.lst [])).trans (Eff.push (o := SO.set []))
    simpa using this
  have hm0 : mlAt (s ++ [SO.lst [], SO.set []]) s.length = some [] := mlAt_some (by rw [List.getElem?_append_right (Nat.le_refl _)]; simp)
  have hs0 : SetIs (s ++ [SO.lst [], SO.set []]) (s.length + 1) [] := ⟨[], setAt_some (by rw [List.getElem?_append_right (by omega)]; simp), Nat.le_refl _, fun x => by simp [inKs]⟩
  have hz0 : (s ++ [SO.lst [], SO.set []]).length = s.length + 2 := by simp
  generalize s ++ [SO.lst [], SO.set []] = s0 at ef0 hm0 hs0 hz0 ⊢
  obtain ⟨n, ds, rfl, hn, hds⟩ := ha
  simp [-z_gFld]
  rw [g_ins (ef0.get hn (by simp)) rfl hA, z_ok]
  refine for_it (ks := []) (s0 := s) (xs := ds) (it_tup rfl) (fun i e s1 => Eff [] s s1 ∧ s.length + 2 ≤ s1.length ∧ mlAt s1 s.length = some ((liveA (a.mems.take i)).map fun m => .str m.name) ∧ SetIs s1 (s.length + 1) ((a.mems.take i).flatMap dnames) ∧ ∃ o3 o4 o5, e = [some (.ref n), some (.ref s.length), some (.ref (s.length + 1)), o3, o4, o5, none]) (fun _ _ _ h => h.1) ?_ ⟨ef0, by omega, by simpa [liveA] using hm0, by simpa using hs0, _, _, _, rfl⟩ ?_
  · rintro i d2 e s1 hdi ⟨ef, hz, hm, hset, o3, o4, o5, rfl⟩
    obtain ⟨m, hmi, hmm⟩ := hds.get hdi
    obtain ⟨xs, hx1, hx2, hx3⟩ := id hset
    refine ⟨_, rfl, ?_⟩
    rw [z_sCn]
    simp
    rw [(hmm.eff0 ef).gdefs hM, z_ok]
    have mm : m ∈ a.mems := List.mem_of_getElem? hmi
    have l1 : m.defs.length ≤ 2000 := by
      have := flat_le (f := dnames) mm
      unfold dnames at this hl
      rw [List.length_map] at this
      omega
    have l2 : ((a.mems.take (i + 1)).flatMap dnames).length ≤ 2000 := Nat.le_trans flat_take hl
    rw [take_snoc hmi, List.flatMap_append] at l2
    simp only [List.flatMap_cons, List.flatMap_nil, List.append_nil, List.length_append] at l2
    refine wp_ne (lc_filtR (ks := []) (fun d p => d = defD p) (fun y p => y = D.str p.1) (fun p : DefA => !decide (p.1 ∈ (a.mems.take i).flatMap dnames)) AllR.of_map (it_tup rfl) bags_nil (by rw [size_line]; omega) fun d3 p s3 hp hp2 ef3 _ => ?_) ?_
    · subst hp
      refine ⟨_, rfl, ?_⟩
      simp [defD]
      rw [z_inSt (ef3.st hx1 (by simp))]
      simp [keyD, hx3, Eff.refl]
    rintro d3 s3 ⟨rfl, ef3, hlt3, ys, hm3, hR⟩
    have hy := hR.eq_map
    subst hy
    have e5 : (m.defs.filter fun p : DefA => !decide (p.1 ∈ (a.mems.take i).flatMap dnames)).map (fun p => D.str p.1) = ((dnames m).filter fun x => !decide (x ∈ (a.mems.take i).flatMap dnames)).map D.str := by
      unfold dnames
      rw [List.filter_map, List.map_map]
      rfl
    rw [e5] at hm3
    have fl : ((dnames m).filter fun x => !decide (x ∈ (a.mems.take i).flatMap dnames)).length ≤ (dnames m).length := List.length_filter_le _ _
    have fok : ∀ x ∈ (dnames m).filter fun x => !decide (x ∈ (a.mems.take i).flatMap dnames), strOk x = true := fun x hx => by
      obtain ⟨p, hp, rfl⟩ := List.mem_map.mp (List.mem_filter.mp hx).1
      exact ok m mm p hp
    have fmem : ∀ x, x ∈ (a.mems.take i).flatMap dnames ++ ((dnames m).filter fun x => !decide (x ∈ (a.mems.take i).flatMap dnames)) ↔ x ∈ (a.mems.take i).flatMap dnames ++ dnames m := fun x => by
      simp only [List.mem_append, List.mem_filter, Bool.not_eq_true', decide_eq_false_iff_not]
      constructor
      · rintro (h | h)
        · exact .inl h
        · exact .inr h.1
      · rintro (h | h)
        · exact .inl h
        · by_cases q : x ∈ (a.mems.take i).flatMap dnames
          · exact .inl q
          · exact .inr ⟨h, q⟩
    have fne : isLive ((a.mems.take i).flatMap dnames) m = !decide (((dnames m).filter fun x => !decide (x ∈ (a.mems.take i).flatMap dnames)) = []) := by
      unfold isLive
      by_cases q : ((dnames m).filter fun x => !decide (x ∈ (a.mems.take i).flatMap dnames)) = []
      · rw [decide_eq_true q]
        rw [List.filter_eq_nil_iff] at q
        exact List.any_eq_false.mpr q
      · rw [decide_eq_false q]
        obtain ⟨x, hx⟩ := List.exists_mem_of_ne_nil _ q
        exact List.any_eq_true.mpr ⟨x, (List.mem_filter.mp hx).1, (List.mem_filter.mp hx).2⟩
    generalize hfr : ((dnames m).filter fun x => !decide (x ∈ (a.mems.take i).flatMap dnames)) = fresh at hm3 fl fok fmem fne
    show nxt _ _ _ _
    rw [z_nxC]
    simp
    rw [lstAt_ml hm3, lstP_some]
    have hm4 := ef3.ml hm (by simp)
    have hs4 : SetIs s3 (s.length + 1) ((a.mems.take i).flatMap dnames) := hset.mono (ef3.eq _ (by omega) (by simp)) (Nat.le_refl _) fun _ => Iff.rfl
    have e4 := ef.trans ef3
    refine for_j (xs := fresh.map D.str) rfl (fun k e s4 => Eff [] s s4 ∧ s3.length ≤ s4.length ∧ mlAt s4 s.length = some ((liveA (a.mems.take i)).map fun m => .str m.name) ∧ mlAt s4 s1.length = some (fresh.map D.str) ∧ SetIs s4 (s.length + 1) ((a.mems.take i).flatMap dnames ++ fresh.take k) ∧ ∃ o5, e = [some (.ref n), some (.ref s.length), some (.ref (s.length + 1)), some d2, some (.ref s1.length), o5, none]) (fun k e s4 h => jlst_at (lstAt_ml h.2.2.2.1)) ?_ ⟨e4, Nat.le_refl _, hm4, hm3, by simpa using hs4, _, rfl⟩ ?_
    · rintro k dx e s4 hdk ⟨ef4, hz4, hm4, hf4, hs4, o5, rfl⟩
      obtain ⟨x, hx, rfl⟩ : ∃ x, fresh[k]? = some x ∧ dx = .str x := by
        rw [List.getElem?_map] at hdk
        obtain ⟨p, h1, h2⟩ := Option.map_eq_some_iff.mp hdk
        exact ⟨p, h1, h2.symm⟩
      have hk := (List.getElem?_eq_some_iff.mp hx).1
      obtain ⟨xs2, h1, h2, h3⟩ := hs4.add (x := x) (by rw [List.length_append, List.length_take]; omega)
      refine ⟨_, rfl, ?_⟩
      simp [h1]
      refine ⟨.inr x, rfl, h2, ef4.set (by omega), hz4, ?_, ?_, ?_⟩
      · first | exact hm4 | (rw [mlAt_set_ne (by omega)]; exact hm4)
      · first | exact hf4 | (rw [mlAt_set_ne (by omega)]; exact hf4)
      · rw [take_snoc hx, ← List.append_assoc]
        exact h3
    · rintro e s4 ⟨ef4, hz4, hm4, hf4, hs4, o5, rfl⟩
      rw [List.length_map, List.take_length] at hs4
      have hs5 : SetIs s4 (s.length + 1) ((a.mems.take i).flatMap dnames ++ dnames m) := hs4.mono rfl (by simp only [List.length_append]; omega) fmem
      have tk : (a.mems.take (i + 1)).flatMap dnames = (a.mems.take i).flatMap dnames ++ dnames m := by rw [take_snoc hmi, List.flatMap_append]; simp
      dsimp only
      rw [z_nxt]
      simp
      classical
      rw [z_neL (xs := fresh.map D.str) (ys := []) (by rw [lstAt_app (lstAt_lt (lstAt_ml hf4))]; exact lstAt_ml hf4) lstAt_push (plains_strs fok) rfl]
      have ed : decide (fresh.map D.str = []) = decide (fresh = []) := decide_eq_decide.mpr (by simp)
      rw [ed, blP_bl, ← fne]
      have e6 : Eff [] s (s4 ++ [SO.lst []]) := ef4.trans Eff.push
      have hlt4 : s.length < s4.length := by omega
      have hm6 : mlAt (s4 ++ [SO.lst []]) s.length = some ((liveA (a.mems.take i)).map fun m => .str m.name) := by rw [mlAt_app hlt4]; exact hm4
      have hs6 : SetIs (s4 ++ [SO.lst []]) (s.length + 1) ((a.mems.take i).flatMap dnames ++ dnames m) := hs5.mono (List.getElem?_append_left (by omega)) (Nat.le_refl _) fun _ => Iff.rfl
      rw [liveA_take hmi, tk]
      cases isLive ((a.mems.take i).flatMap dnames) m with
      | false =>
        simp
        refine ⟨e6, by omega, by simpa using hm6, hs6⟩
      | true =>
        simp [hm6]
        refine ⟨isTy_ml hm6, ?_⟩
        rw [(hmm.eff0 e6).gname hN, z_ok, hm6, lstP_some]
        have lv : (liveA (a.mems.take i)).length ≤ 1000 := by
          have h1 : (liveA (a.mems.take i)).length ≤ (a.mems.take i).length := by
            unfold liveA
            exact Nat.le_trans (List.length_filterMap_le _ _) (by rw [List.length_range]; exact Nat.le_refl _)
          rw [List.length_take] at h1
          omega
        refine ⟨by rw [List.length_map, size_line]; omega, e6.set (Nat.le_refl _), by simp; omega, ?_, ?_⟩
        · rw [mlAt_set_self (by rw [List.length_append]; omega)] <;> simp
        · exact hs6.mono (by rw [List.getElem?_set_ne (by omega)]) (Nat.le_refl _) fun _ => Iff.rfl
  · rintro e s1 ⟨ef, hz, hm, hs, o3, o4, o5, rfl⟩
    dsimp only
    rw [z_nxt]
    simp
    refine hP _ _ ⟨ef, s.length, rfl, ?_⟩
    rw [hm, hds.1, List.take_length]
end Z

set_option Elab.async false
set_option linter.all false
set_option maxRecDepth 100000
set_option maxHeartbeats 4000000
namespace Z
open PySem PySem.Spec PyProof.Rows L2 TL
open PySem.PyData (strOk)
/-! ### stores that are free -/
def dnA (a : ArcA) : List Str := a.mems.flatMap dnames
def lwA (a : ArcA) : List Str := (liveA a.mems).flatMap (·.wants)
structure OkA (a : ArcA) : Prop where
  nm : IsName a.name
  mem : ∀ m ∈ a.mems, IsName m.name
  nd : (a.mems.map (·.name)).Nodup
  defs : ∀ m ∈ a.mems, ∀ p ∈ m.defs, strOk p.1 = true
  wants : ∀ m ∈ a.mems, ∀ w ∈ m.wants, strOk w = true
  l1 : (a.mems.flatMap dnames).length ≤ 2000
  l2 : a.mems.length ≤ 1000
  l3 : ((liveA a.mems).flatMap (·.wants)).length ≤ 2000
def tDefN (itb : Itb) (csM : List Str) : SM := (sR (mL2 (iOwn itb (mV 0)) (gN 1) tY (iSq (mFld csM "defines" (mV 1))) (gN 2) tY (m2 dIx (mV 2) (mC (.int 0))) [1, 2] [2]))
theorem jok_of {l : Nat} {ks : List Nat} {s : Sto} {zs : List D} {n : Nat} (h : n = zs.length) : JOk l ks s (n, jTup zs) zs := ⟨h, fun i s3 _ => rfl⟩
theorem defn_gen {itb : Itb} {csM : List Str} (hM : ("Member" : Str) ∈ csM) (hi : itb.lookup ("Archive" : Str) = some ("members" : Str)) {s : Sto} {d : D} {a : ArcA} (ha : IsArc s d a) (ok : OkA a) :
    (fnM 1 3 (tDefN itb csM) [d] s).wp fun d' s' => Eff [] s s' ∧ ∃ n, d' = .ref n ∧ mlAt s' n = some ((dnA a).map D.str) := by
  refine wp_of fun P hP => ?_
  rw [z_fnM (by rfl)]
  unfold tDefN
  obtain ⟨ds, hits, hds⟩ := ha.its hi
  simp
  rw [hits, walkP_ins]
  have el : (a.mems.flatMap fun m => (dnames m).map D.str) = (dnA a).map D.str := by
    unfold dnA
    rw [List.map_flatMap]
  refine wp_ne (lc2R (ks := []) (IsMem s) (fun m => (dnames m).map D.str) hds (it_tup rfl) bags_nil (by rw [el, List.length_map, size_line]; have := ok.l1; unfold dnA; omega) fun d2 m s1 hm hmm ef _ hlt => ?_) ?_
  · refine ⟨_, rfl, ?_⟩
    rw [z_tY]
    refine ⟨Eff.refl, (fun h => by cases h), fun _ => ?_⟩
    simp
    rw [(hm.eff0 ef).gdefs hM, z_ok]
    refine ⟨Eff.refl, m.defs.map defD, fun d => match d with | .tup (x :: _) => some x | _ => none, ?_, jok_of (by simp), fun d3 s3 h3 ef3 _ => ?_⟩
    · unfold dnames
      rw [List.filterMap_map, List.map_map]
      have : ((fun d : D => match d with | .tup (x :: _) => some x | _ => none) ∘ defD) = (fun p : DefA => some (D.str p.1)) := by
        funext p
        rfl
      rw [this, List.filterMap_eq_map']
      rfl
    · obtain ⟨p, hp, rfl⟩ := List.mem_map.mp h3
      simp [defD, Eff.refl]
  rintro d' s' ⟨rfl, ef, hlt, hm⟩
  rw [el] at hm
  exact hP _ _ ⟨ef, _, rfl, hm⟩
def wantsOf (ms : List MemA) (d : D) : List D := match d with
  | .str x => ((ms.find? fun m => decide (m.name = x)).map fun m => m.wants.map D.str).getD []
  | _ => []
theorem find_name {ms : List MemA} {m : MemA} (h : m ∈ ms) (nd : (ms.map (·.name)).Nodup) : ms.find? (fun m2 => decide (m2.name = m.name)) = some m := by
  induction ms with
  | nil => simp at h
  | cons x ms ih =>
    rw [List.map_cons, List.nodup_cons] at nd
    rcases List.mem_cons.mp h with rfl | h
    · rw [List.find?_cons_of_pos (by simp)]
    · rw [List.find?_cons_of_neg (by
        simp only [decide_eq_true_eq]
        intro q
        exact nd.1 (q ▸ List.mem_map_of_mem h))]
      exact ih h nd.2
def tLiveW (tbL tbG : Tb) (csM : List Str) : SM := (sR (mL2 (iSq (mMeth tbL "live" (mV 0) aN)) (gN 1) tY (iSq (mFld csM "wants" (m2 (dIxO tbG dNo2) (mV 0) (mV 1)))) (gN 2) tY (mV 2) [1, 2] [2]))
/-- what archive.live(), archive[name] are known to do -/
def LiveOk (F : MF) : Prop := ∀ {s : Sto} {d : D} {a : ArcA}, IsArc s d a → OkA a → (F [d] s).wp fun d' s' => Eff [] s s' ∧ ∃ n, d' = .ref n ∧ mlAt s' n = some ((liveA a.mems).map fun m => .str m.name)
def GetOk (F : MF) : Prop := ∀ {s : Sto} {d : D} {a : ArcA} {m : MemA}, IsArc s d a → OkA a → m ∈ a.mems → (F [d, .str m.name] s).wp fun d' s' => IsMem s' d' m ∧ Eff [] s s'
theorem livew_gen {tbL tbG : Tb} {csM : List Str} {L G : MF} (hM : ("Member" : Str) ∈ csM) (h1 : tbL.lookup ("Archive" : Str) = some L) (h2 : tbG.lookup ("Archive" : Str) = some G) (hL : LiveOk L) (hG : GetOk G)
    {s : Sto} {d : D} {a : ArcA} (ha : IsArc s d a) (ok : OkA a) :
    (fnM 1 3 (tLiveW tbL tbG csM) [d] s).wp fun d' s' => Eff [] s s' ∧ ∃ n, d' = .ref n ∧ mlAt s' n = some ((lwA a).map D.str) := by
  refine wp_of fun P hP => ?_
  rw [z_fnM (by rfl)]
  unfold tLiveW
  obtain ⟨n, ds, rfl, hn, hds⟩ := id ha
  simp [-z_iSq]
  rw [z_iSq, z_mMeth]
  simp [-z_iSq]
  rw [hn, insP_some, h1, optP_some]
  refine ⟨fun x b h => ?_, ?_⟩
  · simp only [List.mem_cons, List.not_mem_nil, or_false, Prod.mk.injEq] at h
    rcases h with ⟨rfl, _⟩ | ⟨rfl, _⟩ <;> decide
  refine wp_ne (hL ha ok) ?_
  rintro d1 s1 ⟨ef1, n1, rfl, hm1⟩
  simp [-z_iSq]
  rw [lstAt_ml hm1, lstP_some]
  have lv : ∀ m ∈ liveA a.mems, m ∈ a.mems := fun m => liveA_mem
  have el : ((liveA a.mems).flatMap fun m => m.wants.map D.str) = (lwA a).map D.str := by
    unfold lwA
    rw [List.map_flatMap]
  refine wp_ne (lc2R (ks := []) (fun (d : D) (m : MemA) => d = D.str m.name) (fun m => m.wants.map D.str) AllR.of_map (it_lst (lstAt_ml hm1) (by simp) rfl) bags_nil (by rw [el, List.length_map, size_line]; have := ok.l3; unfold lwA; omega) fun d2 m s2 hd2 hmm ef _ hlt => ?_) ?_
  · subst hd2
    refine ⟨_, rfl, ?_⟩
    rw [z_tY]
    refine ⟨Eff.refl, (fun h => by cases h), fun _ => ?_⟩
    have ha2 := (ha.eff0 ef1).eff0 ef
    simp
    rw [ha2.ins, clsP_some, h2, optP_some]
    refine wp_ne (hG ha2 ok (lv m hmm)) ?_
    rintro d3 s3 ⟨hm3, ef3⟩
    rw [hm3.gwants hM, z_ok]
    refine ⟨ef3, m.wants.map D.str, some, by simp, jok_of (by simp), fun d3 s3 h3 ef3 _ => ⟨Eff.refl, rfl, Eff.refl, rfl⟩⟩
  rintro d' s' ⟨rfl, ef, hlt, hm⟩
  rw [el] at hm
  exact hP _ _ ⟨ef1.trans ef, _, rfl, hm⟩
/-! are_free, is_free -/
theorem lc_mapR2 {α : Type} {e : Ev} {j : Stp} {g : GN} {N l : Nat} {ks : List Nat} {xs : List D} {mm : EM D} {t : Sto} (s0 : Sto) (R : D → α → Prop) (k : α → D) {as : List α} (hs : l = s0.length) (ht : t = s0 ++ [.lst []]) (hR : AllR R xs as) (it : ItOk ks s0 j N xs) (hb : Bags s0 ks) (hl : as.length < sizeLine)
    (body : ∀ d a s, R d a → a ∈ as → Eff ks s0 s → Bags s ks → ∃ e1, g d e = some e1 ∧ (mm e1 s).wp fun y s2 => Eff ks s s2 ∧ y = k a) :
    (lcL j g tY mm l N 0 e t).wp fun d s' => d = .ref s0.length ∧ Eff ks s0 s' ∧ s0.length < s'.length ∧ mlAt s' s0.length = some (as.map k) := by
  subst hs ht
  exact lc_mapR R k hR it hb hl body
def freeB (a b : ArcA) : Bool := !((dnA a ++ lwA a).any fun x => decide (x ∈ dnA b)) && !((lwA b).any fun x => decide (x ∈ dnA a))
theorem OkA.okd {a : ArcA} (h : OkA a) : ∀ x ∈ dnA a, strOk x = true := fun x hx => by
  unfold dnA dnames at hx
  obtain ⟨m, hm, hx⟩ := List.mem_flatMap.mp hx
  obtain ⟨p, hp, rfl⟩ := List.mem_map.mp hx
  exact h.defs m hm p hp
theorem OkA.okw {a : ArcA} (h : OkA a) : ∀ x ∈ lwA a, strOk x = true := fun x hx => by
  unfold lwA at hx
  obtain ⟨m, hm, hx⟩ := List.mem_flatMap.mp hx
  exact h.wants m (liveA_mem hm) x hx
def NamesOfOk (F : MF) (k : ArcA → List Str) : Prop := ∀ {s : Sto} {d : D} {a : ArcA}, IsArc s d a → OkA a → (F [d] s).wp fun d' s' => Eff [] s s' ∧ ∃ n, d' = .ref n ∧ mlAt s' n = some ((k a).map D.str)
def tAreFree (dn lw : MF) : SM := (sC (sG (gT [(gN 2), (gN 3)]) (mN fTup (aC (mN dn (aC (mV 0) aN)) (aC (mN dn (aC (mV 1) aN)) aN)))) (sC (sI (toT (mN (fAllAny false) (aC (mL (iSq (m2 dAdd (mV 2) (mN lw (aC (mV 0) aN)))) (gN 4) tY (m2 (dInB false) (mV 4) (mV 3)) [4]) aN))) (sR (mC (.bl false))) sN) (sR (mNot (mN (fAllAny false) (aC (mL (iSq (mN lw (aC (mV 1) aN))) (gN 4) tY (m2 (dInB false) (mV 4) (mV 2)) [4]) aN))))))
theorem map_bls {α : Type} {ms : List α} {f : α → Bool} : ms.map (fun x => D.bl (f x)) = (ms.map f).map D.bl := by rw [List.map_map]; rfl
theorem arefree_gen {dn lw : MF} (hd : NamesOfOk dn dnA) (hw : NamesOfOk lw lwA) {s : Sto} {d1 d2 : D} {a b : ArcA} (ha : IsArc s d1 a) (hb : IsArc s d2 b) (oa : OkA a) (ob : OkA b) :
    (fnM 2 5 (tAreFree dn lw) [d1, d2] s).wp fun d' s' => Eff [] s s' ∧ d' = .bl (freeB a b) := by
  refine wp_of fun P hP => ?_
  have two : 2 ≤ sizeLine := by decide
  have la := oa.l1
  have lb := ob.l1
  have wa := oa.l3
  have wb := ob.l3
  change (dnA a).length ≤ _ at la
  change (dnA b).length ≤ _ at lb
  change (lwA a).length ≤ _ at wa
  change (lwA b).length ≤ _ at wb
  rw [z_fnM (by rfl)]
  unfold tAreFree
  rw [z_sCn]
  simp [two]
  refine wp_ne (hd ha oa) ?_
  rintro _ s1 ⟨ef1, n1, rfl, hm1⟩
  refine wp_ne (hd (hb.eff0 ef1) ob) ?_
  rintro _ s2 ⟨ef2, n2, rfl, hm2⟩
  have hm1 := ef2.ml hm1 (by simp)
  have e2 := ef1.trans ef2
  show nxt _ _ _ _
  rw [z_nxC]
  simp [-z_iSq]
  rw [z_iSq]
  simp
  refine wp_ne (hw (ha.eff0 e2) oa) ?_
  rintro _ s3 ⟨ef3, n3, rfl, hm3⟩
  have hm1 := ef3.ml hm1 (by simp)
  have hm2 := ef3.ml hm2 (by simp)
  have e3 := e2.trans ef3
  simp
  rw [hm1, lstP_some, hm3, lstP_some]
  refine ⟨by simp only [List.length_map, size_line]; omega, ?_⟩
  have ej : (dnA a).map D.str ++ (lwA a).map D.str = (dnA a ++ lwA a).map D.str := by rw [List.map_append]
  rw [ej]
  have ef4 : Eff [] s3 (s3 ++ [SO.lst ((dnA a ++ lwA a).map D.str)]) := Eff.push
  have hm4 : mlAt (s3 ++ [SO.lst ((dnA a ++ lwA a).map D.str)]) s3.length = some ((dnA a ++ lwA a).map D.str) := mlAt_push
  have hm1 := ef4.ml hm1 (by simp)
  have hm2 := ef4.ml hm2 (by simp)
  have e4 := e3.trans ef4
  have hz4 : (s3 ++ [SO.lst ((dnA a ++ lwA a).map D.str)]).length = s3.length + 1 := by simp
  have ht4 : s3 ++ [SO.lst ((dnA a ++ lwA a).map D.str), SO.lst []] = (s3 ++ [SO.lst ((dnA a ++ lwA a).map D.str)]) ++ [SO.lst []] := by simp
  rw [ht4]
  generalize s3 ++ [SO.lst ((dnA a ++ lwA a).map D.str)] = s4 at ef4 hm4 hm1 hm2 e4 hz4 ⊢
  refine wp_ne (lc_mapR2 (ks := []) s4 (fun (d : D) (x : Str) => d = D.str x) (fun x => D.bl (decide (x ∈ dnA b))) (as := dnA a ++ lwA a) hz4.symm rfl AllR.of_map (it_lst (lstAt_ml hm4) (by simp) (by simp)) bags_nil (by rw [size_line, List.length_append]; omega) fun d x s5 hx hxm ef _ => ?_) ?_
  · subst hx
    refine ⟨_, rfl, ?_⟩
    simp
    rw [z_inStr (by
      rcases List.mem_append.mp hxm with h | h
      · exact oa.okd _ h
      · exact oa.okw _ h) (ef.lst (lstAt_ml hm2) (by simp)) ob.okd, Bool.false_xor]
    exact ⟨Eff.refl, rfl⟩
  rintro _ s5 ⟨rfl, ef5, hlt5, hm5⟩
  have hm1 := ef5.ml hm1 (by simp)
  have e5 := e4.trans ef5
  rw [map_bls] at hm5
  rw [z_all]
  refine ⟨_, _, lstAt_ml hm5, mapM_bl _, ?_⟩
  rw [if_neg Bool.false_ne_true]
  have e6 : ((dnA a ++ lwA a).map fun x => decide (x ∈ dnA b)).any id = (dnA a ++ lwA a).any fun x => decide (x ∈ dnA b) := by rw [List.any_map]; rfl
  rw [e6]
  unfold freeB at hP
  cases q : (dnA a ++ lwA a).any fun x => decide (x ∈ dnA b) with
  | true =>
    rw [q] at hP
    simp
    exact hP _ _ ⟨e5, rfl⟩
  | false =>
    rw [q] at hP
    simp
    show nxt _ _ _ _
    rw [z_nxt]
    simp [-z_iSq]
    rw [z_iSq]
    simp
    refine wp_ne (hw (hb.eff0 e5) ob) ?_
    rintro _ s6 ⟨ef6, n6, rfl, hm6⟩
    have hm1 := ef6.ml hm1 (by simp)
    simp
    rw [lstAt_ml hm6, lstP_some]
    simp only [List.length_map]
    refine wp_ne (lc_mapR (ks := []) (fun (d : D) (x : Str) => d = D.str x) (fun x => D.bl (decide (x ∈ dnA a))) (as := lwA b) AllR.of_map (it_lst (lstAt_ml hm6) (by simp) (by simp)) bags_nil (by rw [size_line]; omega) fun d x s7 hx hxm ef _ => ?_) ?_
    · subst hx
      refine ⟨_, rfl, ?_⟩
      simp
      rw [z_inStr (ob.okw _ hxm) (ef.lst (lstAt_ml hm1) (by simp)) oa.okd, Bool.false_xor]
      exact ⟨Eff.refl, rfl⟩
    rintro _ s7 ⟨rfl, ef7, hlt7, hm7⟩
    rw [map_bls] at hm7
    rw [z_all]
    refine ⟨_, _, lstAt_ml hm7, mapM_bl _, ?_⟩
    rw [if_neg Bool.false_ne_true]
    have e8 : ((lwA b).map fun x => decide (x ∈ dnA a)).any id = (lwA b).any fun x => decide (x ∈ dnA a) := by rw [List.any_map]; rfl
    rw [e8]
    exact hP _ _ ⟨(e5.trans ef6).trans ef7, rfl⟩
def ltN (a b : ArcA) : Bool := decide (a.name.cps.toList < b.name.cps.toList)
def freeRow (as : List ArcA) (a : ArcA) : List Bool := (as.filter (ltN a)).map (freeB a)
def isFreeB (as : List ArcA) : Bool := (as.flatMap (freeRow as)).all id
def tIsFree (itb : Itb) (cs : List Str) (af : MF) : SM := (sR (mN (fAllAny true) (aC (mL2 (iOwn itb (mV 0)) (gN 1) tY (iOwn itb (mV 0)) (gN 2) (toB (m2 dLtS (mFld cs "name" (mV 1)) (mFld cs "name" (mV 2)))) (mN af (aC (mV 1) (aC (mV 2) aN))) [1, 2] [2]) aN)))
def AreFreeOk (F : MF) : Prop := ∀ {s : Sto} {d1 d2 : D} {a b : ArcA}, IsArc s d1 a → IsArc s d2 b → OkA a → OkA b → (F [d1, d2] s).wp fun d' s' => Eff [] s s' ∧ d' = .bl (freeB a b)
theorem isfree_gen {itb : Itb} {cs : List Str} {af : MF} (hA : ("Archive" : Str) ∈ cs) (hi : itb.lookup ("Store" : Str) = some ("archives" : Str)) (hF : AreFreeOk af) {s : Sto} {d : D} {as : List ArcA} (hs : IsSto s d as) (ok : ∀ a ∈ as, OkA a) (hl : as.length ≤ 100) :
    (fnM 1 3 (tIsFree itb cs af) [d] s).wp fun d' s' => Eff [] s s' ∧ d' = .bl (isFreeB as) := by
  refine wp_of fun P hP => ?_
  rw [z_fnM (by rfl)]
  unfold tIsFree
  obtain ⟨n, ds, rfl, hn, hds⟩ := hs
  simp
  rw [itsO_ins hn hi rfl, walkP_ins]
  have ef0 : (as.flatMap fun a => (freeRow as a).map D.bl) = (as.flatMap (freeRow as)).map D.bl := by rw [List.map_flatMap]
  have len : ((as.flatMap fun a => (freeRow as a).map D.bl)).length ≤ 10000 := by
    have : ∀ l : List ArcA, (l.flatMap fun a => (freeRow as a).map D.bl).length ≤ l.length * 100 := by
      intro l
      induction l with
      | nil => simp
      | cons a l ih =>
        rw [List.flatMap_cons, List.length_append, List.length_cons]
        have : ((freeRow as a).map D.bl).length ≤ 100 := by
          unfold freeRow
          rw [List.length_map, List.length_map]
          exact Nat.le_trans (List.length_filter_le _ _) hl
        omega
    have := this as
    omega
  refine wp_ne (lc2RR (β := ArcA) (ks := []) (IsArc s) (fun a => (freeRow as a).map D.bl) hds (it_tup rfl) bags_nil (by rw [size_line]; omega) fun d1 a s1 ha ham ef1 _ hlt => ?_) ?_
  · refine ⟨_, rfl, ?_⟩
    rw [z_tY]
    refine ⟨Eff.refl, (fun h => by cases h), fun _ => ?_⟩
    simp
    rw [itsO_ins (ef1.get hn (by simp)) hi rfl, walkP_ins]
    refine ⟨Eff.refl, ds, as, IsArc s, hds, fun b => if ltN a b then some (D.bl (freeB a b)) else none, ?_, jok_of rfl, fun d2 b s3 hb hbm ef3 _ => ?_⟩
    · unfold freeRow
      generalize as = bs
      induction bs with
      | nil => rfl
      | cons b bs ih =>
        cases q : ltN a b <;> simp [q] <;> simpa using ih
    · rw [(ha.eff0 ef3).gname hA, z_ok, (hb.eff0 ef3).gname hA, z_ok, z_ltS, blP_bl]
      have e : ltN a b = decide (a.name.cps.toList < b.name.cps.toList) := rfl
      rw [← e]
      refine ⟨Eff.refl, ?_, fun h => ?_⟩
      · cases q : ltN a b <;> simp [q]
      · simp only [h, if_true]
        exact wp_ne (hF (ha.eff0 ef3) (hb.eff0 ef3) (ok a ham) (ok b hbm)) fun d9 s9 ⟨h1, h2⟩ => ⟨h1, by rw [h2]⟩
  rintro _ s1 ⟨rfl, ef1, hlt, hm⟩
  rw [ef0] at hm
  rw [z_all]
  refine ⟨_, _, lstAt_ml hm, mapM_bl _, ?_⟩
  rw [if_pos rfl]
  exact hP _ _ ⟨ef1, rfl⟩
end Z

set_option Elab.async false
set_option linter.all false
set_option maxRecDepth 100000
set_option maxHeartbeats 4000000
namespace Z
open PySem PySem.Spec PyProof.Rows L2 TL
open PySem.PyData (strOk)
/-! ### more of lists, dicts -/
section
variable {P : D → Sto → Prop} {E : Str → Str → D → Sto → Prop} {s : Sto} {n : Nat} {xs : List D}
theorem sq1 {i n : Nat} (hi : i < n) : seqIndex? (i : Int) n = some i := by
  unfold seqIndex?
  have h0 : ¬ ((i : Int) < 0) := by omega
  simp [h0, hi]
theorem lp1 {xs : List D} {i : Nat} {x : D} (hx : xs[i]? = some x) (hl : (i : Int) < 2 ^ 63) : lPopAt xs [.int i] = some (xs.eraseIdx i, x) := by
  have hi := (List.getElem?_eq_some_iff.mp hx).1
  unfold lPopAt
  dsimp only
  rw [if_pos ⟨Int.le_trans (by decide) (Int.natCast_nonneg i), hl⟩, sq1 hi, Option.bind_some, hx, Option.map_some]
theorem small63 {i n : Nat} (h : i < n) (hn : n < 1000000) : (i : Int) < 2 ^ 63 := by omega
theorem z_mtL {f : List D → List D → Option (List D × D)} {ds ys : List D} {d : D} (h : mlAt s n = some xs) (e : f xs ds = some (ys, d)) : (mtL f (.ref n) ds s).wp P E = P d (s.set n (.lst ys)) := by
  unfold mtL
  simp only [mlAt_get h, e]
  rw [z_ok]
theorem z_popN {i : Nat} {x : D} (h : mlAt s n = some xs) (hx : xs[i]? = some x) (hl : xs.length < 1000000) : (mtL lPopAt (.ref n) [.int i] s).wp P E = P x (s.set n (.lst (xs.eraseIdx i))) :=
  z_mtL h (lp1 hx (small63 (List.getElem?_eq_some_iff.mp hx).1 hl))
@[simp ↓] theorem z_fIntB {q : Bool} : (fInt [.bl q] s).wp P E = P (.int (if q then 1 else 0)) s := by
  cases q <;> rfl
theorem cutD_to {k : Nat} : cutD xs none (some (k : Int)) = xs.take k := by
  unfold cutD
  rw [HT.sIx_none, HT.sIx_nat, List.drop_zero, Nat.sub_zero]
  by_cases h : k ≤ xs.length
  · rw [Nat.min_eq_left h]
  · rw [Nat.min_eq_right (by omega), List.take_length, List.take_of_length_le (by omega)]
end
/-- a test that is drawn: some of the items that are K, in their order -/
theorem lc_subP {e : Ev} {s0 : Sto} {j : Stp} {g : GN} {N : Nat} {ks : List Nat} {xs : List D} {tt : EM Bool} {mm : EM D} (K : D → Prop) (it : ItOk ks s0 j N xs) (hb : Bags s0 ks) (hl : xs.length < sizeLine)
    (body : ∀ d s, d ∈ xs → Eff ks s0 s → Bags s ks → ∃ e1, g d e = some e1 ∧ (tt e1 s).wp fun q s1 => Eff ks s s1 ∧ (q = true → K d ∧ (mm e1 s1).wp fun y s2 => Eff ks s1 s2 ∧ y = d)) :
    (lcL j g tt mm s0.length N 0 e (s0 ++ [.lst []])).wp fun d s' => d = .ref s0.length ∧ Eff ks s0 s' ∧ s0.length < s'.length ∧ ∃ ys, mlAt s' s0.length = some ys ∧ ys.Sublist xs ∧ ∀ y ∈ ys, K y := by
  refine wp_ne (lc_gen it hb hl (fun i d o _ => o = none ∨ (o = some d ∧ K d)) (fun _ _ _ _ _ h _ _ => h) fun i d s hx ef hbs _ => ?_) ?_
  · obtain ⟨e1, h1, h2⟩ := body d s (List.mem_of_getElem? hx) ef hbs
    refine ⟨e1, h1, wp_ne h2 fun q s1 ⟨h3, h5⟩ => ⟨h3, ?_⟩⟩
    cases q with
    | true =>
      rw [if_pos rfl]
      exact wp_ne (h5 rfl).2 fun y s2 ⟨h6, h7⟩ => ⟨h6, .inr ⟨by rw [h7], (h5 rfl).1⟩⟩
    | false =>
      rw [if_neg Bool.false_ne_true]
      exact .inl rfl
  · rintro d s' ⟨rfl, ef, hlt, zs, hz, hm, hR⟩
    refine ⟨rfl, ef, hlt, _, hm, ?_⟩
    have key : ∀ (xs : List D) (zs : List (Option D)), zs.length = xs.length → (∀ (i : Nat) (d : D) (o : Option D), xs[i]? = some d → zs[i]? = some o → o = none ∨ (o = some d ∧ K d)) → (zs.filterMap id).Sublist xs ∧ ∀ y ∈ zs.filterMap id, K y := by
      intro xs
      induction xs with
      | nil =>
        intro zs h1 _
        have : zs = [] := List.eq_nil_of_length_eq_zero h1
        subst this
        exact ⟨List.Sublist.slnil, fun y h => by simp at h⟩
      | cons x xs ih =>
        intro zs h1 h2
        cases zs with
        | nil => cases h1
        | cons z zs =>
          have h4 := ih zs (by simpa using h1) fun i b o hb ho => h2 (i + 1) b o (by simpa using hb) (by simpa using ho)
          rcases h2 0 x z rfl rfl with rfl | ⟨rfl, hk⟩
          · exact ⟨h4.1.cons _, h4.2⟩
          · refine ⟨h4.1.cons_cons _, fun y hy => ?_⟩
            rcases List.mem_cons.mp hy with rfl | hy
            · exact hk
            · exact h4.2 y hy
    exact key xs zs hz fun i d o h1 h2 => hR i d o h1 h2
theorem lc_sub {e : Ev} {s0 : Sto} {j : Stp} {g : GN} {N : Nat} {ks : List Nat} {xs : List D} {tt : EM Bool} {mm : EM D} (it : ItOk ks s0 j N xs) (hb : Bags s0 ks) (hl : xs.length < sizeLine)
    (body : ∀ d s, d ∈ xs → Eff ks s0 s → Bags s ks → ∃ e1, g d e = some e1 ∧ (tt e1 s).wp fun q s1 => Eff ks s s1 ∧ (q = true → (mm e1 s1).wp fun y s2 => Eff ks s1 s2 ∧ y = d)) :
    (lcL j g tt mm s0.length N 0 e (s0 ++ [.lst []])).wp fun d s' => d = .ref s0.length ∧ Eff ks s0 s' ∧ s0.length < s'.length ∧ ∃ ys, mlAt s' s0.length = some ys ∧ ys.Sublist xs := by
  refine wp_ne (lc_subP (fun _ => True) it hb hl fun d s h1 h2 h3 => ?_) fun d s ⟨h1, h2, h3, ys, h4, h5, _⟩ => ⟨h1, h2, h3, ys, h4, h5⟩
  obtain ⟨e1, h4, h5⟩ := body d s h1 h2 h3
  exact ⟨e1, h4, wp_ne h5 fun q s1 ⟨h6, h7⟩ => ⟨h6, fun hq => ⟨trivial, h7 hq⟩⟩⟩
/-! ### dicts -/
theorem it_key {ks : List Nat} {s : Sto} {n : Nat} {kvs : List (D × D)} (h : s[n]? = some (.lck false kvs)) (hn : n ∉ ks) : ItOk ks s (jKey n) kvs.length (kvs.map (·.1)) := ⟨by simp, fun i t e => by
  unfold jKey
  rw [e.get h hn, List.getElem?_map]⟩
theorem Eff.unlock {ks : List Nat} {s t : Sto} {n : Nat} {o o' : SO} (h : s[n]? = some o) (hn : n ∉ ks) (e : Eff ks (s.set n o') t) : Eff ks s (t.set n o) := by
  have hlt := (List.getElem?_eq_some_iff.mp h).1
  have le := e.le
  rw [List.length_set] at le
  refine ⟨by rw [List.length_set]; exact le, fun i hi hk => ?_, fun k hk hb => ?_⟩
  · by_cases q : i = n
    · subst q
      rw [List.getElem?_set_self (by omega), h]
    · rw [List.getElem?_set_ne (by omega), e.eq i (by rw [List.length_set]; exact hi) hk, List.getElem?_set_ne (by omega)]
  · have kn : k ≠ n := fun q => hn (q ▸ hk)
    obtain ⟨a, b, hb⟩ := hb
    obtain ⟨a2, b2, h2⟩ := e.bag k hk ⟨a, b, by rw [List.getElem?_set_ne (by omega)]; exact hb⟩
    exact ⟨a2, b2, by rw [List.getElem?_set_ne (by omega)]; exact h2⟩
theorem dctAt_lck {s : Sto} {n : Nat} {kvs : List (D × D)} (h : s[n]? = some (.lck false kvs)) : dctAt s n = some kvs := by unfold dctAt; rw [h]
theorem dctAt_dict {s : Sto} {n : Nat} {kvs : List (D × D)} (h : s[n]? = some (.dict false kvs)) : dctAt s n = some kvs := by unfold dctAt; rw [h]
/-- the value of a name: names differ -/
theorem getK_at {kvs : List (D × D)} {i : Nat} {x : Str} {v : D} {ns : List Str} (h : kvs.map (·.1) = ns.map D.str) (nd : ns.Nodup) (hi : kvs[i]? = some (.str x, v)) : getK kvs (.inr x) = some v := by
  induction kvs generalizing ns i with
  | nil => simp at hi
  | cons p kvs ih =>
    cases ns with
    | nil => simp at h
    | cons y ns =>
      rw [List.map_cons, List.map_cons, List.cons.injEq] at h
      rw [List.nodup_cons] at nd
      unfold getK at ih ⊢
      cases i with
      | zero =>
        have : p = (.str x, v) := by simpa using hi
        subst this
        rw [List.find?_cons_of_pos (by simp [keyD])]
        rfl
      | succ i =>
        have hi2 : kvs[i]? = some (.str x, v) := by simpa using hi
        have hx : x ∈ ns := by
          have : D.str x ∈ ns.map D.str := by
            rw [← h.2]
            exact List.mem_map.mpr ⟨_, List.mem_of_getElem? hi2, rfl⟩
          exact mem_strs.mp this
        rw [List.find?_cons_of_neg (by
          rw [h.1]
          simp only [keyD, Option.some.injEq, Sum.inr.injEq, decide_eq_true_eq]
          rintro rfl
          exact nd.1 hx)]
        exact ih h.2 nd.2 hi2
/-- a new name -/
theorem putK_new {kvs : List (D × D)} {x : Str} {v : D} {ns : List Str} (h : kvs.map (·.1) = ns.map D.str) (hx : x ∉ ns) : putKd kvs (.str x) (.inr x) v = kvs ++ [(.str x, v)] := by
  unfold putKd
  rw [if_neg]
  rw [List.any_eq_true]
  rintro ⟨p, hp, hq⟩
  have : p.1 ∈ ns.map D.str := by
    rw [← h]
    exact List.mem_map_of_mem hp
  obtain ⟨y, hy, e⟩ := List.mem_map.mp this
  rw [← e] at hq
  simp only [keyD, Option.some.injEq, Sum.inr.injEq, decide_eq_true_eq] at hq
  subst hq
  exact hx hy
end Z

set_option Elab.async false
set_option linter.all false
set_option maxRecDepth 100000
set_option maxHeartbeats 4000000
namespace Z
open PySem PySem.Spec PyProof.Rows L2
/-! ### a walk over what may be a text, a list, a tuple or an own instance -/
def iAny (tb : Itb) (m : EM D) : EM (Nat × Stp) := fun e s => (m e s).bind fun d s1 => match d with
  | .str x => .ok (x.cps.size, jStr x) s1
  | d => match itsO tb s1 d with
    | some (some xs) => .ok (xs.length, jTup xs) s1
    | some none => .no
    | none => walkD s1 d
section
variable {P : D → Sto → Prop} {PI : Nat × Stp → Sto → Prop} {E : Str → Str → D → Sto → Prop} {e : Ev} {s : Sto} {a : EM D} {itb : Itb}
def anyP (itb : Itb) (s : Sto) (d : D) (P : Nat × Stp → Prop) : Prop := match d with
  | .str x => P (x.cps.size, jStr x)
  | d => walkP (itsO itb s d) s d P
@[simp ↓] theorem z_iAny : (iAny itb a e s).wp PI E = (a e s).wp (fun d s1 => anyP itb s1 d fun j => PI j s1) E := by
  unfold iAny
  rw [z_bind]
  congr 1
  funext d s1
  unfold anyP
  split
  · rfl
  · generalize itsO itb s1 _ = o
    unfold walkP
    cases o with
    | some o =>
      cases o <;> rfl
    | none =>
      unfold walkD
      cases d with
      | ref n =>
        dsimp only
        unfold lstAt
        cases s1[n]? with
        | none => rfl
        | some o => cases o <;> rfl
      | _ => rfl
@[simp ↓] theorem anyP_str {x : Str} {PJ : Nat × Stp → Prop} : anyP itb s (.str x) PJ = PJ (x.cps.size, jStr x) := nr rfl
@[simp ↓] theorem anyP_tup {xs : List D} {PJ : Nat × Stp → Prop} : anyP itb s (.tup xs) PJ = PJ (xs.length, jTup xs) := nr rfl
@[simp ↓] theorem anyP_ref {n : Nat} {PJ : Nat × Stp → Prop} : anyP itb s (.ref n) PJ = walkP (itsO itb s (.ref n)) s (.ref n) PJ := nr rfl
end
variable [Row]
section
variable {X : Cx} {W : WX} {k : Nat} {tb : Itb} {tg e : Expr} {m : EM D}
theorem own_start (T : ITab X.prog X.w X.K X.mg X.base k tb) (hr : Rm k X.A) {pins : List (Addr × Obj)} {s1 : Shared} {σ : L2.St} {H1 : Hp} {ρ1 : Nat → Addr} {st1 : Sto} {d1 : D} {v : V} {u : Value} {R : It → Hp → Prop} {W' : WX} (I1 : Inv X pins σ H1 s1) (sr1 : SR X.K X.mg ρ1 st1 H1) (vr1 : VR X.K ρ1 st1.length H1 d1 v) (r1 : RelV v u)
    (po1 : Po X.K X.mg (RI X.K X.mg) W' σ ρ1 st1.length H1 (match itsO tb st1 d1 with | some (some xs) => .ok (xs.length, jTup xs) st1 | some none => .no | none => walkD st1 d1) R) : wpAny (model X.prog X.w) X.A (pyIter u) (PIE X pins σ tg R) X.xe s1 := by
  split at po1
  · rename_i xs hx
    obtain ⟨n, c, fs, f, rfl, hs, hf, hl⟩ := itsO_some hx
    rw [VR] at vr1
    obtain ⟨hn, rfl⟩ := vr1
    obtain rfl : u = Value.ref (ρ1 n) := r1
    obtain ⟨C, dx, vs, g1, g2, g3⟩ := sr1.ob n _ hs
    obtain ⟨C', g, k1, k2, k3⟩ := T c f hf
    rw [g1] at k1
    cases k1
    obtain ⟨t, ht, vt⟩ := g3.lookup hl
    rw [VR] at vt
    obtain ⟨a, zs, rfl, sq, rr⟩ := vt
    obtain ⟨ox, od, J, _⟩ := inst_look I1 g2
    obtain ⟨m0, hFr⟩ := I1.fr
    refine PySem.W.owit_iter hFr I1.ok.mod.kin J k2.at_ k2.fn (wpAny_call (codeAny_mono (k3 X.A X.stack s1 H1 (ρ1 n) dx a vs zs hr I1.env0 g2 ht sq) fun r s2 ⟨it, e2, ce, hit, hsz⟩ => ?_))
    subst e2
    obtain ⟨v2, H2, I2, rv, eH⟩ := I1.after ce
    subst eH
    show PySem.W.OwitIt _ _ _ _ _ _
    unfold PySem.W.OwitIt
    refine wpAny_specialOf hit.typeIs PySem.F.slot_tuple_iterator_next.lookup ?_
    refine ⟨it, [it], _, _, H2, rfl, I2, turn_tuple a it, hit, fun b hb => ?_, po1 ρ1 H2 _ Ext.refl sr1 (ri_tup sq rr)⟩
    have e : b = it := by simpa using hb
    subst e
    exact I1.fpOk hsz (I1.hok.fresh hsz)
  · exact po1.elim
  · exact walk_start I1 sr1 vr1 r1 po1
theorem ji_any (T : ITab X.prog X.w X.K X.mg X.base k tb) (hr : Rm k X.A) (he : JE X W e m) : JI X W tg e (iAny tb m) := by
  refine ⟨fun pins s σ H R I ⟨ρ, env, st, sr, er, po⟩ => ?_⟩
  refine thn (he.run pins s σ H _ I ⟨ρ, env, st, sr, er, Po.bind po⟩) fun u s1 ⟨v, H1, I1, r1, ρ1, st1, d1, e1, sr1, vr1, po1⟩ => ?_
  cases d1 with
  | str x =>
    obtain rfl : v = .str x := vr1
    obtain ⟨t, rfl⟩ := r1
    have q := po1 ρ1 H1 _ Ext.refl sr1 ri_str
    cases ha : x.cps.all (· < 128)
    · exact wpAny_pyIter_wide ha (pi_one (tk := s1.toks) I1 _ (turn_str _ x t "str_iterator" (.inr rfl)) ⟨_, Heap.get?_push_size _ rfl, rfl, rfl⟩ q)
    · exact wpAny_pyIter_ascii ha (pi_one (tk := s1.toks) I1 _ (turn_str _ x t "str_ascii_iterator" (.inl rfl)) ⟨_, Heap.get?_push_size _ rfl, rfl, rfl⟩ q)
  | _ => exact own_start T hr I1 sr1 vr1 r1 po1
end
end Z

set_option Elab.async false
set_option linter.all false
set_option maxRecDepth 100000
set_option maxHeartbeats 4000000
namespace Z
open PySem PySem.Spec PyProof.Rows L2
/-- a statement that walks a dict: it is locked meanwhile, if it is not so yet -/
def sLkA (m : EM D) (b : SM) : SM := fun e s => match m e s with
  | .ok (.ref n) _ => match s[n]? with
    | some (.lck false _) => b e s
    | _ => sLk m b e s
  | _ => .no
section
variable {Q : En} {e : Ev} {s : Sto} {i n : Nat} {B : SM} {kvs : List (D × D)}
theorem z_sLkA (h : e[i]? = some (some (.ref n))) (hs : s[n]? = some (.dict false kvs)) : (sLkA (mV i) B e s).wp Q = (B e (s.set n (.lck false kvs))).wp { nx := fun e s => stoP (unlS n s) fun s => Q.nx e s, rt := fun d s => stoP (unlS n s) fun s => Q.rt d s, bk := fun e s => stoP (unlS n s) fun s => Q.bk e s, ct := fun e s => stoP (unlS n s) fun s => Q.ct e s, ex := Q.ex } := by
  have e1 : mV i e s = .ok (.ref n) s := by unfold mV; rw [h]
  have e2 : sLkA (mV i) B e s = sLk (mV i) B e s := by
    unfold sLkA
    rw [e1]
    dsimp only
    rw [hs]
  rw [e2, z_sLk h hs]
theorem z_sLkL (h : e[i]? = some (some (.ref n))) (hs : s[n]? = some (.lck false kvs)) : (sLkA (mV i) B e s).wp Q = (B e s).wp Q := by
  have e1 : mV i e s = .ok (.ref n) s := by unfold mV; rw [h]
  have e2 : sLkA (mV i) B e s = B e s := by
    unfold sLkA
    rw [e1]
    dsimp only
    rw [hs]
  rw [e2]
end
variable [Row]
section
variable {X : Cx} {W : WX} {st : Stmt} {m : EM D} {b : SM}
theorem js_lkA (hb : JS X W st b) : JS X W st (sLkA m b) := by
  refine ⟨fun pins s σ H D I ⟨ρ, env, sto, sr, er, po⟩ => ?_⟩
  unfold sLkA at po
  split at po
  · split at po
    · exact hb.run pins s σ H D I ⟨ρ, env, sto, sr, er, po⟩
    · exact (js_lk (m := m) hb).run pins s σ H D I ⟨ρ, env, sto, sr, er, po⟩
  · exact po.elim
end
end Z

set_option Elab.async false
set_option linter.all false
set_option maxRecDepth 100000
set_option maxHeartbeats 4000000
namespace Z
open PySem PySem.Spec PySem.Calls PyProof.Rows L2
open PySem.PyData (strOk)
variable [Row]
/-! ### sorted(a set of texts) -/
section
omit [Row]
variable {prog : Program} {w : World} {A : Around} {E : Value → Shared → Prop} {s : Shared}
open PySem.W in
/-- sorted(x): what collects x tells the values and what they stand for -/
theorem sorted_col {β : Type} {enc : β → PyData} {R : Value → β → Prop} {x : Value} {Q : Value → Shared → Prop} {C : List Value → Shared → Prop} (hc : wpAny (model prog w) A.in1 (collect x) C E s)
    (hC : ∀ vs s1, C vs s1 → ∃ bs : List β, EachIs R vs bs ∧ EachIs (fun v b => ∃ q, Reads s1.heap v (enc b) q) vs bs ∧ AllAlike (bs.map enc) ∧ Sortable (bs.map enc) ∧ bs.length ≤ sizeLine ∧ (∀ b, b ∈ bs → A.units + 2 + (enc b).depth < cLine) ∧
      ∀ (out : List Value) (a : Addr) (h' : Heap) (ep : Nat), out.length = bs.length → EachIs R out (bs.mergeSort (dataLe false enc)) → (∀ b o, s1.heap.get? b = some o → h'.get? b = some o) → s1.heap.objs.size ≤ a → h'.get? a = some (seqObj "list" out.toArray ep) → Q (.ref a) { s1 with heap := h' }) :
    wpAny (model prog w) A (call (.builtin "sorted") [x]) Q E s := by
  refine call_function_entry kind_sorted plain_sorted entry_sorted (args_sorted1 _) ?_
  unfold Builtin.«sorted»
  refine wpAny_bind (m := checkCount "sorted" 1 1 _) (wpAny_pure (wpAny_bind (wpAny_mono hc (fun vs s1 hp => ?_) fun _ _ z => z)))
  obtain ⟨bs, e, er, hal, hk, hL, hu, fin⟩ := hC vs s1 hp
  have hl := e.length
  have kp : ∀ b o, s1.heap.get? b = some o → (s1.heap.push { cls := .type "list", data := .seq vs.toArray }).get? b = some o := fun b o q => Heap.get?_push_of_some _ q
  refine wpAny_bind (wpAny_newList ?_ (by rw [hl]; exact hL))
  have er2 : EachIs (fun v b => ∃ q, Reads (sortingHeap (s1.heap.push { cls := .type "list", data := .seq vs.toArray }) s1.heap.objs.size vs) v (enc b) q) vs bs := er.mono fun _ _ ⟨q, r⟩ => ⟨q, PyProof.Rows.Reads.keeps (fun b o z => sortingHeap_old (Nat.ne_of_lt (Heap.lt_size z)) (kp b o z)) r⟩
  have ho : (s1.heap.push ({ cls := .type "list", data := .seq vs.toArray } : Obj)).get? s1.heap.objs.size = some (seqObj "list" vs.toArray 0) := Heap.get?_push_size _ rfl
  refine wpAny_bind (wpAny_holding (wpAny_call_entry slot_list_sort ⟨_, ho, rfl⟩ entry_list_sort (list_sort_vals (κ := dataKind (sortingHeap (s1.heap.push { cls := .type "list", data := .seq vs.toArray }) s1.heap.objs.size vs) (bs.map enc))
    (s := { s1 with heap := s1.heap.push { cls := .type "list", data := .seq vs.toArray } }) ho
    (SortsAt.data (s := { s1 with heap := sortingHeap (s1.heap.push { cls := .type "list", data := .seq vs.toArray }) s1.heap.objs.size vs }) (each_map (R := fun v d => ∃ q, Reads (sortingHeap (s1.heap.push { cls := .type "list", data := .seq vs.toArray }) s1.heap.objs.size vs) v d q) enc er2) hal hk (bound_map hu)) (by rw [hl]; exact hL) ⟨.none, rfl, ?_⟩) (args_list_sort _)))
  refine wpAny_pure ⟨_, rfl, ?_⟩
  obtain ⟨ep, hat⟩ := sortedHeap_at (out := (sortVals (dataKind (sortingHeap (s1.heap.push { cls := .type "list", data := .seq vs.toArray }) s1.heap.objs.size vs) (bs.map enc)) false vs vs).toArray) ho
  refine fin _ s1.heap.objs.size _ ep (by rw [sortVals_length false rfl]; exact hl) (sortVals_data (h' := sortingHeap (s1.heap.push { cls := .type "list", data := .seq vs.toArray }) s1.heap.objs.size vs) (R := R) (enc := enc) false e er2 hal) (fun b o q => ?_) (Nat.le_refl _) hat
  have lt : b < s1.heap.objs.size := Heap.lt_size q
  exact (sortedHeap_old (Nat.ne_of_lt lt) (by rw [size_push']; exact Nat.lt_succ_of_lt lt)).trans (kp b o q)
end
section
variable {X : Cx} {W : WX}
def fSortZ (B : MF) : MF := fun ds s => match ds with
  | [.ref n] => match setAt s n with
    | some xs => match xs.mapM strD with
      | some zs => if zs.all strOk = true then .ok (.ref s.length) (s ++ [.lst ((sortS zs).map D.str)]) else .no
      | none => .no
    | none => B ds s
  | _ => B ds s
omit [Row] in
theorem keysD_strs : ∀ {xs : List D} {zs : List Str} {ks : List Key}, xs.mapM strD = some zs → keysD xs = some ks → ks = zs.map Sum.inr
  | [], zs, ks, h1, h2 => by cases h1; cases h2; rfl
  | x :: xs, zs, ks, h1, h2 => by
    rw [List.mapM_cons] at h1
    obtain ⟨z, q1, h1⟩ := Option.bind_eq_some_iff.mp h1
    obtain ⟨zs1, q2, h1⟩ := Option.bind_eq_some_iff.mp h1
    cases h1
    unfold keysD at h2
    split at h2
    · rename_i k js e1 e2
      cases h2
      cases x <;> first | (cases q1; done) | skip
      cases q1
      cases e1
      rw [keysD_strs q2 e2]
      rfl
    · cases h2
omit [Row] in
theorem sortS_perm' (zs : List Str) : (sortS zs).Perm zs := List.mergeSort_perm _ _
omit [Row] in
theorem sortS_uniq {xs ys : List Str} (p : xs.Perm ys) : sortS xs = sortS ys := by
  refine ((sortS_perm' xs).trans (p.trans (sortS_perm' ys).symm)).eq_of_pairwise (le := fun a b => leS a b = true) (fun a b _ _ h1 h2 => ?_) (List.pairwise_mergeSort leS_trans leS_total _) (List.pairwise_mergeSort leS_trans leS_total _)
  unfold leS at h1 h2
  exact TL.ext_tl (List.le_antisymm (of_decide_eq_true h1) (of_decide_eq_true h2))
omit [Row] in
theorem dataLe_strs (x y : Str) : PySem.W.dataLe false PyData.str x y = leS x y := by
  have := congrFun (congrFun (PySem.W.dataLe_str (fun x : Str => x)) x) y
  rw [PySem.W.dataLe_eq] at this ⊢
  simp only [cond_false] at this ⊢
  rw [this]
  rfl
omit [Row] in
theorem each_of {R : Value → Str → Prop} : ∀ {vs : List Value} {zs : List Str}, vs.length = zs.length → (∀ (i : Nat) (v : Value), vs[i]? = some v → ∃ z, zs[i]? = some z ∧ R v z) → PySem.W.EachIs R vs zs
  | [], [], _, _ => .nil
  | [], _ :: _, h, _ => by cases h
  | _ :: _, [], h, _ => by cases h
  | v :: vs, z :: zs, h, hr => by
    obtain ⟨z', e, r⟩ := hr 0 v rfl
    cases e
    exact .cons r (each_of (by simpa using h) fun i u hu => hr (i + 1) u hu)
omit [Row] in
theorem vals_strs : ∀ {out : List Value} {zs : List Str}, PySem.W.EachIs (fun v z => ∃ t, v = Value.str z t) out zs → Vals (zs.map V.str) out
  | _, _, .nil => .nil
  | _, _, .cons ⟨t, e⟩ r => .cons ⟨t, e⟩ (vals_strs r)
theorem calld_sortZ {B : MF} (hX : IsRow X) (hc : X.calm = true) (hu : X.A.units + 66 < cLine) (hB : CallD X W (.builtin "sorted") B) : CallD X W (.builtin "sorted") (fSortZ B) := by
  intro pins s σ H ρ st ds vs us Q I sr vr r po
  unfold fSortZ at po
  split at po
  · rename_i n
    split at po
    · rename_i xs hx
      split at po
      · rename_i zs hz
        obtain ⟨hok, po⟩ := Po.ite po
        obtain ⟨T, N, g, hN, ks, k1, k2, k3⟩ := set_of hX sr hx
        have e1 := keysD_strs hz k1
        obtain ⟨v, rfl, rv⟩ := vr.one
        rw [VR] at rv
        obtain ⟨_, rfl⟩ := rv
        rw [Vals.ref1 r]
        refine sorted_col (β := Str) (enc := PyData.str) (R := fun v z => ∃ t, v = Value.str z t) (zcollect (setH_at I g) (I.ok.hd hc) fun s1 out js h1 h0 h2 h3 h4 h5 h6 h7 h8 => ?_) fun vs s1 h => h
        obtain ⟨ys, rfl⟩ : ∃ ys : List Str, js = ys.map Sum.inr := by
          have all : ∀ j ∈ js, ∃ y : Str, j = Sum.inr y := fun j hj => by
            have := (k3 j).mp ((h7 j).mp hj)
            rw [e1] at this
            obtain ⟨y, _, rfl⟩ := List.mem_map.mp this
            exact ⟨y, rfl⟩
          clear h5 h6 h7 h8
          induction js with
          | nil => exact ⟨[], rfl⟩
          | cons j js ih =>
            obtain ⟨y, rfl⟩ := all j List.mem_cons_self
            obtain ⟨ys, rfl⟩ := ih fun j hj => all j (List.mem_cons_of_mem _ hj)
            exact ⟨y :: ys, rfl⟩
        have nd1 : ys.Nodup := (List.pairwise_map.mp h6).imp fun h e => h (by rw [e])
        have nd2 : zs.Nodup := by
          rw [e1] at k2
          exact (List.pairwise_map.mp k2).imp fun h e => h (by rw [e])
        have pm : ys.Perm zs := (List.perm_ext_iff_of_nodup nd1 nd2).mpr fun y => by
          have a := h7 (Sum.inr y)
          have b := k3 (Sum.inr y)
          rw [← a, e1] at b
          simpa using b
        have hlen : out.length = ys.length := by rw [h4, ← h5, List.length_map]
        have ea : PySem.W.EachIs (fun v z => ∃ t, v = Value.str z t) out ys := each_of hlen fun i v hv => by
          obtain ⟨k, q1, q2⟩ := h8 i v hv
          rw [List.getElem?_map] at q1
          obtain ⟨y, q3, rfl⟩ := Option.map_eq_some_iff.mp q1
          rcases keyIs_shape q2 with ⟨_, _, q, _⟩ | ⟨y', t, q, q'⟩
          · cases q
          · cases q
            exact ⟨y, q3, t, q'⟩
        have okz : ∀ y ∈ ys, strOk y = true := fun y hy => List.all_eq_true.mp hok y (pm.mem_iff.mp hy)
        have few : ys.length < 4096 := by
          have := (setH_at I g)
          obtain ⟨_, D, _, _, _, _, _, b⟩ := this
          have hb := b.few
          have hn := b.num
          rw [← hlen, h4, ← hn]
          exact Nat.lt_of_lt_of_le hb (by decide)
        refine ⟨ys, ea, ?_, ?_, ?_, ?_, ?_, ?_⟩
        · refine each_of hlen fun i v hv => ?_
          obtain ⟨k, q1, q2⟩ := h8 i v hv
          rw [List.getElem?_map] at q1
          obtain ⟨y, q3, rfl⟩ := Option.map_eq_some_iff.mp q1
          rcases keyIs_shape q2 with ⟨_, _, q, _⟩ | ⟨y', t, q, q'⟩
          · cases q
          · cases q
            subst q'
            exact ⟨y, q3, _, PySem.Reads.str _ _⟩
        · intro d hd d' hd'
          obtain ⟨y, _, rfl⟩ := List.mem_map.mp hd
          obtain ⟨y', _, rfl⟩ := List.mem_map.mp hd'
          simp [PySem.W.alike]
        · refine .inr fun d hd => ?_
          obtain ⟨y, _, rfl⟩ := List.mem_map.mp hd
          exact ⟨(fun h => nomatch h), fun l h => nomatch h⟩
        · exact Nat.le_trans (Nat.le_of_lt few) (by decide)
        · intro y hy
          have : (PyData.str y).depth = 0 := by rw [PyData.depth]
          omega
        · intro o2 a2 h' ep ho2 eo kp ha he
          have es : ys.mergeSort (PySem.W.dataLe false PyData.str) = sortS zs := by
            have : (PySem.W.dataLe false PyData.str) = leS := funext fun x => funext fun y => dataLe_strs x y
            rw [this]
            exact sortS_uniq pm
          rw [es] at eo
          have hv := vals_strs eo
          have hle : s.heap.objs.size ≤ a2 := Nat.le_trans h0 ha
          have hn : H a2 = none := I.hok.fresh hle
          have kall : ∀ b o, s.heap.get? b = some o → h'.get? b = some o := fun b o z => kp b o (h1 b o z)
          have hl2 : ((sortS zs).map V.str).length ≤ sizeLine := by
            rw [List.length_map, (sortS_perm' zs).length_eq, ← pm.length_eq]
            exact Nat.le_trans (Nat.le_of_lt few) (by decide)
          have J : Inv X pins σ (upd H a2 (.lst ((sortS zs).map V.str))) { s with heap := h', gens := s1.gens, drawn := s1.drawn, toks := s1.toks } :=
            I.call (ch := []) (Un.laid kall hle hn) (I.hok.laid kall hle ⟨hl2, o2, ep, hv, he⟩) (by rw [h2]; exact I.bare) (fun _ z => nomatch z)
          have e : ({ s1 with heap := h' } : Shared) = { s with heap := h', gens := s1.gens, drawn := s1.drawn, toks := s1.toks } := by
            rw [← h3]
          rw [e]
          have rs : VRs X.K ρ st.length H ((sortS zs).map D.str) ((sortS zs).map V.str) := by
            generalize sortS zs = l
            induction l with
            | nil => exact VRs.nil
            | cons y l ih => exact VRs.cons (by rw [VR]) ih
          obtain ⟨x1, sr1, v1⟩ := new_lst sr hn rs
          exact ⟨.ref a2, _, J, rfl, po _ _ _ x1 sr1 v1⟩
      · exact po.elim
    · exact hB pins s σ H ρ st _ vs us Q I sr vr r po
  · exact hB pins s σ H ρ st _ vs us Q I sr vr r po
end
end Z

set_option Elab.async false
set_option linter.all false
set_option maxRecDepth 100000
set_option maxHeartbeats 4000000
namespace Z
open PySem PySem.Spec PySem.Calls PyProof.Rows L2
variable [Row]
/-! ### set(xs), xs a list of keys -/
section
omit [Row]
variable {P : Program} {w : World} {A : Around} {E : Value → Shared → Prop} {s : Shared} {a : Addr} {T : Key → Bool} {N : Nat}
set_option maxHeartbeats 8000000 in
theorem zset_list {l : Addr} {its : Array Value} (ks : List Key) {Q : Value → Shared → Prop} (hh : A.handled = none) (hl : s.heap.IsList l its) (hz : its.size = ks.length) (hv : ∀ (i : Nat) (v : Value), its[i]? = some v → ∃ k, ks[i]? = some k ∧ keyIs k v = true ∧ v.scannable = true) (room : ks.length + 1 < scanBound)
    (h : ∀ (h' : Heap) (tk : Nat), SetL P w h' s.heap.objs.size (onceK ks) → (∀ b o, s.heap.get? b = some o → h'.get? b = some o) → Q (.ref s.heap.objs.size) { s with heap := h', toks := tk }) :
    wpAny (model P w) A (call (.type "set") [.ref l]) Q E s := by
  obtain ⟨c, tl, hmro⟩ := F.called_set.mro
  have hmade := F.called_set.made
  have hsub := F.called_set.sub
  refine wpAny_call (codeAny_of_tree (wpAny_pure ⟨Code.quiet_builtin _ (by decide +kernel), codeAny_builtin F.entry_type_call ?_⟩))
  rw [Around.under_plain (weight_type_call_type "set" [.ref l] []) rfl]
  have h1 := F.called_set.notType
  have h2 := F.called_set.canCreate
  have hct := F.typeCall_set_1 (.ref l)
  repeat (any_goals (first | assumption | wp_step))
  refine codeAny_mono (code_set_led1 (.ref l) (E := E) (Q₁ := fun ob sA => ob = .ref s.heap.objs.size ∧ sA = { s with heap := s.heap.push (zO w) }) ⟨rfl, rfl⟩) fun r sA hr => ?_
  cases r with
  | error e => exact hr
  | ok fl =>
    cases fl with
    | ret ob =>
      obtain ⟨rfl, rfl⟩ := hr
      have hS : (s.heap.push (zO w)).get? s.heap.objs.size = some (zO w) := Heap.get?_push_size _ rfl
      have hT : Shared.TypeIs { s with heap := s.heap.push (zO w) } (.ref s.heap.objs.size) "set" := ⟨_, hS, rfl⟩
      have hli := F.called_set.init.lookup
      have hbi := F.called_set.init.bind (.ref s.heap.objs.size)
      repeat (any_goals (first | assumption | wp_step))
      refine codeAny_mono (codeAny_call_builtin (R := wants (fun r sB => r = .none ∧ ∃ h' tk, sB = { s with heap := h', toks := tk } ∧ SetL P w h' s.heap.objs.size (onceK ks) ∧ (∀ b o, s.heap.get? b = some o → h'.get? b = some o)) E)
        F.called_set.init.plain F.entry_set_init (check_set_init_1 hT ?_)) fun r2 sB hr2 => ?_
      · obtain ⟨⟨oc, od, odt, os⟩, hol, hcl, nl, hdl⟩ := hl
        simp only at hcl hdl
        subst hcl hdl
        have hl1 : (s.heap.push (zO w)).IsList l its := ⟨_, Heap.get?_push_of_some _ hol, rfl, nl, rfl⟩
        have hol2 : (s.heap.push (zO w)).get? l = some { cls := .type "list", dict := od, data := .seq its nl, slots := os } := Heap.get?_push_of_some _ hol
        have hs1 := F.sub_list_set
        have hs2 := F.sub_list_frozenset
        have hne : (Value.type "list" == Value.type "dict") = false := by decide
        unfold Builtin.«set.__init__» noKeywords Builtin.Frozenset.updateFrom
        generalize hPI : pyIter = PI
        wp_walk
        subst hPI
        refine wpAny_pyIter_list hl1 (wpAny_bind (wpAny_runValue ?_))
        have lt : l < s.heap.objs.size := Heap.lt_size hol
        have zs : (s.heap.push (zO w)).objs.size = s.heap.objs.size + 1 := Heap.size_push ..
        refine zloop ((Walks.list (by simp [hh]) (s.heap.push (zO w)).objs.size l (by rw [zs]; exact Nat.ne_of_lt (Nat.lt_succ_of_lt lt)) its).toS) s.heap.objs.size ?_ ks hz room hv (its.size - 0) 0 _ rfl (Nat.zero_le _) ⟨⟨_, Heap.get?_push_size _ rfl, rfl, rfl⟩, hl1.push _⟩ ?_ ?_
        · simp only [List.mem_cons, List.not_mem_nil, or_false, not_or, zs]
          exact ⟨Nat.ne_of_lt (Nat.lt_succ_self _), Nat.ne_of_gt lt⟩
        · exact (znew_at (Heap.get?_push_of_some _ hS)).eq fun j => by simp [onceK]
        · rintro ⟨h', g2, d2, tk, os2⟩ mv hS'
          obtain rfl : g2 = s.gens := mv.gens
          obtain rfl : d2 = s.drawn := mv.drawn
          obtain rfl : os2 = s.os := mv.os
          refine wpAny_pure (wpAny_pure ⟨rfl, h', tk, rfl, hS', fun b o z => ?_⟩)
          have b0 := Heap.lt_size z
          exact mv.heap b o (by simp only [List.mem_cons, List.not_mem_nil, or_false, not_or, zs]; exact ⟨Nat.ne_of_lt b0, Nat.ne_of_lt (Nat.lt_succ_of_lt b0)⟩) (Heap.get?_push_of_some _ (Heap.get?_push_of_some _ z))
      · cases r2 with
        | error e => exact hr2
        | ok f2 =>
          cases f2 with
          | ret r =>
            obtain ⟨rfl, h', tk, rfl, hS', hk'⟩ := hr2
            repeat (any_goals (first | assumption | wp_step))
            exact h _ _ hS' hk'
          | _ => exact hr2.elim
    | _ => exact hr.elim
end
/-- each key once, where it first stands -/
def onceD (xs : List D) : List D := xs.foldl (fun acc d => match keyD d with
  | some k => if inKs acc k then acc else acc ++ [d]
  | none => acc) []
def fSetL (ds : List D) (s : Sto) : Rs D := match ds with
  | [.ref n] => match lstAt s n with
    | some xs => match keysD xs with
      | some _ => if xs.length + 1 < 4096 then .ok (.ref s.length) (s ++ [.set (onceD xs)]) else .no
      | none => .no
    | none => .no
  | _ => .no
omit [Row] in
theorem onceD_keys : ∀ (xs : List D) (ks : List Key), keysD xs = some ks → keysD (onceD xs) = some (onceK ks) := by
  have key : ∀ (xs : List D) (ks : List Key) (acc : List D) (js : List Key), keysD xs = some ks → keysD acc = some js →
      keysD (xs.foldl (fun acc d => match keyD d with | some k => if inKs acc k then acc else acc ++ [d] | none => acc) acc) = some (ks.foldl (fun acc k => if k ∈ acc then acc else acc ++ [k]) js) := by
    intro xs
    induction xs with
    | nil => intro ks acc js h1 h2; cases h1; exact h2
    | cons x xs ih =>
      intro ks acc js h1 h2
      unfold keysD at h1
      split at h1
      · rename_i k ks1 e1 e2
        cases h1
        rw [List.foldl_cons, List.foldl_cons]
        refine ih _ _ _ e2 ?_
        rw [e1]
        dsimp only
        by_cases q : k ∈ js
        · rw [if_pos q, if_pos ((keysD_any h2 k).mpr q)]
          exact h2
        · rw [if_neg q, if_neg (fun z => q ((keysD_any h2 k).mp z))]
          exact keysD_snoc e1 h2
      · cases h1
  exact fun xs ks h => key xs ks [] [] h rfl
section
variable {X : Cx} {W : WX}
theorem calld_setL (hX : IsRow X) (hc : X.calm = true) : CallD X W (.type "set") fSetL := by
  intro pins s σ H ρ st ds vs us Q I sr vr r po
  unfold fSetL at po
  split at po
  · rename_i n
    split at po
    · rename_i xs hx
      split at po
      · rename_i ks hk
        obtain ⟨hl, po⟩ := Po.ite po
        obtain ⟨v, rfl, rv⟩ := vr.one
        rw [VR] at rv
        obtain ⟨_, rfl⟩ := rv
        rw [Vals.ref1 r]
        obtain ⟨ws, sq, rr⟩ := sr.lst hx
        obtain ⟨its, rvv, pl, hz⟩ := I.list sq
        have kv : ∀ (xs : List D) (ks : List Key) (ws : List V) (its : List Value), keysD xs = some ks → VRs X.K ρ st.length H xs ws → Vals ws its → its.length = ks.length ∧ xs.length = ks.length ∧ ∀ (i : Nat) (u : Value), its[i]? = some u → ∃ k, ks[i]? = some k ∧ RelV (kV k) u := by
          intro xs
          induction xs with
          | nil =>
            intro ks ws its h1 h2 h3
            cases h1
            rw [VRs] at h2
            subst h2
            cases h3
            exact ⟨rfl, rfl, fun i u h => by simp at h⟩
          | cons x xs ih =>
            intro ks ws its h1 h2 h3
            unfold keysD at h1
            split at h1
            · rename_i k js e1 e2
              cases h1
              obtain ⟨v, r, rfl, h4, h5⟩ := h2.uncons
              cases h3 with
              | cons h6 h7 =>
                obtain ⟨l1, l2, l3⟩ := ih js r _ e2 h5 h7
                refine ⟨by rw [List.length_cons, List.length_cons, l1], by rw [List.length_cons, List.length_cons, l2], fun i u hu => ?_⟩
                cases i with
                | zero =>
                  cases hu
                  rw [keyD_vr e1 h4] at h6
                  exact ⟨k, rfl, h6⟩
                | succ i => exact l3 i u hu
            · cases h1
        obtain ⟨l1, l2, l3⟩ := kv xs ks ws its hk rr rvv
        refine zset_list (P := X.prog) (w := X.w) ks (I.ok.hd hc) (show s.heap.IsList _ its.toArray from pl.isList) (by rw [List.size_toArray]; exact l1) (fun i u hu => ?_) (by rw [← l2]; exact hl) fun h' tk R keep => ?_
        · obtain ⟨k, q1, q2⟩ := l3 i u (by simpa using hu)
          exact ⟨k, q1, kV_is (P := X.prog) (w := X.w) q2, key_scan q2⟩
        · have hn : H s.heap.objs.size = none := I.hok.fresh (Nat.le_refl _)
          have J := I.laid (t' := tk) (a := s.heap.objs.size) keep (Nat.le_refl _) (setH_ok R)
          have stq : ∀ b u, H b = some u → upd H s.heap.objs.size (SetH X.prog X.w s.heap.objs.size (fun j => decide (j ∈ onceK ks)) (onceK ks).length) b = some u := fun b u e => by rw [upd_ne (ne_of_none e hn)]; exact e
          have len : (st ++ [SO.set (onceD xs)]).length = st.length + 1 := by rw [List.length_append] <;> rfl
          have hok := onceD_keys xs ks hk
          have hlen : (onceD xs).length = (onceK ks).length := by
            have : ∀ (ys : List D) (js : List Key), keysD ys = some js → ys.length = js.length := by
              intro ys
              induction ys with
              | nil => intro js h; cases h; rfl
              | cons y ys ih =>
                intro js h
                unfold keysD at h
                split at h
                · rename_i k js1 e1 e2
                  cases h
                  rw [List.length_cons, List.length_cons, ih js1 e2]
                · cases h
            exact this _ _ hok
          have al := sr.alloc (o := .set (onceD xs)) hn stq ⟨_, _, by rw [upd_same, hX.1, hX.2], hlen.symm, onceK ks, hok, onceK_nodup ks, fun k => by simp⟩
          refine ⟨.ref _, _, J, rfl, po _ _ _ (by rw [len]; exact Ext.alloc stq) al ?_⟩
          rw [VR, len]
          exact ⟨Nat.lt_succ_self _, by rw [ρup_same]⟩
      · exact po.elim
    · exact po.elim
  · exact po.elim
end
end Z

set_option Elab.async false
set_option linter.all false
set_option maxRecDepth 100000
set_option maxHeartbeats 4000000
namespace Z
open PySem PySem.Spec PyProof.Rows L2
variable [Row]
/-! ### xs[::-1] -/
def mRev (m : EM D) : EM D := fun e s => (m e s).bind fun d s1 => match d with
  | .ref n => match lstAt s1 n with
    | some xs => .ok (.ref s1.length) (s1 ++ [.lst xs.reverse])
    | none => .no
  | _ => .no
theorem je_rev {X : Cx} {W : WX} {e : Expr} {m : EM D} {k : Nat} {p1 p2 p3 pos : Pos} (he : JE X W e m) : JE X W (.Subscript e (.Slice none none (some (.UnaryOp .USub (.Constant (.int 1) k p1) p2)) p3) pos) (mRev m) :=
  PE_imp (pe_revL he) fun σ H Q ⟨ρ, env, s, sr, er, po⟩ => ⟨ρ, env, s, sr, er, (Po.bind po).imp fun v H1 ⟨ρ1, s1, d1, e1, sr1, r1, po1⟩ => by
    cases d1 with
    | ref n =>
      rw [VR] at r1
      obtain ⟨_, rfl⟩ := r1
      dsimp only at po1
      split at po1
      · rename_i xs hx
        obtain ⟨ws, sq, rr⟩ := sr1.lst hx
        refine ⟨_, ws, rfl, sq, fun p hp => ?_⟩
        obtain ⟨x1, sr2, v1⟩ := new_lst sr1 hp rr.reverse
        exact po1 _ _ _ x1 sr2 v1
      · exact po1.elim
    | _ => exact po1.elim⟩
/-! ### what these do -/
section
omit [Row]
variable {P : D → Sto → Prop} {E : Str → Str → D → Sto → Prop} {e : Ev} {s : Sto} {m : EM D} {n : Nat}
@[simp ↓] theorem z_mRev : (mRev m e s).wp P E = (m e s).wp (fun d s1 => refP d fun n => lstP (lstAt s1 n) fun xs => P (.ref s1.length) (s1 ++ [.lst xs.reverse])) E := by
  unfold mRev
  rw [z_bind]
  congr 1
  funext d s1
  unfold refP
  cases d with
  | ref n =>
    dsimp only
    unfold lstP
    cases lstAt s1 n <;> rfl
  | _ => rfl
theorem z_sortZ {B : MF} {xs : List D} {zs : List Str} (h : setAt s n = some xs) (hz : xs.mapM strD = some zs) (ok : ∀ z ∈ zs, PySem.PyData.strOk z = true) : (fSortZ B [.ref n] s).wp P E = P (.ref s.length) (s ++ [.lst ((sortS zs).map D.str)]) := by
  unfold fSortZ
  dsimp only
  rw [h]
  dsimp only
  rw [hz]
  dsimp only
  rw [if_pos (List.all_eq_true.mpr ok), z_ok]
theorem z_setOfL {xs : List D} {ks : List Key} (h : lstAt s n = some xs) (hk : keysD xs = some ks) (hl : xs.length + 1 < 4096) : (fSetL [.ref n] s).wp P E = P (.ref s.length) (s ++ [.set (onceD xs)]) := by
  unfold fSetL
  dsimp only
  rw [h]
  dsimp only
  rw [hk]
  dsimp only
  rw [if_pos hl, z_ok]
/-- what is once in a list of texts -/
def onceS (xs : List Str) : List Str := xs.foldl (fun acc x => if x ∈ acc then acc else acc ++ [x]) []
theorem inKs_strs {xs : List Str} {x : Str} : inKs (xs.map D.str) (.inr x) = decide (x ∈ xs) := by
  unfold inKs
  rw [List.any_map]
  induction xs with
  | nil => simp
  | cons y ys ih =>
    rw [List.any_cons, ih]
    by_cases q : y = x
    · subst q; simp [keyD]
    · have q2 : x ≠ y := fun e => q e.symm
      simp [keyD, q, q2]
theorem onceD_strs : ∀ xs : List Str, onceD (xs.map D.str) = (onceS xs).map D.str := by
  have key : ∀ (xs acc : List Str), (xs.map D.str).foldl (fun acc d => match keyD d with | some k => if inKs acc k then acc else acc ++ [d] | none => acc) (acc.map D.str) = (xs.foldl (fun acc x => if x ∈ acc then acc else acc ++ [x]) acc).map D.str := by
    intro xs
    induction xs with
    | nil => intro acc; rfl
    | cons x xs ih =>
      intro acc
      rw [List.map_cons, List.foldl_cons, List.foldl_cons]
      have e : (match keyD (D.str x) with | some k => if inKs (acc.map D.str) k then acc.map D.str else acc.map D.str ++ [D.str x] | none => acc.map D.str) = (if x ∈ acc then acc else acc ++ [x]).map D.str := by
        show (if inKs (acc.map D.str) (.inr x) then acc.map D.str else acc.map D.str ++ [D.str x]) = _
        rw [inKs_strs]
        by_cases q : x ∈ acc <;> simp [q]
      rw [e, ih]
  exact fun xs => key xs []
theorem onceS_mem : ∀ (xs : List Str) (x : Str), x ∈ onceS xs ↔ x ∈ xs := by
  have key : ∀ (xs acc : List Str) (x : Str), x ∈ xs.foldl (fun acc x => if x ∈ acc then acc else acc ++ [x]) acc ↔ x ∈ acc ∨ x ∈ xs := by
    intro xs
    induction xs with
    | nil => intro acc x; simp
    | cons y ys ih =>
      intro acc x
      rw [List.foldl_cons, ih]
      by_cases q : y ∈ acc
      · rw [if_pos q, List.mem_cons]
        exact ⟨fun h => h.elim .inl fun h => .inr (.inr h), fun h => h.elim .inl fun h => h.elim (fun e => .inl (e ▸ q)) .inr⟩
      · rw [if_neg q, List.mem_append, List.mem_singleton, List.mem_cons, or_assoc]
  intro xs x
  rw [onceS, key]
  simp
theorem onceS_nodup : ∀ xs : List Str, (onceS xs).Nodup := by
  have key : ∀ (xs acc : List Str), acc.Nodup → (xs.foldl (fun acc x => if x ∈ acc then acc else acc ++ [x]) acc).Nodup := by
    intro xs
    induction xs with
    | nil => intro acc h; exact h
    | cons y ys ih =>
      intro acc h
      rw [List.foldl_cons]
      refine ih _ ?_
      by_cases q : y ∈ acc
      · rw [if_pos q]; exact h
      · rw [if_neg q, List.nodup_append]
        exact ⟨h, by simp, fun a ha b hb e => q (by rw [List.mem_singleton.mp hb] at e; rw [← e]; exact ha)⟩
  exact fun xs => key xs [] List.nodup_nil
theorem keysD_map : ∀ xs : List Str, keysD (xs.map D.str) = some (xs.map Sum.inr)
  | [] => rfl
  | x :: xs => by
    rw [List.map_cons, keysD, keysD_map xs]
    rfl
/-- the texts of two lists with the same texts, each once, in order -/
theorem sortS_same {xs ys : List Str} (h1 : xs.Nodup) (h2 : ys.Nodup) (h : ∀ x, x ∈ xs ↔ x ∈ ys) : sortS xs = sortS ys := sortS_uniq ((List.perm_ext_iff_of_nodup h1 h2).mpr h)
end
end Z

set_option Elab.async false
set_option linter.all false
set_option maxRecDepth 100000
set_option maxHeartbeats 4000000
namespace Z
open PySem PySem.Spec PyProof.Rows L2
/-! ### a value that is no instance, compared with an own instance: the instance's == answers -/
section
variable {P : Program} {w : World} {A : Around} {E : Value → Shared → Prop} {s : Shared} {a C : Addr} {ox : Obj} {od : Option Obj} {Q : Value → Shared → Prop}
theorem dec_none (h : Q .notImplemented s) : wpAny (model P w) A (call (.builtin "NoneType.__eq__") [.none, .ref a]) Q E s := call_gives F.slot_NoneType_eq_refl rfl F.entry_NoneType_eq (F.args_NoneType_eq_2 _ _) (PySem.SeqAt.NoneType___eq___none_ref_0 a) h
theorem dec_int {i : Int} {t : Tok} (ho : s.heap.get? a = some ox) (hd : ox.data = .plain) (h : Q .notImplemented s) : wpAny (model P w) A (call (.builtin "int.__eq__") [.int i t, .ref a]) Q E s := by
  refine wpAny_call_entry F.slot_int_eq (typeIs_int s i t) F.entry_int_eq ?_ (F.args_int_eq_2 _ _)
  obtain ⟨c, d, dt, sl⟩ := ox
  cases hd
  obtain ⟨hp, g, dr, tk, os⟩ := s
  wp_walk using wpAny_load ho, wpAny_loadPart' ho
  exact ⟨_, rfl, h⟩
theorem dec_bool {b : Bool} (ho : s.heap.get? a = some ox) (hd : ox.data = .plain) (h : Q .notImplemented s) : wpAny (model P w) A (call (.builtin "int.__eq__") [.bool b, .ref a]) Q E s := by
  refine wpAny_call_entry F.slot_bool_eq (PySem.typeIs_bool s b) F.entry_int_eq ?_ (F.args_int_eq_2 _ _)
  obtain ⟨c, d, dt, sl⟩ := ox
  cases hd
  obtain ⟨hp, g, dr, tk, os⟩ := s
  wp_walk using wpAny_load ho, wpAny_loadPart' ho
  exact ⟨_, rfl, h⟩
theorem dec_str {x : Str} {t : Tok} (ho : s.heap.get? a = some ox) (hd : ox.data = .plain) (h : Q .notImplemented s) : wpAny (model P w) A (call (.builtin "str.__eq__") [.str x t, .ref a]) Q E s := by
  refine wpAny_call_entry F.slot_str_eq (typeIs_str s x t) F.entry_str_eq ?_ (F.args_str_eq_2 _ _)
  obtain ⟨c, d, dt, sl⟩ := ox
  cases hd
  obtain ⟨hp, g, dr, tk, os⟩ := s
  wp_walk using wpAny_load ho, wpAny_loadPart' ho
  exact ⟨_, rfl, h⟩
theorem dec_list {l : Addr} {its : Array Value} {n : Nat} {dd : Option Addr} {sl : Array (Option Value)} (hl : s.heap.get? l = some { cls := .type "list", dict := dd, data := .seq its n, slots := sl })
    (hs : PySem.W.Looks (model P w) s.heap (isInstance (.ref a) (.type "list")) false) (h : Q .notImplemented s) : wpAny (model P w) A (call (.builtin "list.__eq__") [.ref l, .ref a]) Q E s := by
  refine wpAny_call_entry F.slot_list_eq ⟨_, hl, rfl⟩ F.entry_list_eq ?_ (F.args_list_eq_2 _ _)
  obtain ⟨hp, g, dr, tk, os⟩ := s
  wp_walk using wpAny_load hl, wpAny_loadPart' hl, hs.here
  exact ⟨_, rfl, h⟩
theorem dec_tup {l : Addr} {its : Array Value} {n : Nat} {dd : Option Addr} {sl : Array (Option Value)} (hl : s.heap.get? l = some { cls := .type "tuple", dict := dd, data := .seq its n, slots := sl })
    (hs : PySem.W.Looks (model P w) s.heap (isInstance (.ref a) (.type "tuple")) false) (h : Q .notImplemented s) : wpAny (model P w) A (call (.builtin "tuple.__eq__") [.ref l, .ref a]) Q E s := by
  refine wpAny_call_entry F.slot_tuple_eq ⟨_, hl, rfl⟩ F.entry_tuple_eq ?_ (F.args_tuple_eq_2 _ _)
  obtain ⟨hp, g, dr, tk, os⟩ := s
  wp_walk using wpAny_load hl, wpAny_loadPart' hl, hs.here
  exact ⟨_, rfl, h⟩
variable {K : PySem.W.Frag} {f : Addr}
/-- u == o: u's own == declines, o's answers -/
theorem rc_right {u : Value} {T id : String} (hT : s.TypeIs u T) (sl : Slot T (cmpInfo .Eq).2.1 id) (hu : A.units < cLine) (X : K.In s.heap) (I : PySem.W.InstAt s.heap a ox C od) (hsub : PySem.W.subIn K (.ref C) (.type T) = some false)
    (hdec : ∀ Z : Value → Shared → Prop, Z .notImplemented s → wpAny (model P w) A (call (.builtin id) [u, .ref a]) Z E s) (hs : PySem.W.findIn K (.ref C) "__eq__" = some (some (.ref f))) (hf : PySem.W.isFn K (.ref f) = true)
    (h : wpAny (model P w) A (call (.ref f) [.ref a, u]) (PySem.W.CmpBack Q) E s) : wpAny (model P w) A (richCompare .Eq u (.ref a)) Q E s := by
  have one : wpAny (model P w) A (tryCompare (.ref a) "__eq__" u) (fun r s' => ∃ v, r = some v ∧ Q v s') E s := by
    unfold tryCompare
    refine wpAny_bind (PySem.W.ifBound_K X I hs hf (thn h fun v s' hv => ?_))
    cases v <;> first | exact hv.elim | exact wpAny_pure ⟨_, rfl, hv⟩
  have ne : (Value.type T != Value.ref C) = true := rfl
  rcases hi : cmpInfo CmpOp.Eq with ⟨sy, fn, rn⟩
  rw [hi] at sl
  have er : rn = "__eq__" := by
    have := congrArg (fun q => q.2.2) hi
    exact this.symm
  simp only [richCompare, hi, hT.oneThing_none]
  refine wpAny_holding (wpAny_bind (wpAny_cRoomFor hu ?_))
  refine wpAny_bind (wpAny_typeOf hT (wpAny_bind (I.type.here ?_)))
  simp only [ne, if_true]
  refine wpAny_bind ((PySem.W.looks_subIn X hsub).here ?_)
  simp only [Bool.false_eq_true, if_false, Bool.not_false, if_true]
  refine wpAny_bind (m := tryCompare u _ (.ref a)) (wpAny_tryCompare_declines hT sl (hdec _ ⟨rfl, ?_⟩))
  dsimp only
  rw [er]
  refine wpAny_bind (thn one fun r s' z => ?_)
  obtain ⟨v, rfl, q⟩ := z
  exact wpAny_pure q
theorem eqBool_ne {u v : Value} {B : Bool → Shared → Prop} (hne : (u == v) = false) (hv : ∃ p, v = .ref p) (h : wpAny (model P w) A (richCompare .Eq u v) (fun r s' => ∃ b, r = .bool b ∧ B b s') E s) : wpAny (model P w) A (eqBool u v) B E s := by
  obtain ⟨p, rfl⟩ := hv
  unfold eqBool
  refine wpAny_holding ?_
  rw [if_neg (by rw [hne]; exact Bool.false_ne_true)]
  have h2 : wpAny (model P w) A (do truthOfDropped (← richCompare .Eq u (.ref p))) B E s := wpAny_bind (thn h fun r s' z => by
    obtain ⟨b, rfl, q⟩ := z
    exact wpAny_truthy_bool q)
  cases u <;> exact h2
end
end Z
namespace Z
open PySem PySem.Spec PyProof.Rows L2
variable [Row]
/-! ### o in xs, o an own instance, the items of the list xs none -/
def itOk (s : Sto) : D → Bool
  | .ref k => (mLst s k).isSome
  | _ => true
def inOwnL (c : Str) (G : MF) (n l : Nat) : Nat → Nat → Sto → Rs Bool
  | 0, _, _ => .no
  | f + 1, i, s => match mLst s l with
    | some xs => match xs[i]? with
      | some d => if itOk s d = true ∧ insC s (.ref n) = some c then (G [.ref n, d] s).bind fun r s1 => match r with
        | .bl q => if q then .ok true s1 else inOwnL c G n l f (i + 1) s1
        | _ => .no
        else .no
      | none => .ok false s
    | none => .no
def dInI (tb : Tb) (neg : Bool) (B : D → D → Sto → Rs D) (x y : D) (s : Sto) : Rs D := match insC s x, x, y with
  | some c, .ref n, .ref l => match tb.lookup c, mLst s l with
    | some G, some xs => (inOwnL c G n l (xs.length + 1) 0 s).bind fun q s1 => .ok (.bl (neg ^^ q)) s1
    | _, _ => .no
  | some _, _, _ => .no
  | none, _, _ => B x y s
def STab (K : PySem.W.Frag) (tb : Tb) : Prop := ∀ c F, tb.lookup c = some F → ∀ T ∈ tysB, PySem.W.subIn K (.ref (He.ga K c)) (.type T) = some false
omit [Row] in
theorem stab_nil {K : PySem.W.Frag} : STab K [] := fun _ _ h => by cases h
omit [Row] in
theorem stab_cons {K : PySem.W.Frag} {c : Str} {F : MF} {tb : Tb} (h : (tysB.all fun T => decide (PySem.W.subIn K (.ref (He.ga K c)) (.type T) = some false)) = true) (t : STab K tb) : STab K ((c, F) :: tb) := fun d G hG => by
  rw [List.lookup_cons] at hG
  split at hG
  · rename_i q
    obtain rfl : d = c := eq_of_beq q
    exact fun T hT => of_decide_eq_true (List.all_eq_true.mp h T hT)
  · exact t d G hG
section
variable {X : Cx} {W : WX} {k : Nat} {tb : Tb} {cs : List Str}
theorem el_own {A : Around} (F : ClsF X.K X.mg cs) (T : MTab X.prog X.w X.K X.mg X.base k tb "__eq__") (T2 : ETab X.K X.mg cs tb) (T3 : STab X.K tb) (hfr : A.frames = X.A.frames) (hr : Rm (k + 1) A) (tk : Takes X W) {pins : List (Addr × Obj)} {s : Shared} {σ : L2.St} {H : Hp} {ρ : Nat → Addr} {st : Sto} {n : Nat} {c : Str} {fs : List (Str × D)} {G : MF} {d : D} {v : V} {u : Value} {Q : Bool → Hp → Prop}
    (I : Inv X pins σ H s) (sr : SR X.K X.mg ρ st H) (hs : st[n]? = some (.ins c fs)) (hF : tb.lookup c = some G) (hn : n < st.length) (rd : VR X.K ρ st.length H d v) (ru : RelV v u) (hd : itOk st d = true)
    (po : Po X.K X.mg RB W σ ρ st.length H ((G [.ref n, d] st).bind fun r s1 => match r with | .bl b => .ok b s1 | _ => .no) Q) :
    wpAny (model X.prog X.w) A (eqBool u (.ref (ρ n))) (TP X pins σ Q) X.xe s := by
  obtain ⟨C, dx, vs, g, g2, g3, h2, h3, h4⟩ := meth_of T sr hs hF
  obtain ⟨hcc, hne⟩ := T2 c G hF
  have eC : C = He.ga X.K c := by
    obtain ⟨C2, dx2, vs2, q1, q2, _⟩ := sr.ob n _ hs
    rw [g2] at q2
    cases q2
    rw [F.at_ c hcc] at q1
    cases q1
    rfl
  subst eC
  obtain ⟨ox, od, J, hpl⟩ := inst_look I g2
  have hsub := T3 c G hF
  have vx : VR X.K ρ st.length H (.ref n) (.ref (ρ n)) := by rw [VR]; exact ⟨hn, rfl⟩
  have e0 : Env0 X.prog X.w X.K X.mg X.base A X.stack s H := by
    have e := I.env0
    exact ⟨by rw [hfr]; exact e.frames, e.mod, e.bs, e.bsz, e.funs, e.frf, e.hok, e.bare⟩
  have run : wpAny (model X.prog X.w) A (call (.ref g) [.ref (ρ n), u]) (PySem.W.CmpBack fun r s' => ∃ b, r = .bool b ∧ TP X pins σ Q b s') X.xe s :=
    thn (own_call (us := [.ref (ρ n), u]) (vs := [.ref (ρ n), v]) h4 (hr.mono (Nat.le_succ k)) e0 tk I (.cons rfl (.cons ru .nil)) sr (VRs.cons vx (VRs.cons rd VRs.nil)) (Po.bind po)) fun r s2 ⟨v2, H2, I2, r2, ρ2, st2, d2, e3, sr2, vr2, po2⟩ => by
      cases d2 with
      | bl q =>
        obtain rfl : v2 = .bl q := vr2
        cases r2
        exact ⟨q, rfl, H2, I2, po2 ρ2 H2 q Ext.refl sr2 rfl⟩
      | _ => exact po2.elim
  have fin : ∀ {u : Value} {T id : String} (hT : s.TypeIs u T) (sl : Slot T (cmpInfo .Eq).2.1 id) (hT2 : T ∈ tysB) (hdec : ∀ Z : Value → Shared → Prop, Z .notImplemented s → wpAny (model X.prog X.w) A (call (.builtin id) [u, .ref (ρ n)]) Z X.xe s)
      (hne : (u == Value.ref (ρ n)) = false) (run : wpAny (model X.prog X.w) A (call (.ref g) [.ref (ρ n), u]) (PySem.W.CmpBack fun r s' => ∃ b, r = .bool b ∧ TP X pins σ Q b s') X.xe s), wpAny (model X.prog X.w) A (eqBool u (.ref (ρ n))) (TP X pins σ Q) X.xe s := fun {u T id} hT sl hT2 hdec hne run =>
    eqBool_ne hne ⟨_, rfl⟩ (rc_right hT sl hr.room.units0 I.kIn J (hsub T hT2) hdec h3.at_ h3.fn run)
  have isI : ∀ T ∈ tysB, PySem.W.Looks (model X.prog X.w) s.heap (isInstance (.ref (ρ n)) (.type T)) false := fun T hT => J.type.andThen (PySem.W.looks_subIn I.kIn (hsub T hT))
  cases d with
  | non =>
    obtain rfl : v = .non := by rw [VR] at rd; exact rd
    obtain rfl : u = Value.none := ru
    exact fin rfl PySem.F.slot_NoneType_eq (by decide) (fun Z hz => dec_none hz) rfl run
  | bl b =>
    obtain rfl : v = .bl b := by rw [VR] at rd; exact rd
    obtain rfl : u = Value.bool b := ru
    exact fin rfl PySem.F.slot_bool_eq (by decide) (fun Z hz => dec_bool J.at_ hpl hz) rfl run
  | int i =>
    obtain rfl : v = .int i := by rw [VR] at rd; exact rd
    obtain ⟨t, rfl⟩ := ru
    exact fin rfl PySem.F.slot_int_eq (by decide) (fun Z hz => dec_int J.at_ hpl hz) rfl run
  | str x =>
    obtain rfl : v = .str x := by rw [VR] at rd; exact rd
    obtain ⟨t, rfl⟩ := ru
    exact fin rfl PySem.F.slot_str_eq (by decide) (fun Z hz => dec_str J.at_ hpl hz) rfl run
  | tup xs =>
    rw [VR] at rd
    obtain ⟨p, ws, rfl, sq, _⟩ := rd
    obtain rfl : u = Value.ref p := ru
    obtain ⟨its, rv, ⟨o, ho, hc, m, hdt⟩, hz⟩ := I.tuple sq
    obtain ⟨oc, od2, odt, os⟩ := o
    simp only at hc hdt
    subst hc hdt
    have ne : p ≠ ρ n := fun e => by
      rw [e, J.at_] at ho
      cases ho
      cases hpl
    exact fin ⟨_, ho, rfl⟩ PySem.F.slot_tuple_eq (by decide) (fun Z hz => dec_tup ho (isI "tuple" (by decide)) hz) (by simpa using ne) run
  | ref j =>
    rw [VR] at rd
    obtain ⟨lj, rfl⟩ := rd
    obtain rfl : u = Value.ref (ρ j) := ru
    have hj : (mLst st j).isSome = true := hd
    cases hm : mLst st j with
    | none => rw [hm] at hj; cases hj
    | some ys =>
      obtain ⟨ws, k1, _⟩ := sr.ob j _ (mLst_at hm)
      obtain ⟨z, its, m, _, _, gl⟩ := I.lstM k1
      have ne : ρ j ≠ ρ n := fun e => by
        rw [e, J.at_] at gl
        cases gl
        cases hpl
      exact fin ⟨_, gl, rfl⟩ PySem.F.slot_list_eq (by decide) (fun Z hz => dec_list gl (isI "list" (by decide)) hz) (by simpa using ne) run
open PySem.MeetsSeq in
theorem in_loopO {A : Around} (F : ClsF X.K X.mg cs) (T : MTab X.prog X.w X.K X.mg X.base k tb "__eq__") (T2 : ETab X.K X.mg cs tb) (T3 : STab X.K tb) (hfr : A.frames = X.A.frames) (hr : Rm (k + 2) A) (tk : Takes X W) {pins : List (Addr × Obj)} {σ : L2.St} {n l : Nat} {c : Str} {G : MF} {R : Result → Shared → Prop} {Q : Bool → Hp → Prop} (hG : tb.lookup c = some G)
    (hR : ∀ q s', TP X pins σ Q q s' → R (.ok (.ret (.bool q))) s') (hE : ∀ e s', X.xe e s' → R (.error e) s') : ∀ (f i : Nat) (s : Shared) (H : Hp) (ρ : Nat → Addr) (st : Sto), Inv X pins σ H s → SR X.K X.mg ρ st H →
      n < st.length → l < st.length →
      Po X.K X.mg RB W σ ρ st.length H (inOwnL c G n l f i st) Q →
      wpAny (model X.prog X.w) A.in1 (Builtin.«list.__contains__.loop» ⟨[.ref (ρ l), .ref (ρ n), rawInt i], []⟩) (GQ.FinOf X.prog X.w A R) (fun e s' => R (.error e) s') s := by
  intro f
  induction f with
  | zero => intro i s H ρ st I sr _ _ po; exact po.elim
  | succ f ih =>
    intro i s H ρ st I sr hn hl po
    unfold inOwnL at po
    split at po
    · rename_i xs hx
      have ax := mLst_at hx
      obtain ⟨vs, h1, r1⟩ := sr.ob l _ ax
      obtain ⟨z1, its1, n1, q1, l1, g1⟩ := I.lstM h1
      have L1 : its1.length = xs.length := by rw [← l1, r1.length]
      split at po
      · rename_i d ed
        obtain ⟨⟨hit, hic⟩, po⟩ := Po.ite po
        obtain ⟨v1, hv1, w1⟩ := r1.get ed
        obtain ⟨u1, hu1, m1⟩ := q1.get hv1
        obtain ⟨n', fs, en, hfs⟩ := insC_some hic
        cases en
        have el := el_own (Q := fun b H2 => Mid X.K X.mg RB ρ st.length H b H2 fun ρ2 st2 b2 => Po X.K X.mg RB W σ ρ2 st2.length H2 (if b2 then .ok true st2 else inOwnL c G n l f (i + 1) st2) Q) F T T2 T3 (A := A.in1) (by exact hfr) hr.in1 tk I sr hfs hG hn w1 m1 hit (by
          have po2 := po
          revert po2
          cases hg : G [.ref n, d] st with
          | ok r s1 =>
            intro po2
            cases r with
            | bl q =>
              intro ρ' H' v e sr' rb
              obtain rfl : q = v := rb
              exact ⟨ρ', s1, q, e, sr', rfl, Po.rebase po2 e⟩
            | _ => exact po2.elim
          | ex c f d s1 => exact fun po2 => po2
          | no => exact fun po2 => po2)
        obtain ⟨hp, g, dr, tk0, os⟩ := s
        have i1 : its1.toArray[((i : Nat) : Int).toNat]? = some u1 := by simpa using hu1
        have hc : ((i : Int) + 1) = ((i + 1 : Nat) : Int) := by omega
        wp_walk using wpAny_loadPart' g1
        rw [i1]
        refine wpAny_bind (wpAny_mono el (fun r s2 h2 => ?_) fun e s' he => hE e s' he)
        obtain ⟨H3, I3, ρ3, st3, b3, e3, sr3, rd, po3⟩ := h2
        obtain rfl : b3 = r := rd
        have ea := e3.ag l hl
        have eb := e3.ag n hn
        cases b3
        · rw [if_neg Bool.false_ne_true] at po3
          rw [if_neg Bool.false_ne_true, hc]
          refine wpAny_pure ⟨plainId_quiet plain_contains_loop _, codeAny_builtin entry_contains_loop ?_⟩
          rw [Around.under_plainId plain_contains_loop _]
          have := ih (i + 1) _ H3 ρ3 st3 I3 sr3 (Nat.lt_of_lt_of_le hn e3.le) (Nat.lt_of_lt_of_le hl e3.le) po3
          rw [ea, eb] at this
          exact this
        · rw [if_pos rfl] at po3
          rw [if_pos rfl]
          exact wpAny_pure (hR true _ ⟨H3, I3, po3 ρ3 H3 true Ext.refl sr3 rfl⟩)
      · rename_i en
        have hq := hR false s ⟨H, I, po ρ H _ Ext.refl sr rfl⟩
        obtain ⟨hp, g, dr, tk0, os⟩ := s
        have i1 : its1.toArray[((i : Nat) : Int).toNat]? = none := by
          have := List.getElem?_eq_none_iff.mp en
          simp
          omega
        wp_walk using wpAny_loadPart' g1
        rw [i1]
        wp_walk
        exact hq
    · exact po.elim
open PySem.MeetsSeq in
theorem opd_inI {op : CmpOp} {neg : Bool} {B : D → D → Sto → Rs D} (hop : (op = .In ∧ neg = false) ∨ (op = .NotIn ∧ neg = true)) (F : ClsF X.K X.mg cs) (T : MTab X.prog X.w X.K X.mg X.base k tb "__eq__") (T2 : ETab X.K X.mg cs tb) (T3 : STab X.K tb) (hr : Rm (k + 2) X.A) (tk : Takes X W) (hB : OpD X W (compareOp op) B) : OpD X W (compareOp op) (dInI tb neg B) := by
  intro pins s σ H ρ st x y vx vy ux uy Q I sr rx ry e1 e2 po
  unfold dInI at po
  split at po
  · rename_i c n l hc
    split at po
    · rename_i G xs hG hx
      obtain ⟨n', fs, en, hfs⟩ := insC_some hc
      cases en
      rw [VR] at rx ry
      obtain ⟨hn, rfl⟩ := rx
      obtain ⟨hl, rfl⟩ := ry
      obtain rfl : ux = Value.ref (ρ n) := e1
      obtain rfl : uy = Value.ref (ρ l) := e2
      obtain ⟨vs, h1, r1⟩ := sr.ob l _ (mLst_at hx)
      obtain ⟨z1, its1, n1, q1, l1, g1⟩ := I.lstM h1
      have main : ∀ (Z : Bool → Shared → Prop), (∀ q s', TP X pins σ (fun q H' => Q (.bl (neg ^^ q)) H') q s' → Z q s') → wpAny (model X.prog X.w) X.A (contains (.ref (ρ l)) (.ref (ρ n))) Z X.xe s := fun Z hZ => by
        refine wpAny_contains_slot (T := "list") ⟨_, g1, rfl⟩ PySem.F.slot_list_contains (GQ.call_here PySem.F.slot_list_contains ⟨_, g1, rfl⟩ PySem.F.entry_list_contains (PySem.F.args_list_contains_2 _ _) ?_)
        have loop := in_loopO (Q := fun q H' => Q (.bl (neg ^^ q)) H') (R := wants (fun r s' => wpAny (model X.prog X.w) X.A (truthy r) Z X.xe s') X.xe) F T T2 T3 rfl hr tk hG (fun q s' h => wpAny_truthy_bool (hZ q s' h)) (fun e s' h => h) (xs.length + 1) 0 s H ρ st I sr hn hl (by
          revert po
          cases inOwnL c G n l (xs.length + 1) 0 st with
          | ok q s1 =>
            intro po ρ' H' v e sr' rb
            obtain rfl : q = v := rb
            exact po ρ' H' (.bl (neg ^^ q)) e sr' rfl
          | ex c f d s1 => exact fun po => po
          | no => exact fun po => po)
        obtain ⟨hp, g, dr, tk0, os⟩ := s
        wp_walk using wpAny_loadPart' g1
        refine ⟨plainId_quiet plain_contains_loop _, codeAny_builtin entry_contains_loop ?_⟩
        rw [Around.under_plainId plain_contains_loop _]
        exact loop
      rcases hop with ⟨rfl, rfl⟩ | ⟨rfl, rfl⟩
      · show wpAny _ _ (do return Value.bool (← contains (Value.ref (ρ l)) (Value.ref (ρ n)))) _ _ _
        refine wpAny_bind (main _ fun q s' h => wpAny_pure ?_)
        obtain ⟨H', I', hq⟩ := h
        exact ⟨.bl (false ^^ q), H', I', by cases q <;> rfl, hq⟩
      · show wpAny _ _ (do return Value.bool (!(← contains (Value.ref (ρ l)) (Value.ref (ρ n))))) _ _ _
        refine wpAny_bind (main _ fun q s' h => wpAny_pure ?_)
        obtain ⟨H', I', hq⟩ := h
        exact ⟨.bl (true ^^ q), H', I', by cases q <;> rfl, hq⟩
    · exact po.elim
  · exact po.elim
  · exact hB pins s σ H ρ st _ _ vx vy ux uy Q I sr rx ry e1 e2 po
theorem ITab.mono {P : Program} {w : World} {K : PySem.W.Frag} {mg : Str → Option Value} {base : Heap} {i j : Nat} {tb : Itb} (T : ITab P w K mg base i tb) (h : i ≤ j) : ITab P w K mg base j tb := fun c f hc => by
  obtain ⟨C, g, h1, h2, h3⟩ := T c f hc
  exact ⟨C, g, h1, h2, fun A outer st H a dx t vs xs hr => h3 A outer st H a dx t vs xs (hr.mono h)⟩
end
end Z

set_option Elab.async false
set_option linter.all false
set_option maxRecDepth 100000
set_option maxHeartbeats 4000000
namespace Z
open PySem PySem.Spec PyProof.Rows L2
/-! ### list(a text) -/
def fListZ (B : MF) : MF := fun ds s => match ds with
  | [.str x] => if x.cps.size ≤ sizeLine then .ok (.ref s.length) (s ++ [.lst (strDs x)]) else .no
  | _ => B ds s
theorem z_listZ {B : MF} {x : Str} {P : D → Sto → Prop} {E : Str → Str → D → Sto → Prop} {s : Sto} (h : x.cps.size ≤ sizeLine) : (fListZ B [.str x] s).wp P E = P (.ref s.length) (s ++ [.lst (strDs x)]) := by
  unfold fListZ
  dsimp only
  rw [if_pos h, z_ok]
@[simp ↓] theorem z_listZr {B : MF} {n : Nat} {P : D → Sto → Prop} {E : Str → Str → D → Sto → Prop} {s : Sto} : (fListZ B [.ref n] s).wp P E = (B [.ref n] s).wp P E := nr rfl
@[simp ↓] theorem z_listZt {B : MF} {xs : List D} {P : D → Sto → Prop} {E : Str → Str → D → Sto → Prop} {s : Sto} : (fListZ B [.tup xs] s).wp P E = (B [.tup xs] s).wp P E := nr rfl
variable [Row]
theorem calld_listZ {X : Cx} {W : WX} {B : MF} (hc : X.calm = true) (hB : CallD X W (.type "list") B) : CallD X W (.type "list") (fListZ B) := by
  intro pins s σ H ρ st ds vs us Q I sr vr r po
  unfold fListZ at po
  split at po
  · rename_i x
    obtain ⟨hl, po⟩ := Po.ite po
    obtain ⟨v, rfl, rv⟩ := vr.one
    rw [VR] at rv
    subst rv
    cases r with
    | cons ru rt =>
      cases rt
      obtain ⟨t, rfl⟩ := ru
      refine call_list_str (I.ok.hd hc) x t (hn := hl) fun h' tk acc c' hk hS hacc => ?_
      have hn : H s.heap.objs.size = none := I.hok.fresh (Nat.le_refl _)
      have hv : Vals (x.cps.toList.map fun c => V.str ⟨#[c]⟩) acc.toList := by
        have key : ∀ (cs : List Nat) (us : List Value), us.length = cs.length → (∀ (j : Nat) (u : Value), us[j]? = some u → ∃ c t, cs[j]? = some c ∧ u = .str ⟨#[c]⟩ t) → Vals (cs.map fun c => V.str ⟨#[c]⟩) us := by
          intro cs
          induction cs with
          | nil =>
            intro us h1 _
            rw [List.eq_nil_of_length_eq_zero h1]
            exact .nil
          | cons c cs ih =>
            intro us h1 h2
            cases us with
            | nil => cases h1
            | cons u us =>
              obtain ⟨c', t', e1, e2⟩ := h2 0 u rfl
              cases e1
              exact .cons ⟨t', e2⟩ (ih us (by simpa using h1) fun j v hv => h2 (j + 1) v hv)
        refine key _ _ (by rw [Array.length_toList, hacc.1, Array.length_toList]) fun j u hu => ?_
        obtain ⟨c, t', e1, e2⟩ := hacc.2 j u (by simpa using hu)
        exact ⟨c, t', by simpa using e1, e2⟩
      have hl2 : (x.cps.toList.map fun c => V.str ⟨#[c]⟩).length ≤ sizeLine := by rw [List.length_map, Array.length_toList]; exact hl
      have J := I.laid (t' := tk) (a := s.heap.objs.size) (o := .lst (x.cps.toList.map fun c => V.str ⟨#[c]⟩)) hk (Nat.le_refl _) ⟨hl2, acc.toList, c', hv, hS⟩
      have rs : VRs X.K ρ st.length H (strDs x) (x.cps.toList.map fun c => V.str ⟨#[c]⟩) := by
        unfold strDs
        generalize x.cps.toList = l
        induction l with
        | nil => exact VRs.nil
        | cons y l ih => exact VRs.cons (by rw [VR]) ih
      obtain ⟨x1, sr1, v1⟩ := new_lst sr hn rs
      exact ⟨.ref _, _, J, rfl, po _ _ _ x1 sr1 v1⟩
  · exact hB pins s σ H ρ st _ vs us Q I sr vr r po
end Z

set_option Elab.async false
set_option linter.all false
set_option maxRecDepth 100000
set_option maxHeartbeats 4000000
namespace Z
open PySem PySem.Spec PyProof.Rows L2 TL
open PySem.PyData (strOk)
/-! ### draws of the first kind of law: names -/
theorem rng_at {lo : Int} {n i : Nat} {s : Sto} : jRng lo n i s = some (rngD lo n)[i]? := (it_rng (ks := []) (s0 := s)).2 i s Eff.refl
theorem push2 {ks : List Nat} {s : Sto} {a b : SO} : Eff ks s (s ++ [a, b]) := by
  have := (Eff.push (ks := ks) (s := s) (o := a)).trans (Eff.push (o := b))
  simpa using this
theorem ml_push2 {s : Sto} {xs ys : List D} : mlAt (s ++ [SO.lst xs, SO.lst ys]) s.length = some xs ∧ mlAt (s ++ [SO.lst xs, SO.lst ys]) (s.length + 1) = some ys :=
  ⟨mlAt_some (by rw [List.getElem?_append_right (Nat.le_refl _)]; simp), mlAt_some (by rw [List.getElem?_append_right (by omega)]; simp)⟩
theorem eraseIdx_map {α β : Type} {f : α → β} : ∀ {l : List α} {i : Nat}, (l.map f).eraseIdx i = (l.eraseIdx i).map f
  | [], _ => by simp
  | a :: l, 0 => rfl
  | a :: l, i + 1 => by
    show f a :: (l.map f).eraseIdx i = f a :: (l.eraseIdx i).map f
    rw [eraseIdx_map]
/-- one is taken out of what is left -/
theorem pop_perm {α : Type} {u l : List α} {q : Nat} {x : α} (h : l[q]? = some x) : (u ++ [x] ++ l.eraseIdx q).Perm (u ++ l) := by
  have e := take_split1 h
  rw [List.eraseIdx_eq_take_drop_succ, List.append_assoc]
  refine List.Perm.append_left _ ?_
  conv => rhs; rw [e]
  show (x :: (l.take q ++ l.drop (q + 1))).Perm _
  exact (List.perm_middle).symm
def tNamesA (take of_ : MF) : SM := (sC (sP 3 4 (aC (mN (fListZ fList) (aC (mC (.str "abcdefghijklmnopqrstuvwxyz")) aN)) (aC (mN fLst aN) aN))) (sC (sP 5 6 (aC (mC (.str "")) (aC (m2 dEq (mN take (aC (mV 0) (aC (mC (.int 2)) aN))) (mC (.int 0))) aN))) (sC (sF (iR1 (aC (mN take (aC (mV 0) (aC (mC (.int 8)) aN))) aN)) (gN 2) (sA 5 (m2 dAdd (mV 5) (mN of_ (aC (mV 0) (aC (mN fLst (aC (mC (.str "a")) (aC (mC (.str "z")) (aC (mC (.str "q")) (aC (mC (.str "m")) aN))))) aN)))))) (sC (sF (iR1 (aC (mV 1) aN)) (gN 2) (sC (sA 7 (mBM "list" (mtL lPopAt) (mV 3) (aC (mN take (aC (mV 0) (aC (mN fLen (aC (mV 3) aN)) aN))) aN))) (sE (mBM "list" (mtL lAppend) (mV 4) (aC (mIf (toT (mV 6)) (m2 dAdd (mV 7) (mV 5)) (m2 dAdd (mV 5) (mV 7))) aN))))) (sR (mV 4))))))
def stemS (st : List Nat) : Str := ⟨st.toArray⟩
theorem stem_snoc {st : List Nat} {c : Nat} : stemS st ++ one c = stemS (st ++ [c]) := ext_tl (by rw [tl_append, tl_one]; rfl)
theorem stem_len {st : List Nat} : (stemS st).length = st.length := rfl
def nmOf (ahead : Bool) (st : List Nat) (c : Nat) : Str := if ahead then one c ++ stemS st else stemS st ++ one c
theorem nmOf_inj {b : Bool} {st : List Nat} {c d : Nat} (h : nmOf b st c = nmOf b st d) : c = d := by
  have e := congrArg tl h
  unfold nmOf at e
  have h7 : tl (stemS st) = st := rfl
  cases b <;> simp [tl_append, tl_one, h7] at e <;> exact e
theorem nmOf_name {b : Bool} {st : List Nat} {c : Nat} (h1 : ∀ x ∈ st, isLow x) (h2 : st.length ≤ 7) (hc : isLow c) : IsName (nmOf b st c) := by
  have h7 : tl (stemS st) = st := rfl
  have e : tl (nmOf b st c) = if b then c :: st else st ++ [c] := by cases b <;> simp [nmOf, tl_append, tl_one, h7]
  refine ⟨by rw [e]; cases b <;> simp, by rw [e]; cases b <;> simp <;> omega, fun x hx => ?_⟩
  rw [e] at hx
  cases b <;> simp at hx
  · rcases hx with hx | rfl
    · exact h1 x hx
    · exact hc
  · rcases hx with rfl | hx
    · exact hc
    · exact h1 x hx
theorem abc_ds : strDs abc = ((tl abc).map one).map D.str := by rw [List.map_map]; rfl
theorem abc_nd : (tl abc).Nodup := by rw [abc_tl]; exact (List.pairwise_map).mpr (List.nodup_range.imp fun h e => h (by omega))
theorem abc_low : ∀ c ∈ tl abc, isLow c := by
  rw [abc_tl]
  intro c hc
  obtain ⟨i, hi, rfl⟩ := List.mem_map.mp hc
  have := List.mem_range.mp hi
  unfold isLow
  omega
structure NInv (s : Sto) (k n : Nat) (st : List Nat) (ah : Bool) (i : Nat) (e : Ev) (s2 : Sto) : Prop where
  ef : Eff [k] s s2
  hz : s.length + 2 ≤ s2.length
  ex : ∃ (used left : List Nat) (o2 o7 : Option D), mlAt s2 s.length = some ((left.map one).map D.str) ∧ mlAt s2 (s.length + 1) = some ((used.map (nmOf ah st)).map D.str) ∧ (used ++ left).Perm (tl abc) ∧ used.length = i ∧ e = [some (.ref k), some (.int n), o2, some (.ref s.length), some (.ref (s.length + 1)), some (.str (stemS st)), some (.bl ah), o7]
theorem names_genA {take of_ : MF} (T : TakeOk take) (O : OfOk of_) : NamesOk (fnM 2 8 (tNamesA take of_)) := by
  intro s k n hb hn
  refine wp_of fun P hP => ?_
  have ea : (("abcdefghijklmnopqrstuvwxyz" : String) : Str) = abc := rfl
  unfold tNamesA
  rw [z_fnM (by rfl), ea]
  have hk := hb.lt
  rw [z_sCn]
  simp [-List.map_map]
  rw [z_listZ (by exact abc_le)]
  simp [-List.map_map]
  have ef0 : Eff [k] s (s ++ [SO.lst (strDs abc), SO.lst []]) := push2
  obtain ⟨h3, h4⟩ := ml_push2 (s := s) (xs := strDs abc) (ys := [])
  have hz0 : (s ++ [SO.lst (strDs abc), SO.lst []]).length = s.length + 2 := by simp [-List.map_map]
  generalize s ++ [SO.lst (strDs abc), SO.lst []] = s0 at ef0 h3 h4 hz0 ⊢
  rw [abc_ds] at h3
  have hb0 := ef0.bag k (by simp [-List.map_map]) hb
  show nxt _ _ _ _
  rw [z_nxC]
  simp [-List.map_map]
  refine wp_ne (T hb0 (by omega) (by omega)) ?_
  rintro _ s1 ⟨a, rfl, ha, ef1⟩
  rw [z_eqI]
  have h3 := ef1.ml h3 (by simp [-List.map_map]; omega)
  have h4 := ef1.ml h4 (by simp [-List.map_map]; omega)
  have e1 := ef0.trans ef1
  have hb1 := ef1.bag k (by simp [-List.map_map]) hb0
  have hz1 := ef1.le
  simp [-List.map_map]
  generalize hah : decide (a = 0) = ah
  show nxt _ _ _ _
  rw [z_nxC]
  simp [-List.map_map]
  refine wp_ne (T hb1 (by omega) (by omega)) ?_
  rintro _ s2 ⟨N, rfl, hN, ef2⟩
  have h3 := ef2.ml h3 (by simp [-List.map_map]; omega)
  have h4 := ef2.ml h4 (by simp [-List.map_map]; omega)
  have e2 := e1.trans ef2
  have hz2 := ef2.le
  simp [-List.map_map]
  refine ⟨by omega, ?_⟩
  refine for_j (xs := rngD 0 N) (by rw [rngD_len]) (fun i e s3 => Eff [k] s s3 ∧ s2.length ≤ s3.length ∧ mlAt s3 s.length = some (((tl abc).map one).map D.str) ∧ mlAt s3 (s.length + 1) = some [] ∧ ∃ (st : List Nat) (o2 : Option D), (∀ x ∈ st, isLow x) ∧ st.length = i ∧ e = [some (.ref k), some (.int n), o2, some (.ref s.length), some (.ref (s.length + 1)), some (.str (stemS st)), some (.bl ah), none]) (fun i e s3 _ => rng_at) ?_ ⟨e2, Nat.le_refl _, h3, h4, [], none, by simp [-List.map_map], rfl, rfl⟩ ?_
  · rintro i d e s3 hd ⟨ef3, hz3, h3, h4, st, o2, hst, hlen, rfl⟩
    obtain ⟨hi, rfl⟩ := rngD_get hd
    refine ⟨_, rfl, ?_⟩
    simp [-List.map_map]
    have hb3 := ef3.bag k (by simp [-List.map_map]) hb
    refine ⟨by rw [size_line]; omega, ?_⟩
    refine wp_ne (O (s := s3 ++ [SO.lst [D.str "a", D.str "z", D.str "q", D.str "m"]]) (k := k) (x := .ref s3.length) (Eff.push (ks := [k]) |>.bag k (by simp [-List.map_map]) hb3) lstAt_push (by simp [-List.map_map]; have := hb3.lt; omega) (by simp [-List.map_map]) (by simp [-List.map_map])) ?_
    rintro d s4 ⟨hd, ef4⟩
    obtain ⟨c, hc, rfl⟩ : ∃ c, isLow c ∧ d = .str (one c) := by
      simp [-List.map_map] at hd
      rcases hd with rfl | rfl | rfl | rfl
      · exact ⟨97, by unfold isLow; omega, rfl⟩
      · exact ⟨122, by unfold isLow; omega, rfl⟩
      · exact ⟨113, by unfold isLow; omega, rfl⟩
      · exact ⟨109, by unfold isLow; omega, rfl⟩
    have ef34 := (Eff.push (ks := [k]) (s := s3) (o := SO.lst [D.str "a", D.str "z", D.str "q", D.str "m"])).trans ef4
    have l1 : (one c).length = 1 := rfl
    rw [z_addS, stem_len, l1]
    have : i < 8 := by omega
    refine ⟨by rw [size_line]; omega, ef3.trans ef34, by have := ef34.le; omega, ef34.ml h3 (by simp [-List.map_map]; omega), ef34.ml h4 (by simp [-List.map_map]; omega), st ++ [c], fun x hx => ?_, by simp [-List.map_map, hlen], by rw [stem_snoc]⟩
    rcases List.mem_append.mp hx with hx | hx
    · exact hst x hx
    · rw [List.mem_singleton.mp hx]; exact hc
  · rintro e s3 ⟨ef3, hz3, h3, h4, st, o2, hst, hlen, rfl⟩
    rw [rngD_len] at hlen
    dsimp only
    rw [z_nxC]
    simp [-List.map_map]
    refine ⟨by omega, ?_⟩
    refine for_j (xs := rngD 0 n) (by rw [rngD_len]) (NInv s k n st ah) (fun i e s3 _ => rng_at) ?_ ⟨ef3, by omega, [], tl abc, _, none, h3, h4, by simp [-List.map_map], rfl, rfl⟩ ?_
    · rintro i d e s4 hd ⟨ef4, hz4, used, left, o2, o7, h3, h4, pm, hu, rfl⟩
      obtain ⟨hi, rfl⟩ := rngD_get hd
      have hll : used.length + left.length = 26 := by
        have := pm.length_eq
        rw [List.length_append, abc_tl, List.length_map, List.length_range] at this
        exact this
      refine ⟨_, rfl, ?_⟩
      rw [z_sCn]
      simp [-List.map_map, lstAt_ml h3, isTy_ml h3]
      refine wp_ne (T (ef4.bag k (by simp [-List.map_map]) hb) (by omega) (by omega)) ?_
      rintro _ s5 ⟨q, rfl, hq, ef5⟩
      have h3 := ef5.ml h3 (by simp [-List.map_map]; omega)
      have h4 := ef5.ml h4 (by simp [-List.map_map]; omega)
      have e5 := ef4.trans ef5
      have hz5 := ef5.le
      obtain ⟨c, hc⟩ : ∃ c, left[q]? = some c := ⟨left[q]'(by omega), List.getElem?_eq_getElem _⟩
      rw [z_popN h3 (x := .str (one c)) (by simp [-List.map_map, hc]) (by simp [-List.map_map]; omega)]
      have e6 := e5.set (n := s.length) (o := .lst (((left.map one).map D.str).eraseIdx q)) (Nat.le_refl _)
      have h3' : mlAt (s5.set s.length (.lst (((left.map one).map D.str).eraseIdx q))) s.length = some (((left.eraseIdx q).map one).map D.str) := by
        rw [mlAt_set_self (by omega), eraseIdx_map, eraseIdx_map]
      have h4' : mlAt (s5.set s.length (.lst (((left.map one).map D.str).eraseIdx q))) (s.length + 1) = some ((used.map (nmOf ah st)).map D.str) := by
        rw [mlAt_set_ne (by omega)]; exact h4
      have hz6 : (s5.set s.length (.lst (((left.map one).map D.str).eraseIdx q))).length = s5.length := List.length_set
      generalize s5.set s.length (.lst (((left.map one).map D.str).eraseIdx q)) = s6 at e6 h3' h4' hz6 ⊢
      show nxt _ _ _ _
      rw [z_nxt]
      simp [-List.map_map, isTy_ml h4', h4']
      have l1 : (one c).length = 1 := rfl
      have step : ∀ x, x = nmOf ah st c → used.length < sizeLine ∧ NInv s k n st ah (i + 1) [some (.ref k), some (.int n), some (.int i), some (.ref s.length), some (.ref (s.length + 1)), some (.str (stemS st)), some (.bl ah), some (.str (one c))] (s6.set (s.length + 1) (.lst ((used.map (nmOf ah st)).map D.str ++ [.str x]))) := by
        rintro x rfl
        refine ⟨by rw [size_line]; omega, e6.set (by omega), by rw [List.length_set]; omega, used ++ [c], left.eraseIdx q, _, _, ?_, ?_, (pop_perm hc).trans pm, by simp [-List.map_map, hu], rfl⟩
        · rw [mlAt_set_ne (by omega)]; exact h3'
        · rw [mlAt_set_self (by omega)]; simp [-List.map_map]
      cases ah with
      | true =>
        simp [-List.map_map, stem_len, l1]
        exact ⟨by rw [size_line]; omega, step _ rfl⟩
      | false =>
        simp [-List.map_map, stem_len, l1]
        exact ⟨by rw [size_line]; omega, step _ rfl⟩
    · rintro e s4 ⟨ef4, hz4, used, left, o2, o7, h3, h4, pm, hu, rfl⟩
      rw [rngD_len] at hu
      dsimp only
      rw [z_nxt]
      simp [-List.map_map]
      have nd := pm.nodup_iff.mpr abc_nd
      refine hP _ _ ⟨_, used.map (nmOf ah st), rfl, by omega, h4, by rw [List.length_map, hu], ?_, fun x hx => ?_, ef4⟩
      · exact List.pairwise_map.mpr ((List.nodup_append.mp nd).1.imp fun h e => h (nmOf_inj e))
      · obtain ⟨c, hc, rfl⟩ := List.mem_map.mp hx
        exact nmOf_name hst (by omega) (abc_low c (pm.mem_iff.mp (List.mem_append_left _ hc)))
end Z

set_option Elab.async false
set_option linter.all false
set_option maxRecDepth 100000
set_option maxHeartbeats 4000000
namespace Z
open PySem PySem.Spec PyProof.Rows L2 TL
open PySem.PyData (strOk)
/-! ### draws of the first kind of law: members, bodies ascending -/
/-- only the bag k and the list b are changed -/
structure EffB (k b : Nat) (s t : Sto) : Prop where
  le : s.length ≤ t.length
  eq : ∀ i, i < s.length → i ≠ k → i ≠ b → t[i]? = s[i]?
  bag : Bag s k → Bag t k
theorem EffB.refl {k b : Nat} {s : Sto} : EffB k b s s := ⟨Nat.le_refl _, fun _ _ _ _ => rfl, fun h => h⟩
theorem EffB.trans {k b : Nat} {s t u : Sto} (h : EffB k b s t) (h2 : EffB k b t u) : EffB k b s u :=
  ⟨Nat.le_trans h.le h2.le, fun i hi h3 h4 => (h2.eq i (Nat.lt_of_lt_of_le hi h.le) h3 h4).trans (h.eq i hi h3 h4), fun hb => h2.bag (h.bag hb)⟩
theorem EffB.of {k b : Nat} {s t : Sto} (h : Eff [k] s t) : EffB k b s t := ⟨h.le, fun i hi h1 _ => h.eq i hi (by simpa using h1), h.bag k (by simp)⟩
theorem EffB.get {k b : Nat} {s t : Sto} (h : EffB k b s t) {i : Nat} {o : SO} (e : s[i]? = some o) (h1 : i ≠ k) (h2 : i ≠ b) : t[i]? = some o := by
  rw [h.eq i (List.getElem?_eq_some_iff.mp e).1 h1 h2]
  exact e
theorem EffB.ml {k b : Nat} {s t : Sto} (h : EffB k b s t) {i : Nat} {xs : List D} (e : mlAt s i = some xs) (h1 : i ≠ k) (h2 : i ≠ b) : mlAt t i = some xs := mlAt_some (h.get (mlAt_get e) h1 h2)
theorem EffB.setB {k b : Nat} {s t : Sto} (h : EffB k b s t) (hkb : k ≠ b) {o : SO} : EffB k b s (t.set b o) :=
  ⟨by simpa using h.le, fun i hi h1 h2 => by rw [List.getElem?_set_ne (Ne.symm h2)]; exact h.eq i hi h1 h2, fun hb => by
    obtain ⟨x, y, e⟩ := h.bag hb
    exact ⟨x, y, by rw [List.getElem?_set_ne (Ne.symm hkb)]; exact e⟩⟩
theorem EffB.set {k b : Nat} {s t : Sto} (h : EffB k b s t) {n : Nat} {o : SO} (hn : s.length ≤ n) (hk : k < s.length) : EffB k b s (t.set n o) :=
  ⟨by simpa using h.le, fun i hi h1 h2 => by rw [List.getElem?_set_ne (by omega)]; exact h.eq i hi h1 h2, fun hb => by
    obtain ⟨x, y, e⟩ := h.bag hb
    exact ⟨x, y, by rw [List.getElem?_set_ne (by omega)]; exact e⟩⟩
theorem EffB.out {k b : Nat} {s0 s t : Sto} (h0 : Eff [k] s0 s) (h : EffB k b s t) (hb : s0.length ≤ b) : Eff [k] s0 t :=
  ⟨Nat.le_trans h0.le h.le, fun i hi hk => by
    have hk : i ≠ k := by simpa using hk
    exact (h.eq i (Nat.lt_of_lt_of_le hi h0.le) hk (by omega)).trans (h0.eq i hi (by simpa using hk)), fun j hj hb => by
    rw [List.mem_singleton] at hj
    subst hj
    exact h.bag (h0.bag _ (by simp) hb)⟩
theorem atI_last {α : Type} {xs : List α} {x : α} : atI (xs ++ [x]) (-1) = some x := by
  unfold atI ixN
  have h : ¬ (0 : Int) ≤ -1 := by decide
  rw [if_neg h, if_pos (by simp; omega)]
  have e : (-1 + ((xs ++ [x]).length : Int)).toNat = xs.length := by simp; omega
  rw [e]
  simp
def tMemberA (take of_ : MF) : SM := (sC (sP3 5 6 7 (aC (mN (fListZ fList) (aC (mV 1) aN)) (aC (mN fLst aN) (aC (mN fLst aN) aN)))) (sC (sF (iR1 (aC (mN take (aC (mV 0) (aC (m2 dAdd (mN fMin2 (aC (mV 3) (aC (mN fLen (aC (mV 5) aN)) aN))) (mC (.int 1))) aN))) aN)) (gN 4) (sC (sA 8 (mBM "list" (mtL lPopAt) (mV 5) (aC (mN take (aC (mV 0) (aC (mN fLen (aC (mV 5) aN)) aN))) aN))) (sC (sE (mBM "list" (mtL lAppend) (mV 2) (aC (m2 dAdd (m2 dAdd (m2 dIx (mV 2) (m1 dNeg (mC (.int 1)))) (mC (.int 1))) (mN take (aC (mV 0) (aC (mC (.int 3)) aN)))) aN))) (sE (mBM "list" (mtL lAppend) (mV 6) (aC (mN fTup (aC (mV 8) (aC (mN of_ (aC (mV 0) (aC (mN fLst (aC (mC (.str "strong")) (aC (mC (.str "strong")) (aC (mC (.str "weak")) (aC (mC (.str "common")) aN))))) aN))) (aC (m2 dIx (mV 2) (m1 dNeg (mC (.int 1)))) aN)))) aN)))))) (sC (sF (iR1 (aC (mN take (aC (mV 0) (aC (m2 dAdd (mN fMin2 (aC (mC (.int 2)) (aC (mN fLen (aC (mV 5) aN)) aN))) (mC (.int 1))) aN))) aN)) (gN 4) (sE (mBM "list" (mtL lAppend) (mV 7) (aC (mBM "list" (mtL lPopAt) (mV 5) (aC (mN take (aC (mV 0) (aC (mN fLen (aC (mV 5) aN)) aN))) aN)) aN)))) (sR (mN fTup (aC (mN fTuple (aC (mV 6) aN)) (aC (mN fTuple (aC (mV 7) aN)) aN)))))))
structure RowW (names : List Str) (B B' : Int) (gs : List DefA) (ws : List Str) : Prop where
  nd : (gs.map (·.1) ++ ws).Nodup
  sub : ∀ x ∈ gs.map (·.1) ++ ws, x ∈ names
  kd : ∀ p ∈ gs, p.2.1 ∈ kinds
  inc : (gs.map (·.2.2)).Pairwise (· < ·)
  bd : ∀ p ∈ gs, B < p.2.2 ∧ p.2.2 ≤ B'
  le : B ≤ B' ∧ B' ≤ B + 3 * gs.length
  l1 : gs.length ≤ 3
  l2 : ws.length ≤ 2
/-- what has been drawn so far: definitions gs, wants ws, left is left -/
structure MbI (s : Sto) (k n b : Nat) (names : List Str) (B : Int) (pl : Nat) (gs : List DefA) (ws left : List Str) (s2 : Sto) : Prop where
  ef : EffB k b s s2
  hz : s.length + 3 ≤ s2.length
  m5 : mlAt s2 s.length = some (left.map D.str)
  m6 : mlAt s2 (s.length + 1) = some (gs.map defD)
  m7 : mlAt s2 (s.length + 2) = some (ws.map D.str)
  pm : (gs.map (·.1) ++ ws ++ left).Perm names
  kd : ∀ p ∈ gs, p.2.1 ∈ kinds
  inc : (gs.map (·.2.2)).Pairwise (· < ·)
  bx : ∃ B' pre, mlAt s2 b = some (pre ++ [.int B']) ∧ pre.length ≤ pl + gs.length ∧ (∀ p ∈ gs, B < p.2.2 ∧ p.2.2 ≤ B') ∧ B ≤ B' ∧ B' ≤ B + 3 * gs.length
structure MbL1 (s : Sto) (k n b : Nat) (names : List Str) (B : Int) (pl : Nat) (i : Nat) (e : Ev) (s2 : Sto) : Prop where
  ex : ∃ (gs : List DefA) (left : List Str) (o4 o8 : Option D), MbI s k n b names B pl gs [] left s2 ∧ gs.length = i ∧ e = [some (.ref k), some (.ref n), some (.ref b), some (.int 3), o4, some (.ref s.length), some (.ref (s.length + 1)), some (.ref (s.length + 1 + 1)), o8]
structure MbL2 (s : Sto) (k n b : Nat) (names : List Str) (B : Int) (pl : Nat) (gs : List DefA) (o8 : Option D) (i : Nat) (e : Ev) (s2 : Sto) : Prop where
  ex : ∃ (ws left : List Str) (o4 : Option D), MbI s k n b names B pl gs ws left s2 ∧ ws.length = i ∧ e = [some (.ref k), some (.ref n), some (.ref b), some (.int 3), o4, some (.ref s.length), some (.ref (s.length + 1)), some (.ref (s.length + 1 + 1)), o8]
theorem str4 {d : D} (h : d ∈ [D.str "strong", D.str "strong", D.str "weak", D.str "common"]) : ∃ k, d = .str k ∧ k ∈ kinds := by
  simp only [List.mem_cons, List.not_mem_nil, or_false] at h
  rcases h with rfl | rfl | rfl | rfl <;> exact ⟨_, rfl, by decide⟩
theorem member_genA {take of_ : MF} (T : TakeOk take) (O : OfOk of_) {s : Sto} {k n b : Nat} {names : List Str} {pre : List D} {B : Int} (hb : Bag s k) (hn : mlAt s n = some (names.map D.str)) (hnk : n ≠ k) (hbk : b ≠ k) (hnb : n ≠ b) (nd : names.Nodup) (hl : names.length ≤ 1000) (hB : mlAt s b = some (pre ++ [.int B])) (hp : pre.length ≤ 100000) :
    (fnM 4 9 (tMemberA take of_) [.ref k, .ref n, .ref b, .int 3] s).wp fun d s' => EffB k b s s' ∧ ∃ gs ws B' pre', d = .tup [.tup (gs.map defD), .tup (ws.map D.str)] ∧ RowW names B B' gs ws ∧ mlAt s' b = some (pre' ++ [.int B']) ∧ pre'.length ≤ pre.length + 3 := by
  refine wp_of fun P hP => ?_
  have hk := hb.lt
  have hbl : b < s.length := lstAt_lt (lstAt_ml hB)
  have hnl : n < s.length := lstAt_lt (lstAt_ml hn)
  unfold tMemberA
  rw [z_fnM (by rfl), z_sCn]
  simp [-List.map_map, lstAt_ml hn]
  refine ⟨by rw [size_line]; omega, ?_⟩
  have ef0 : Eff [k] s (s ++ [SO.lst (names.map D.str), SO.lst [], SO.lst []]) := by
    have := (push2 (ks := [k]) (s := s) (a := SO.lst (names.map D.str)) (b := SO.lst [])).trans (Eff.push (o := SO.lst []))
    simpa [-List.map_map] using this
  have g5 : mlAt (s ++ [SO.lst (names.map D.str), SO.lst [], SO.lst []]) s.length = some (names.map D.str) := mlAt_some (by rw [List.getElem?_append_right (Nat.le_refl _)]; simp [-List.map_map])
  have g6 : mlAt (s ++ [SO.lst (names.map D.str), SO.lst [], SO.lst []]) (s.length + 1) = some [] := mlAt_some (by rw [List.getElem?_append_right (by omega)]; simp [-List.map_map])
  have g7 : mlAt (s ++ [SO.lst (names.map D.str), SO.lst [], SO.lst []]) (s.length + 2) = some [] := mlAt_some (by rw [List.getElem?_append_right (by omega)]; simp [-List.map_map])
  have hz0 : (s ++ [SO.lst (names.map D.str), SO.lst [], SO.lst []]).length = s.length + 3 := by simp [-List.map_map]
  have gB := ef0.ml hB (by simpa [-List.map_map] using hbk)
  have I0 : MbI s k n b names B pre.length [] [] names (s ++ [SO.lst (names.map D.str), SO.lst [], SO.lst []]) :=
    ⟨.of ef0, by omega, g5, g6, g7, by simp [-List.map_map], by simp [-List.map_map], by simp [-List.map_map], B, pre, gB, by simp [-List.map_map], by simp [-List.map_map], by omega, by simp [-List.map_map]⟩
  generalize s ++ [SO.lst (names.map D.str), SO.lst [], SO.lst []] = s0 at I0 hz0 ⊢
  refine ⟨_, _, _, ⟨rfl, rfl, rfl⟩, ?_⟩
  show nxt _ _ _ _
  rw [z_nxC]
  obtain ⟨m, hm, hm1, hm2⟩ : ∃ m : Nat, (if (names.length : Int) < 3 then (names.length : Int) else 3) = m ∧ m ≤ 3 ∧ m ≤ names.length := by
    by_cases q : (names.length : Int) < 3
    · rw [if_pos q]; exact ⟨names.length, rfl, by omega, by omega⟩
    · rw [if_neg q]; exact ⟨3, rfl, by omega, by omega⟩
  simp [-List.map_map, lstAt_ml I0.m5, hm]
  refine wp_ne (T (I0.ef.bag hb) (by omega) (by omega)) ?_
  rintro _ s1 ⟨N, rfl, hN, ef1⟩
  have I1 : MbI s k n b names B pre.length [] [] names s1 := by
    obtain ⟨a1, a2, a3, a4, a5, a6, a7, a8, B', pr, a9, a10⟩ := I0
    exact ⟨a1.trans (.of ef1), Nat.le_trans a2 ef1.le, ef1.ml a3 (by simp [-List.map_map]; omega), ef1.ml a4 (by simp [-List.map_map]; omega), ef1.ml a5 (by simp [-List.map_map]; omega), a6, a7, a8, B', pr, ef1.ml a9 (by simpa [-List.map_map] using hbk), a10⟩
  simp [-List.map_map]
  refine ⟨by omega, ?_⟩
  refine for_j (xs := rngD 0 N) (by rw [rngD_len]) (MbL1 s k n b names B pre.length) (fun i e s3 _ => rng_at) ?_ ⟨⟨[], names, _, _, I1, rfl, rfl⟩⟩ ?_
  · rintro i d e s2 hd ⟨gs, left, o4, o8, ⟨a1, a2, a3, a4, a5, a6, a7, a8, B', pr, a9, a10, a11, a12, a13⟩, hi0, rfl⟩
    obtain ⟨hi, rfl⟩ := rngD_get hd
    have hll : gs.length + left.length = names.length := by
      have := a6.length_eq
      simpa [-List.map_map] using this
    refine ⟨_, rfl, ?_⟩
    rw [z_sCn]
    simp [-List.map_map, lstAt_ml a3, isTy_ml a3]
    refine wp_ne (T (a1.bag hb) (by omega) (by omega)) ?_
    rintro _ s3 ⟨q, rfl, hq, ef3⟩
    have b1 := a1.trans (.of ef3)
    have b3 := ef3.ml a3 (by simp [-List.map_map]; omega)
    have b4 := ef3.ml a4 (by simp [-List.map_map]; omega)
    have b5 := ef3.ml a5 (by simp [-List.map_map]; omega)
    have b9 := ef3.ml a9 (by simpa [-List.map_map] using hbk)
    have bz := ef3.le
    obtain ⟨x, hx⟩ : ∃ x, left[q]? = some x := ⟨left[q]'(by omega), List.getElem?_eq_getElem _⟩
    rw [z_popN b3 (x := .str x) (by simp [-List.map_map, hx]) (by simp [-List.map_map]; omega), eraseIdx_map]
    have c1 := b1.set (n := s.length) (o := .lst ((left.eraseIdx q).map D.str)) (Nat.le_refl _) hk
    have c3 : mlAt (s3.set s.length (.lst ((left.eraseIdx q).map D.str))) s.length = some ((left.eraseIdx q).map D.str) := mlAt_set_self (by omega)
    have c4 : mlAt (s3.set s.length (.lst ((left.eraseIdx q).map D.str))) (s.length + 1) = some (gs.map defD) := by rw [mlAt_set_ne (by omega)]; exact b4
    have c5 : mlAt (s3.set s.length (.lst ((left.eraseIdx q).map D.str))) (s.length + 2) = some [] := by rw [mlAt_set_ne (by omega)]; exact b5
    have c9 : mlAt (s3.set s.length (.lst ((left.eraseIdx q).map D.str))) b = some (pr ++ [.int B']) := by rw [mlAt_set_ne (by omega)]; exact b9
    have cz : (s3.set s.length (.lst ((left.eraseIdx q).map D.str))).length = s3.length := List.length_set
    generalize s3.set s.length (.lst ((left.eraseIdx q).map D.str)) = s4 at c1 c3 c4 c5 c9 cz ⊢
    show nxt _ _ _ _
    rw [z_nxC]
    simp [-List.map_map, isTy_ml c9, lstAt_ml c9, atI_last]
    refine wp_ne (T (c1.bag hb) (by omega) (by omega)) ?_
    rintro _ s5 ⟨t, rfl, ht, ef5⟩
    have d1 := c1.trans (.of ef5)
    have d3 := ef5.ml c3 (by simp [-List.map_map]; omega)
    have d4 := ef5.ml c4 (by simp [-List.map_map]; omega)
    have d5 := ef5.ml c5 (by simp [-List.map_map]; omega)
    have d9 := ef5.ml c9 (by simpa [-List.map_map] using hbk)
    have dz := ef5.le
    simp [-List.map_map, d9]
    refine ⟨by rw [size_line]; omega, ?_⟩
    have hbs : b < s5.length := by omega
    have f1 := d1.setB (Ne.symm hbk) (o := .lst (pr ++ [.int B', .int (B' + 1 + t)]))
    have f3 : mlAt (s5.set b (.lst (pr ++ [.int B', .int (B' + 1 + t)]))) s.length = some ((left.eraseIdx q).map D.str) := by rw [mlAt_set_ne (by omega)]; exact d3
    have f4 : mlAt (s5.set b (.lst (pr ++ [.int B', .int (B' + 1 + t)]))) (s.length + 1) = some (gs.map defD) := by rw [mlAt_set_ne (by omega)]; exact d4
    have f5 : mlAt (s5.set b (.lst (pr ++ [.int B', .int (B' + 1 + t)]))) (s.length + 2) = some [] := by rw [mlAt_set_ne (by omega)]; exact d5
    have f9 : mlAt (s5.set b (.lst (pr ++ [.int B', .int (B' + 1 + t)]))) b = some ((pr ++ [.int B']) ++ [.int (B' + 1 + t)]) := by rw [mlAt_set_self hbs]; simp [-List.map_map]
    have fz : (s5.set b (.lst (pr ++ [.int B', .int (B' + 1 + t)]))).length = s5.length := List.length_set
    generalize s5.set b (.lst (pr ++ [.int B', .int (B' + 1 + t)])) = s6 at f1 f3 f4 f5 f9 fz ⊢
    show nxt _ _ _ _
    rw [z_nxt]
    simp [-List.map_map, isTy_ml f4]
    refine ⟨by rw [size_line]; omega, ?_⟩
    have hb6 := f1.bag hb
    refine wp_ne (O (s := s6 ++ [SO.lst [D.str "strong", D.str "strong", D.str "weak", D.str "common"]]) (k := k) (x := .ref s6.length) (Eff.push (ks := [k]) |>.bag k (by simp [-List.map_map]) hb6) lstAt_push (by simp [-List.map_map]; omega) (by simp [-List.map_map]) (by simp [-List.map_map])) ?_
    rintro dk s7 ⟨hdk, ef7⟩
    obtain ⟨kd, rfl, hkd⟩ := str4 hdk
    have ef7 := (Eff.push (ks := [k]) (s := s6) (o := SO.lst [D.str "strong", D.str "strong", D.str "weak", D.str "common"])).trans ef7
    have g1 := f1.trans (.of ef7)
    have g3 := ef7.ml f3 (by simp [-List.map_map]; omega)
    have g4 := ef7.ml f4 (by simp [-List.map_map]; omega)
    have g5 := ef7.ml f5 (by simp [-List.map_map]; omega)
    have g9 := ef7.ml f9 (by simpa [-List.map_map] using hbk)
    have gz := ef7.le
    rw [lstAt_ml g9]
    simp only [lstP_some, atI_last, datP_some]
    simp [-List.map_map, g4]
    refine ⟨by rw [size_line]; omega, by rw [size_line]; omega, ⟨gs ++ [(x, kd, B' + 1 + t)], left.eraseIdx q, _, _, ⟨g1.set (by omega) hk, by rw [List.length_set]; omega, ?_, ?_, ?_, ?_, ?_, ?_, B' + 1 + t, pr ++ [.int B'], ?_, ?_, ?_, ?_, ?_⟩, ?_, rfl⟩⟩
    · rw [mlAt_set_ne (by omega)]; exact g3
    · rw [mlAt_set_self (by omega)]; simp [-List.map_map, defD]
    · rw [mlAt_set_ne (by omega)]; exact g5
    · have := pop_perm (u := gs.map (·.1)) hx
      simpa [-List.map_map] using this.trans (by simpa [-List.map_map] using a6)
    · intro p hp
      rcases List.mem_append.mp hp with hp | hp
      · exact a7 p hp
      · rw [List.mem_singleton.mp hp]; exact hkd
    · rw [List.map_append, List.pairwise_append]
      refine ⟨a8, by simp [-List.map_map], fun u hu v hv => ?_⟩
      obtain ⟨p, hp, rfl⟩ := List.mem_map.mp hu
      have : v = B' + 1 + t := by simpa [-List.map_map] using hv
      have := (a11 p hp).2
      omega
    · rw [mlAt_set_ne (by omega)]; exact g9
    · simp [-List.map_map]; omega
    · intro p hp
      rcases List.mem_append.mp hp with hp | hp
      · have := a11 p hp
        omega
      · rw [List.mem_singleton.mp hp]
        show B < B' + 1 + t ∧ B' + 1 + (t : Int) ≤ B' + 1 + t
        omega
    · omega
    · rw [List.length_append]
      simp [-List.map_map]
      omega
    · simp [-List.map_map, hi0]
  · rintro e s2 ⟨gs, left, o4, o8, I2, hi0, rfl⟩
    rw [rngD_len] at hi0
    dsimp only
    rw [z_nxC]
    have hll : gs.length + left.length = names.length := by
      have := I2.pm.length_eq
      simpa [-List.map_map] using this
    obtain ⟨m2, hm3, hm4, hm5⟩ : ∃ m : Nat, (if (left.length : Int) < 2 then (left.length : Int) else 2) = m ∧ m ≤ 2 ∧ m ≤ left.length := by
      by_cases q : (left.length : Int) < 2
      · rw [if_pos q]; exact ⟨left.length, rfl, by omega, by omega⟩
      · rw [if_neg q]; exact ⟨2, rfl, by omega, by omega⟩
    simp [-List.map_map, lstAt_ml I2.m5, hm3]
    refine wp_ne (T (I2.ef.bag hb) (by omega) (by omega)) ?_
    rintro _ s3 ⟨N2, rfl, hN2, ef3⟩
    have I3 : MbI s k n b names B pre.length gs [] left s3 := by
      obtain ⟨a1, a2, a3, a4, a5, a6, a7, a8, B', pr, a9, a10⟩ := I2
      exact ⟨a1.trans (.of ef3), Nat.le_trans a2 ef3.le, ef3.ml a3 (by simp [-List.map_map]; omega), ef3.ml a4 (by simp [-List.map_map]; omega), ef3.ml a5 (by simp [-List.map_map]; omega), a6, a7, a8, B', pr, ef3.ml a9 (by simpa [-List.map_map] using hbk), a10⟩
    simp [-List.map_map]
    refine ⟨by omega, ?_⟩
    refine for_j (xs := rngD 0 N2) (by rw [rngD_len]) (MbL2 s k n b names B pre.length gs o8) (fun i e s3 _ => rng_at) ?_ ⟨⟨[], left, _, I3, rfl, rfl⟩⟩ ?_
    · rintro i d e s4 hd ⟨ws, lf, o4, ⟨a1, a2, a3, a4, a5, a6, a7, a8, bx⟩, hi1, rfl⟩
      obtain ⟨hi, rfl⟩ := rngD_get hd
      have hl2 : gs.length + ws.length + lf.length = names.length := by
        have := a6.length_eq
        simp [-List.map_map] at this
        omega
      refine ⟨_, rfl, ?_⟩
      simp [-List.map_map, lstAt_ml a3, isTy_ml a3, isTy_ml a5]
      refine wp_ne (T (a1.bag hb) (by omega) (by omega)) ?_
      rintro _ s5 ⟨q, rfl, hq, ef5⟩
      have b1 := a1.trans (.of ef5)
      have b3 := ef5.ml a3 (by simp [-List.map_map]; omega)
      have b4 := ef5.ml a4 (by simp [-List.map_map]; omega)
      have b5 := ef5.ml a5 (by simp [-List.map_map]; omega)
      have bz := ef5.le
      obtain ⟨B', pr, a9, a10⟩ := bx
      have b9 := ef5.ml a9 (by simpa [-List.map_map] using hbk)
      obtain ⟨x, hx⟩ : ∃ x, lf[q]? = some x := ⟨lf[q]'(by omega), List.getElem?_eq_getElem _⟩
      rw [z_popN b3 (x := .str x) (by simp [-List.map_map, hx]) (by simp [-List.map_map]; omega), eraseIdx_map]
      have c1 := b1.set (n := s.length) (o := .lst ((lf.eraseIdx q).map D.str)) (Nat.le_refl _) hk
      have c3 : mlAt (s5.set s.length (.lst ((lf.eraseIdx q).map D.str))) s.length = some ((lf.eraseIdx q).map D.str) := mlAt_set_self (by omega)
      have c4 : mlAt (s5.set s.length (.lst ((lf.eraseIdx q).map D.str))) (s.length + 1) = some (gs.map defD) := by rw [mlAt_set_ne (by omega)]; exact b4
      have c5 : mlAt (s5.set s.length (.lst ((lf.eraseIdx q).map D.str))) (s.length + 1 + 1) = some (ws.map D.str) := by rw [mlAt_set_ne (by omega)]; exact b5
      have c9 : mlAt (s5.set s.length (.lst ((lf.eraseIdx q).map D.str))) b = some (pr ++ [.int B']) := by rw [mlAt_set_ne (by omega)]; exact b9
      have cz : (s5.set s.length (.lst ((lf.eraseIdx q).map D.str))).length = s5.length := List.length_set
      generalize s5.set s.length (.lst ((lf.eraseIdx q).map D.str)) = s6 at c1 c3 c4 c5 c9 cz ⊢
      simp [-List.map_map, c5]
      refine ⟨by rw [size_line]; omega, ⟨ws ++ [x], lf.eraseIdx q, _, ⟨c1.set (by omega) hk, by rw [List.length_set]; omega, ?_, ?_, ?_, ?_, a7, a8, B', pr, ?_, a10⟩, by simp [-List.map_map, hi1], rfl⟩⟩
      · rw [mlAt_set_ne (by omega)]; exact c3
      · rw [mlAt_set_ne (by omega)]; exact c4
      · rw [mlAt_set_self (by omega)]; simp [-List.map_map]
      · have := pop_perm (u := gs.map (·.1) ++ ws) hx
        rw [← List.append_assoc]
        exact this.trans a6
      · rw [mlAt_set_ne (by omega)]; exact c9
    · rintro e s4 ⟨ws, lf, o4, ⟨a1, a2, a3, a4, a5, a6, a7, a8, B', pr, a9, a10, a11, a12, a13⟩, hi1, rfl⟩
      rw [rngD_len] at hi1
      dsimp only
      rw [z_nxt]
      have a5' : mlAt s4 (s.length + 1 + 1) = some (ws.map D.str) := a5
      simp [-List.map_map, lstAt_ml a4, lstAt_ml a5']
      have ndp := a6.nodup_iff.mpr nd
      refine ⟨by rw [size_line]; omega, hP _ _ ⟨a1, gs, ws, B', pr, rfl, ⟨(List.nodup_append.mp ndp).1, fun x hx => a6.mem_iff.mp (List.mem_append_left _ hx), a7, a8, a11, ⟨a12, a13⟩, by omega, by omega⟩, a9, by omega⟩⟩
end Z

set_option Elab.async false
set_option linter.all false
set_option maxRecDepth 100000
set_option maxHeartbeats 4000000
namespace Z
open PySem PySem.Spec PyProof.Rows L2 TL
open PySem.PyData (strOk)
/-! ### draws of the first kind of law: stores as rows -/
structure RowB where
  mem : Str
  gs : List DefA
  ws : List Str
abbrev ArcB := Str × List RowB
def rowB (r : RowB) : D := .tup [.str r.mem, .tup (r.gs.map defD), .tup (r.ws.map D.str)]
def arcB (p : ArcB) : D := .tup [.str p.1, .tup (p.2.map rowB)]
def bodR (r : RowB) : List Int := r.gs.map (·.2.2)
def bodP (ps : List ArcB) : List Int := ps.flatMap fun p => p.2.flatMap bodR
def rowsP (ps : List ArcB) : List RowB := ps.flatMap (·.2)
theorem bodP_rows {ps : List ArcB} : bodP ps = (rowsP ps).flatMap bodR := by
  unfold bodP rowsP
  rw [List.flatMap_assoc]
structure RowG1 (names : List Str) (r : RowB) : Prop where
  nm : IsName r.mem
  nd : (r.gs.map (·.1) ++ r.ws).Nodup
  sub : ∀ x ∈ r.gs.map (·.1) ++ r.ws, x ∈ names
  kd : ∀ p ∈ r.gs, p.2.1 ∈ kinds
  l1 : r.gs.length ≤ 3
  l2 : r.ws.length ≤ 2
structure ArcG1 (names : List Str) (p : ArcB) : Prop where
  nm : IsName p.1
  row : ∀ r ∈ p.2, RowG1 names r
  nd : (p.2.map (·.mem)).Nodup
  len : p.2.length ≤ 3
/-- bodies ascending between two -/
structure BodW (lo hi : Int) (bs : List Int) : Prop where
  inc : bs.Pairwise (· < ·)
  bd : ∀ x ∈ bs, lo < x ∧ x ≤ hi
theorem BodW.app {a b c : Int} {xs ys : List Int} (h : BodW a b xs) (h2 : BodW b c ys) (hab : a ≤ b) (hbc : b ≤ c) : BodW a c (xs ++ ys) := by
  refine ⟨List.pairwise_append.mpr ⟨h.inc, h2.inc, fun x hx y hy => ?_⟩, fun x hx => ?_⟩
  · have := h.bd x hx
    have := h2.bd y hy
    omega
  · rcases List.mem_append.mp hx with hx | hx
    · have := h.bd x hx
      omega
    · have := h2.bd x hx
      omega
theorem BodW.nil {a b : Int} : BodW a b [] := ⟨List.Pairwise.nil, fun x h => by simp at h⟩
theorem RowW.body {names : List Str} {B B' : Int} {gs : List DefA} {ws : List Str} (h : RowW names B B' gs ws) : BodW B B' (gs.map (·.2.2)) := ⟨h.inc, fun x hx => by
  obtain ⟨p, hp, rfl⟩ := List.mem_map.mp hx
  exact h.bd p hp⟩
structure PlainW (names : List Str) (ps : List ArcB) : Prop where
  arc : ∀ p ∈ ps, ArcG1 names p
  nd : (ps.map (·.1)).Nodup
  bod : ∃ lo hi : Int, BodW lo hi (bodP ps) ∧ 0 ≤ lo ∧ hi < 100000
def tPlainA (take names member : MF) : SM := (sC (sP 5 6 (aC (mN fLst aN) (aC (mN fLst (aC (mN take (aC (mV 0) (aC (mC (.int 1000)) aN))) aN)) aN))) (sC (sF (iSq (mN names (aC (mV 0) (aC (mV 2) aN)))) (gN 4) (sC (sA 7 (mN fLst aN)) (sC (sF (iSq (mN names (aC (mV 0) (aC (mN take (aC (mV 0) (aC (m2 dAdd (mV 3) (mC (.int 1))) aN))) aN)))) (gN 8) (sC (sG (gT [(gN 9), (gN 10)]) (mN member (aC (mV 0) (aC (mV 1) (aC (mV 6) (aC (mC (.int 3)) aN)))))) (sE (mBM "list" (mtL lAppend) (mV 7) (aC (mN fTup (aC (mV 8) (aC (mV 9) (aC (mV 10) aN)))) aN))))) (sE (mBM "list" (mtL lAppend) (mV 5) (aC (mN fTup (aC (mV 4) (aC (mN fTuple (aC (mV 7) aN)) aN))) aN)))))) (sR (mV 5))))
/-- what member does -/
def MemberOk (F : MF) : Prop := ∀ {s : Sto} {k n b : Nat} {names : List Str} {pre : List D} {B : Int}, Bag s k → mlAt s n = some (names.map D.str) → n ≠ k → b ≠ k → n ≠ b → names.Nodup → names.length ≤ 1000 → mlAt s b = some (pre ++ [.int B]) → pre.length ≤ 100000 →
    (F [.ref k, .ref n, .ref b, .int 3] s).wp fun d s' => EffB k b s s' ∧ ∃ gs ws B' pre', d = .tup [.tup (gs.map defD), .tup (ws.map D.str)] ∧ RowW names B B' gs ws ∧ mlAt s' b = some (pre' ++ [.int B']) ∧ pre'.length ≤ pre.length + 3
/-- the rows of one archive so far: rs; the bodies in b, the names of members in L2 -/
structure RwI (names mems : List Str) (sB s0 : Sto) (k b l7 L2 : Nat) (B0 : Int) (pl i : Nat) (rs : List RowB) (s2 : Sto) : Prop where
  ef : EffB k b sB s2
  hz : s0.length ≤ s2.length
  fr : ∀ i, i < s0.length → i ≠ k → i ≠ b → i ≠ l7 → s2[i]? = s0[i]?
  m7 : mlAt s2 l7 = some (rs.map rowB)
  mL : mlAt s2 L2 = some (mems.map D.str)
  hi : rs.length = i
  hm : rs.map (·.mem) = mems.take i
  row : ∀ r ∈ rs, RowG1 names r
  bx : ∃ B pre, mlAt s2 b = some (pre ++ [.int B]) ∧ pre.length ≤ pl + 3 * i ∧ BodW B0 B (rs.flatMap bodR) ∧ B0 ≤ B ∧ B ≤ B0 + 9 * i
structure RwE (names mems : List Str) (sB s0 : Sto) (k n b l7 L2 : Nat) (B0 : Int) (pl : Nat) (env : Option D → Option D → Option D → Ev) (i : Nat) (e : Ev) (s2 : Sto) : Prop where
  ex : ∃ rs o8 o9 o10, RwI names mems sB s0 k b l7 L2 B0 pl i rs s2 ∧ e = env o8 o9 o10
/-- the loop over the members of one archive; slots 8, 9, 10 -/
theorem rows_loop {member : MF} (M : MemberOk member) {names mems : List Str} {sB s0 : Sto} {k n b l7 L2 : Nat} {B0 : Int} {pre0 : List D} {Q : En} {e0 : List (Option D)} (hb : Bag sB k) (hn : mlAt sB n = some (names.map D.str)) (ef0 : EffB k b sB s0) (hnk : n ≠ k) (hbk : b ≠ k) (hnb : n ≠ b) (nd : names.Nodup) (hl : names.length ≤ 1000)
    (hB : mlAt s0 b = some (pre0 ++ [.int B0])) (hp : pre0.length ≤ 90000) (h7 : mlAt s0 l7 = some []) (hL : mlAt s0 L2 = some (mems.map D.str)) (d1 : sB.length ≤ l7) (d2 : l7 ≠ b) (d3 : L2 ≠ k) (d4 : L2 ≠ b) (d5 : l7 ≠ L2) (hm : ∀ x ∈ mems, IsName x) (hml : mems.length ≤ 3) {o4 o5 : Option D} {o2 : Option D} {st : Option D}
    (he : e0 = [some (.ref k), some (.ref n), o2, st, o4, o5, some (.ref b), some (.ref l7)]) {o8 o9 o10 : Option D} {body : SM} (hbody : body = (sC (sG (gT [(gN 9), (gN 10)]) (mN member (aC (mV 0) (aC (mV 1) (aC (mV 6) (aC (mC (.int 3)) aN)))))) (sE (mBM "list" (mtL lAppend) (mV 7) (aC (mN fTup (aC (mV 8) (aC (mV 9) (aC (mV 10) aN)))) aN)))))
    (fin : ∀ rs o8 o9 o10 s2, RwI names mems sB s0 k b l7 L2 B0 pre0.length mems.length rs s2 → Q.nx (e0 ++ [o8, o9, o10]) s2) : (forL (jLst L2) (gN 8) body mems.length 0 (e0 ++ [o8, o9, o10]) s0).wp Q := by
  have hkB := hb.lt
  have hnB := lstAt_lt (lstAt_ml hn)
  refine for_j (xs := mems.map D.str) (by simp [-List.map_map]) (RwE names mems sB s0 k n b l7 L2 B0 pre0.length fun o8 o9 o10 => e0 ++ [o8, o9, o10]) (fun i e s h => ?_) ?_ ⟨[], o8, o9, o10, ⟨ef0, Nat.le_refl _, fun _ _ _ _ _ => rfl, h7, hL, rfl, by simp [-List.map_map], by simp [-List.map_map], B0, pre0, hB, by omega, .nil, by omega, by omega⟩, rfl⟩ ?_
  · obtain ⟨rs, _, _, _, h, _⟩ := h
    exact jlst_at (lstAt_ml h.mL)
  · rintro i d e s2 hd ⟨rs, p8, p9, p10, ⟨ef, hz, fr, m7, mL, hi, hmm, row, B, pre, hB2, hpl, bw, b1, b2⟩, rfl⟩
    obtain ⟨x, hx, rfl⟩ : ∃ x, mems[i]? = some x ∧ d = .str x := by
      rw [List.getElem?_map] at hd
      obtain ⟨x, h1, h2⟩ := Option.map_eq_some_iff.mp hd
      exact ⟨x, h1, h2.symm⟩
    have hix := (List.getElem?_eq_some_iff.mp hx).1
    subst he hbody
    refine ⟨_, rfl, ?_⟩
    rw [z_sCn]
    simp [-List.map_map]
    refine wp_ne (M (ef.bag hb) (ef.ml hn hnk hnb) hnk hbk hnb nd hl hB2 (by omega)) ?_
    rintro _ s3 ⟨ef3, gs, ws, B', pre', rfl, rw, hB3, hp3⟩
    have m7 := ef3.ml m7 (by omega) d2
    have mL := ef3.ml mL d3 d4
    have hlt : l7 < s3.length := lstAt_lt (lstAt_ml m7)
    simp [-List.map_map, z_gT, z_gTsC]
    show nxt _ _ _ _
    rw [z_nxt]
    simp [-List.map_map, isTy_ml m7, m7]
    have l1 := rw.l1
    have l2 := rw.le
    refine ⟨by rw [size_line]; omega, by rw [size_line]; omega, ⟨rs ++ [⟨x, gs, ws⟩], _, _, _, ⟨(ef.trans ef3).set d1 hkB, by rw [List.length_set]; exact Nat.le_trans hz ef3.le, fun j hj h1 h2 h3 => by rw [List.getElem?_set_ne (Ne.symm h3), ef3.eq j (Nat.lt_of_lt_of_le hj hz) h1 h2]; exact fr j hj h1 h2 h3, ?_, ?_, by simp [-List.map_map, hi], ?_, ?_, B', pre', ?_, by omega, ?_, by omega, by push_cast; omega⟩, rfl⟩⟩
    · rw [mlAt_set_self hlt]; simp [-List.map_map, rowB]
    · rw [mlAt_set_ne d5]; exact mL
    · rw [List.map_append, hmm, take_snoc hx]; rfl
    · intro r hr
      rcases List.mem_append.mp hr with hr | hr
      · exact row r hr
      · rw [List.mem_singleton.mp hr]
        exact ⟨hm x (List.mem_of_getElem? hx), rw.nd, rw.sub, rw.kd, rw.l1, rw.l2⟩
    · rw [mlAt_set_ne d2]; exact hB3
    · rw [List.flatMap_append]
      refine bw.app (?_ : BodW B B' _) b1 l2.1
      rw [List.flatMap_cons, List.flatMap_nil, List.append_nil]
      exact rw.body
  · rintro e s2 ⟨rs, p8, p9, p10, h, rfl⟩
    rw [List.length_map] at h
    exact fin rs p8 p9 p10 s2 h
/-- the archives so far -/
structure PlI (names tags : List Str) (s : Sto) (k n b L : Nat) (B0 : Int) (i : Nat) (ps : List ArcB) (s2 : Sto) : Prop where
  ef : Eff [k] s s2
  hz : b < s2.length
  m5 : mlAt s2 s.length = some (ps.map arcB)
  mL : mlAt s2 L = some (tags.map D.str)
  hi : ps.length = i
  hm : ps.map (·.1) = tags.take i
  arc : ∀ p ∈ ps, ArcG1 names p
  bx : ∃ B pre, mlAt s2 b = some (pre ++ [.int B]) ∧ pre.length ≤ 9 * i ∧ BodW B0 B (bodP ps) ∧ B0 ≤ B ∧ B ≤ B0 + 27 * i
structure PlE (names tags : List Str) (s : Sto) (k n b L : Nat) (B0 : Int) (m : Int) (i : Nat) (e : Ev) (s2 : Sto) : Prop where
  ex : ∃ ps o4 o7 o8 o9 o10, PlI names tags s k n b L B0 i ps s2 ∧ e = [some (.ref k), some (.ref n), some (.int m), some (.int 3), o4, some (.ref s.length), some (.ref b), o7, o8, o9, o10]
theorem plain_genA {take nms member : MF} (T : TakeOk take) (N : NamesOk nms) (M : MemberOk member) {s : Sto} {k n m : Nat} {names : List Str} (hb : Bag s k) (hn : mlAt s n = some (names.map D.str)) (hnk : n ≠ k) (nd : names.Nodup) (hl : names.length ≤ 1000) (hm : m ≤ 26) :
    (fnM 4 11 (tPlainA take nms member) [.ref k, .ref n, .int m, .int 3] s).wp fun d s' => Eff [k] s s' ∧ ∃ l ps, d = .ref l ∧ s.length ≤ l ∧ mlAt s' l = some (ps.map arcB) ∧ PlainW names ps ∧ ps.length = m := by
  refine wp_of fun P hP => ?_
  have hk := hb.lt
  have hnl := lstAt_lt (lstAt_ml hn)
  unfold tPlainA
  rw [z_fnM (by rfl), z_sCn]
  simp [-List.map_map]
  have e0 : Eff [k] s (s ++ [SO.lst []]) := Eff.push
  have g5 : mlAt (s ++ [SO.lst []]) s.length = some [] := mlAt_push
  have z0 : (s ++ [SO.lst []]).length = s.length + 1 := by simp [-List.map_map]
  generalize s ++ [SO.lst []] = s0 at e0 g5 z0 ⊢
  refine wp_ne (T (e0.bag k (by simp [-List.map_map]) hb) (by omega) (by omega)) ?_
  rintro _ s1 ⟨t, rfl, ht, ef1⟩
  have e1 := e0.trans ef1
  have g5 := ef1.ml g5 (by simp [-List.map_map]; omega)
  have z1 := ef1.le
  refine ⟨by rw [size_line]; omega, ?_⟩
  have e2 : Eff [k] s (s1 ++ [SO.lst [.int t]]) := e1.trans Eff.push
  have g5 : mlAt (s1 ++ [SO.lst [.int t]]) s.length = some [] := by rw [mlAt_app (by omega)]; exact g5
  have gb : mlAt (s1 ++ [SO.lst [.int t]]) s1.length = some [.int t] := mlAt_push
  have z2 : (s1 ++ [SO.lst [.int t]]).length = s1.length + 1 := by simp [-List.map_map]
  generalize hbb : s1.length = b at *
  generalize s1 ++ [SO.lst [.int t]] = s2 at e2 g5 gb z2 ⊢
  show nxt _ _ _ _
  rw [z_nxC]
  rw [z_sF]
  simp [-List.map_map]
  refine wp_ne (N (e2.bag k (by simp [-List.map_map]) hb) hm) ?_
  rintro _ s3 ⟨L, tags, rfl, hL, hmL, htl, htn, hti, ef3⟩
  have e3 := e2.trans ef3
  have g5 := ef3.ml g5 (by simp [-List.map_map]; omega)
  have gb := ef3.ml gb (by simp [-List.map_map]; omega)
  have z3 := ef3.le
  dsimp only
  rw [lstAt_ml hmL, lstP_some]
  refine for_j (xs := tags.map D.str) rfl (PlE names tags s k n b L t m) (fun i e s h => ?_) ?_ ⟨[], _, _, _, _, _, ⟨e3, by omega, g5, hmL, rfl, by simp [-List.map_map], by simp [-List.map_map], t, [], gb, by simp [-List.map_map], .nil, by omega, by omega⟩, rfl⟩ ?_
  · obtain ⟨ps, _, _, _, _, _, h, _⟩ := h
    exact jlst_at (lstAt_ml h.mL)
  · rintro i d e s4 hd ⟨ps, o4, o7, o8, o9, o10, ⟨ef, hz, m5, mL, hi, hmm, arc, B, pre, hB, hpl, bw, b1, b2⟩, rfl⟩
    obtain ⟨x, hx, rfl⟩ : ∃ x, tags[i]? = some x ∧ d = .str x := by
      rw [List.getElem?_map] at hd
      obtain ⟨x, h1, h2⟩ := Option.map_eq_some_iff.mp hd
      exact ⟨x, h1, h2.symm⟩
    have hix := (List.getElem?_eq_some_iff.mp hx).1
    have hsl := lstAt_lt (lstAt_ml m5)
    have hLl := lstAt_lt (lstAt_ml mL)
    refine ⟨_, rfl, ?_⟩
    rw [z_sCn]
    simp [-List.map_map]
    have f0 : Eff [k] s (s4 ++ [SO.lst []]) := ef.trans Eff.push
    have g7 : mlAt (s4 ++ [SO.lst []]) s4.length = some [] := mlAt_push
    have m5 : mlAt (s4 ++ [SO.lst []]) s.length = some (ps.map arcB) := by rw [mlAt_app (by omega)]; exact m5
    have mL : mlAt (s4 ++ [SO.lst []]) L = some (tags.map D.str) := by rw [mlAt_app (by omega)]; exact mL
    have hB : mlAt (s4 ++ [SO.lst []]) b = some (pre ++ [.int B]) := by rw [mlAt_app (by omega)]; exact hB
    have z5 : (s4 ++ [SO.lst []]).length = s4.length + 1 := by simp [-List.map_map]
    generalize h7 : s4.length = l7 at *
    generalize s4 ++ [SO.lst []] = s5 at f0 g7 m5 mL hB z5 ⊢
    show nxt _ _ _ _
    rw [z_nxC, z_sF]
    simp [-List.map_map]
    refine wp_ne (T (f0.bag k (by simp [-List.map_map]) hb) (by omega) (by omega)) ?_
    rintro _ s6 ⟨q, rfl, hq, ef6⟩
    refine wp_ne (N ((f0.trans ef6).bag k (by simp [-List.map_map]) hb) (by omega)) ?_
    rintro _ s7 ⟨L2, mems, rfl, hL2, hmL2, hml, hmn, hmi, ef7⟩
    have f7 := (f0.trans ef6).trans ef7
    have ef67 := ef6.trans ef7
    have g7 := ef67.ml g7 (by simp [-List.map_map]; omega)
    have m5 := ef67.ml m5 (by simp [-List.map_map]; omega)
    have mL := ef67.ml mL (by simp [-List.map_map]; omega)
    have hB := ef67.ml hB (by simp [-List.map_map]; omega)
    have z6 := ef6.le
    have z7 := ef7.le
    dsimp only
    rw [lstAt_ml hmL2, lstP_some]
    have step := fun (Q : En) => rows_loop M (names := names) (mems := mems) (sB := s) (s0 := s7) (k := k) (n := n) (b := b) (l7 := l7) (L2 := L2) (B0 := B) (pre0 := pre) (Q := Q) (e0 := [some (.ref k), some (.ref n), some (.int m), some (.int 3), some (.str x), some (.ref s.length), some (.ref b), some (.ref l7)]) hb hn (.of f7) hnk (by omega) (by omega) nd hl hB (by omega) g7 hmL2 (by omega) (by omega) (by omega) (by omega) (by omega) hmi (by omega) rfl (o8 := o8) (o9 := o9) (o10 := o10) rfl
    have hlen : (List.map D.str mems).length = mems.length := by simp [-List.map_map]
    rw [hlen]
    refine step _ ?_
    rintro rs p8 p9 p10 s8 ⟨ef8, hz8, fr8, n7, nL2, hi8, hm8, row8, B8, pre8, hB8, hp8, bw8, b81, b82⟩
    have still : ∀ {j : Nat} {xs : List D}, mlAt s7 j = some xs → j ≠ k → j ≠ b → j ≠ l7 → mlAt s8 j = some xs := fun h h1 h2 h3 => mlAt_some (by rw [fr8 _ (lstAt_lt (lstAt_ml h)) h1 h2 h3]; exact mlAt_get h)
    have m5 := still m5 (by omega) (by omega) (by omega)
    have mL := still mL (by omega) (by omega) (by omega)
    have hs8 := lstAt_lt (lstAt_ml m5)
    show nxt _ _ _ _
    rw [z_nxt]
    simp [-List.map_map, isTy_ml m5, m5, lstAt_ml n7]
    have f8 : Eff [k] s s8 := ef8.out Eff.refl (by omega)
    refine ⟨by rw [size_line]; omega, by rw [size_line]; omega, ⟨ps ++ [(x, rs)], _, _, _, _, _, ⟨f8.set (Nat.le_refl _), by rw [List.length_set]; exact lstAt_lt (lstAt_ml hB8), ?_, ?_, by simp [-List.map_map, hi], ?_, ?_, B8, pre8, ?_, by omega, ?_, by omega, by push_cast; omega⟩, rfl⟩⟩
    · rw [mlAt_set_self hs8]; simp [-List.map_map, arcB]
    · rw [mlAt_set_ne (by omega)]; exact mL
    · rw [List.map_append, hmm, take_snoc hx]; rfl
    · intro p hp
      rcases List.mem_append.mp hp with hp | hp
      · exact arc p hp
      · rw [List.mem_singleton.mp hp]
        exact ⟨hti x (List.mem_of_getElem? hx), row8, by rw [hm8, List.take_length]; exact hmn, by show rs.length ≤ 3; omega⟩
    · rw [mlAt_set_ne (by omega)]; exact hB8
    · have : bodP (ps ++ [(x, rs)]) = bodP ps ++ rs.flatMap bodR := by unfold bodP; rw [List.flatMap_append]; simp [-List.map_map]
      rw [this]
      exact bw.app bw8 b1 b81
  · rintro e s4 ⟨ps, o4, o7, o8, o9, o10, ⟨ef, hz, m5, mL, hi, hmm, arc, B, pre, hB, hpl, bw, b1, b2⟩, rfl⟩
    rw [List.length_map] at hi hmm b2
    dsimp only
    rw [z_nxt]
    simp [-List.map_map]
    refine hP _ _ ⟨ef, s.length, ps, rfl, Nat.le_refl _, m5, ⟨arc, ?_, t, B, bw, by omega, by omega⟩, by omega⟩
    rw [hmm, List.take_length]
    exact htn
end Z

set_option Elab.async false
set_option linter.all false
set_option maxRecDepth 100000
set_option maxHeartbeats 4000000
namespace Z
open PySem PySem.Spec PyProof.Rows L2 TL
open PySem.PyData (strOk)
/-! ### one archive more -/
def tOtherA (take of_ nms member : MF) : SM := (sC (sA 3 (mN fLst (aC (m2 dAdd (mC (.int 200000)) (mN take (aC (mV 0) (aC (mC (.int 1000)) aN)))) aN))) (sC (sA 4 (mN fLst aN)) (sC (sF (iSq (mN nms (aC (mV 0) (aC (mN take (aC (mV 0) (aC (mC (.int 3)) aN))) aN)))) (gN 5) (sC (sG (gT [(gN 7), (gN 8)]) (mN member (aC (mV 0) (aC (mV 1) (aC (mV 3) (aC (mC (.int 3)) aN)))))) (sE (mBM "list" (mtL lAppend) (mV 4) (aC (mN fTup (aC (mV 5) (aC (mV 7) (aC (mV 8) aN)))) aN))))) (sC (sA 6 (mN of_ (aC (mV 0) (aC (m2 dAdd (mL (iSq (mV 2)) (gN 9) tY (m2 dIx (mV 9) (mC (.int 0))) [9]) (mN fLst (aC (m2 dIx (mN nms (aC (mV 0) (aC (mC (.int 1)) aN))) (mC (.int 0))) aN))) aN)))) (sR (mN fTup (aC (mV 6) (aC (mN fTuple (aC (mV 4) aN)) aN))))))))
/-- the loop over the members of one archive; slots 5, 7, 8 -/
theorem rows_loop2 {member : MF} (M : MemberOk member) {names mems : List Str} {sB s0 : Sto} {k n b l7 L2 : Nat} {B0 : Int} {pre0 : List D} {Q : En} (hb : Bag sB k) (hn : mlAt sB n = some (names.map D.str)) (ef0 : EffB k b sB s0) (hnk : n ≠ k) (hbk : b ≠ k) (hnb : n ≠ b) (nd : names.Nodup) (hl : names.length ≤ 1000)
    (hB : mlAt s0 b = some (pre0 ++ [.int B0])) (hp : pre0.length ≤ 90000) (h7 : mlAt s0 l7 = some []) (hL : mlAt s0 L2 = some (mems.map D.str)) (d1 : sB.length ≤ l7) (d2 : l7 ≠ b) (d3 : L2 ≠ k) (d4 : L2 ≠ b) (d5 : l7 ≠ L2) (hm : ∀ x ∈ mems, IsName x) (hml : mems.length ≤ 3) {o2 o5 o6 o7 o8 o9 : Option D} {body : SM} (hbody : body = (sC (sG (gT [(gN 7), (gN 8)]) (mN member (aC (mV 0) (aC (mV 1) (aC (mV 3) (aC (mC (.int 3)) aN)))))) (sE (mBM "list" (mtL lAppend) (mV 4) (aC (mN fTup (aC (mV 5) (aC (mV 7) (aC (mV 8) aN)))) aN)))))
    (fin : ∀ rs o5 o7 o8 s2, RwI names mems sB s0 k b l7 L2 B0 pre0.length mems.length rs s2 → Q.nx [some (.ref k), some (.ref n), o2, some (.ref b), some (.ref l7), o5, o6, o7, o8, o9] s2) : (forL (jLst L2) (gN 5) body mems.length 0 [some (.ref k), some (.ref n), o2, some (.ref b), some (.ref l7), o5, o6, o7, o8, o9] s0).wp Q := by
  have hkB := hb.lt
  have hnB := lstAt_lt (lstAt_ml hn)
  refine for_j (xs := mems.map D.str) (by simp [-List.map_map]) (RwE names mems sB s0 k n b l7 L2 B0 pre0.length fun o5 o7 o8 => [some (.ref k), some (.ref n), o2, some (.ref b), some (.ref l7), o5, o6, o7, o8, o9]) (fun i e s h => ?_) ?_ ⟨[], o5, o7, o8, ⟨ef0, Nat.le_refl _, fun _ _ _ _ _ => rfl, h7, hL, rfl, by simp [-List.map_map], by simp [-List.map_map], B0, pre0, hB, by omega, .nil, by omega, by omega⟩, rfl⟩ ?_
  · obtain ⟨rs, _, _, _, h, _⟩ := h
    exact jlst_at (lstAt_ml h.mL)
  · rintro i d e s2 hd ⟨rs, p8, p9, p10, ⟨ef, hz, fr, m7, mL, hi, hmm, row, B, pre, hB2, hpl, bw, b1, b2⟩, rfl⟩
    obtain ⟨x, hx, rfl⟩ : ∃ x, mems[i]? = some x ∧ d = .str x := by
      rw [List.getElem?_map] at hd
      obtain ⟨x, h1, h2⟩ := Option.map_eq_some_iff.mp hd
      exact ⟨x, h1, h2.symm⟩
    have hix := (List.getElem?_eq_some_iff.mp hx).1
    subst hbody
    refine ⟨_, rfl, ?_⟩
    rw [z_sCn]
    simp [-List.map_map]
    refine wp_ne (M (ef.bag hb) (ef.ml hn hnk hnb) hnk hbk hnb nd hl hB2 (by omega)) ?_
    rintro _ s3 ⟨ef3, gs, ws, B', pre', rfl, rw, hB3, hp3⟩
    have m7 := ef3.ml m7 (by omega) d2
    have mL := ef3.ml mL d3 d4
    have hlt : l7 < s3.length := lstAt_lt (lstAt_ml m7)
    simp [-List.map_map, z_gT, z_gTsC]
    show nxt _ _ _ _
    rw [z_nxt]
    simp [-List.map_map, isTy_ml m7, m7]
    have l1 := rw.l1
    have l2 := rw.le
    refine ⟨by rw [size_line]; omega, by rw [size_line]; omega, ⟨rs ++ [⟨x, gs, ws⟩], _, _, _, ⟨(ef.trans ef3).set d1 hkB, by rw [List.length_set]; exact Nat.le_trans hz ef3.le, fun j hj h1 h2 h3 => by rw [List.getElem?_set_ne (Ne.symm h3), ef3.eq j (Nat.lt_of_lt_of_le hj hz) h1 h2]; exact fr j hj h1 h2 h3, ?_, ?_, by simp [-List.map_map, hi], ?_, ?_, B', pre', ?_, by omega, ?_, by omega, by push_cast; omega⟩, rfl⟩⟩
    · rw [mlAt_set_self hlt]; simp [-List.map_map, rowB]
    · rw [mlAt_set_ne d5]; exact mL
    · rw [List.map_append, hmm, take_snoc hx]; rfl
    · intro r hr
      rcases List.mem_append.mp hr with hr | hr
      · exact row r hr
      · rw [List.mem_singleton.mp hr]
        exact ⟨hm x (List.mem_of_getElem? hx), rw.nd, rw.sub, rw.kd, rw.l1, rw.l2⟩
    · rw [mlAt_set_ne d2]; exact hB3
    · rw [List.flatMap_append]
      refine bw.app (?_ : BodW B B' _) b1 l2.1
      rw [List.flatMap_cons, List.flatMap_nil, List.append_nil]
      exact rw.body
  · rintro e s2 ⟨rs, p8, p9, p10, h, rfl⟩
    rw [List.length_map] at h
    exact fin rs p8 p9 p10 s2 h

theorem other_genA {take of_ nms member : MF} (T : TakeOk take) (O : OfOk of_) (N : NamesOk nms) (M : MemberOk member) {s : Sto} {k n pl : Nat} {names : List Str} {ps : List ArcB} (hb : Bag s k) (hn : mlAt s n = some (names.map D.str)) (hnk : n ≠ k) (nd : names.Nodup) (hl : names.length ≤ 1000) (hp : mlAt s pl = some (ps.map arcB)) (hpk : pl ≠ k) (hpl : ps.length ≤ 100) :
    (fnM 3 10 (tOtherA take of_ nms member) [.ref k, .ref n, .ref pl] s).wp fun d s' => Eff [k] s s' ∧ ∃ p : ArcB, d = arcB p ∧ (p.1 ∈ ps.map (·.1) ∨ IsName p.1) ∧ (∀ r ∈ p.2, RowG1 names r) ∧ (p.2.map (·.mem)).Nodup ∧ p.2.length ≤ 3 ∧ BodW 199999 300000 (p.2.flatMap bodR) := by
  refine wp_of fun P hP => ?_
  have hk := hb.lt
  have hnl := lstAt_lt (lstAt_ml hn)
  have hpll := lstAt_lt (lstAt_ml hp)
  unfold tOtherA
  rw [z_fnM (by rfl), z_sCn]
  simp [-List.map_map]
  refine wp_ne (T hb (by omega) (by omega)) ?_
  rintro _ s1 ⟨t, rfl, ht, ef1⟩
  simp [-List.map_map]
  refine ⟨by rw [size_line]; omega, ?_⟩
  have z1 := ef1.le
  have e2 : Eff [k] s (s1 ++ [SO.lst [.int (200000 + t)]]) := ef1.trans Eff.push
  have gb : mlAt (s1 ++ [SO.lst [.int (200000 + (t : Int))]]) s1.length = some [.int (200000 + t)] := mlAt_push
  have z2 : (s1 ++ [SO.lst [.int (200000 + (t : Int))]]).length = s1.length + 1 := by simp [-List.map_map]
  generalize hbb : s1.length = b at *
  generalize s1 ++ [SO.lst [.int (200000 + (t : Int))]] = s2 at e2 gb z2 ⊢
  show nxt _ _ _ _
  rw [z_nxC]
  simp [-List.map_map]
  have e3 : Eff [k] s (s2 ++ [SO.lst []]) := e2.trans Eff.push
  have gb : mlAt (s2 ++ [SO.lst []]) b = some [.int (200000 + t)] := by rw [mlAt_app (by omega)]; exact gb
  have g4 : mlAt (s2 ++ [SO.lst []]) s2.length = some [] := mlAt_push
  have z3 : (s2 ++ [SO.lst []]).length = s2.length + 1 := by simp [-List.map_map]
  generalize h4 : s2.length = l4 at *
  generalize s2 ++ [SO.lst []] = s3 at e3 gb g4 z3 ⊢
  show nxt _ _ _ _
  rw [z_nxC, z_sF]
  simp [-List.map_map]
  refine wp_ne (T (e3.bag k (by simp [-List.map_map]) hb) (by omega) (by omega)) ?_
  rintro _ s4 ⟨q, rfl, hq, ef4⟩
  refine wp_ne (N ((e3.trans ef4).bag k (by simp [-List.map_map]) hb) (by omega)) ?_
  rintro _ s5 ⟨L2, mems, rfl, hL2, hmL2, hml, hmn, hmi, ef5⟩
  have e5 := (e3.trans ef4).trans ef5
  have ef45 := ef4.trans ef5
  have gb := ef45.ml gb (by simp [-List.map_map]; omega)
  have g4 := ef45.ml g4 (by simp [-List.map_map]; omega)
  have z4 := ef4.le
  have z5 := ef5.le
  dsimp only
  rw [lstAt_ml hmL2, lstP_some]
  have hlen : (List.map D.str mems).length = mems.length := by simp [-List.map_map]
  rw [hlen]
  refine rows_loop2 M (names := names) (mems := mems) (sB := s) (s0 := s5) (k := k) (n := n) (b := b) (l7 := l4) (L2 := L2) (B0 := 200000 + t) (pre0 := []) hb hn (.of e5) hnk (by omega) (by omega) nd hl gb (by simp [-List.map_map]) g4 hmL2 (by omega) (by omega) (by omega) (by omega) (by omega) hmi (by omega) rfl ?_
  rintro rs p5 p7 p8 s6 ⟨ef6, hz6, fr6, n7, nL2, hi6, hm6, row6, B6, pre6, hB6, hp6, bw6, b61, b62⟩
  have e6 : Eff [k] s s6 := ef6.out Eff.refl (by omega)
  have hp6 := e6.ml hp (by simpa [-List.map_map] using hpk)
  dsimp only
  rw [z_nxC]
  simp [-List.map_map, lstAt_ml hp6]
  refine wp_ne (lc_map (ks := []) (fun d => match d with | .tup (x :: _) => x | _ => .non) (it_lst (lstAt_ml hp6) (by simp [-List.map_map])) (by simp [-List.map_map]) (by rw [List.length_map, size_line]; omega) fun d s7 hdm ef _ => ?_) ?_
  · obtain ⟨p, hp, rfl⟩ := List.mem_map.mp hdm
    refine ⟨_, rfl, ?_⟩
    simp [-List.map_map, arcB, Eff.refl]
  rintro d s7 ⟨rfl, ef7, hlt7, hm7⟩
  have hm7 : mlAt s7 s6.length = some ((ps.map (·.1)).map D.str) := by
    rw [hm7, List.map_map, List.map_map]
    rfl
  have e7 := e6.trans ef7.nil
  refine wp_ne (N (n := 1) (e7.bag k (by simp [-List.map_map]) hb) (by omega)) ?_
  rintro _ s8 ⟨L3, ns, rfl, hL3, hmL3, hnl3, hnn, hni, ef8⟩
  obtain ⟨y, rfl⟩ : ∃ y, ns = [y] := List.length_eq_one_iff.mp hnl3
  have e8 := e7.trans ef8
  have hm8 := ef8.ml hm7 (by simp [-List.map_map]; omega)
  have hm8l := lstAt_lt (lstAt_ml hm8)
  simp [-List.map_map, lstAt_ml hmL3]
  have g8 : mlAt (s8 ++ [SO.lst [D.str y]]) s6.length = some ((ps.map (·.1)).map D.str) := by rw [mlAt_app hm8l]; exact hm8
  refine ⟨by rw [size_line]; omega, ?_⟩
  rw [g8, lstP_some]
  refine ⟨by rw [size_line]; simp [-List.map_map]; omega, ?_⟩
  have e9 : Eff [k] s (s8 ++ [SO.lst [D.str y], SO.lst ((ps.map (·.1)).map D.str ++ [D.str y])]) := e8.trans push2
  refine wp_ne (O (s := s8 ++ [SO.lst [D.str y], SO.lst ((ps.map (·.1)).map D.str ++ [D.str y])]) (x := .ref (s8.length + 1)) (xs := (ps.map (·.1)).map D.str ++ [D.str y]) (e9.bag k (by simp [-List.map_map]) hb) (lstAt_ml ml_push2.2) (by simp [-List.map_map]; have := e8.le; omega) (by simp [-List.map_map]) (by simp [-List.map_map]; omega)) ?_
  rintro d s9 ⟨hd, ef9⟩
  have e10 := e9.trans ef9
  have hml9 : mlAt s9 l4 = some (rs.map rowB) := by
    have a := ef7.ml n7 (by simp [-List.map_map])
    have b := ef8.ml a (by simp [-List.map_map]; omega)
    have c : mlAt (s8 ++ [SO.lst [D.str y], SO.lst ((ps.map (·.1)).map D.str ++ [D.str y])]) l4 = some (rs.map rowB) := by rw [mlAt_app (lstAt_lt (lstAt_ml b))]; exact b
    exact ef9.ml c (by simp [-List.map_map]; omega)
  show nxt _ _ _ _
  rw [z_nxt]
  simp [-List.map_map, lstAt_ml hml9]
  obtain ⟨x, rfl, hx⟩ : ∃ x, d = .str x ∧ (x ∈ ps.map (·.1) ∨ IsName x) := by
    rcases List.mem_append.mp hd with hd | hd
    · obtain ⟨x, hx, rfl⟩ := List.mem_map.mp hd
      exact ⟨x, rfl, .inl hx⟩
    · exact ⟨y, by simpa [-List.map_map] using hd, .inr (hni y (by simp [-List.map_map]))⟩
  refine ⟨by rw [size_line]; omega, hP _ _ ⟨e10, (x, rs), rfl, hx, row6, by rw [hm6, List.take_length]; exact hmn, by show rs.length ≤ 3; omega, bw6.inc, fun z hz => ?_⟩⟩
  have := bw6.bd z hz
  omega
end Z

set_option Elab.async false
set_option linter.all false
set_option maxRecDepth 100000
set_option maxHeartbeats 4000000
namespace Z
open PySem PySem.Spec PyProof.Rows L2 TL
open PySem.PyData (strOk)
/-! ### stores made of drawn rows -/
def memB (r : RowB) : MemA := ⟨r.mem, sortP r.gs, sortS r.ws⟩
def arcW (p : ArcB) : ArcA := ⟨p.1, p.2.map memB⟩
theorem perm_flat {α β : Type} {f g : α → List β} : ∀ {l : List α}, (∀ a ∈ l, (f a).Perm (g a)) → (l.flatMap f).Perm (l.flatMap g)
  | [], _ => by simp
  | a :: l, h => by
    rw [List.flatMap_cons, List.flatMap_cons]
    exact (h a List.mem_cons_self).append (perm_flat fun b hb => h b (List.mem_cons_of_mem _ hb))
theorem map_flat {α β γ : Type} {f : α → List β} {k : β → γ} : ∀ {l : List α}, (l.flatMap f).map k = l.flatMap fun a => (f a).map k
  | [] => rfl
  | a :: l => by rw [List.flatMap_cons, List.map_append, map_flat, List.flatMap_cons]
theorem flat_map' {α β γ : Type} {f : β → List γ} {k : α → β} : ∀ {l : List α}, (l.map k).flatMap f = l.flatMap fun a => f (k a)
  | [] => rfl
  | a :: l => by rw [List.map_cons, List.flatMap_cons, flat_map', List.flatMap_cons]
/-- what a store is made of -/
structure StoW (names : List Str) (ps : List ArcB) : Prop where
  arc : ∀ p ∈ ps, ArcG1 names p
  nd : (ps.map (·.1)).Nodup
  bod : (bodP ps).Nodup
  bd : ∀ x ∈ bodP ps, 0 ≤ x ∧ x ≤ 999999
  len : ps.length ≤ 6
theorem BodW.nodup {a b : Int} {xs : List Int} (h : BodW a b xs) : xs.Nodup := h.inc.imp fun h e => by omega
theorem PlainW.sto {names : List Str} {ps : List ArcB} (h : PlainW names ps) (hl : ps.length ≤ 6) : StoW names ps := by
  obtain ⟨lo, hi, hb, h0, h1⟩ := h.bod
  exact ⟨h.arc, h.nd, hb.nodup, fun x hx => by have := hb.bd x hx; omega, hl⟩
theorem flat_sub {α β : Type} {f : α → List β} {ps qs : List α} (h : ps.Sublist qs) : (ps.flatMap f).Sublist (qs.flatMap f) := by
  induction h with
  | slnil => exact List.Sublist.refl _
  | cons a _ ih => rw [List.flatMap_cons]; exact ih.trans (List.sublist_append_right _ _)
  | cons_cons a _ ih => rw [List.flatMap_cons, List.flatMap_cons]; exact (List.Sublist.refl _).append ih
theorem flat_perm {α β : Type} {f : α → List β} {ps qs : List α} (h : ps.Perm qs) : (ps.flatMap f).Perm (qs.flatMap f) := by
  induction h with
  | nil => exact List.Perm.refl _
  | cons a _ ih => rw [List.flatMap_cons, List.flatMap_cons]; exact List.Perm.append_left _ ih
  | swap a b l =>
    simp only [List.flatMap_cons, ← List.append_assoc]
    exact List.Perm.append_right _ List.perm_append_comm
  | trans _ _ i1 i2 => exact i1.trans i2
theorem bodP_sub {ps qs : List ArcB} (h : ps.Sublist qs) : (bodP ps).Sublist (bodP qs) := flat_sub h
theorem StoW.sub {names : List Str} {ps qs : List ArcB} (h : StoW names qs) (hs : ps.Sublist qs) : StoW names ps :=
  ⟨fun p hp => h.arc p (hs.subset hp), h.nd.sublist (hs.map _), h.bod.sublist (bodP_sub hs), fun x hx => h.bd x ((bodP_sub hs).subset hx), Nat.le_trans hs.length_le h.len⟩
theorem StoW.perm {names : List Str} {ps qs : List ArcB} (h : StoW names qs) (hp : ps.Perm qs) : StoW names ps := by
  have hb : (bodP ps).Perm (bodP qs) := flat_perm hp
  exact ⟨fun p hq => h.arc p (hp.mem_iff.mp hq), (hp.map _).nodup_iff.mpr h.nd, hb.nodup_iff.mpr h.bod, fun x hx => h.bd x (hb.mem_iff.mp hx), by rw [hp.length_eq]; exact h.len⟩
theorem RowG1.goodM {names : List Str} {r : RowB} (h : RowG1 names r) (hn : ∀ x ∈ names, IsName x) (hb : ∀ x ∈ bodR r, 0 ≤ x ∧ x ≤ 999999) : GoodM r.mem r.gs r.ws :=
  ⟨h.nm, fun p hp => ⟨hn _ (h.sub _ (List.mem_append_left _ (List.mem_map_of_mem hp))), h.kd p hp, hb _ (List.mem_map_of_mem hp)⟩, fun w hw => hn _ (h.sub _ (List.mem_append_right _ hw)), h.nd, by have := h.l1; omega, by have := h.l2; omega⟩
theorem map_memB {rs : List RowB} : (rs.map memB).map (·.name) = rs.map (·.mem) := by rw [List.map_map]; rfl
theorem map_arcW {ps : List ArcB} : (ps.map arcW).map (·.name) = ps.map (·.1) := by rw [List.map_map]; rfl
theorem ArcG1.goodA {names : List Str} {p : ArcB} (h : ArcG1 names p) (i : Nat) : GoodA p.1 ((p.2.take i).map memB) := by
  refine ⟨h.nm, fun m hm => ?_, ?_, by rw [List.length_map, List.length_take]; have := h.len; omega⟩
  · obtain ⟨r, hr, rfl⟩ := List.mem_map.mp hm
    exact (h.row r (List.mem_of_mem_take hr)).nm
  · rw [map_memB]
    exact h.nd.sublist ((List.take_sublist i p.2).map _)
theorem kS_snd {ps : List ArcB} : ((kS (ps.map arcW)).map (·.2)).Perm (bodP ps) := by
  unfold kS bodP
  rw [map_flat, flat_map']
  refine perm_flat fun p _ => ?_
  show (((p.2.map memB).flatMap kM).map (·.2)).Perm _
  rw [map_flat, flat_map']
  refine perm_flat fun r _ => ?_
  show (((sortP r.gs).map kP).map (·.2)).Perm _
  rw [List.map_map]
  exact (sortP_perm r.gs).map _
theorem bodP_le {names : List Str} : ∀ {ps : List ArcB}, (∀ p ∈ ps, ArcG1 names p) → (bodP ps).length ≤ 9 * ps.length
  | [], _ => by simp [bodP]
  | p :: ps, h => by
    have hp := h p List.mem_cons_self
    have ih := bodP_le (ps := ps) fun q hq => h q (List.mem_cons_of_mem _ hq)
    have rl : ∀ rs : List RowB, (∀ r ∈ rs, RowG1 names r) → (rs.flatMap bodR).length ≤ 3 * rs.length := fun rs => by
      induction rs with
      | nil => simp
      | cons r rs i2 =>
        intro hr
        rw [List.flatMap_cons, List.length_append, List.length_cons]
        have := i2 fun q hq => hr q (List.mem_cons_of_mem _ hq)
        have := (hr r List.mem_cons_self).l1
        unfold bodR
        rw [List.length_map]
        unfold bodR at *
        omega
    have := rl p.2 hp.row
    have := hp.len
    unfold bodP at *
    rw [List.flatMap_cons, List.length_append, List.length_cons]
    omega
theorem kS_mem {names : List Str} {ps : List ArcB} (h : ∀ p ∈ ps, ArcG1 names p) : ∀ k ∈ kS (ps.map arcW), k.1 ∈ names := fun k hk => by
  unfold kS at hk
  rw [flat_map', List.mem_flatMap] at hk
  obtain ⟨p, hp, hk⟩ := hk
  have hk : k ∈ (p.2.map memB).flatMap kM := hk
  rw [flat_map', List.mem_flatMap] at hk
  obtain ⟨r, hr, hk⟩ := hk
  obtain ⟨g, hg, rfl⟩ := List.mem_map.mp (show k ∈ (sortP r.gs).map kP from hk)
  exact ((h p hp).row r hr).sub _ (List.mem_append_left _ (List.mem_map_of_mem ((sortP_perm r.gs).mem_iff.mp hg)))
theorem StoW.goodS {names : List Str} {ps : List ArcB} (h : StoW names ps) (hn : ∀ x ∈ names, IsName x) : GoodS (ps.map arcW) := by
  refine ⟨fun a ha => ?_, by rw [map_arcW]; exact h.nd, fun k hk => (hn _ (kS_mem h.arc k hk)).ok, ?_, ?_, by rw [List.length_map]; exact h.len⟩
  · obtain ⟨p, hp, rfl⟩ := List.mem_map.mp ha
    exact (h.arc p hp).nm
  · have := kS_snd.nodup_iff.mpr h.bod
    exact List.Pairwise.of_map _ (fun a b h e => h (by rw [e])) this
  · have h1 := (kS_snd (ps := ps)).length_eq
    rw [List.length_map] at h1
    have h2 := bodP_le h.arc
    have := h.len
    omega
/-! ### _law_archive, _law_store -/
def ArcOk (F : MF) : Prop := ∀ {s : Sto} {nm : Str} {ds : List D} {ms : List MemA}, GoodA nm ms → AllR (IsMem s) ds ms → (mkD "Archive" F (.str nm :: ds) s).wp fun d s' => IsArc s' d ⟨nm, ms⟩ ∧ Eff [] s s'
def AddOk (F : MF) : Prop := ∀ {s : Sto} {da dm : D} {a : ArcA} {m : MemA}, GoodA a.name (a.mems ++ [m]) → IsArc s da a → IsMem s dm m → (F [da, dm] s).wp fun d s' => IsArc s' d ⟨a.name, a.mems ++ [m]⟩ ∧ Eff [] s s'
def MembOk (F : MF) : Prop := ∀ {s : Sto} {nm : Str} {dd dw : D} {ps : List DefA} {ws : List Str}, GoodM nm ps ws → SeqOf s dd (ps.map defD) → SeqOf s dw (ws.map D.str) → (mkD "Member" F [.str nm, dd, dw] s).wp fun d s' => IsMem s' d ⟨nm, sortP ps, sortS ws⟩ ∧ Eff [] s s'
def OrOk (F : MF) : Prop := ∀ {s : Sto} {d da : D} {as : List ArcA} {a : ArcA}, IsSto s d as → IsArc s da a → GoodS as → IsName a.name → GoodS (orA as a) → (F [d, da] s).wp fun d' s' => IsSto s' d' (orA as a) ∧ Eff [] s s'
theorem rightOk_ref {rs : List Str} {st : Bool} {s : Sto} {n : Nat} {c : Str} {fs : List (Str × D)} (h : s[n]? = some (.ins c fs)) (hc : rs.contains c = true) : rightOk rs st s (.ref n) = true := by
  unfold rightOk
  dsimp only
  rw [h]
  exact hc
theorem IsMem.right {s : Sto} {d : D} {m : MemA} (h : IsMem s d m) : rightOk ["Member"] false s d = true := by
  obtain ⟨n, rfl, h⟩ := h
  exact rightOk_ref h (by decide)
theorem IsArc.right {s : Sto} {d : D} {a : ArcA} (h : IsArc s d a) : rightOk ["Archive"] false s d = true := by
  obtain ⟨n, ds, rfl, h, _⟩ := h
  exact rightOk_ref h (by decide)
theorem orA_new {as : List ArcA} {a : ArcA} (h : a.name ∉ as.map (·.name)) : orA as a = as ++ [a] := by
  unfold orA
  rw [if_neg h]
def tLArc (initA km : MF) (tb : Tb) : SM := (sC (sA 2 (mN (mkD "Archive" initA) (aC (mV 0) aN))) (sC (sF (iSq (mV 1)) (gT [gN 3, gN 4, gN 5]) (sA 2 (m2 (dOwnL tb ["Member"] false dNo2) (mV 2) (mNk 1 2 (mkD "Member" km) (aC (mV 3) aN) (aC (mV 4) (aC (mV 5) aN)))))) (sR (mV 2))))
structure LAI (s : Sto) (nm : Str) (d1 : D) (rs : List RowB) (j : Nat) (e : Ev) (s2 : Sto) : Prop where
  ef : Eff [] s s2
  ex : ∃ da o3 o4 o5, IsArc s2 da ⟨nm, (rs.take j).map memB⟩ ∧ e = [some (.str nm), some d1, some da, o3, o4, o5]
theorem larc_gen {initA km add : MF} {tb : Tb} (hA : ArcOk initA) (hM : MembOk km) (hadd : AddOk add) (ht : tb.lookup ("Archive" : Str) = some add) {s : Sto} {names : List Str} {p : ArcB} (h : ArcG1 names p) (hn : ∀ x ∈ names, IsName x) (hb : ∀ x ∈ p.2.flatMap bodR, 0 ≤ x ∧ x ≤ 999999) :
    (fnM 2 6 (tLArc initA km tb) [.str p.1, .tup (p.2.map rowB)] s).wp fun d s' => IsArc s' d (arcW p) ∧ Eff [] s s' := by
  refine wp_of fun P hP => ?_
  unfold tLArc
  rw [z_fnM (by rfl), z_sCn]
  simp [-List.map_map, -z_mkD]
  have ga := h.goodA 0
  refine wp_ne (hA (ms := []) (by simpa [-List.map_map] using ga) AllR.nil) ?_
  rintro da s1 ⟨ha1, ef1⟩
  show nxt _ _ _ _
  rw [z_nxC, z_sF]
  simp [-List.map_map, -z_mkD]
  refine for_it (ks := []) (s0 := s1) (xs := p.2.map rowB) (it_tup (by simp [-List.map_map])) (LAI s1 p.1 (.tup (p.2.map rowB)) p.2) (fun _ _ _ h => h.ef) ?_ ⟨Eff.refl, da, _, _, _, by simpa [-List.map_map] using ha1, rfl⟩ ?_
  · rintro j rd e s4 hrj ⟨ef4, da4, o3, o4, o5, ha4, rfl⟩
    obtain ⟨r, hr, rfl⟩ : ∃ r, p.2[j]? = some r ∧ rd = rowB r := by
      rw [List.getElem?_map] at hrj
      obtain ⟨r, h1, h2⟩ := Option.map_eq_some_iff.mp hrj
      exact ⟨r, h1, h2.symm⟩
    have hrm := List.mem_of_getElem? hr
    refine ⟨_, rfl, ?_⟩
    simp [-List.map_map, -z_mkD, rowB]
    refine wp_ne (hM ((h.row r hrm).goodM hn fun x hx => hb x (List.mem_flatMap.mpr ⟨r, hrm, hx⟩)) (.inl rfl) (.inl rfl)) ?_
    rintro dm s5 ⟨hm5, ef5⟩
    have ha5 := ha4.eff0 ef5
    rw [ha5.ins, clsP_some, ht, optP_some]
    refine ⟨hm5.right, ?_⟩
    have e6 : (p.2.take j).map memB ++ [memB r] = (p.2.take (j + 1)).map memB := by rw [take_snoc hr, List.map_append]; rfl
    refine wp_ne (hadd (a := ⟨p.1, (p.2.take j).map memB⟩) (m := memB r) (by
      show GoodA p.1 ((p.2.take j).map memB ++ [memB r])
      rw [e6]
      exact h.goodA (j + 1)) ha5 hm5) ?_
    rintro da6 s6 ⟨ha6, ef6⟩
    have ha6 : IsArc s6 da6 ⟨p.1, (p.2.take j).map memB ++ [memB r]⟩ := ha6
    rw [e6] at ha6
    exact ⟨(ef4.trans ef5).trans ef6, da6, _, _, _, ha6, rfl⟩
  · rintro e s4 ⟨ef4, da4, o3, o4, o5, ha4, rfl⟩
    have : p.2.take (p.2.map rowB).length = p.2 := List.take_of_length_le (by simp [-List.map_map])
    rw [this] at ha4
    dsimp only
    rw [z_nxt]
    simp [-List.map_map]
    exact hP _ _ ⟨ha4, ef1.trans ef4⟩
def LArcOk (F : MF) : Prop := ∀ {s : Sto} {names : List Str} {p : ArcB}, ArcG1 names p → (∀ x ∈ names, IsName x) → (∀ x ∈ p.2.flatMap bodR, 0 ≤ x ∧ x ≤ 999999) → (F [.str p.1, .tup (p.2.map rowB)] s).wp fun d s' => IsArc s' d (arcW p) ∧ Eff [] s s'
def tLSto (initS larc : MF) (tb : Tb) : SM := (sC (sA 1 (mN (mkD "Store" initS) aN)) (sC (sF (iSq (mV 0)) (gT [gN 2, gN 3]) (sA 1 (m2 (dOwnL tb ["Archive"] false dNo2) (mV 1) (mN larc (aC (mV 2) (aC (mV 3) aN)))))) (sR (mV 1))))
structure LSI (s : Sto) (d0 : D) (ps : List ArcB) (j : Nat) (e : Ev) (s2 : Sto) : Prop where
  ef : Eff [] s s2
  ex : ∃ d o2 o3, IsSto s2 d ((ps.take j).map arcW) ∧ e = [some d0, some d, o2, o3]
theorem bodP_mem {ps : List ArcB} {p : ArcB} (h : p ∈ ps) : ∀ x ∈ p.2.flatMap bodR, x ∈ bodP ps := fun x hx => List.mem_flatMap.mpr ⟨p, h, hx⟩
theorem lsto_gen {initS larc F : MF} {tb : Tb} (hS : StoreOk initS) (hA : LArcOk larc) (hO : OrOk F) (ht : tb.lookup ("Store" : Str) = some F) {s : Sto} {l : Nat} {names : List Str} {ps : List ArcB} (h : StoW names ps) (hn : ∀ x ∈ names, IsName x) (hl : mlAt s l = some (ps.map arcB)) :
    (fnM 1 4 (tLSto initS larc tb) [.ref l] s).wp fun d s' => IsSto s' d (ps.map arcW) ∧ Eff [] s s' := by
  refine wp_of fun P hP => ?_
  unfold tLSto
  rw [z_fnM (by rfl), z_sCn]
  simp [-List.map_map, -z_mkD]
  have g0 : GoodS [] := ⟨by simp [-List.map_map], by simp [-List.map_map], by simp [-List.map_map, kS], by simp [-List.map_map, kS], by simp [-List.map_map, kS], by simp [-List.map_map]⟩
  refine wp_ne (hS g0 AllR.nil) ?_
  rintro d0 s1 ⟨hs1, ef1⟩
  have hl := ef1.ml hl (by simp [-List.map_map])
  show nxt _ _ _ _
  rw [z_nxC, z_sF]
  simp [-List.map_map, -z_mkD]
  rw [lstAt_ml hl, lstP_some]
  refine for_it (ks := []) (s0 := s1) (xs := ps.map arcB) (it_lst (lstAt_ml hl) (by simp [-List.map_map]) rfl) (LSI s1 (.ref l) ps) (fun _ _ _ h => h.ef) ?_ ⟨Eff.refl, d0, _, _, by simpa [-List.map_map] using hs1, rfl⟩ ?_
  · rintro j rd e s4 hrj ⟨ef4, d4, o2, o3, hs4, rfl⟩
    obtain ⟨p, hp, rfl⟩ : ∃ p, ps[j]? = some p ∧ rd = arcB p := by
      rw [List.getElem?_map] at hrj
      obtain ⟨r, h1, h2⟩ := Option.map_eq_some_iff.mp hrj
      exact ⟨r, h1, h2.symm⟩
    have hpm := List.mem_of_getElem? hp
    refine ⟨_, rfl, ?_⟩
    simp [-List.map_map, -z_mkD, arcB]
    refine wp_ne (hA (h.arc p hpm) hn fun x hx => h.bd x (bodP_mem hpm x hx)) ?_
    rintro da s5 ⟨ha5, ef5⟩
    have hs5 := hs4.eff0 ef5
    rw [hs5.ins, clsP_some, ht, optP_some]
    refine ⟨ha5.right, ?_⟩
    have g1 := (h.sub (List.take_sublist (j + 1) ps)).goodS hn
    have hnew : (arcW p).name ∉ ((ps.take j).map arcW).map (·.name) := by
      have nd := g1.nd
      rw [take_snoc hp, List.map_append, List.map_append] at nd
      intro hm
      exact (List.nodup_append.mp nd).2.2 _ hm _ (by simp [-List.map_map]) rfl
    have eo : orA ((ps.take j).map arcW) (arcW p) = (ps.take (j + 1)).map arcW := by
      rw [orA_new hnew, take_snoc hp, List.map_append]
      rfl
    refine wp_ne (hO hs5 ha5 ((h.sub (List.take_sublist j ps)).goodS hn) (h.arc p hpm).nm (by rw [eo]; exact g1)) ?_
    rintro d6 s6 ⟨hs6, ef6⟩
    rw [eo] at hs6
    exact ⟨(ef4.trans ef5).trans ef6, d6, _, _, hs6, rfl⟩
  · rintro e s4 ⟨ef4, d4, o2, o3, hs4, rfl⟩
    have : ps.take (ps.map arcB).length = ps := List.take_of_length_le (by simp [-List.map_map])
    rw [this] at hs4
    dsimp only
    rw [z_nxt]
    simp [-List.map_map]
    exact hP _ _ ⟨hs4, ef1.trans ef4⟩
end Z

set_option Elab.async false
set_option linter.all false
set_option maxRecDepth 100000
set_option maxHeartbeats 4000000
namespace Z
open PySem PySem.Spec PyProof.Rows L2 TL
open PySem.PyData (strOk)
instance : DecidableEq MemA := fun a b => if h : a.name = b.name ∧ a.defs = b.defs ∧ a.wants = b.wants then .isTrue (by
  obtain ⟨a1, a2, a3⟩ := a
  obtain ⟨b1, b2, b3⟩ := b
  obtain ⟨h1, h2, h3⟩ := h
  exact (show a1 = b1 from h1) ▸ (show a2 = b2 from h2) ▸ (show a3 = b3 from h3) ▸ rfl) else .isFalse fun e => h (by rw [e]; exact ⟨rfl, rfl, rfl⟩)
instance : DecidableEq ArcA := fun a b => if h : a.name = b.name ∧ a.mems = b.mems then .isTrue (by
  obtain ⟨a1, a2⟩ := a
  obtain ⟨b1, b2⟩ := b
  obtain ⟨h1, h2⟩ := h
  exact (show a1 = b1 from h1) ▸ (show a2 = b2 from h2) ▸ rfl) else .isFalse fun e => h (by rw [e]; exact ⟨rfl, rfl⟩)
/-! ### == of lists of own instances -/
structure EqR {α : Type} [DecidableEq α] (c : Str) (G : MF) (R : Sto → D → α → Prop) (ok : α → Prop) : Prop where
  ins : ∀ {s : Sto} {d : D} {a : α}, R s d a → ∃ n fs, d = .ref n ∧ s[n]? = some (.ins c fs)
  mono : ∀ {s t : Sto} {d : D} {a : α}, R s d a → Eff [] s t → R t d a
  func : ∀ {s : Sto} {d : D} {a b : α}, R s d a → R s d b → a = b
  eq : ∀ {s : Sto} {x y : D} {a b : α}, R s x a → R s y b → ok a → ok b → (G [x, y] s).wp fun d s' => d = .bl (decide (a = b)) ∧ Eff [] s s'
theorem mLst_of {s : Sto} {n : Nat} {xs : List D} (h : s[n]? = some (.lst xs)) : mLst s n = some xs := by unfold mLst; rw [h]
section
variable {α : Type} [DecidableEq α] {cs : List Str} {tb : Tb} {c : Str} {G : MF} {R : Sto → D → α → Prop} {ok : α → Prop}
theorem eqEl_wp (h : EqR c G R ok) (hc : c ∈ cs) (ht : tb.lookup c = some G) {s : Sto} {x y : D} {a b : α} (hx : R s x a) (hy : R s y b) (oa : ok a) (ob : ok b) : (eqEl cs tb x y s).wp fun q s' => q = decide (a = b) ∧ Eff [] s s' := by
  obtain ⟨n, fs, rfl, h1⟩ := h.ins hx
  obtain ⟨j, gs, rfl, h2⟩ := h.ins hy
  unfold eqEl
  dsimp only
  rw [h1, h2]
  dsimp only
  by_cases e : n = j
  · subst e
    rw [if_pos rfl]
    exact ⟨(decide_eq_true (h.func hx hy)).symm, Eff.refl⟩
  · rw [if_neg e, if_pos ⟨hc, hc⟩, ht]
    dsimp only
    rw [z_bind]
    refine wp_ne (h.eq hx hy oa ob) ?_
    rintro _ s1 ⟨rfl, ef⟩
    exact ⟨rfl, ef⟩
theorem eqLoop_wp (h : EqR c G R ok) (hc : c ∈ cs) (ht : tb.lookup c = some G) {a b : Nat} {xs ys : List D} {as bs : List α} (oa : ∀ x ∈ as, ok x) (ob : ∀ x ∈ bs, ok x) :
    ∀ (f i : Nat) (s : Sto), s[a]? = some (.lst xs) → s[b]? = some (.lst ys) → AllR (R s) xs as → AllR (R s) ys bs → as.length = bs.length → xs.length < f + i → i ≤ as.length → as.take i = bs.take i → (eqLoop cs tb a b f i s).wp fun q s' => q = decide (as = bs) ∧ Eff [] s s'
  | 0, i, s, _, _, h3, _, _, h6, h7, _ => by have := h3.1; omega
  | f + 1, i, s, h1, h2, h3, h4, h5, h6, h7, h8 => by
    unfold eqLoop
    rw [mLst_of h1, mLst_of h2]
    dsimp only
    have l3 := h3.1
    have l4 := h4.1
    by_cases hi : i < as.length
    · have hx : xs[i]? = some (xs[i]'(by omega)) := List.getElem?_eq_getElem _
      have hy : ys[i]? = some (ys[i]'(by omega)) := List.getElem?_eq_getElem _
      have ha : as[i]? = some as[i] := List.getElem?_eq_getElem _
      have hb : bs[i]? = some (bs[i]'(by omega)) := List.getElem?_eq_getElem _
      generalize xs[i]'(by omega) = x at hx
      generalize ys[i]'(by omega) = y at hy
      generalize as[i] = p at ha
      generalize bs[i]'(by omega) = q at hb
      rw [hx, hy]
      dsimp only
      rw [z_bind]
      refine wp_ne (eqEl_wp h hc ht (h3.2 i x p hx ha) (h4.2 i y q hy hb) (oa p (List.mem_of_getElem? ha)) (ob q (List.mem_of_getElem? hb))) ?_
      rintro r s1 ⟨rfl, ef⟩
      have k1 := ef.get h1 (by simp)
      have k2 := ef.get h2 (by simp)
      by_cases e : p = q
      · rw [decide_eq_true e, if_pos rfl]
        refine wp_ne (eqLoop_wp h hc ht oa ob f (i + 1) s1 k1 k2 (h3.mono fun _ _ h' => h.mono h' ef) (h4.mono fun _ _ h' => h.mono h' ef) h5 (by omega) hi (by rw [take_snoc ha, take_snoc hb, h8, e])) ?_
        rintro r s2 ⟨h9, ef2⟩
        exact ⟨h9, ef.trans ef2⟩
      · rw [decide_eq_false e, if_neg (by simp), mLst_of k1, mLst_of k2]
        dsimp only
        rw [if_pos ⟨by omega, by omega⟩]
        refine ⟨(decide_eq_false ?_).symm, ef⟩
        rintro rfl
        rw [ha] at hb
        exact e (Option.some.inj hb)
    · have e1 : xs[i]? = none := List.getElem?_eq_none (by omega)
      rw [e1]
      dsimp only
      refine ⟨?_, Eff.refl⟩
      have : as = bs := by
        rw [List.take_of_length_le (by omega), List.take_of_length_le (by omega)] at h8
        exact h8
      rw [decide_eq_true this, decide_eq_true (by omega)]
theorem shp_none {s : Sto} {n j : Nat} {xs : List D} {fs : List (Str × D)} (h : s[n]? = some (.lst (.ref j :: xs))) (hj : s[j]? = some (.ins c fs)) : shp s (.ref n) = none := by
  unfold shp
  have h1 : lstAt s n = some (.ref j :: xs) := by unfold lstAt; rw [h]
  have h2 : lstAt s j = none := by unfold lstAt; rw [hj]
  have : pyd 30 s (.ref n) = none := by
    rw [pyd, h1]
    simp [pyd, h2]
  rw [this]
theorem eqO_lists (h : EqR c G R ok) (hc : c ∈ cs) (ht : tb.lookup c = some G) {neg : Bool} {s : Sto} {a b : Nat} {xs ys : List D} {as bs : List α} (h1 : s[a]? = some (.lst xs)) (h2 : s[b]? = some (.lst ys)) (hab : a ≠ b) (h3 : AllR (R s) xs as) (h4 : AllR (R s) ys bs) (oa : ∀ x ∈ as, ok x) (ob : ∀ x ∈ bs, ok x) :
    (dEqO cs tb neg (.ref a) (.ref b) s).wp fun d s' => d = .bl (neg ^^ decide (as = bs)) ∧ Eff [] s s' := by
  have i1 : insC s (.ref a) = none := by unfold insC; dsimp only; rw [h1]
  have l3 := h3.1
  have l4 := h4.1
  have nn : ∀ {n : Nat} {zs : List D} {ms : List α}, s[n]? = some (.lst zs) → AllR (R s) zs ms → zs ≠ [] → shp s (.ref n) = none := fun {n zs ms} k1 k2 k3 => by
    cases zs with
    | nil => exact absurd rfl k3
    | cons z zs =>
      have hl := k2.1
      cases ms with
      | nil => simp at hl
      | cons m ms =>
        obtain ⟨j, fs, rfl, hj⟩ := h.ins (k2.2 0 z m rfl rfl)
        exact shp_none k1 hj
  unfold dEqO
  rw [i1]
  dsimp only
  rw [mLst_of h1, mLst_of h2]
  dsimp only
  have go : ((if xs.length = ys.length then eqLoop cs tb a b (xs.length + 1) 0 s else .ok false s).bind fun q s1 => .ok (.bl (neg ^^ q)) s1 : Rs D).wp fun d s' => d = .bl (neg ^^ decide (as = bs)) ∧ Eff [] s s' := by
    rw [z_bind]
    by_cases e : xs.length = ys.length
    · rw [if_pos e]
      refine wp_ne (eqLoop_wp h hc ht oa ob (xs.length + 1) 0 s h1 h2 h3 h4 (by omega) (by omega) (by omega) rfl) ?_
      rintro q s1 ⟨rfl, ef⟩
      exact ⟨rfl, ef⟩
    · rw [if_neg e, z_ok, z_ok]
      refine ⟨?_, Eff.refl⟩
      rw [decide_eq_false (by rintro rfl; omega)]
  by_cases ex : xs = []
  · by_cases ey : ys = []
    · subst ex ey
      have p1 := shp_lst (s := s) (n := a) (xs := []) (by unfold lstAt; rw [h1]) rfl
      have p2 := shp_lst (s := s) (n := b) (xs := []) (by unfold lstAt; rw [h2]) rfl
      rw [p1, p2]
      simp only [Option.isSome_some, Bool.and_self, if_true]
      rw [z_eqG p1 p2]
      have e1 : as = [] := List.eq_nil_of_length_eq_zero l3.symm
      have e2 : bs = [] := List.eq_nil_of_length_eq_zero l4.symm
      subst e1 e2
      exact ⟨rfl, Eff.refl⟩
    · rw [nn h2 h4 ey]
      simp only [Option.isSome_none, Bool.and_false, if_neg hab]
      exact go
  · rw [nn h1 h3 ex]
    simp only [Option.isSome_none, Bool.false_and, if_neg hab]
    exact go
theorem eqO_ins {neg : Bool} {s : Sto} {x y : D} {t : String ⊕ Str} (hx : insC s x = some c) (ht : tb.lookup c = some G) (hy : clD s y = some t) (hk : clOk cs t = true) {r : Bool} (hG : (G [x, y] s).wp fun d s' => d = .bl r ∧ Eff [] s s') : (dEqO cs tb neg x y s).wp fun d s' => d = .bl (neg ^^ r) ∧ Eff [] s s' := by
  unfold dEqO
  rw [hx]
  dsimp only
  rw [ht, hy]
  dsimp only
  rw [if_pos hk, z_bind]
  refine wp_ne hG ?_
  rintro _ s1 ⟨rfl, ef⟩
  exact ⟨rfl, ef⟩
end
end Z

set_option Elab.async false
set_option linter.all false
set_option maxRecDepth 100000
set_option maxHeartbeats 4000000
namespace Z
open PySem PySem.Spec PyProof.Rows L2 TL
open PySem.PyData (strOk)
/-! ### == of members, archives, stores -/
def okM (m : MemA) : Prop := strOk m.name = true ∧ (∀ p ∈ m.defs, okP p) ∧ ∀ w ∈ m.wants, strOk w = true
def okArc (a : ArcA) : Prop := strOk a.name = true ∧ a.mems.length ≤ 1000 ∧ ∀ m ∈ a.mems, okM m
theorem defD_inj {p q : DefA} (h : defD p = defD q) : p = q := by
  obtain ⟨a, b, c⟩ := p
  obtain ⟨a2, b2, c2⟩ := q
  unfold defD at h
  injection h with h
  simp only [List.cons.injEq, D.str.injEq, D.int.injEq, and_true] at h
  obtain ⟨rfl, rfl, rfl⟩ := h
  rfl
theorem map_inj' {α β : Type} {f : α → β} (hf : ∀ a b, f a = f b → a = b) : ∀ {xs ys : List α}, xs.map f = ys.map f → xs = ys
  | [], [], _ => rfl
  | [], _ :: _, h => by simp at h
  | _ :: _, [], h => by simp at h
  | x :: xs, y :: ys, h => by
    rw [List.map_cons, List.map_cons, List.cons.injEq] at h
    rw [hf x y h.1, map_inj' hf h.2]
theorem AllR.func {α : Type} {R : D → α → Prop} (hf : ∀ d a b, R d a → R d b → a = b) {ds : List D} {as bs : List α} (h : AllR R ds as) (h2 : AllR R ds bs) : as = bs := by
  refine List.ext_getElem (by rw [← h.1, h2.1]) fun i h3 h4 => ?_
  have h5 : i < ds.length := by rw [h.1]; exact h3
  exact hf ds[i] _ _ (h.2 i _ _ (List.getElem?_eq_getElem h5) (List.getElem?_eq_getElem h3)) (h2.2 i _ _ (List.getElem?_eq_getElem h5) (List.getElem?_eq_getElem h4))
theorem IsMem.func {s : Sto} {d : D} {a b : MemA} (h : IsMem s d a) (h2 : IsMem s d b) : a = b := by
  obtain ⟨n, rfl, h⟩ := h
  obtain ⟨m, e, h2⟩ := h2
  cases e
  rw [h] at h2
  obtain ⟨a1, a2, a3⟩ := a
  obtain ⟨b1, b2, b3⟩ := b
  injection h2 with h2
  injection h2 with _ h2
  simp only [List.cons.injEq, Prod.mk.injEq, true_and, and_true, D.str.injEq, D.tup.injEq] at h2
  obtain ⟨rfl, e2, e3⟩ := h2
  rw [map_inj' (fun _ _ => defD_inj) e2, map_inj' (fun _ _ h => by injection h) e3]
theorem IsArc.func {s : Sto} {d : D} {a b : ArcA} (h : IsArc s d a) (h2 : IsArc s d b) : a = b := by
  obtain ⟨n, ds, rfl, h, k⟩ := h
  obtain ⟨m, es, e, h2, k2⟩ := h2
  cases e
  rw [h] at h2
  obtain ⟨a1, a2⟩ := a
  obtain ⟨b1, b2⟩ := b
  injection h2 with h2
  injection h2 with _ h2
  simp only [List.cons.injEq, Prod.mk.injEq, true_and, and_true, D.str.injEq, D.tup.injEq] at h2
  obtain ⟨rfl, rfl⟩ := h2
  have e := AllR.func (R := IsMem s) (fun _ _ _ h h' => IsMem.func h h') k k2
  rw [show a2 = b2 from e]
theorem clD_of {s : Sto} {d : D} {c : Str} (h : insC s d = some c) : clD s d = some (.inr c) := by
  unfold clD
  rw [h]
theorem ref_of {s : Sto} {d : D} {c : Str} (h : insC s d = some c) : ∃ n fs, d = .ref n ∧ s[n]? = some (.ins c fs) := by
  unfold insC at h
  split at h
  · rename_i n
    split at h
    · rename_i c' fs e
      cases h
      exact ⟨n, fs, rfl, e⟩
    · cases h
  · cases h
/-- the parts of a member -/
def partsD (m : MemA) : D := .tup [.str m.name, .tup (m.defs.map defD), .tup (m.wants.map D.str)]
theorem plain_parts {m : MemA} (h : okM m) : plain 20 (partsD m) = true := by
  unfold partsD
  rw [plain, plains_iff]
  intro x hx
  simp only [List.mem_cons, List.not_mem_nil, or_false] at hx
  rcases hx with rfl | rfl | rfl
  · rw [plain]; exact h.1
  · rw [plain]; exact plains_defs h.2.1
  · rw [plain, plains_iff]
    intro x hx
    obtain ⟨w, hw, rfl⟩ := List.mem_map.mp hx
    rw [plain]
    exact h.2.2 w hw
theorem partsD_inj {a b : MemA} (h : partsD a = partsD b) : a = b := by
  obtain ⟨a1, a2, a3⟩ := a
  obtain ⟨b1, b2, b3⟩ := b
  unfold partsD at h
  simp only [List.cons.injEq, and_true, D.str.injEq, D.tup.injEq] at h
  obtain ⟨rfl, e2, e3⟩ := h
  rw [map_inj' (fun _ _ => defD_inj) e2, map_inj' (fun _ _ h => by injection h) e3]
def tParts (cs : List Str) : SM := (sR (mN fTup (aC (mFld cs "name" (mV 0)) (aC (mFld cs "defines" (mV 0)) (aC (mFld cs "wants" (mV 0)) aN)))))
theorem parts_gen {cs : List Str} (hc : ("Member" : Str) ∈ cs) {s : Sto} {d : D} {m : MemA} (h : IsMem s d m) {P : D → Sto → Prop} {E : Str → Str → D → Sto → Prop} (hP : P (partsD m) s) : (fnM 1 1 (tParts cs) [d] s).wp P E := by
  unfold tParts
  rw [z_fnM (by rfl)]
  simp
  rw [h.gname hc, z_ok, h.gdefs hc, z_ok, h.gwants hc, z_ok]
  exact ⟨by rw [size_line]; omega, hP⟩
def tEqM (cls : List Str) (tb : Tb) : SM := (sR (mAnd (mIsiC cls "Member" (mV 1)) (m2 dEq (mMeth tb "parts" (mV 0) aN) (mMeth tb "parts" (mV 1) aN))))
theorem eqM_gen {cls cs : List Str} {tb : Tb} (hc : ("Member" : Str) ∈ cs) (hcl : ("Member" : Str) ∈ cls) (ht : tb.lookup ("Member" : Str) = some (fnM 1 1 (tParts cs))) : EqR "Member" (fnM 2 2 (tEqM cls tb)) IsMem okM where
  ins := fun ⟨n, h1, h2⟩ => ⟨n, _, h1, h2⟩
  mono := fun h e => h.eff0 e
  func := fun h h2 => h.func h2
  eq := fun {s x y a b} hx hy oa ob => by
    have ix := hx.ins
    have iy := hy.ins
    obtain ⟨n, rfl, hn⟩ := hx
    obtain ⟨j, rfl, hj⟩ := hy
    have hx : IsMem s (.ref n) a := ⟨n, rfl, hn⟩
    have hy : IsMem s (.ref j) b := ⟨j, rfl, hj⟩
    have side : ∀ {m : MemA} (a : Str) (b : D), (a, b) ∈ [(Str.ofString "name", D.str m.name), (Str.ofString "defines", D.tup (List.map defD m.defs)), (Str.ofString "wants", D.tup (List.map D.str m.wants))] → ¬Str.ofString "parts" = a := fun a b h => by
      simp only [List.mem_cons, Prod.mk.injEq, List.not_mem_nil, or_false] at h
      rcases h with ⟨rfl, _⟩ | ⟨rfl, _⟩ | ⟨rfl, _⟩ <;> decide
    unfold tEqM
    rw [z_fnM (by rfl)]
    simp
    rw [z_isiC]
    simp
    rw [clD_of iy, optP_some]
    refine ⟨decide_eq_true hcl, ?_⟩
    simp only [isiC, decide_true, blP_bl, if_true]
    rw [hn, insP_some, ht, optP_some]
    refine ⟨side, parts_gen hc hx ?_⟩
    rw [hj, insP_some, ht, optP_some]
    refine ⟨side, parts_gen hc hy ?_⟩
    classical
    rw [z_eqP (plain_parts oa) (plain_parts ob)]
    refine ⟨?_, Eff.refl⟩
    by_cases e : a = b
    · rw [decide_eq_true e, decide_eq_true (by rw [e])]
    · rw [decide_eq_false e, decide_eq_false fun h => e (partsD_inj h)]
/-- list(o) of an own instance -/
theorem listO_wp {tb : Tb} {itb : Itb} {B F : MF} {c : Str} {s : Sto} {d : D} {xs : List D} (h1 : itsO itb s d = some (some xs)) (h2 : insC s d = some c) (h3 : tb.lookup c = some F) (hl : xs.length ≤ sizeLine)
    (hF : (F [d] (s ++ [.lst []])).wp fun k s2 => k = .int xs.length ∧ Eff [] (s ++ [.lst []]) s2) : (fListO tb itb B [d] s).wp fun d' s' => d' = .ref s.length ∧ s'[s.length]? = some (.lst xs) ∧ Eff [] s s' := by
  unfold fListO
  dsimp only
  rw [h1]
  dsimp only
  rw [h2]
  dsimp only
  rw [h3]
  dsimp only
  rw [z_bind, z_nox]
  refine wp_ne hF ?_
  rintro _ s2 ⟨rfl, ef⟩
  have g := ef.get (show (s ++ [SO.lst []])[s.length]? = some (.lst []) by simp) (by simp)
  rw [g]
  dsimp only
  rw [if_pos ⟨by omega, by omega, hl⟩]
  exact ⟨rfl, List.getElem?_set_self (List.getElem?_eq_some_iff.mp g).1, ((Eff.push (ks := []) (s := s) (o := .lst [])).trans ef).set (Nat.le_refl _)⟩
def tLen (cs : List Str) (f : Str) : SM := (sR (mN fLen (aC (mFld cs f (mV 0)) aN)))
theorem lenA_gen {cs : List Str} (hc : ("Archive" : Str) ∈ cs) {s : Sto} {d : D} {a : ArcA} (h : IsArc s d a) {P : D → Sto → Prop} {E : Str → Str → D → Sto → Prop} (hP : P (.int a.mems.length) s) : (fnM 1 1 (tLen cs "members") [d] s).wp P E := by
  unfold tLen
  obtain ⟨ds, e, hd⟩ := h.gmems hc
  rw [z_fnM (by rfl)]
  simp
  rw [e, z_ok]
  simp
  rw [hd.1]
  exact hP
theorem lenS_gen {cs : List Str} (hc : ("Store" : Str) ∈ cs) {s : Sto} {d : D} {a : List ArcA} (h : IsSto s d a) {P : D → Sto → Prop} {E : Str → Str → D → Sto → Prop} (hP : P (.int a.length) s) : (fnM 1 1 (tLen cs "archives") [d] s).wp P E := by
  unfold tLen
  obtain ⟨ds, e, hd⟩ := h.garcs hc
  rw [z_fnM (by rfl)]
  simp
  rw [e, z_ok]
  simp
  rw [hd.1]
  exact hP
theorem listA_wp {tb : Tb} {itb : Itb} {cs : List Str} {B : MF} (hc : ("Archive" : Str) ∈ cs) (ht : tb.lookup ("Archive" : Str) = some (fnM 1 1 (tLen cs "members"))) (hi : itb.lookup ("Archive" : Str) = some ("members" : Str)) {s : Sto} {d : D} {a : ArcA} (h : IsArc s d a) (hl : a.mems.length ≤ 1000) :
    (fListO tb itb B [d] s).wp fun d' s' => d' = .ref s.length ∧ Eff [] s s' ∧ ∃ ds, s'[s.length]? = some (.lst ds) ∧ AllR (IsMem s') ds a.mems := by
  obtain ⟨ds, e, hd⟩ := h.its hi
  refine wp_ne (listO_wp e h.ins ht (by rw [hd.1, size_line]; omega) (lenA_gen hc (h.eff0 Eff.push) ⟨by rw [hd.1], Eff.refl⟩)) ?_
  rintro _ s2 ⟨rfl, h1, ef⟩
  exact ⟨rfl, ef, ds, h1, hd.mono fun _ _ h => h.eff0 ef⟩
theorem listS_wp {tb : Tb} {itb : Itb} {cs : List Str} {B : MF} (hc : ("Store" : Str) ∈ cs) (ht : tb.lookup ("Store" : Str) = some (fnM 1 1 (tLen cs "archives"))) (hi : itb.lookup ("Store" : Str) = some ("archives" : Str)) {s : Sto} {d : D} {a : List ArcA} (h : IsSto s d a) (hl : a.length ≤ 1000) :
    (fListO tb itb B [d] s).wp fun d' s' => d' = .ref s.length ∧ Eff [] s s' ∧ ∃ ds, s'[s.length]? = some (.lst ds) ∧ AllR (IsArc s') ds a := by
  obtain ⟨ds, e, hd⟩ := h.its hi
  refine wp_ne (listO_wp e h.ins ht (by rw [hd.1, size_line]; omega) (lenS_gen hc (h.eff0 Eff.push) ⟨by rw [hd.1], Eff.refl⟩)) ?_
  rintro _ s2 ⟨rfl, h1, ef⟩
  exact ⟨rfl, ef, ds, h1, hd.mono fun _ _ h => h.eff0 ef⟩
def tEqA (cls cs : List Str) (tbE tbL : Tb) (itb : Itb) : SM := (sR (mAnd (mIsiC cls "Archive" (mV 1)) (mAnd (m2 dEq (mFld cs "name" (mV 0)) (mFld cs "name" (mV 1))) (m2 (dEqO cls tbE false) (mN (fListO tbL itb fList) (aC (mV 0) aN)) (mN (fListO tbL itb fList) (aC (mV 1) aN))))))
theorem eqA_gen {cls cs csL : List Str} {tbE tbL : Tb} {itb : Itb} {G : MF} (hM : EqR "Member" G IsMem okM) (hc : ("Archive" : Str) ∈ cs) (hcL : ("Archive" : Str) ∈ csL) (hcl : ("Archive" : Str) ∈ cls) (hcm : ("Member" : Str) ∈ cls) (hE : tbE.lookup ("Member" : Str) = some G) (hL : tbL.lookup ("Archive" : Str) = some (fnM 1 1 (tLen csL "members"))) (hi : itb.lookup ("Archive" : Str) = some ("members" : Str)) :
    EqR "Archive" (fnM 2 2 (tEqA cls cs tbE tbL itb)) IsArc okArc where
  ins := fun ⟨n, ds, h1, h2, _⟩ => ⟨n, _, h1, h2⟩
  mono := fun h e => h.eff0 e
  func := fun h h2 => h.func h2
  eq := fun {s x y a b} hx hy oa ob => by
    unfold tEqA
    rw [z_fnM (by rfl)]
    simp
    rw [z_isiC]
    simp
    rw [clD_of hy.ins, optP_some]
    refine ⟨decide_eq_true hcl, ?_⟩
    simp only [isiC, decide_true, blP_bl, if_true]
    rw [hx.gname hc, z_ok, hy.gname hc, z_ok, z_eqS, blP_bl]
    by_cases en : a.name = b.name
    · rw [decide_eq_true en, if_pos rfl]
      refine wp_ne (listA_wp hcL hL hi hx oa.2.1) ?_
      rintro _ s1 ⟨rfl, ef1, ds, h1, r1⟩
      refine wp_ne (listA_wp hcL hL hi (hy.eff0 ef1) ob.2.1) ?_
      rintro _ s2 ⟨rfl, ef2, es, h2, r2⟩
      have g1 := ef2.get h1 (by simp)
      have l1 := (List.getElem?_eq_some_iff.mp h1).1
      refine wp_ne (eqO_lists hM hcm hE (neg := false) g1 h2 (by omega) (r1.mono fun _ _ h => h.eff0 ef2) r2 oa.2.2 ob.2.2) ?_
      rintro _ s3 ⟨rfl, ef3⟩
      refine ⟨?_, (ef1.trans ef2).trans ef3⟩
      rw [Bool.false_xor]
      obtain ⟨a1, a2⟩ := a
      obtain ⟨b1, b2⟩ := b
      obtain rfl : a1 = b1 := en
      by_cases e : a2 = b2
      · rw [decide_eq_true e, decide_eq_true (by rw [e])]
      · rw [decide_eq_false e, decide_eq_false fun h => e (by injection h)]
    · rw [decide_eq_false en, if_neg (by simp)]
      refine ⟨?_, Eff.refl⟩
      exact fun h => en (by rw [h])
def tEqS (cls : List Str) (tbE tbL : Tb) (itb : Itb) : SM := (sR (mAnd (mIsiC cls "Store" (mV 1)) (m2 (dEqO cls tbE false) (mN (fListO tbL itb fList) (aC (mV 0) aN)) (mN (fListO tbL itb fList) (aC (mV 1) aN)))))
def EqSOk (F : MF) : Prop := ∀ {s : Sto} {x y : D} {as bs : List ArcA}, IsSto s x as → IsSto s y bs → as.length ≤ 1000 → bs.length ≤ 1000 → (∀ a ∈ as, okArc a) → (∀ a ∈ bs, okArc a) → (F [x, y] s).wp fun d s' => d = .bl (decide (as = bs)) ∧ Eff [] s s'
theorem eqS_gen {cls csL : List Str} {tbE tbL : Tb} {itb : Itb} {G : MF} (hA : EqR "Archive" G IsArc okArc) (hcL : ("Store" : Str) ∈ csL) (hcl : ("Store" : Str) ∈ cls) (hca : ("Archive" : Str) ∈ cls) (hE : tbE.lookup ("Archive" : Str) = some G) (hL : tbL.lookup ("Store" : Str) = some (fnM 1 1 (tLen csL "archives"))) (hi : itb.lookup ("Store" : Str) = some ("archives" : Str)) :
    EqSOk (fnM 2 2 (tEqS cls tbE tbL itb)) := fun {s x y as bs} hx hy la lb oa ob => by
  unfold tEqS
  rw [z_fnM (by rfl)]
  simp
  rw [z_isiC]
  simp
  rw [clD_of hy.ins, optP_some]
  refine ⟨decide_eq_true hcl, ?_⟩
  simp only [isiC, decide_true, blP_bl, if_true]
  refine wp_ne (listS_wp hcL hL hi hx la) ?_
  rintro _ s1 ⟨rfl, ef1, ds, h1, r1⟩
  refine wp_ne (listS_wp hcL hL hi (hy.eff0 ef1) lb) ?_
  rintro _ s2 ⟨rfl, ef2, es, h2, r2⟩
  have g1 := ef2.get h1 (by simp)
  have l1 := (List.getElem?_eq_some_iff.mp h1).1
  refine wp_ne (eqO_lists hA hca hE (neg := false) g1 h2 (by omega) (r1.mono fun _ _ h => h.eff0 ef2) r2 oa ob) ?_
  rintro _ s3 ⟨rfl, ef3⟩
  exact ⟨by rw [Bool.false_xor], (ef1.trans ef2).trans ef3⟩
/-- the operator == of two stores -/
theorem eqO_sto {cls : List Str} {tb : Tb} {G : MF} (hG : EqSOk G) (ht : tb.lookup ("Store" : Str) = some G) (hcl : ("Store" : Str) ∈ cls) {neg : Bool} {s : Sto} {x y : D} {as bs : List ArcA} (hx : IsSto s x as) (hy : IsSto s y bs) (la : as.length ≤ 1000) (lb : bs.length ≤ 1000) (oa : ∀ a ∈ as, okArc a) (ob : ∀ a ∈ bs, okArc a) :
    (dEqO cls tb neg x y s).wp fun d s' => d = .bl (neg ^^ decide (as = bs)) ∧ Eff [] s s' :=
  eqO_ins hx.ins ht (clD_of hy.ins) (decide_eq_true hcl) (hG hx hy la lb oa ob)
theorem eqO_arc {cls : List Str} {tb : Tb} {G : MF} (hG : EqR "Archive" G IsArc okArc) (ht : tb.lookup ("Archive" : Str) = some G) (hcl : ("Archive" : Str) ∈ cls) {neg : Bool} {s : Sto} {x y : D} {a b : ArcA} (hx : IsArc s x a) (hy : IsArc s y b) (oa : okArc a) (ob : okArc b) :
    (dEqO cls tb neg x y s).wp fun d s' => d = .bl (neg ^^ decide (a = b)) ∧ Eff [] s s' :=
  eqO_ins hx.ins ht (clD_of hy.ins) (decide_eq_true hcl) (hG.eq hx hy oa ob)
end Z

set_option Elab.async false
set_option linter.all false
set_option maxRecDepth 100000
set_option maxHeartbeats 4000000
namespace Z
open PySem PySem.Spec PyProof.Rows L2 TL
open PySem.PyData (strOk)
/-! ### the names in a store, each once, ascending -/
def nmsM (m : MemA) : List Str := m.defs.map (·.1) ++ m.wants
def nmsA (a : ArcA) : List Str := a.mems.flatMap nmsM
def nmsS (as : List ArcA) : List Str := as.flatMap nmsA
theorem onceS_snoc {xs : List Str} {x : Str} : onceS (xs ++ [x]) = if x ∈ onceS xs then onceS xs else onceS xs ++ [x] := by
  unfold onceS
  rw [List.foldl_append]
  rfl
theorem onceS_le {xs : List Str} : (onceS xs).length ≤ xs.length := by
  have : ∀ (xs acc : List Str), (xs.foldl (fun acc x => if x ∈ acc then acc else acc ++ [x]) acc).length ≤ acc.length + xs.length := fun xs => by
    induction xs with
    | nil => intro acc; exact Nat.le_refl _
    | cons x xs ih =>
      intro acc
      rw [List.foldl_cons]
      refine Nat.le_trans (ih _) ?_
      rw [List.length_cons]
      split
      · omega
      · rw [List.length_append, List.length_singleton]
        omega
  have := this xs []
  simpa [onceS] using this
theorem strs_mapM : ∀ xs : List Str, (xs.map D.str).mapM strD = some xs
  | [] => rfl
  | x :: xs => by
    rw [List.map_cons, List.mapM_cons, strs_mapM xs]
    rfl
structure NI (s : Sto) (seen : List Str) (s2 : Sto) : Prop where
  ef : Eff [] s s2
  hz : s.length < s2.length
  st : setAt s2 s.length = some ((onceS seen).map D.str)
theorem NI.eff {s t u : Sto} {seen : List Str} (h : NI s seen t) (e : Eff [] t u) : NI s seen u := ⟨h.ef.trans e, Nat.lt_of_lt_of_le h.hz e.le, e.st h.st (by simp)⟩
def tNamesIn (itb : Itb) (csM : List Str) : SM := (sC (sA 1 mSet0) (sC (sF (iSq (mV 0)) (gN 2) (sF (iOwn itb (mV 2)) (gN 3) (sF (iSq (m2 dAdd (mL (iSq (mFld csM "defines" (mV 3))) (gN 5) tY (m2 dIx (mV 5) (mC (.int 0))) [5]) (mN fList (aC (mFld csM "wants" (mV 3)) aN)))) (gN 4) (sE (mSAdd (mV 1) (aC (mV 4) aN)))))) (sR (mN (fSortZ fSortA) (aC (mV 1) aN)))))
theorem names_loop {s s0 : Sto} {L : Nat} {seen xs : List Str} {d0 : D} {o2 o3 o4 : Option D} {Q : En} (h0 : NI s seen s0) (hL : mlAt s0 L = some (xs.map D.str)) (hl : seen.length + xs.length ≤ 3000)
    (fin : ∀ o4 s2, NI s (seen ++ xs) s2 → Eff [] s s2 → Q.nx [some d0, some (.ref s.length), o2, o3, o4, none] s2) :
    (forL (jLst L) (gN 4) (sE (mSAdd (mV 1) (aC (mV 4) aN))) xs.length 0 [some d0, some (.ref s.length), o2, o3, o4, none] s0).wp Q := by
  have hne : L ≠ s.length := by
    rintro rfl
    have := setAt_get h0.st
    rw [mlAt_get hL] at this
    cases this
  refine for_j (xs := xs.map D.str) (by simp [-List.map_map]) (fun i e s2 => NI s (seen ++ xs.take i) s2 ∧ mlAt s2 L = some (xs.map D.str) ∧ ∃ o4, e = [some d0, some (.ref s.length), o2, o3, o4, none]) (fun i e s h => jlst_at (lstAt_ml h.2.1)) ?_ ⟨by simpa [-List.map_map] using h0, hL, _, rfl⟩ ?_
  · rintro i d e s2 hd ⟨⟨ef, hz, st⟩, hL2, o4, rfl⟩
    obtain ⟨x, hx, rfl⟩ : ∃ x, xs[i]? = some x ∧ d = .str x := by
      rw [List.getElem?_map] at hd
      obtain ⟨p, h1, h2⟩ := Option.map_eq_some_iff.mp hd
      exact ⟨p, h1, h2.symm⟩
    have hi := (List.getElem?_eq_some_iff.mp hx).1
    have lo := onceS_le (xs := seen ++ xs.take i)
    rw [List.length_append, List.length_take] at lo
    refine ⟨_, rfl, ?_⟩
    simp [-List.map_map, st]
    refine ⟨.inr x, rfl, by omega, ⟨ef.set (Nat.le_refl _), by rw [List.length_set]; exact hz, ?_⟩, by rw [mlAt_set_ne (Ne.symm hne)]; exact hL2⟩
    rw [setAt_some (List.getElem?_set_self hz), take_snoc hx, ← List.append_assoc, onceS_snoc, inKs_strs]
    by_cases q : x ∈ onceS (seen ++ xs.take i)
    · rw [decide_eq_true q, if_pos rfl, if_pos q]
    · rw [decide_eq_false q, if_neg Bool.false_ne_true, if_neg q, List.map_append]
      rfl
  · rintro e s2 ⟨h, hL2, o4, rfl⟩
    rw [List.length_map, List.take_length] at h
    exact fin o4 s2 h h.ef
theorem flat_snoc {α β : Type} {f : α → List β} {l : List α} {i : Nat} {a : α} (h : l[i]? = some a) : (l.take (i + 1)).flatMap f = (l.take i).flatMap f ++ f a := by
  rw [take_snoc h, List.flatMap_append]
  simp [-List.map_map]
theorem flat_part {α β : Type} {f : α → List β} {l : List α} {i : Nat} {a : α} (h : l[i]? = some a) : ((l.take i).flatMap f).length + (f a).length ≤ (l.flatMap f).length := by
  have := flat_take (f := f) (l := l) (i := i + 1)
  rw [flat_snoc h, List.length_append] at this
  exact this
theorem names_in_gen {itb : Itb} {csM : List Str} (hM : ("Member" : Str) ∈ csM) (hi : itb.lookup ("Archive" : Str) = some ("members" : Str)) {s : Sto} {ds : List D} {as : List ArcA} (hA : AllR (IsArc s) ds as) (hl : (nmsS as).length ≤ 3000) (ok : ∀ x ∈ nmsS as, strOk x = true) :
    (fnM 1 6 (tNamesIn itb csM) [.tup ds] s).wp fun d s' => Eff [] s s' ∧ ∃ l, d = .ref l ∧ s.length ≤ l ∧ mlAt s' l = some ((sortS (onceS (nmsS as))).map D.str) := by
  refine wp_of fun P hP => ?_
  rw [z_fnM (by rfl)]
  unfold tNamesIn
  rw [z_sCn]
  simp [-List.map_map]
  show nxt _ _ _ _
  rw [z_nxC]
  have n0 : NI s [] (s ++ [SO.set []]) := ⟨Eff.push, by simp [-List.map_map], setAt_some (by simp [-List.map_map]; rfl)⟩
  generalize s ++ [SO.set []] = s0 at n0 ⊢
  simp [-List.map_map]
  refine for_it (ks := []) (s0 := s) (xs := ds) (it_tup rfl) (fun i e s1 => NI s (nmsS (as.take i)) s1 ∧ ∃ o2 o3 o4, e = [some (.tup ds), some (.ref s.length), o2, o3, o4, none]) (fun _ _ _ h => h.1.ef) ?_ ⟨by simpa [-List.map_map, nmsS] using n0, _, _, _, rfl⟩ ?_
  · rintro i da e s1 hdi ⟨h1, o2, o3, o4, rfl⟩
    obtain ⟨a, hai, ha⟩ := hA.get hdi
    obtain ⟨n, ms, rfl, hn, hms⟩ := ha
    have hits := itsO_ins (itb := itb) (h1.ef.get hn (by simp [-List.map_map])) hi rfl
    have b1 : (nmsS (as.take i)).length + (nmsA a).length ≤ (nmsS as).length := flat_part hai
    refine ⟨_, rfl, ?_⟩
    rw [z_sF]
    simp [-List.map_map]
    rw [hits, walkP_ins]
    refine for_it (ks := []) (s0 := s) (xs := ms) (it_tup rfl) (fun j e s2 => NI s (nmsS (as.take i) ++ (a.mems.take j).flatMap nmsM) s2 ∧ ∃ o3 o4, e = [some (.tup ds), some (.ref s.length), some (.ref n), o3, o4, none]) (fun _ _ _ h => h.1.ef) ?_ ⟨by simpa [-List.map_map] using h1, _, _, rfl⟩ ?_
    · rintro j dm e s2 hdj ⟨h2, o3, o4, rfl⟩
      obtain ⟨m, hmj, hm⟩ := hms.get hdj
      have hm2 := hm.eff0 h2.ef
      have b2 : ((a.mems.take j).flatMap nmsM).length + (nmsM m).length ≤ (nmsA a).length := flat_part hmj
      have b3 : (nmsM m).length = m.defs.length + m.wants.length := by unfold nmsM; simp [-List.map_map]
      refine ⟨_, rfl, ?_⟩
      rw [z_sF]
      simp [-List.map_map]
      rw [hm2.gdefs hM, z_ok]
      refine wp_ne (lc_mapR (ks := []) (fun d p => d = defD p) (fun p => .str p.1) AllR.of_map (it_tup rfl) bags_nil (by rw [size_line]; omega) fun d3 p s3 hp _ ef3 _ => ?_) ?_
      · subst hp
        refine ⟨_, rfl, ?_⟩
        simp [-List.map_map, defD, Eff.refl]
      rintro _ s3 ⟨rfl, ef3, lt3, hl3⟩
      rw [(hm2.eff0 ef3).gwants hM, z_ok]
      simp [-List.map_map]
      refine ⟨by rw [size_line]; omega, ?_⟩
      rw [show mlAt (s3 ++ [SO.lst (m.wants.map D.str)]) s2.length = some (m.defs.map fun p => D.str p.1) by rw [mlAt_app lt3]; exact hl3, lstP_some]
      have e6 : Eff [] s3 (s3 ++ [SO.lst (m.wants.map D.str), SO.lst ((m.defs.map fun p => D.str p.1) ++ m.wants.map D.str)]) := by
        have := (Eff.push (ks := []) (s := s3) (o := SO.lst (m.wants.map D.str))).trans (Eff.push (o := SO.lst ((m.defs.map fun p => D.str p.1) ++ m.wants.map D.str)))
        simpa [-List.map_map] using this
      have en : (m.defs.map fun p => D.str p.1) ++ m.wants.map D.str = (nmsM m).map D.str := by
        unfold nmsM
        rw [List.map_append, List.map_map]
        rfl
      have g6 : mlAt (s3 ++ [SO.lst (m.wants.map D.str), SO.lst ((m.defs.map fun p => D.str p.1) ++ m.wants.map D.str)]) (s3.length + 1) = some ((nmsM m).map D.str) := by rw [← en]; exact mlAt_some (by rw [List.getElem?_append_right (by omega)]; simp [-List.map_map])
      refine ⟨by rw [List.length_map, size_line]; omega, ?_⟩
      generalize s3 ++ [SO.lst (m.wants.map D.str), SO.lst ((m.defs.map fun p => D.str p.1) ++ m.wants.map D.str)] = s6 at e6 g6 ⊢
      rw [lstAt_ml g6, lstP_some, List.length_map]
      have h6 := (h2.eff ef3).eff e6
      refine names_loop h6 g6 (by rw [List.length_append]; omega) ?_
      intro o4' s7 h7 _
      refine ⟨?_, _, _, rfl⟩
      rw [flat_snoc hmj, ← List.append_assoc]
      exact h7
    · rintro e s2 ⟨h2, o3, o4, rfl⟩
      rw [hms.1, List.take_length] at h2
      refine ⟨?_, _, _, _, rfl⟩
      unfold nmsS
      rw [flat_snoc hai]
      exact h2
  · rintro e s1 ⟨h1, o2, o3, o4, rfl⟩
    rw [hA.1, List.take_length] at h1
    dsimp only
    rw [z_nxt]
    simp [-List.map_map]
    rw [z_sortZ h1.st (strs_mapM _) fun z hz => ok z ((onceS_mem _ _).mp hz)]
    exact hP _ _ ⟨h1.ef.trans Eff.push, _, rfl, Nat.le_of_lt h1.hz, mlAt_push⟩
end Z

set_option Elab.async false
set_option linter.all false
set_option maxRecDepth 100000
set_option maxHeartbeats 4000000
namespace Z
open PySem PySem.Spec PyProof.Rows L2 TL
open PySem.PyData (strOk)
def tGetS (tb : Tb) (cs csI : List Str) : SM := (sC (sI (toB (m2 (dInO true tb dNo2) (mV 1) (mV 0))) sNo sN) (sR (m2 dIx (mL (iSq (mFld cs "archives" (mV 0))) (gN 2) (toB (m2 dEq (mFld csI "name" (mV 2)) (mV 1))) (mV 2) [2]) (mC (.int 0)))))
theorem get_sto {F : MF} {tb : Tb} {cs csI : List Str} (hc : ("Store" : Str) ∈ cs) (hI : ("Archive" : Str) ∈ csI) (ht : tb.lookup ("Store" : Str) = some F)
    {s : Sto} {d : D} {a : List ArcA} {m : ArcA} (hF : (F [d, .str m.name] s).wp fun d' s' => d' = .bl (decide (m.name ∈ a.map (·.name))) ∧ Eff [] s s') (ha : IsSto s d a) (hm : m ∈ a) (nd : (a.map (·.name)).Nodup) (hl : a.length ≤ 1000) :
    (fnM 2 3 (tGetS tb cs csI) [d, .str m.name] s).wp fun d' s' => IsArc s' d' m ∧ Eff [] s s' := by
  refine wp_of fun P hP => ?_
  rw [z_fnM (by rfl)]
  unfold tGetS
  rw [z_sCn]
  simp
  rw [ha.ins, clsP_some, ht, optP_some]
  refine wp_ne hF ?_
  rintro d' s1 ⟨rfl, ef1⟩
  have hin : m.name ∈ a.map (·.name) := List.mem_map_of_mem hm
  simp [show ∃ x, x ∈ a ∧ x.name = m.name from ⟨m, hm, rfl⟩]
  show nxt _ _ _ _
  rw [z_nxt]
  obtain ⟨ds, e, hds⟩ := (ha.eff0 ef1).garcs hc
  simp
  rw [e, z_ok]
  refine wp_ne (lc_filtR (ks := []) (IsArc s1) (IsArc s1) (fun m2 => decide (m2.name = m.name)) hds (it_tup rfl) bags_nil (by rw [size_line]; omega) fun d m2 s3 hm2 _ ef _ => ?_) ?_
  · refine ⟨_, rfl, ?_⟩
    simp
    rw [(hm2.eff0 ef).gname hI, z_ok, z_eqS, blP_bl]
    refine ⟨Eff.refl, rfl, fun _ => ⟨Eff.refl, hm2⟩⟩
  rintro d2 s2 ⟨rfl, ef, hlt, ys, hy, hR⟩
  have key : ∀ ms : List ArcA, m ∈ ms → (ms.map (·.name)).Nodup → ms.filter (fun m2 => decide (m2.name = m.name)) = [m] := by
    intro ms
    induction ms with
    | nil => intro h; simp at h
    | cons x ms ih =>
      intro h nd
      rw [List.map_cons, List.nodup_cons] at nd
      rcases List.mem_cons.mp h with rfl | h
      · rw [List.filter_cons_of_pos (by simp)]
        congr 1
        rw [List.filter_eq_nil_iff]
        intro y hy
        simp only [decide_eq_true_eq]
        intro q
        exact nd.1 (q ▸ List.mem_map_of_mem hy)
      · rw [List.filter_cons_of_neg (by
          simp only [decide_eq_true_eq]
          intro q
          exact nd.1 (q ▸ List.mem_map_of_mem h))]
        exact ih h nd.2
  rw [key a hm nd] at hR
  obtain ⟨y, rfl⟩ : ∃ y, ys = [y] := List.length_eq_one_iff.mp hR.1
  have hy1 := hR.2 0 y m rfl rfl
  rw [z_ixL, lstAt_ml hy]
  simp
  exact hP _ _ ⟨(hy1.eff0 ef), ef1.trans ef⟩

/-- in: what is no text -/
theorem cont_no {cs csI : List Str} {f : Str} {s : Sto} {d x : D} {n : String} (h : tyN s x = some n) (hk : kitB n "str" = some false) {P : D → Sto → Prop} {E : Str → Str → D → Sto → Prop} (hP : P (.bl false) s) : (fnM 2 3 (tCont cs csI f) [d, x] s).wp P E := by
  rw [z_fnM (by rfl)]
  unfold tCont
  simp only [z_sR, z_mAnd]
  rw [z_isi]
  simp
  exact ⟨n, h, .inl ⟨hk, hP⟩⟩
end Z

set_option Elab.async false
set_option linter.all false
set_option maxRecDepth 100000
set_option maxHeartbeats 4000000
namespace Z
open PySem PySem.Spec PyProof.Rows L2 TL
open PySem.PyData (strOk)
/-! ### what a drawn store is good for -/
def nmsR (r : RowB) : List Str := r.gs.map (·.1) ++ r.ws
def nmsB (ps : List ArcB) : List Str := ps.flatMap fun p => p.2.flatMap nmsR
theorem nmsM_perm (r : RowB) : (nmsM (memB r)).Perm (nmsR r) := ((sortP_perm r.gs).map _).append (sortS_perm r.ws)
theorem nms_perm {ps : List ArcB} : (nmsS (ps.map arcW)).Perm (nmsB ps) := by
  unfold nmsS nmsB
  rw [flat_map']
  refine perm_flat fun p _ => ?_
  show (((p.2.map memB).flatMap nmsM)).Perm _
  rw [flat_map']
  exact perm_flat fun r _ => nmsM_perm r
theorem sum_le {α β : Type} {f : α → List β} {b : Nat} : ∀ {l : List α}, (∀ a ∈ l, (f a).length ≤ b) → (l.flatMap f).length ≤ b * l.length
  | [], _ => by simp
  | a :: l, h => by
    have h1 := h a List.mem_cons_self
    have h2 := sum_le (f := f) fun x hx => h x (List.mem_cons_of_mem a hx)
    rw [List.flatMap_cons, List.length_append, List.length_cons, Nat.mul_add]
    omega
theorem RowG1.nl {names : List Str} {r : RowB} (h : RowG1 names r) : (nmsR r).length ≤ 5 := by
  unfold nmsR
  rw [List.length_append, List.length_map]
  have := h.l1
  have := h.l2
  omega
theorem ArcG1.nl {names : List Str} {p : ArcB} (h : ArcG1 names p) : (p.2.flatMap nmsR).length ≤ 15 := by
  have := sum_le (f := nmsR) (b := 5) (l := p.2) fun r hr => (h.row r hr).nl
  have := h.len
  omega
theorem StoW.nl {names : List Str} {ps : List ArcB} (h : StoW names ps) : (nmsB ps).length ≤ 90 := by
  have := sum_le (f := fun p : ArcB => p.2.flatMap nmsR) (b := 15) (l := ps) fun p hp => (h.arc p hp).nl
  have := h.len
  unfold nmsB
  omega
theorem StoW.nmsB {names : List Str} {ps : List ArcB} (h : StoW names ps) : ∀ x ∈ nmsB ps, x ∈ names := fun x hx => by
  obtain ⟨p, hp, hx⟩ := List.mem_flatMap.mp hx
  obtain ⟨r, hr, hx⟩ := List.mem_flatMap.mp hx
  exact ((h.arc p hp).row r hr).sub x hx
theorem okM_of {names : List Str} {r : RowB} (h : RowG1 names r) (hn : ∀ x ∈ names, IsName x) : okM (memB r) := by
  refine ⟨h.nm.ok, fun p hp => ?_, fun w hw => ?_⟩
  · have hp := (sortP_perm r.gs).mem_iff.mp hp
    exact ⟨(hn _ (h.sub _ (List.mem_append_left _ (List.mem_map_of_mem hp)))).ok, kinds_ok (h.kd p hp)⟩
  · have hw := (sortS_perm r.ws).mem_iff.mp hw
    exact (hn _ (h.sub _ (List.mem_append_right _ hw))).ok
theorem okA_of {names : List Str} {p : ArcB} (h : ArcG1 names p) (hn : ∀ x ∈ names, IsName x) : okArc (arcW p) := by
  refine ⟨h.nm.ok, ?_, fun m hm => ?_⟩
  · show (p.2.map memB).length ≤ 1000
    rw [List.length_map]
    have := h.len
    omega
  · obtain ⟨r, hr, rfl⟩ := List.mem_map.mp hm
    exact okM_of (h.row r hr) hn
theorem StoW.okA {names : List Str} {ps : List ArcB} (h : StoW names ps) (hn : ∀ x ∈ names, IsName x) : ∀ a ∈ ps.map arcW, okArc a := fun a ha => by
  obtain ⟨p, hp, rfl⟩ := List.mem_map.mp ha
  exact okA_of (h.arc p hp) hn
theorem StoW.lenA {names : List Str} {ps : List ArcB} (h : StoW names ps) : (ps.map arcW).length ≤ 1000 := by
  rw [List.length_map]
  have := h.len
  omega
/-! plain rows -/
theorem plains_strD {n : Nat} {xs : List Str} (h : ∀ x ∈ xs, strOk x = true) : plains n (xs.map D.str) = true := plains_iff.mpr fun d hd => by
  obtain ⟨x, hx, rfl⟩ := List.mem_map.mp hd
  rw [plain]
  exact h x hx
theorem plain_rowB {names : List Str} {n : Nat} {r : RowB} (h : RowG1 names r) (hn : ∀ x ∈ names, IsName x) : plain (n + 3) (rowB r) = true := by
  unfold rowB
  rw [plain, plains_iff]
  intro x hx
  simp only [List.mem_cons, List.not_mem_nil, or_false] at hx
  rcases hx with rfl | rfl | rfl
  · rw [plain]; exact h.nm.ok
  · rw [plain]
    exact plains_defs fun p hp => ⟨(hn _ (h.sub _ (List.mem_append_left _ (List.mem_map_of_mem hp)))).ok, kinds_ok (h.kd p hp)⟩
  · rw [plain]
    exact plains_strD fun w hw => (hn _ (h.sub _ (List.mem_append_right _ hw))).ok
theorem plain_arcB {names : List Str} {n : Nat} {p : ArcB} (h : ArcG1 names p) (hn : ∀ x ∈ names, IsName x) : plain (n + 5) (arcB p) = true := by
  unfold arcB
  rw [plain, plains_iff]
  intro x hx
  simp only [List.mem_cons, List.not_mem_nil, or_false] at hx
  rcases hx with rfl | rfl
  · rw [plain]; exact h.nm.ok
  · rw [plain, plains_iff]
    intro x hx
    obtain ⟨r, hr, rfl⟩ := List.mem_map.mp hx
    exact plain_rowB (h.row r hr) hn
theorem plains_arcB {names : List Str} {ps : List ArcB} (h : ∀ p ∈ ps, ArcG1 names p) (hn : ∀ x ∈ names, IsName x) : plains 20 (ps.map arcB) = true := plains_iff.mpr fun d hd => by
  obtain ⟨p, hp, rfl⟩ := List.mem_map.mp hd
  exact plain_arcB (n := 15) (h p hp) hn
theorem rowB_inj {a b : RowB} (h : rowB a = rowB b) : a = b := by
  obtain ⟨a1, a2, a3⟩ := a
  obtain ⟨b1, b2, b3⟩ := b
  unfold rowB at h
  simp only [List.cons.injEq, and_true, D.str.injEq, D.tup.injEq] at h
  obtain ⟨rfl, e2, e3⟩ := h
  rw [map_inj' (fun _ _ => defD_inj) e2, map_inj' (fun _ _ h => by injection h) e3]
theorem arcB_inj {a b : ArcB} (h : arcB a = arcB b) : a = b := by
  obtain ⟨a1, a2⟩ := a
  obtain ⟨b1, b2⟩ := b
  unfold arcB at h
  simp only [List.cons.injEq, and_true, D.str.injEq, D.tup.injEq] at h
  obtain ⟨rfl, e2⟩ := h
  rw [map_inj' (fun _ _ => rowB_inj) e2]
/-- a store is told by its rows, read backwards or not -/
theorem perm_names {ps qs : List ArcB} (hp : qs.Perm ps) (nd : (ps.map (·.1)).Nodup) (h : qs.map (·.1) = ps.map (·.1)) : qs = ps := by
  refine List.ext_getElem hp.length_eq fun i h1 h2 => ?_
  have hm : qs[i] ∈ ps := hp.mem_iff.mp (List.getElem_mem h1)
  have e1 : (qs.map (·.1))[i]? = (ps.map (·.1))[i]? := by rw [h]
  rw [List.getElem?_map, List.getElem?_map, List.getElem?_eq_getElem h1, List.getElem?_eq_getElem h2] at e1
  have e1 : qs[i].1 = ps[i].1 := Option.some.inj e1
  obtain ⟨j, hj, e2⟩ := List.getElem_of_mem hm
  have e3 : (ps.map (·.1))[j]'(by simpa using hj) = (ps.map (·.1))[i]'(by simpa using h2) := by
    rw [List.getElem_map, List.getElem_map, e2, e1]
  have := (List.getElem_inj nd).mp e3
  subst this
  exact e2.symm
end Z

set_option Elab.async false
set_option linter.all false
set_option maxRecDepth 100000
set_option maxHeartbeats 4000000
namespace Z
open PySem PySem.Spec PyProof.Rows L2 TL
open PySem.PyData (strOk)
/-! ### lists of new instances -/
def Keep (s t : Sto) : Prop := ∀ (i : Nat) (c : Str) (fs : List (Str × D)), s[i]? = some (.ins c fs) → t[i]? = some (.ins c fs)
theorem Keep.of {s t : Sto} (h : Eff [] s t) : Keep s t := fun i c fs e => h.get e (by simp)
theorem Keep.trans {s t u : Sto} (h : Keep s t) (h2 : Keep t u) : Keep s u := fun i c fs e => h2 i c fs (h i c fs e)
theorem Keep.set {s : Sto} {n : Nat} {o o' : SO} (h : s[n]? = some o) (ho : ∀ c fs, o ≠ .ins c fs) : Keep s (s.set n o') := fun i c fs hi => by
  have : n ≠ i := by
    rintro rfl
    rw [h] at hi
    exact ho c fs (Option.some.inj hi)
  rw [List.getElem?_set_ne this]
  exact hi
theorem IsMem.keep {s t : Sto} {d : D} {m : MemA} (h : IsMem s d m) (k : Keep s t) : IsMem t d m := by
  obtain ⟨n, h1, h2⟩ := h
  exact ⟨n, h1, k _ _ _ h2⟩
theorem IsArc.keep {s t : Sto} {d : D} {m : ArcA} (h : IsArc s d m) (k : Keep s t) : IsArc t d m := by
  obtain ⟨n, ds, h1, h2, h3⟩ := h
  exact ⟨n, ds, h1, k _ _ _ h2, h3.mono fun _ _ h => h.keep k⟩
theorem IsSto.keep {s t : Sto} {d : D} {m : List ArcA} (h : IsSto s d m) (k : Keep s t) : IsSto t d m := by
  obtain ⟨n, ds, h1, h2, h3⟩ := h
  exact ⟨n, ds, h1, k _ _ _ h2, h3.mono fun _ _ h => h.keep k⟩
theorem lc_allS {α : Type} {e : Ev} {s0 : Sto} {j : Stp} {g : GN} {N : Nat} {xs : List D} {mm : EM D} (R : D → α → Prop) (R2 : Sto → D → α → Prop) (mono : ∀ {s t : Sto} {y : D} {a : α}, R2 s y a → Keep s t → R2 t y a) {as : List α} (hR : AllR R xs as) (it : ItOk [] s0 j N xs) (hl : as.length < sizeLine)
    (body : ∀ d a s, R d a → a ∈ as → Eff [] s0 s → ∃ e1, g d e = some e1 ∧ (mm e1 s).wp fun y s2 => Eff [] s s2 ∧ R2 s2 y a) :
    (lcL j g tY mm s0.length N 0 e (s0 ++ [.lst []])).wp fun d s' => d = .ref s0.length ∧ Eff [] s0 s' ∧ s0.length < s'.length ∧ ∃ ys, mlAt s' s0.length = some ys ∧ AllR (R2 s') ys as := by
  refine wp_ne (lcL_wp (N := N) (fun i acc s => Eff [] s0 s ∧ s0.length < s.length ∧ AllR (R2 s) acc (as.take i)) ?_ N 0 [] _ (by simp) ⟨Eff.push, by simp, by simpa using AllR.nil⟩ (by simp)) ?_
  · rintro i acc s hi ⟨ef, hlt, hA⟩ hs
    have hNx := it.1
    have hxa := hR.1
    refine ⟨fun h => ?_, fun h => ?_⟩
    · rw [it.2 i s ef, List.getElem?_eq_none (by omega)]
    · have hi2 : i < xs.length := by omega
      have ha : as[i]? = some (as[i]'(by omega)) := List.getElem?_eq_getElem _
      generalize as[i]'(by omega) = a at ha
      obtain ⟨e1, h1, h2⟩ := body xs[i] a s (hR.2 i _ _ (List.getElem?_eq_getElem hi2) ha) (List.mem_of_getElem? ha) ef
      refine ⟨xs[i], e1, by rw [it.2 i s ef, List.getElem?_eq_getElem hi2], h1, ?_⟩
      rw [z_tY, if_pos rfl]
      refine wp_ne h2 ?_
      rintro y s2 ⟨ef2, hy⟩
      have hs2 := ef2.get hs (by simp)
      have la : acc.length = i := by rw [hA.1, List.length_take]; omega
      have k2 : Keep s2 (s2.set s0.length (.lst (acc ++ [y]))) := Keep.set hs2 fun c fs h => by cases h
      refine ⟨hs2, by omega, (ef.trans ef2).set (Nat.le_refl _), by rw [List.length_set]; exact Nat.lt_of_lt_of_le hlt ef2.le, ?_⟩
      rw [take_snoc ha]
      refine ⟨by rw [List.length_append, List.length_append, hA.1]; rfl, fun q d b hq hb => ?_⟩
      by_cases hqi : q < i
      · rw [List.getElem?_append_left (by omega)] at hq
        rw [List.getElem?_append_left (by rw [← hA.1]; omega)] at hb
        exact mono (hA.2 q d b hq hb) ((Keep.of ef2).trans k2)
      · have : q = i := by
          have := (List.getElem?_eq_some_iff.mp hq).1
          rw [List.length_append, List.length_singleton] at this
          omega
        subst this
        rw [List.getElem?_append_right (by omega), la, Nat.sub_self] at hq
        rw [List.getElem?_append_right (by rw [← hA.1]; omega), ← hA.1, la, Nat.sub_self] at hb
        cases hq
        cases hb
        exact mono hy k2
  · rintro d s' ⟨rfl, ys, h1, ef, hlt, hA⟩
    refine ⟨rfl, ef, hlt, ys, mlAt_some h1, ?_⟩
    rw [it.1, hR.1, List.take_length] at hA
    exact hA
end Z

set_option Elab.async false
set_option linter.all false
set_option maxRecDepth 100000
set_option maxHeartbeats 4000000
namespace Z
open PySem PySem.Spec PyProof.Rows L2 TL
open PySem.PyData (strOk)
/-! ### repr of a list of names -/
mutual
def onlyT : D → Bool
  | .str _ => true
  | .tup xs => onlyTs xs
  | _ => false
def onlyTs : List D → Bool
  | [] => true
  | x :: xs => onlyT x && onlyTs xs
end
theorem onlyTs_iff : ∀ {xs : List D}, onlyTs xs = true ↔ ∀ x ∈ xs, onlyT x = true
  | [] => by simp [onlyTs]
  | x :: xs => by simp [onlyTs, onlyTs_iff (xs := xs)]
mutual
theorem only_show : ∀ d : D, onlyT d = true → (enc d).showable = true ∧ (enc d).intsShort 13 = true
  | .str x, _ => by simp [enc, PyData.showable, PyData.intsShort]
  | .tup xs, h => by
    rw [onlyT] at h
    have := onlys_show xs h
    rw [enc, PyData.showable, PyData.intsShort]
    exact this
  | .non, h => absurd h (by simp [onlyT])
  | .bl _, h => absurd h (by simp [onlyT])
  | .int _, h => absurd h (by simp [onlyT])
  | .ref _, h => absurd h (by simp [onlyT])
theorem onlys_show : ∀ xs : List D, onlyTs xs = true → PyData.showableAll (encs xs) = true ∧ PyData.intsShortAll 13 (encs xs) = true
  | [], _ => by simp [encs, PyData.showableAll, PyData.intsShortAll]
  | x :: xs, h => by
    rw [onlyTs, Bool.and_eq_true] at h
    obtain ⟨h1, h2⟩ := only_show x h.1
    obtain ⟨h3, h4⟩ := onlys_show xs h.2
    rw [encs, PyData.showableAll, PyData.intsShortAll, h1, h2, h3, h4]
    exact ⟨rfl, rfl⟩
end
theorem weights_le {B : Nat} : ∀ {xs : List D}, (∀ x ∈ xs, (enc x).weight ≤ B) → PyData.weightAll (encs xs) ≤ xs.length * (B + 1)
  | [], _ => by simp [encs, PyData.weightAll]
  | x :: xs, h => by
    have h1 := h x (by simp)
    have h2 := weights_le (xs := xs) fun y hy => h y (by simp [hy])
    rw [encs, PyData.weightAll, List.length_cons, Nat.add_mul, Nat.one_mul]
    omega
theorem repr_wp {P : D → Sto → Prop} {E : Str → Str → D → Sto → Prop} {s : Sto} {n : Nat} {xs : List D} (hx : lstAt s n = some xs) (h : plains 20 xs = true) (ho : onlyTs xs = true) (hw : PyData.weightAll (encs xs) ≤ 2 ^ 20) (hP : P (.str (PyData.list (encs xs)).shown) s) : (fRepr [.ref n] s).wp P E := by
  rw [z_repr]
  obtain ⟨h1, h2⟩ := onlys_show xs ho
  obtain ⟨h3, h4⟩ := canLays_plain 20 xs h
  refine ⟨_, shp_lst hx h, ⟨by rw [PyData.showable]; exact h1, ?_⟩, hP⟩
  have := PyProof.Rows.shown_le13 (d := .list (encs xs)) (by
    unfold PyData.layable0
    rw [PyData.canLay0, h3, PyData.depth, PyData.weight]
    simp only [Bool.true_and, Bool.and_eq_true, decide_eq_true_eq]
    exact ⟨by omega, hw⟩) (by rw [PyData.intsShort]; exact h2)
  rw [size_line]
  omega
theorem w_str (x : Str) : (enc (.str x)).weight = x.length := by rw [enc, PyData.weight]; rfl
def reprS (xs : List Str) : Str := (PyData.list (encs (xs.map D.str))).shown
theorem repr_names {P : D → Sto → Prop} {E : Str → Str → D → Sto → Prop} {s : Sto} {n : Nat} {xs : List Str} (hx : lstAt s n = some (xs.map D.str)) (h : ∀ x ∈ xs, IsName x) (hl : xs.length ≤ 1000) (hP : P (.str (reprS xs)) s) : (fRepr [.ref n] s).wp P E := by
  refine repr_wp hx (plains_strD fun x hx => (h x hx).ok) (onlyTs_iff.mpr fun d hd => ?_) ?_ hP
  · obtain ⟨x, _, rfl⟩ := List.mem_map.mp hd
    rfl
  · refine Nat.le_trans (weights_le (B := 8) fun d hd => ?_) (by rw [List.length_map]; omega)
    obtain ⟨x, hx, rfl⟩ := List.mem_map.mp hd
    rw [w_str]
    exact (h x hx).l8
end Z

set_option Elab.async false
set_option linter.all false
set_option maxRecDepth 100000
set_option maxHeartbeats 4000000
namespace Z
open PySem PySem.Spec PyProof.Rows L2 TL
open PySem.PyData (strOk)
/-! ### what _law_told tells: lists in tuples in a list -/
def toldM (m : MemA) : PyData := .tuple [.str m.name, .list (encs (m.defs.map defD)), .list (encs (m.wants.map D.str))]
def toldA (a : ArcA) : PyData := .tuple [.str a.name, .list (a.mems.map toldM)]
def toldS (as : List ArcA) : PyData := .list (as.map toldA)
theorem plains_okM {n : Nat} {m : MemA} (h : okM m) : plains (n + 1) (m.defs.map defD) = true ∧ plains (n + 1) (m.wants.map D.str) = true := ⟨plains_defs h.2.1, plains_strD h.2.2⟩
theorem lay_all {α : Type} {f : α → PyData} {n : Nat} : ∀ {xs : List α}, (∀ x ∈ xs, (f x).canLay0 = true ∧ (f x).depth ≤ n) → PyData.canLayAll0 (xs.map f) = true ∧ PyData.depthAll (xs.map f) ≤ n
  | [], _ => by simp [PyData.canLayAll0, PyData.depthAll]
  | x :: xs, h => by
    obtain ⟨h1, h2⟩ := h x List.mem_cons_self
    obtain ⟨h3, h4⟩ := lay_all (xs := xs) fun y hy => h y (List.mem_cons_of_mem _ hy)
    rw [List.map_cons, PyData.canLayAll0, PyData.depthAll, h1, h3]
    exact ⟨rfl, Nat.max_le.mpr ⟨h2, h4⟩⟩
theorem lay_M {m : MemA} (h : okM m) : (toldM m).canLay0 = true ∧ (toldM m).depth ≤ 10 := by
  obtain ⟨h1, h2⟩ := plains_okM (n := 7) h
  obtain ⟨a1, a2⟩ := canLays_plain 8 _ h1
  obtain ⟨b1, b2⟩ := canLays_plain 8 _ h2
  unfold toldM
  simp only [PyData.canLay0, PyData.canLayAll0, PyData.depth, PyData.depthAll, a1, b1, h.1, Bool.and_self, Bool.and_true]
  exact ⟨trivial, by omega⟩
theorem lay_A {a : ArcA} (h : okArc a) : (toldA a).canLay0 = true ∧ (toldA a).depth ≤ 12 := by
  obtain ⟨a1, a2⟩ := lay_all (f := toldM) (n := 10) (xs := a.mems) fun m hm => lay_M (h.2.2 m hm)
  unfold toldA
  simp only [PyData.canLay0, PyData.canLayAll0, PyData.depth, PyData.depthAll, a1, h.1, Bool.and_self, Bool.and_true]
  exact ⟨trivial, by omega⟩
theorem lay_S {as : List ArcA} (h : ∀ a ∈ as, okArc a) : SeqAt.shaped (toldS as) = true := by
  obtain ⟨a1, a2⟩ := lay_all (f := toldA) (n := 12) (xs := as) fun a ha => lay_A (h a ha)
  refine shaped_of ?_ ?_
  · unfold toldS
    rw [PyData.canLay0]
    exact a1
  · unfold toldS
    rw [PyData.depth]
    omega
theorem eqv_all {α : Type} {f : α → PyData} {ok : α → Prop} (hf : ∀ a b, ok a → ok b → (PyData.eqv (f a) (f b) = true ↔ a = b)) : ∀ {xs ys : List α}, (∀ x ∈ xs, ok x) → (∀ x ∈ ys, ok x) → (PyData.eqvAll (xs.map f) (ys.map f) = true ↔ xs = ys)
  | [], [], _, _ => by simp [PyData.eqvAll]
  | [], _ :: _, _, _ => by simp [PyData.eqvAll]
  | _ :: _, [], _, _ => by simp [PyData.eqvAll]
  | x :: xs, y :: ys, h1, h2 => by
    rw [List.map_cons, List.map_cons, PyData.eqvAll, Bool.and_eq_true, hf x y (h1 x List.mem_cons_self) (h2 y List.mem_cons_self), eqv_all hf (fun z hz => h1 z (List.mem_cons_of_mem _ hz)) (fun z hz => h2 z (List.mem_cons_of_mem _ hz))]
    simp
theorem eqv_str' {a b : Str} : PyData.eqv (.str a) (.str b) = true ↔ a = b := by
  rw [PyData.eqv]
  simp
theorem eqv_M (a b : MemA) (ha : okM a) (hb : okM b) : PyData.eqv (toldM a) (toldM b) = true ↔ a = b := by
  obtain ⟨h1, h2⟩ := plains_okM (n := 7) ha
  obtain ⟨k1, k2⟩ := plains_okM (n := 7) hb
  unfold toldM
  rw [PyData.eqv, PyData.eqvAll, PyData.eqvAll, PyData.eqvAll, PyData.eqvAll, Bool.and_eq_true, Bool.and_eq_true, Bool.and_true, eqv_str']
  rw [show PyData.eqv (.list (encs (a.defs.map defD))) (.list (encs (b.defs.map defD))) = PyData.eqvAll (encs (a.defs.map defD)) (encs (b.defs.map defD)) by rw [PyData.eqv]]
  rw [show PyData.eqv (.list (encs (a.wants.map D.str))) (.list (encs (b.wants.map D.str))) = PyData.eqvAll (encs (a.wants.map D.str)) (encs (b.wants.map D.str)) by rw [PyData.eqv]]
  rw [eqvs_enc 8 _ _ h1 k1, eqvs_enc 8 _ _ h2 k2]
  obtain ⟨a1, a2, a3⟩ := a
  obtain ⟨b1, b2, b3⟩ := b
  constructor
  · rintro ⟨e1, e2, e3⟩
    have f1 : a1 = b1 := e1
    have f2 : a2 = b2 := map_inj' (fun _ _ => defD_inj) e2
    have f3 : a3 = b3 := map_inj' (fun _ _ h => by injection h) e3
    rw [f1, f2, f3]
  · intro h
    injection h with e1 e2 e3
    subst e1 e2 e3
    exact ⟨rfl, rfl, rfl⟩
theorem eqv_A (a b : ArcA) (ha : okArc a) (hb : okArc b) : PyData.eqv (toldA a) (toldA b) = true ↔ a = b := by
  unfold toldA
  rw [PyData.eqv, PyData.eqvAll, PyData.eqvAll, PyData.eqvAll, Bool.and_eq_true, Bool.and_true, eqv_str']
  rw [show PyData.eqv (.list (a.mems.map toldM)) (.list (b.mems.map toldM)) = PyData.eqvAll (a.mems.map toldM) (b.mems.map toldM) by rw [PyData.eqv]]
  rw [eqv_all eqv_M ha.2.2 hb.2.2]
  obtain ⟨a1, a2⟩ := a
  obtain ⟨b1, b2⟩ := b
  constructor
  · rintro ⟨rfl, e2⟩
    rw [show a2 = b2 from e2]
  · intro h
    injection h with e1 e2
    exact ⟨e1, e2⟩
theorem eqv_S {as bs : List ArcA} (ha : ∀ a ∈ as, okArc a) (hb : ∀ a ∈ bs, okArc a) : PyData.eqv (toldS as) (toldS bs) = decide (as = bs) := by
  unfold toldS
  rw [PyData.eqv]
  have := eqv_all eqv_A ha hb
  by_cases e : as = bs
  · rw [decide_eq_true e, this.mpr e]
  · rw [decide_eq_false e]
    exact Bool.eq_false_iff.mpr fun h => e (this.mp h)
/-! what stands for it in the store -/
def TM (L : Nat) (s : Sto) (d : D) (m : MemA) : Prop := ∃ a b, L < a ∧ L < b ∧ d = .tup [.str m.name, .ref a, .ref b] ∧ mlAt s a = some (m.defs.map defD) ∧ mlAt s b = some (m.wants.map D.str)
def TA (n : Nat) (s : Sto) (d : D) (a : ArcA) : Prop := ∃ L ds, n < L ∧ d = .tup [.str a.name, .ref L] ∧ mlAt s L = some ds ∧ AllR (TM L s) ds a.mems
/-- what lies behind n stays -/
def Stay (n : Nat) (s t : Sto) : Prop := s.length ≤ t.length ∧ ∀ i, i < s.length → n < i → t[i]? = s[i]?
theorem Stay.ml {n : Nat} {s t : Sto} (h : Stay n s t) {i : Nat} {xs : List D} (hi : n < i) (hx : mlAt s i = some xs) : mlAt t i = some xs :=
  mlAt_some (by rw [h.2 i (lstAt_lt (lstAt_ml hx)) hi]; exact mlAt_get hx)
theorem Stay.of {n : Nat} {s t : Sto} (h : Eff [] s t) : Stay n s t := ⟨h.le, fun i hi _ => h.eq i hi (by simp)⟩
theorem Stay.trans {n : Nat} {s t u : Sto} (h : Stay n s t) (h2 : Stay n t u) : Stay n s u := ⟨Nat.le_trans h.1 h2.1, fun i hi hn => by rw [h2.2 i (Nat.lt_of_lt_of_le hi h.1) hn, h.2 i hi hn]⟩
theorem Stay.set {n : Nat} {s : Sto} {o : SO} : Stay n s (s.set n o) := ⟨by simp, fun i _ hn => List.getElem?_set_ne (by omega)⟩
theorem Stay.le {n m : Nat} {s t : Sto} (h : Stay n s t) (hm : n ≤ m) : Stay m s t := ⟨h.1, fun i hi hn => h.2 i hi (by omega)⟩
theorem TM.stay {L : Nat} {s t : Sto} {d : D} {m : MemA} (h : TM L s d m) (e : Stay L s t) : TM L t d m := by
  obtain ⟨a, b, h1, h2, rfl, h3, h4⟩ := h
  exact ⟨a, b, h1, h2, rfl, e.ml h1 h3, e.ml h2 h4⟩
theorem TA.stay {n : Nat} {s t : Sto} {d : D} {a : ArcA} (h : TA n s d a) (e : Stay n s t) : TA n t d a := by
  obtain ⟨L, ds, h1, rfl, h2, h3⟩ := h
  exact ⟨L, ds, h1, rfl, e.ml h1 h2, h3.mono fun _ _ h => h.stay (e.le (Nat.le_of_lt h1))⟩
theorem mapM_allR {α : Type} {R : D → α → Prop} {f : D → Option PyData} {g : α → PyData} (ok : α → Prop) (hf : ∀ d a, R d a → ok a → f d = some (g a)) : ∀ {ds : List D} {as : List α}, AllR R ds as → (∀ a ∈ as, ok a) → ds.mapM f = some (as.map g)
  | [], [], _, _ => rfl
  | [], _ :: _, h, _ => by have := h.1; simp at this
  | _ :: _, [], h, _ => by have := h.1; simp at this
  | d :: ds, a :: as, h, k => by
    have h1 := hf d a (h.2 0 d a rfl rfl) (k a List.mem_cons_self)
    have h2 := mapM_allR ok hf (ds := ds) (as := as) ⟨by have := h.1; simpa using this, fun i d a h3 h4 => h.2 (i + 1) d a (by simpa using h3) (by simpa using h4)⟩ fun b hb => k b (List.mem_cons_of_mem _ hb)
    rw [List.mapM_cons, h1, h2]
    rfl
theorem pyd_TM {L : Nat} {s : Sto} {d : D} {m : MemA} (h : TM L s d m) (ok : okM m) : pyd 27 s d = some (toldM m) := by
  obtain ⟨a, b, h1, h2, rfl, h3, h4⟩ := h
  obtain ⟨p1, p2⟩ := plains_okM (n := 23) ok
  have e1 : pyd 26 s (.ref a) = some (.list (encs (m.defs.map defD))) := by
    rw [pyd, lstAt_ml h3, Option.bind_some, pyds_plain s 24 _ p1]
    rfl
  have e2 : pyd 26 s (.ref b) = some (.list (encs (m.wants.map D.str))) := by
    rw [pyd, lstAt_ml h4, Option.bind_some, pyds_plain s 24 _ p2]
    rfl
  rw [pyd, List.mapM_cons, List.mapM_cons, List.mapM_cons, e1, e2]
  rfl
theorem pyd_TA {n : Nat} {s : Sto} {d : D} {a : ArcA} (h : TA n s d a) (ok : okArc a) : pyd 29 s d = some (toldA a) := by
  obtain ⟨L, ds, h1, rfl, h2, h3⟩ := h
  have e1 : pyd 28 s (.ref L) = some (.list (a.mems.map toldM)) := by
    rw [pyd, lstAt_ml h2, Option.bind_some, mapM_allR (R := TM L s) okM (fun d m h k => pyd_TM h k) h3 ok.2.2]
    rfl
  rw [pyd, List.mapM_cons, List.mapM_cons, e1]
  rfl
theorem shp_told {n : Nat} {s : Sto} {ds : List D} {as : List ArcA} (h : mlAt s n = some ds) (hd : AllR (TA n s) ds as) (ok : ∀ a ∈ as, okArc a) : shp s (.ref n) = some (toldS as) := by
  refine shp_of ?_ (lay_S ok)
  rw [pyd, lstAt_ml h, Option.bind_some, mapM_allR (R := TA n s) okArc (fun d m h k => pyd_TA h k) hd ok]
  rfl
theorem lc_allT {α : Type} {e : Ev} {s0 : Sto} {j : Stp} {g : GN} {N : Nat} {xs : List D} {mm : EM D} (R : D → α → Prop) (R2 : Sto → D → α → Prop) (mono : ∀ {s t : Sto} {y : D} {a : α}, R2 s y a → Stay s0.length s t → R2 t y a) {as : List α} (hR : AllR R xs as) (it : ItOk [] s0 j N xs) (hl : as.length < sizeLine)
    (body : ∀ d a s, R d a → a ∈ as → Eff [] s0 s → s0.length < s.length → ∃ e1, g d e = some e1 ∧ (mm e1 s).wp fun y s2 => Eff [] s s2 ∧ R2 s2 y a) :
    (lcL j g tY mm s0.length N 0 e (s0 ++ [.lst []])).wp fun d s' => d = .ref s0.length ∧ Eff [] s0 s' ∧ s0.length < s'.length ∧ ∃ ys, mlAt s' s0.length = some ys ∧ AllR (R2 s') ys as := by
  refine wp_ne (lcL_wp (N := N) (fun i acc s => Eff [] s0 s ∧ s0.length < s.length ∧ AllR (R2 s) acc (as.take i)) ?_ N 0 [] _ (by simp) ⟨Eff.push, by simp, by simpa using AllR.nil⟩ (by simp)) ?_
  · rintro i acc s hi ⟨ef, hlt, hA⟩ hs
    have hNx := it.1
    have hxa := hR.1
    refine ⟨fun h => ?_, fun h => ?_⟩
    · rw [it.2 i s ef, List.getElem?_eq_none (by omega)]
    · have hi2 : i < xs.length := by omega
      have ha : as[i]? = some (as[i]'(by omega)) := List.getElem?_eq_getElem _
      generalize as[i]'(by omega) = a at ha
      obtain ⟨e1, h1, h2⟩ := body xs[i] a s (hR.2 i _ _ (List.getElem?_eq_getElem hi2) ha) (List.mem_of_getElem? ha) ef hlt
      refine ⟨xs[i], e1, by rw [it.2 i s ef, List.getElem?_eq_getElem hi2], h1, ?_⟩
      rw [z_tY, if_pos rfl]
      refine wp_ne h2 ?_
      rintro y s2 ⟨ef2, hy⟩
      have hs2 := ef2.get hs (by simp)
      have la : acc.length = i := by rw [hA.1, List.length_take]; omega
      have k2 : Stay s0.length s2 (s2.set s0.length (.lst (acc ++ [y]))) := Stay.set
      refine ⟨hs2, by omega, (ef.trans ef2).set (Nat.le_refl _), by rw [List.length_set]; exact Nat.lt_of_lt_of_le hlt ef2.le, ?_⟩
      rw [take_snoc ha]
      refine ⟨by rw [List.length_append, List.length_append, hA.1]; rfl, fun q d b hq hb => ?_⟩
      by_cases hqi : q < i
      · rw [List.getElem?_append_left (by omega)] at hq
        rw [List.getElem?_append_left (by rw [← hA.1]; omega)] at hb
        exact mono (hA.2 q d b hq hb) ((Stay.of ef2).trans k2)
      · have : q = i := by
          have := (List.getElem?_eq_some_iff.mp hq).1
          rw [List.length_append, List.length_singleton] at this
          omega
        subst this
        rw [List.getElem?_append_right (by omega), la, Nat.sub_self] at hq
        rw [List.getElem?_append_right (by rw [← hA.1]; omega), ← hA.1, la, Nat.sub_self] at hb
        cases hq
        cases hb
        exact mono hy k2
  · rintro d s' ⟨rfl, ys, h1, ef, hlt, hA⟩
    refine ⟨rfl, ef, hlt, ys, mlAt_some h1, ?_⟩
    rw [it.1, hR.1, List.take_length] at hA
    exact hA
theorem AllR.mapr {α β : Type} {R : D → β → Prop} {f : α → β} {ds : List D} {as : List α} (h : AllR (fun d a => R d (f a)) ds as) : AllR R ds (as.map f) :=
  ⟨by rw [h.1, List.length_map], fun i d b h1 h2 => by
    rw [List.getElem?_map] at h2
    obtain ⟨a, h3, rfl⟩ := Option.map_eq_some_iff.mp h2
    exact h.2 i d a h1 h3⟩
theorem AllR.snoc {α : Type} {R : D → α → Prop} {ds : List D} {as : List α} {d : D} {a : α} (h : AllR R ds as) (hd : R d a) : AllR R (ds ++ [d]) (as ++ [a]) :=
  ⟨by rw [List.length_append, List.length_append, h.1]; rfl, fun q e b hq hb => by
    have hl := h.1
    by_cases hqi : q < ds.length
    · rw [List.getElem?_append_left hqi] at hq
      rw [List.getElem?_append_left (by omega)] at hb
      exact h.2 q e b hq hb
    · have : q = ds.length := by
        have := (List.getElem?_eq_some_iff.mp hq).1
        rw [List.length_append, List.length_singleton] at this
        omega
      subst this
      rw [List.getElem?_append_right (Nat.le_refl _), Nat.sub_self] at hq
      rw [List.getElem?_append_right (by omega), ← hl, Nat.sub_self] at hb
      cases hq
      cases hb
      exact hd⟩
def tTold : SM := (sC (sA 1 (mN fLst aN)) (sC (sF (iSq (mV 0)) (gT [(gN 2), (gN 3)]) (sE (mBM "list" (mtL lAppend) (mV 1) (aC (mN fTup (aC (mV 2) (aC (mL (iSq (mV 3)) (gN 4) tY (mN fTup (aC (m2 dIx (mV 4) (mC (.int 0))) (aC (mN fSortA (aC (m2 dIx (mV 4) (mC (.int 1))) aN)) (aC (mN fSortA (aC (m2 dIx (mV 4) (mC (.int 2))) aN)) aN)))) [4]) aN))) aN)))) (sR (mV 1))))
structure TI (s : Sto) (as : List ArcA) (s2 : Sto) : Prop where
  ef : Eff [] s s2
  hz : s.length < s2.length
  st : ∃ ds, mlAt s2 s.length = some ds ∧ AllR (TA s.length s2) ds as
theorem told_gen {names : List Str} {ps : List ArcB} (h : StoW names ps) (hn : ∀ x ∈ names, IsName x) {s : Sto} {l : Nat} (hl : mlAt s l = some (ps.map arcB)) :
    (fnM 1 5 tTold [.ref l] s).wp fun d s' => Eff [] s s' ∧ ∃ n, d = .ref n ∧ s.length ≤ n ∧ ∃ ds, mlAt s' n = some ds ∧ AllR (TA n s') ds (ps.map arcW) := by
  refine wp_of fun P hP => ?_
  rw [z_fnM (by rfl)]
  unfold tTold
  rw [z_sCn]
  simp [-List.map_map]
  have h6 := h.len
  have n0 : TI s [] (s ++ [SO.lst []]) := ⟨Eff.push, by simp [-List.map_map], [], mlAt_push, AllR.nil⟩
  have ll := lstAt_lt (lstAt_ml hl)
  generalize s ++ [SO.lst []] = s0 at n0 ⊢
  show nxt _ _ _ _
  rw [z_nxC, z_sF]
  simp [-List.map_map]
  rw [lstAt_ml (n0.ef.ml hl (by simp [-List.map_map])), lstP_some]
  refine for_it (ks := []) (s0 := s) (xs := ps.map arcB) (it_lst (lstAt_ml hl) (by simp [-List.map_map]) rfl) (fun i e s1 => TI s ((ps.take i).map arcW) s1 ∧ ∃ o2 o3, e = [some (.ref l), some (.ref s.length), o2, o3, none]) (fun _ _ _ h => h.1.ef) ?_ ⟨by simpa [-List.map_map] using n0, _, _, rfl⟩ ?_
  · rintro i x e s1 hxi ⟨h1, o2, o3, rfl⟩
    obtain ⟨p, hp, rfl⟩ : ∃ p, ps[i]? = some p ∧ x = arcB p := by
      rw [List.getElem?_map] at hxi
      obtain ⟨p, h1, h2⟩ := Option.map_eq_some_iff.mp hxi
      exact ⟨p, h1, h2.symm⟩
    have hpm := List.mem_of_getElem? hp
    have hA := h.arc p hpm
    have h3 := hA.len
    obtain ⟨ef1, hz1, ds, hds, hR⟩ := h1
    refine ⟨_, rfl, ?_⟩
    simp [-List.map_map, arcB, isTy_ml hds, hds]
    refine wp_ne (lc_allT (fun d r => d = rowB r) (fun s d r => TM s1.length s d (memB r)) (fun h k => h.stay k) AllR.of_map (it_tup (by simp [-List.map_map])) (by rw [size_line]; omega) fun d3 r s3 hr hrm ef3 hlt3 => ?_) ?_
    · subst hr
      have hok := okM_of (hA.row r hrm) hn
      have okp : ∀ q ∈ r.gs, okP q := fun q hq => hok.2.1 q ((sortP_perm r.gs).mem_iff.mpr hq)
      have okw : ∀ w ∈ r.ws, strOk w = true := fun w hw => hok.2.2 w ((sortS_perm r.ws).mem_iff.mpr hw)
      refine ⟨_, rfl, ?_⟩
      simp [-List.map_map, rowB]
      have sd := sortD_defs (s := s3) okp
      have sw := sortD_strs (s := s3 ++ [SO.lst ((sortP r.gs).map defD)]) okw
      rw [sd.2, sw.2]
      refine ⟨sd.1, sw.1, ?_⟩
      refine ⟨by rw [size_line]; omega, ?_, s3.length, s3.length + 1, hlt3, by omega, rfl, ?_, ?_⟩
      · have := (Eff.push (ks := []) (s := s3) (o := SO.lst ((sortP r.gs).map defD))).trans (Eff.push (o := SO.lst ((sortS r.ws).map D.str)))
        simpa [-List.map_map] using this
      · exact mlAt_some (by rw [List.getElem?_append_right (Nat.le_refl _)]; simp [-List.map_map, memB])
      · exact mlAt_some (by rw [List.getElem?_append_right (by omega)]; simp [-List.map_map, memB])
    rintro _ s4 ⟨rfl, ef4, lt4, ys, hm4, hys⟩
    have e4 := ef1.trans ef4
    have hds4 := ef4.ml hds (by simp [-List.map_map])
    rw [hds4]
    simp [-List.map_map]
    have hz4 : s.length < s4.length := by omega
    have hld := hR.1
    rw [List.length_map, List.length_take] at hld
    refine ⟨by rw [size_line]; omega, by rw [size_line]; omega, ⟨e4.set (Nat.le_refl _), by rw [List.length_set]; exact hz4, _, mlAt_set_self hz4, ?_⟩⟩
    rw [← List.map_take, take_snoc hp, List.map_append]
    refine (hR.mono fun _ _ h => h.stay ((Stay.of ef4).trans Stay.set)).snoc ⟨s1.length, ys, hz1, rfl, by rw [mlAt_set_ne (by omega)]; exact hm4, (hys.mono fun _ _ h => h.stay (Stay.set.le (Nat.le_of_lt hz1))).mapr⟩
  · rintro e s1 ⟨h1, o2, o3, rfl⟩
    rw [List.length_map, List.take_length] at h1
    obtain ⟨ef1, hz1, ds, hds, hR⟩ := h1
    dsimp only
    rw [z_nxt]
    simp [-List.map_map]
    exact hP _ _ ⟨ef1, _, rfl, Nat.le_refl _, ds, hds, hR⟩
end Z

set_option Elab.async false
set_option linter.all false
set_option maxRecDepth 100000
set_option maxHeartbeats 4000000
namespace Z
open PySem PySem.Spec PyProof.Rows L2 TL
open PySem.PyData (strOk)
/-! ### a store is not in a list of others -/
theorem eqS_no {cls : List Str} {tbE tbL : Tb} {itb : Itb} {s : Sto} {x y : D} {t : String} (hi : insC s y = none) (ht : tyN s y = some t) (hk : clOk cls (.inl t) = true) {P : D → Sto → Prop} {E : Str → Str → D → Sto → Prop} (hP : P (.bl false) s) : (fnM 2 2 (tEqS cls tbE tbL itb) [x, y] s).wp P E := by
  unfold tEqS
  rw [z_fnM (by rfl)]
  simp
  rw [z_isiC]
  simp
  have : clD s y = some (.inl t) := by
    unfold clD
    rw [hi]
    dsimp only
    rw [ht]
    rfl
  rw [this, optP_some]
  refine ⟨hk, ?_⟩
  simp only [isiC, blP_bl, Bool.false_eq_true, if_false]
  exact hP
theorem inOwnL_no {c : Str} {G : MF} {n l : Nat} {s : Sto} {xs : List D} (hl : s[l]? = some (.lst xs)) (hn : insC s (.ref n) = some c) (h : ∀ d ∈ xs, itOk s d = true ∧ ∀ (P : D → Sto → Prop) (E : Str → Str → D → Sto → Prop), P (.bl false) s → (G [.ref n, d] s).wp P E) :
    ∀ (f i : Nat), xs.length < f + i → i ≤ xs.length → (inOwnL c G n l f i s).wp fun q s' => q = false ∧ s' = s
  | 0, i, h1, h2 => by omega
  | f + 1, i, h1, h2 => by
    unfold inOwnL
    rw [mLst_of hl]
    dsimp only
    by_cases hi : i < xs.length
    · rw [List.getElem?_eq_getElem hi]
      dsimp only
      obtain ⟨k1, k2⟩ := h xs[i] (List.getElem_mem hi)
      rw [if_pos ⟨k1, hn⟩, z_bind]
      refine k2 _ _ ?_
      dsimp only
      rw [if_neg Bool.false_ne_true]
      exact inOwnL_no hl hn h f (i + 1) (by omega) (by omega)
    · rw [List.getElem?_eq_none (by omega)]
      exact ⟨rfl, rfl⟩
theorem inI_no {tb : Tb} {c : Str} {G : MF} {n l : Nat} {s : Sto} {xs : List D} {B : D → D → Sto → Rs D} {neg : Bool} (hl : s[l]? = some (.lst xs)) (hn : insC s (.ref n) = some c) (ht : tb.lookup c = some G) (h : ∀ d ∈ xs, itOk s d = true ∧ ∀ (P : D → Sto → Prop) (E : Str → Str → D → Sto → Prop), P (.bl false) s → (G [.ref n, d] s).wp P E) {P : D → Sto → Prop} {E : Str → Str → D → Sto → Prop} (hP : P (.bl neg) s) :
    (dInI tb neg B (.ref n) (.ref l) s).wp P E := by
  unfold dInI
  rw [hn]
  dsimp only
  rw [ht, mLst_of hl]
  dsimp only
  rw [z_bind]
  refine wp_ne (inOwnL_no hl hn h _ 0 (by omega) (by omega)) ?_
  rintro _ _ ⟨rfl, rfl⟩
  rw [z_ok, Bool.xor_false]
  exact hP
/-! ### two bools -/
theorem shp_bl {s : Sto} {q : Bool} : shp s (.bl q) = some (.bool q) := by
  refine shp_of (by rw [pyd]) ?_
  cases q <;> decide +kernel
theorem z_neB {P : D → Sto → Prop} {E : Str → Str → D → Sto → Prop} {s : Sto} {q : Bool} : (dNe (.bl q) (.bl q) s).wp P E = P (.bl false) s := by
  rw [z_ne shp_bl shp_bl]
  have : PyData.eqv (.bool q) (.bool q) = true := by cases q <;> decide +kernel
  rw [this]
  rfl
/-- an archive of the store put in again -/
theorem orA_same {as : List ArcA} {a : ArcA} (ha : a ∈ as) (nd : (as.map (·.name)).Nodup) : orA as a = as := by
  unfold orA
  rw [if_pos (List.mem_map_of_mem ha)]
  have key : ∀ o ∈ as, (if o.name = a.name then a else o) = o := fun o ho => by
    by_cases e : o.name = a.name
    · rw [if_pos e]
      obtain ⟨i, hi, rfl⟩ := List.getElem_of_mem ha
      obtain ⟨j, hj, rfl⟩ := List.getElem_of_mem ho
      have : (as.map (·.name))[j]'(by simpa using hj) = (as.map (·.name))[i]'(by simpa using hi) := by
        rw [List.getElem_map, List.getElem_map, e]
      have := (List.getElem_inj nd).mp this
      subst this
      rfl
    · rw [if_neg e]
  conv => rhs; rw [← List.map_id as]
  exact List.map_congr_left key
/-! ### the rows after / -/
def putB (ps : List ArcB) (p : ArcB) : List ArcB := if p.1 ∈ ps.map (·.1) then ps.map (fun o => if o.1 = p.1 then p else o) else ps ++ [p]
theorem putB_arcW {ps : List ArcB} {p : ArcB} : (putB ps p).map arcW = orA (ps.map arcW) (arcW p) := by
  unfold putB orA
  rw [map_arcW]
  by_cases e : p.1 ∈ ps.map (·.1)
  · rw [if_pos e, if_pos (show (arcW p).name ∈ ps.map (·.1) from e), List.map_map, List.map_map]
    refine List.map_congr_left fun o _ => ?_
    show arcW (if o.1 = p.1 then p else o) = if (arcW o).name = (arcW p).name then arcW p else arcW o
    by_cases q : o.1 = p.1
    · rw [if_pos q, if_pos (show (arcW o).name = (arcW p).name from q)]
    · rw [if_neg q, if_neg (show ¬ (arcW o).name = (arcW p).name from q)]
  · rw [if_neg e, if_neg (show ¬ (arcW p).name ∈ ps.map (·.1) from e), List.map_append]
    rfl
theorem putB_names {ps : List ArcB} {p : ArcB} : (putB ps p).map (·.1) = if p.1 ∈ ps.map (·.1) then ps.map (·.1) else ps.map (·.1) ++ [p.1] := by
  unfold putB
  by_cases e : p.1 ∈ ps.map (·.1)
  · rw [if_pos e, if_pos e, List.map_map]
    refine List.map_congr_left fun o _ => ?_
    show (if o.1 = p.1 then p else o).1 = o.1
    by_cases q : o.1 = p.1
    · rw [if_pos q, q]
    · rw [if_neg q]
  · rw [if_neg e, if_neg e, List.map_append]
    rfl
theorem putB_mem {ps : List ArcB} {p q : ArcB} (h : q ∈ putB ps p) : q = p ∨ q ∈ ps := by
  unfold putB at h
  split at h
  · obtain ⟨o, ho, rfl⟩ := List.mem_map.mp h
    split
    · exact .inl rfl
    · exact .inr ho
  · rcases List.mem_append.mp h with h | h
    · exact .inr h
    · exact .inl (List.mem_singleton.mp h)
/-- the bodies that are left, and those of the new one -/
theorem putB_bod : ∀ {ps : List ArcB} {p : ArcB}, (ps.map (·.1)).Nodup → (bodP ps ++ p.2.flatMap bodR).Nodup → (bodP (putB ps p)).Nodup
  | ps, p, nd, h => by
    by_cases e : p.1 ∈ ps.map (·.1)
    · have e2 : putB ps p = ps.map (fun o => if o.1 = p.1 then p else o) := by unfold putB; rw [if_pos e]
      rw [e2]
      clear e2
      induction ps with
      | nil => simp at e
      | cons o ps ih =>
        rw [List.map_cons, List.nodup_cons] at nd
        by_cases q : o.1 = p.1
        · have rest : ps.map (fun o => if o.1 = p.1 then p else o) = ps := by
            conv => rhs; rw [← List.map_id ps]
            refine List.map_congr_left fun x hx => ?_
            rw [if_neg fun h => nd.1 (by rw [q, ← h]; exact List.mem_map_of_mem hx)]
            rfl
          rw [List.map_cons, if_pos q, rest]
          unfold bodP at h ⊢
          rw [List.flatMap_cons] at h ⊢
          rw [List.append_assoc] at h
          have h2 := (List.nodup_append.mp h).2.1
          exact (List.perm_append_comm.nodup_iff).mp h2
        · have e3 : p.1 ∈ ps.map (·.1) := by
            rw [List.map_cons] at e
            rcases List.mem_cons.mp e with h | h
            · exact absurd h.symm q
            · exact h
          unfold bodP at h
          rw [List.flatMap_cons, List.append_assoc] at h
          obtain ⟨h1, h2, h3⟩ := List.nodup_append.mp h
          have h4 := ih nd.2 h2 e3
          rw [List.map_cons, if_neg q]
          unfold bodP at h4 ⊢
          rw [List.flatMap_cons]
          refine List.nodup_append.mpr ⟨h1, h4, fun x hx y hy exy => ?_⟩
          subst exy
          obtain ⟨z, hz, hxz⟩ := List.mem_flatMap.mp hy
          obtain ⟨w, hw, rfl⟩ := List.mem_map.mp hz
          refine h3 x hx x ?_ rfl
          by_cases c : w.1 = p.1
          · rw [if_pos c] at hxz
            exact List.mem_append_right _ hxz
          · rw [if_neg c] at hxz
            exact List.mem_append_left _ (List.mem_flatMap.mpr ⟨w, hw, hxz⟩)
    · unfold putB
      rw [if_neg e]
      unfold bodP at h ⊢
      rw [List.flatMap_append]
      simpa using h
theorem StoW.put {names : List Str} {ps : List ArcB} {p : ArcB} (h : PlainW names ps) (hl : ps.length ≤ 5) (hp : ArcG1 names p) (hb : BodW 199999 300000 (p.2.flatMap bodR)) : StoW names (putB ps p) := by
  obtain ⟨lo, hi, hw, h0, h1⟩ := h.bod
  have nd : (bodP ps ++ p.2.flatMap bodR).Nodup := List.nodup_append.mpr ⟨hw.nodup, hb.nodup, fun x hx y hy e => by
    have := hw.bd x hx
    have := hb.bd y hy
    omega⟩
  refine ⟨fun q hq => ?_, ?_, putB_bod h.nd nd, fun x hx => ?_, ?_⟩
  · rcases putB_mem hq with rfl | hq
    · exact hp
    · exact h.arc q hq
  · rw [putB_names]
    split
    · exact h.nd
    · rename_i e
      exact List.nodup_append.mpr ⟨h.nd, by simp, fun x hx y hy exy => e (by rw [List.mem_singleton.mp hy] at exy; rw [← exy]; exact hx)⟩
  · obtain ⟨q, hq, hx2⟩ := List.mem_flatMap.mp hx
    rcases putB_mem hq with e | hq
    · subst e
      have := hb.bd x hx2
      omega
    · have := hw.bd x (bodP_mem hq x hx2)
      omega
  · have := congrArg List.length (putB_names (ps := ps) (p := p))
    rw [List.length_map] at this
    rw [this]
    split <;> simp <;> omega
end Z

namespace Z
open PySem PySem.Spec PyProof.Rows L2
def c_KINDS : D := .tup [.str "weak", .str "common", .str "strong"]
abbrev cls : List Str := ["Archive", "Member", "Store"]
abbrev itb_Archive : Itb := [("Archive", "members")]
abbrev itb_Store : Itb := [("Store", "archives")]
def s_Archive___len__ : SM := (sR (mN fLen (aC (mFld ["Archive"] "members" (mV 0)) aN)))
def m_Archive___len__ : MF := fnM 1 1 s_Archive___len__
def s_Member_parts : SM := (sR (mN fTup (aC (mFld ["Member"] "name" (mV 0)) (aC (mFld ["Member"] "defines" (mV 0)) (aC (mFld ["Member"] "wants" (mV 0)) aN)))))
def m_Member_parts : MF := fnM 1 1 s_Member_parts
abbrev tb_parts_Member : Tb := [("Member", m_Member_parts)]
def s_Member___eq__ : SM := (sR (mAnd (mIsiC cls "Member" (mV 1)) (m2 dEq (mMeth tb_parts_Member "parts" (mV 0) aN) (mMeth tb_parts_Member "parts" (mV 1) aN))))
def m_Member___eq__ : MF := fnM 2 2 s_Member___eq__
abbrev tb___len___Archive : Tb := [("Archive", m_Archive___len__)]
abbrev tb___eq___Member : Tb := [("Member", m_Member___eq__)]
def s_Archive___eq__ : SM := (sR (mAnd (mIsiC cls "Archive" (mV 1)) (mAnd (m2 dEq (mFld ["Archive"] "name" (mV 0)) (mFld ["Archive"] "name" (mV 1))) (m2 (dEqO cls tb___eq___Member false) (mN (fListO tb___len___Archive itb_Archive fList) (aC (mV 0) aN)) (mN (fListO tb___len___Archive itb_Archive fList) (aC (mV 1) aN))))))
def m_Archive___eq__ : MF := fnM 2 2 s_Archive___eq__
def s_Store___len__ : SM := (sR (mN fLen (aC (mFld ["Store"] "archives" (mV 0)) aN)))
def m_Store___len__ : MF := fnM 1 1 s_Store___len__
abbrev tb___len___Store : Tb := [("Store", m_Store___len__)]
abbrev tb___eq___Archive : Tb := [("Archive", m_Archive___eq__)]
def s_Store___eq__ : SM := (sR (mAnd (mIsiC cls "Store" (mV 1)) (m2 (dEqO cls tb___eq___Archive false) (mN (fListO tb___len___Store itb_Store fList) (aC (mV 0) aN)) (mN (fListO tb___len___Store itb_Store fList) (aC (mV 1) aN)))))
def m_Store___eq__ : MF := fnM 2 2 s_Store___eq__
def s_twice_in : SM := (sC (sA 1 (mN fLst aN)) (sC (sF (iSq (mV 0)) (gN 2) (sC (sI (toB (m2 (dInB false) (mV 2) (mV 1))) (sR (mV 2)) sN) (sE (mBM "list" (mtL lAppend) (mV 1) (aC (mV 2) aN))))) (sR (mC .non))))
def m_twice_in : MF := fnM 1 3 s_twice_in
def s_Store___init__ : SM := (sC (sA 2 (mN m_twice_in (aC (mL (iSq (mV 1)) (gN 4) tY (mFld ["Archive"] "name" (mV 4)) [4]) aN))) (sC (sI (toB (m2 dNotN2 (mV 2) (mC .non))) sNo sN) (sC (sA 3 (mN fLst aN)) (sC (sF (iSq (mV 1)) (gN 4) (sF (iOwn itb_Archive (mV 4)) (gN 5) (sF (iSq (mFld ["Member"] "defines" (mV 5))) (gT [(gN 6), (gN 7), (gN 8)]) (sC (sI (toB (m2 (dInB false) (mN fTup (aC (mV 6) (aC (mV 8) aN))) (mV 3))) sNo sN) (sE (mBM "list" (mtL lAppend) (mV 3) (aC (mN fTup (aC (mV 6) (aC (mV 8) aN))) aN))))))) (sC (sI (toB (m2 dGt (mN fLen (aC (mV 1) aN)) (mC (.int 6)))) sNo sN) (sFldD ["Store"] "archives" (mV 0) (mV 1)))))))
def m_Store___init__ : MF := starF 1 (fnM 2 9 s_Store___init__)
def s_Store___contains__ : SM := (sR (mAnd (mIsi "str" (mV 1)) (m2 (dInB false) (mV 1) (mL (iSq (mFld ["Store"] "archives" (mV 0))) (gN 2) tY (mFld ["Archive"] "name" (mV 2)) [2]))))
def m_Store___contains__ : MF := fnM 2 3 s_Store___contains__
abbrev tb___contains___Store : Tb := [("Store", m_Store___contains__)]
def s_Store___or__ : SM := (sC (sI (toB (m2 (dInO true tb___contains___Store dNo2) (mFld ["Archive"] "name" (mV 1)) (mV 0))) (sR (mN (mkD "Store" m_Store___init__) (aS (mFld ["Store"] "archives" (mV 0)) (aC (mV 1) aN)))) sN) (sC (sA 2 (mL (iSq (mFld ["Store"] "archives" (mV 0))) (gN 3) tY (mIf (toB (m2 dEq (mFld ["Archive"] "name" (mV 3)) (mFld ["Archive"] "name" (mV 1)))) (mV 1) (mV 3)) [3])) (sR (mN (mkD "Store" m_Store___init__) (aS1 (mV 2))))))
def m_Store___or__ : MF := fnM 2 4 s_Store___or__
def s_is_name : SM := (sC (sI (bOr (bNot (toT (mIsi "str" (mV 0)))) (bNot (toB (mCh dLe dLe (mC (.int 1)) (mN fLen (aC (mV 0) aN)) (mC (.int 8)))))) (sR (mC (.bl false))) sN) (sR (mN (fAllAny true) (aC (mL (iSt (mV 0)) (gN 1) tY (m2 (dInB false) (mV 1) (mC (.str "abcdefghijklmnopqrstuvwxyz"))) [1]) aN))))
def m_is_name : MF := fnM 1 2 s_is_name
def s_look_name : SM := (sI (bNot (toT (mN m_is_name (aC (mV 0) aN)))) sNo sN)
def m_look_name : MF := fnM 1 1 s_look_name
def s_Archive___init__ : SM := (sC (sE (mN m_look_name (aC (mV 1) aN))) (sC (sA 3 (mN m_twice_in (aC (mL (iSq (mV 2)) (gN 4) tY (mFld ["Member"] "name" (mV 4)) [4]) aN))) (sC (sI (toB (m2 dNotN2 (mV 3) (mC .non))) sNo sN) (sC (sI (toB (m2 dGt (mN fLen (aC (mV 2) aN)) (mC (.int 8)))) sNo sN) (sC (sFldD ["Archive"] "name" (mV 0) (mV 1)) (sFldD ["Archive"] "members" (mV 0) (mV 2)))))))
def m_Archive___init__ : MF := starF 2 (fnM 3 5 s_Archive___init__)
def s_Archive___add__ : SM := (sR (mN (mkD "Archive" m_Archive___init__) (aC (mFld ["Archive"] "name" (mV 0)) (aS (mFld ["Archive"] "members" (mV 0)) (aC (mV 1) aN)))))
def m_Archive___add__ : MF := fnM 2 2 s_Archive___add__
def s_look_body : SM := (sI (bOr (bNot (toT (mIsi "int" (mV 0)))) (bOr (toT (mIsi "bool" (mV 0))) (bNot (toB (mCh dLe dLe (mC (.int 0)) (mV 0) (mC (.int 999999))))))) sNo sN)
def m_look_body : MF := fnM 1 1 s_look_body
def s_is_kind : SM := (sR (mAnd (mIsi "str" (mV 0)) (m2 (dInB false) (mV 0) (mC c_KINDS))))
def m_is_kind : MF := fnM 1 1 s_is_kind
def s_look_kind : SM := (sI (bNot (toT (mN m_is_kind (aC (mV 0) aN)))) sNo sN)
def m_look_kind : MF := fnM 1 1 s_look_kind
def s_Member___init__ : SM := (sC (sE (mN m_look_name (aC (mV 1) aN))) (sC (sF (iSq (mV 2)) (gT [(gN 6), (gN 7), (gN 8)]) (sC (sE (mN m_look_name (aC (mV 6) aN))) (sC (sE (mN m_look_kind (aC (mV 7) aN))) (sE (mN m_look_body (aC (mV 8) aN)))))) (sC (sF (iSq (mV 3)) (gN 4) (sE (mN m_look_name (aC (mV 4) aN)))) (sC (sA 5 (mN m_twice_in (aC (m2 dAdd (mL (iSq (mV 2)) (gN 9) tY (m2 dIx (mV 9) (mC (.int 0))) [9]) (mN fList (aC (mV 3) aN))) aN))) (sC (sI (toB (m2 dNotN2 (mV 5) (mC .non))) sNo sN) (sC (sI (bOr (toB (m2 dGt (mN fLen (aC (mV 2) aN)) (mC (.int 6)))) (toB (m2 dGt (mN fLen (aC (mV 3) aN)) (mC (.int 6))))) sNo sN) (sC (sFldD ["Member"] "name" (mV 0) (mV 1)) (sC (sFldD ["Member"] "defines" (mV 0) (mN fTuple (aC (mN fSortA (aC (mV 2) aN)) aN))) (sFldD ["Member"] "wants" (mV 0) (mN fTuple (aC (mN fSortA (aC (mV 3) aN)) aN)))))))))))
def m_Member___init__ : MF := fnM 4 10 s_Member___init__
def km_Member___init___2_defines_wants : MF := callF 2 (fun ds es => ds ++ es) m_Member___init__
abbrev tb___add___Archive : Tb := [("Archive", m_Archive___add__)]
def s__law_archive : SM := (sC (sA 2 (mN (mkD "Archive" m_Archive___init__) (aC (mV 0) aN))) (sC (sF (iSq (mV 1)) (gT [(gN 3), (gN 4), (gN 5)]) (sA 2 (m2 (dOwnL tb___add___Archive ["Member"] false dNo2) (mV 2) (mNk 1 2 (mkD "Member" km_Member___init___2_defines_wants) (aC (mV 3) aN) (aC (mV 4) (aC (mV 5) aN)))))) (sR (mV 2))))
def m__law_archive : MF := fnM 2 6 s__law_archive
def s__law_bag : SM := (sC (sA 2 (mIf (toB (m2 dLt (mV 1) (mN fLen (aC (mV 0) aN)))) (m2 dIx (mV 0) (mV 1)) (mC (.int 0)))) (sC (sA 3 (m2 dAdd (m2 dMul2 (mC (.int 4447)) (mV 1)) (mC (.int 829)))) (sC (sF (iEn (aC (mSl dSl (mV 0) oN (oS (mC (.int 60)))) aN)) (gT [(gN 4), (gN 5)]) (sA 3 (m2 dMod (mN fInt (aC (m2 dAdd (m2 dAdd (m2 dMul2 (mV 3) (mC (.int 40014))) (m2 dMod (mN fInt (aC (mV 5) aN)) (mC (.int 2147483563)))) (m2 dMul2 (mC (.int 331)) (mV 4))) aN)) (mC (.int 2147483399))))) (sR (mN fLst (aC (mIf (toB (m2 dGe (mN fAbs (aC (mV 2) aN)) (m2 dPow (mC (.int 10)) (mC (.int 18))))) (mN fAbs (aC (mV 2) aN)) (mC (.int 0))) (aC (mV 3) aN)))))))
def m__law_bag : MF := fnM 2 6 s__law_bag
def s_Store___getitem__ : SM := (sC (sI (toB (m2 (dInO true tb___contains___Store dNo2) (mV 1) (mV 0))) sNo sN) (sR (m2 dIx (mL (iSq (mFld ["Store"] "archives" (mV 0))) (gN 2) (toB (m2 dEq (mFld ["Archive"] "name" (mV 2)) (mV 1))) (mV 2) [2]) (mC (.int 0)))))
def m_Store___getitem__ : MF := fnM 2 3 s_Store___getitem__
def s_names_in : SM := (sC (sA 1 mSet0) (sC (sF (iSq (mV 0)) (gN 2) (sF (iOwn itb_Archive (mV 2)) (gN 3) (sF (iSq (m2 dAdd (mL (iSq (mFld ["Member"] "defines" (mV 3))) (gN 5) tY (m2 dIx (mV 5) (mC (.int 0))) [5]) (mN fList (aC (mFld ["Member"] "wants" (mV 3)) aN)))) (gN 4) (sE (mSAdd (mV 1) (aC (mV 4) aN)))))) (sR (mN (fSortZ fSortA) (aC (mV 1) aN)))))
def m_names_in : MF := fnM 1 6 s_names_in
def s_Store_names : SM := (sR (mN m_names_in (aC (mFld ["Store"] "archives" (mV 0)) aN)))
def m_Store_names : MF := fnM 1 1 s_Store_names
abbrev tb___getitem___Store : Tb := [("Store", m_Store___getitem__)]
abbrev tb_names_Store : Tb := [("Store", m_Store_names)]
def s__law_is_right : SM := (sC (sA 2 (mL (iSq (mV 1)) (gT [(gN 12), (gN 8)]) tY (mN m__law_archive (aC (mV 12) (aC (mV 8) aN))) [12, 8])) (sC (sI (bOr (toB (m2 dNe (mN (fLenO tb___len___Store fLen) (aC (mV 0) aN)) (mN fLen (aC (mV 1) aN)))) (toB (m2 (dEqO cls tb___eq___Archive true) (mL (iOwn itb_Store (mV 0)) (gN 13) tY (mV 13) [13]) (mV 2)))) (sR (mC (.bl false))) sN) (sC (sF (iEn (aC (mV 1) aN)) (gT [(gN 5), (gN 6)]) (sI (bOr (bNot (toB (m2 (dInO false tb___contains___Store dNo2) (m2 dIx (mV 6) (mC (.int 0))) (mV 0)))) (toB (m2 (dEqO cls tb___eq___Archive true) (m2 (dIxO tb___getitem___Store dNo2) (mV 0) (m2 dIx (mV 6) (mC (.int 0)))) (m2 dIx (mV 2) (mV 5))))) (sR (mC (.bl false))) sN)) (sC (sA 3 (mN fLst aN)) (sC (sF (iSq (mV 1)) (gT [(gN 7), (gN 8)]) (sF (iSq (mV 8)) (gT [(gN 9), (gN 10), (gN 11)]) (sE (mBM "list" lExtend (mV 3) (aC (m2 dAdd (mL (iSq (mV 10)) (gN 6) tY (m2 dIx (mV 6) (mC (.int 0))) [6]) (mN fList (aC (mV 11) aN))) aN))))) (sC (sA 4 (mMeth tb_names_Store "names" (mV 0) aN)) (sC (sI (toB (m2 dNe (mN fRepr (aC (mV 4) aN)) (mN fRepr (aC (mN (fSortZ fSortA) (aC (mN fSetL (aC (mV 3) aN)) aN)) aN)))) (sR (mC (.bl false))) sN) (sC (sE (mBM "list" (mtL lAppend) (mV 4) (aC (mC (.str "x")) aN))) (sR (mNot (mN (fAllAny false) (aC (mL (iSq (mN fLst (aC (mC .non) (aC (mC (.int 0)) (aC (mC (.bl true)) (aC (mN fTup aN) (aC (mN fLst aN) (aC (mN fTup (aC (mC (.str "a")) aN)) (aC (mC (.str "")) (aC (mC (.str "A")) (aC (mC (.str "qqqqqqqqq")) aN))))))))))) (gN 14) tY (m2 (dInO false tb___contains___Store dNo2) (mV 14) (mV 0)) [14]) aN))))))))))))
def m__law_is_right : MF := fnM 2 15 s__law_is_right
def s__law_take : SM := (sC (sI (toB (m2 dGt (m2 dIx (mV 0) (mC (.int 0))) (mC (.int 0)))) (sC (sA 2 (m2 dMod (mN fInt (aC (m2 dIx (mV 0) (mC (.int 0))) aN)) (mV 1))) (sC (sX xSetL (mV 0) (mC (.int 0)) (m2 dDiv (m2 dIx (mV 0) (mC (.int 0))) (mV 1))) (sR (mV 2)))) sN) (sC (sX xSetL (mV 0) (mC (.int 1)) (m2 dMod (mN fInt (aC (m2 dAdd (m2 dMul2 (m2 dIx (mV 0) (mC (.int 1))) (mC (.int 48271))) (mC (.int 90001))) aN)) (mC (.int 2147483629)))) (sR (m2 dMod (m2 dDiv (m2 dMod (mN fInt (aC (m2 dMul2 (m2 dDiv (m2 dIx (mV 0) (mC (.int 1))) (mC (.int 11))) (mC (.int 39373))) aN)) (mC (.int 2147483647))) (mC (.int 64))) (mV 1)))))
def m__law_take : MF := fnM 2 3 s__law_take
def s__law_of : SM := (sR (m2 dIx (mV 1) (mN m__law_take (aC (mV 0) (aC (mN fLen (aC (mV 1) aN)) aN)))))
def m__law_of : MF := fnM 2 2 s__law_of
def s__law_names : SM := (sC (sP 3 4 (aC (mN (fListZ fList) (aC (mC (.str "abcdefghijklmnopqrstuvwxyz")) aN)) (aC (mN fLst aN) aN))) (sC (sP 5 6 (aC (mC (.str "")) (aC (m2 dEq (mN m__law_take (aC (mV 0) (aC (mC (.int 2)) aN))) (mC (.int 0))) aN))) (sC (sF (iR1 (aC (mN m__law_take (aC (mV 0) (aC (mC (.int 8)) aN))) aN)) (gN 2) (sA 5 (m2 dAdd (mV 5) (mN m__law_of (aC (mV 0) (aC (mN fLst (aC (mC (.str "a")) (aC (mC (.str "z")) (aC (mC (.str "q")) (aC (mC (.str "m")) aN))))) aN)))))) (sC (sF (iR1 (aC (mV 1) aN)) (gN 2) (sC (sA 7 (mBM "list" (mtL lPopAt) (mV 3) (aC (mN m__law_take (aC (mV 0) (aC (mN fLen (aC (mV 3) aN)) aN))) aN))) (sE (mBM "list" (mtL lAppend) (mV 4) (aC (mIf (toT (mV 6)) (m2 dAdd (mV 7) (mV 5)) (m2 dAdd (mV 5) (mV 7))) aN))))) (sR (mV 4))))))
def m__law_names : MF := fnM 2 8 s__law_names
def s__law_member : SM := (sC (sP3 5 6 7 (aC (mN fList (aC (mV 1) aN)) (aC (mN fLst aN) (aC (mN fLst aN) aN)))) (sC (sF (iR1 (aC (mN m__law_take (aC (mV 0) (aC (m2 dAdd (mN fMin2 (aC (mV 3) (aC (mN fLen (aC (mV 5) aN)) aN))) (mC (.int 1))) aN))) aN)) (gN 4) (sC (sA 8 (mBM "list" (mtL lPopAt) (mV 5) (aC (mN m__law_take (aC (mV 0) (aC (mN fLen (aC (mV 5) aN)) aN))) aN))) (sC (sE (mBM "list" (mtL lAppend) (mV 2) (aC (m2 dAdd (m2 dAdd (m2 dIx (mV 2) (m1 dNeg (mC (.int 1)))) (mC (.int 1))) (mN m__law_take (aC (mV 0) (aC (mC (.int 3)) aN)))) aN))) (sE (mBM "list" (mtL lAppend) (mV 6) (aC (mN fTup (aC (mV 8) (aC (mN m__law_of (aC (mV 0) (aC (mN fLst (aC (mC (.str "strong")) (aC (mC (.str "strong")) (aC (mC (.str "weak")) (aC (mC (.str "common")) aN))))) aN))) (aC (m2 dIx (mV 2) (m1 dNeg (mC (.int 1)))) aN)))) aN)))))) (sC (sF (iR1 (aC (mN m__law_take (aC (mV 0) (aC (m2 dAdd (mN fMin2 (aC (mC (.int 2)) (aC (mN fLen (aC (mV 5) aN)) aN))) (mC (.int 1))) aN))) aN)) (gN 4) (sE (mBM "list" (mtL lAppend) (mV 7) (aC (mBM "list" (mtL lPopAt) (mV 5) (aC (mN m__law_take (aC (mV 0) (aC (mN fLen (aC (mV 5) aN)) aN))) aN)) aN)))) (sR (mN fTup (aC (mN fTuple (aC (mV 6) aN)) (aC (mN fTuple (aC (mV 7) aN)) aN)))))))
def m__law_member : MF := fnM 4 9 s__law_member
def s__law_other : SM := (sC (sA 3 (mN fLst (aC (m2 dAdd (mC (.int 200000)) (mN m__law_take (aC (mV 0) (aC (mC (.int 1000)) aN)))) aN))) (sC (sA 4 (mN fLst aN)) (sC (sF (iSq (mN m__law_names (aC (mV 0) (aC (mN m__law_take (aC (mV 0) (aC (mC (.int 3)) aN))) aN)))) (gN 5) (sC (sG (gT [(gN 7), (gN 8)]) (mN m__law_member (aC (mV 0) (aC (mV 1) (aC (mV 3) (aC (mC (.int 3)) aN)))))) (sE (mBM "list" (mtL lAppend) (mV 4) (aC (mN fTup (aC (mV 5) (aC (mV 7) (aC (mV 8) aN)))) aN))))) (sC (sA 6 (mN m__law_of (aC (mV 0) (aC (m2 dAdd (mL (iSq (mV 2)) (gN 9) tY (m2 dIx (mV 9) (mC (.int 0))) [9]) (mN fLst (aC (m2 dIx (mN m__law_names (aC (mV 0) (aC (mC (.int 1)) aN))) (mC (.int 0))) aN))) aN)))) (sR (mN fTup (aC (mV 6) (aC (mN fTuple (aC (mV 4) aN)) aN))))))))
def m__law_other : MF := fnM 3 10 s__law_other
def s__law_plain : SM := (sC (sP 5 6 (aC (mN fLst aN) (aC (mN fLst (aC (mN m__law_take (aC (mV 0) (aC (mC (.int 1000)) aN))) aN)) aN))) (sC (sF (iSq (mN m__law_names (aC (mV 0) (aC (mV 2) aN)))) (gN 4) (sC (sA 7 (mN fLst aN)) (sC (sF (iSq (mN m__law_names (aC (mV 0) (aC (mN m__law_take (aC (mV 0) (aC (m2 dAdd (mV 3) (mC (.int 1))) aN))) aN)))) (gN 8) (sC (sG (gT [(gN 9), (gN 10)]) (mN m__law_member (aC (mV 0) (aC (mV 1) (aC (mV 6) (aC (mC (.int 3)) aN)))))) (sE (mBM "list" (mtL lAppend) (mV 7) (aC (mN fTup (aC (mV 8) (aC (mV 9) (aC (mV 10) aN)))) aN))))) (sE (mBM "list" (mtL lAppend) (mV 5) (aC (mN fTup (aC (mV 4) (aC (mN fTuple (aC (mV 7) aN)) aN))) aN)))))) (sR (mV 5))))
def m__law_plain : MF := fnM 4 11 s__law_plain
abbrev tb___or___Store : Tb := [("Store", m_Store___or__)]
def s__law_store : SM := (sC (sA 1 (mN (mkD "Store" m_Store___init__) aN)) (sC (sF (iSq (mV 0)) (gT [(gN 2), (gN 3)]) (sA 1 (m2 (dOwnL tb___or___Store ["Archive"] false dNo2) (mV 1) (mN m__law_archive (aC (mV 2) (aC (mV 3) aN)))))) (sR (mV 1))))
def m__law_store : MF := fnM 1 4 s__law_store
def s__law_told : SM := (sC (sA 1 (mN fLst aN)) (sC (sF (iSq (mV 0)) (gT [(gN 2), (gN 3)]) (sE (mBM "list" (mtL lAppend) (mV 1) (aC (mN fTup (aC (mV 2) (aC (mL (iSq (mV 3)) (gN 4) tY (mN fTup (aC (m2 dIx (mV 4) (mC (.int 0))) (aC (mN fSortA (aC (m2 dIx (mV 4) (mC (.int 1))) aN)) (aC (mN fSortA (aC (m2 dIx (mV 4) (mC (.int 2))) aN)) aN)))) [4]) aN))) aN)))) (sR (mV 1))))
def m__law_told : MF := fnM 1 5 s__law_told
abbrev tb___eq___Store : Tb := [("Store", m_Store___eq__)]
def s_law : SM := (sC (sF (iR1 (aC (mN fMax2 (aC (mC (.int 1)) (aC (mN fMin2 (aC (mC (.int 4)) (aC (mN fLen (aC (mV 0) aN)) aN))) aN))) aN)) (gN 1) (sC (sA 2 (mN m__law_bag (aC (mV 0) (aC (mV 1) aN)))) (sC (sA 3 (mN m__law_names (aC (mV 2) (aC (mC (.int 6)) aN)))) (sC (sA 4 (mN m__law_plain (aC (mV 2) (aC (mV 3) (aC (mN m__law_take (aC (mV 2) (aC (mC (.int 6)) aN))) (aC (mC (.int 3)) aN)))))) (sC (sA 5 (mN m__law_store (aC (mV 4) aN))) (sC (sI (bOr (bNot (toT (mN m__law_is_right (aC (mV 5) (aC (mV 4) aN))))) (bNot (toB (m2 (dEqO cls tb___eq___Store false) (mV 5) (mN m__law_store (aC (mV 4) aN)))))) (sR (mC (.bl false))) sN) (sC (sA 6 (mN m__law_other (aC (mV 2) (aC (mV 3) (aC (mV 4) aN))))) (sC (sA 7 (m2 (dOwnL tb___or___Store ["Archive"] false dNo2) (mV 5) (mN m__law_archive (aC (m2 dIx (mV 6) (mC (.int 0))) (aC (m2 dIx (mV 6) (mC (.int 1))) aN))))) (sC (sA 8 (mL (iSq (mV 4)) (gN 9) tY (mIf (toB (m2 dEq (m2 dIx (mV 9) (mC (.int 0))) (m2 dIx (mV 6) (mC (.int 0))))) (mV 6) (mV 9)) [9])) (sC (sA 8 (m2 dAdd (mV 8) (m2 dMul2 (mN fLst (aC (mV 6) aN)) (mN fInt (aC (m2 (dInB true) (mV 6) (mV 8)) aN))))) (sC (sI (bOr (bNot (toT (mN m__law_is_right (aC (mV 7) (aC (mV 8) aN))))) (bNot (toT (mN m__law_is_right (aC (mV 5) (aC (mV 4) aN)))))) (sR (mC (.bl false))) sN) (sC (sI (toB (m2 dNe (m2 (dEqO cls tb___eq___Store false) (mV 7) (mV 5)) (m2 dEq (mN m__law_told (aC (mV 8) aN)) (mN m__law_told (aC (mV 4) aN))))) (sR (mC (.bl false))) sN) (sC (sI (toB (m2 dNe (m2 (dEqO cls tb___eq___Store false) (mN m__law_store (aC (mRev (mV 4)) aN)) (mV 5)) (m2 dEq (mRev (mV 4)) (mV 4)))) (sR (mC (.bl false))) sN) (sC (sF (iSq (mV 4)) (gN 9) (sC (sA 10 (m2 (dOwnL tb___or___Store ["Archive"] false dNo2) (mV 5) (mN m__law_archive (aC (m2 dIx (mV 9) (mC (.int 0))) (aC (m2 dIx (mV 9) (mC (.int 1))) aN))))) (sI (bOr (bNot (toB (m2 (dEqO cls tb___eq___Store false) (mV 10) (mV 5)))) (bNot (toT (mN m__law_is_right (aC (mV 10) (aC (mV 4) aN)))))) (sR (mC (.bl false))) sN))) (sI (bOr (toB (m2 (dInI tb___eq___Store false (dInB false)) (mV 5) (mN fLst (aC (mC .non) (aC (mN fLst aN) (aC (mV 4) (aC (mL (iOwn itb_Store (mV 5)) (gN 11) tY (mV 11) [11]) aN))))))) (toB (m2 dNe (m2 (dEqO cls tb___eq___Store false) (mN (mkD "Store" m_Store___init__) aN) (mV 5)) (m2 dEq (mV 4) (mN fLst aN))))) (sR (mC (.bl false))) sN))))))))))))))) (sR (mC (.bl true))))
def m_law : MF := fnM 1 12 s_law
end Z
set_option Elab.async false
set_option linter.all false
set_option maxRecDepth 100000
set_option maxHeartbeats 4000000
namespace Z
open PySem PySem.Spec PyProof.Rows L2 TL
open PySem.PyData (strOk)
/-! ### the program's functions in this row -/
theorem is_name_ok : IsNameOk m_is_name := is_name_gen
theorem look_name_ok : LookOk nameD m_look_name := look_name_gen is_name_ok
theorem look_kind_ok : LookOk kindD m_look_kind := look_gen (F := m_is_kind) fun h => is_kind_gen h
theorem look_body_ok : LookOk bodyD m_look_body := look_body_gen
theorem twice_ok : TwiceOk m_twice_in := twice_gen
theorem store_ok : StoreOk m_Store___init__ := fun g h => store_gen (cs := ["Store"]) (csA := ["Archive"]) (csM := ["Member"]) (itb := itb_Archive) twice_ok (by decide) (by decide) (by decide) rfl g h
theorem archive_ok : ArcOk m_Archive___init__ := fun g hd => archive_gen (cs := ["Archive"]) (csM := ["Member"]) look_name_ok twice_ok (by decide) (by decide) g hd
theorem add_ok : AddOk m_Archive___add__ := fun g ha hm => add_gen (cs := ["Archive"]) (csM := ["Member"]) (cs2 := ["Archive"]) look_name_ok twice_ok (by decide) (by decide) (by decide) g ha hm
theorem memb_ok : MembOk km_Member___init___2_defines_wants := fun g hd hw => member_gen (cs := ["Member"]) look_name_ok look_kind_ok look_body_ok twice_ok (by decide) g hd hw
theorem cont_s {s : Sto} {d : D} {x : Str} {as : List ArcA} (ha : IsSto s d as) (hx : strOk x = true) (ho : ∀ m ∈ as, strOk m.name = true) (hl : as.length ≤ 1000) : (m_Store___contains__ [d, .str x] s).wp fun d' s' => d' = .bl (decide (x ∈ as.map (·.name))) ∧ Eff [] s s' :=
  cont_sto (cs := ["Store"]) (csI := ["Archive"]) (by decide) (by decide) ha hx ho hl
theorem or_ok : OrOk m_Store___or__ := fun {s d da as a} hs ha g0 hn g =>
  or_gen (cs := ["Store"]) (csA := ["Archive"]) (tb := tb___contains___Store) store_ok (by decide) (by decide) rfl (cont_s hs hn.ok (fun m hm => (g0.names m hm).ok) (by have := g0.len; omega)) hs ha g
theorem larc_ok : LArcOk m__law_archive := fun h hn hb => larc_gen (initA := m_Archive___init__) (km := km_Member___init___2_defines_wants) (tb := tb___add___Archive) archive_ok memb_ok add_ok rfl h hn hb
theorem lsto_ok {s : Sto} {l : Nat} {names : List Str} {ps : List ArcB} (h : StoW names ps) (hn : ∀ x ∈ names, IsName x) (hl : mlAt s l = some (ps.map arcB)) : (m__law_store [.ref l] s).wp fun d s' => IsSto s' d (ps.map arcW) ∧ Eff [] s s' :=
  lsto_gen (tb := tb___or___Store) store_ok larc_ok or_ok rfl h hn hl
theorem eqM_ok : EqR "Member" m_Member___eq__ IsMem okM := eqM_gen (cls := cls) (cs := ["Member"]) (tb := tb_parts_Member) (by decide) (by decide) rfl
theorem eqA_ok : EqR "Archive" m_Archive___eq__ IsArc okArc := eqA_gen (cls := cls) (cs := ["Archive"]) (csL := ["Archive"]) (tbE := tb___eq___Member) (tbL := tb___len___Archive) (itb := itb_Archive) eqM_ok (by decide) (by decide) (by decide) (by decide) rfl rfl rfl
theorem eqS_ok : EqSOk m_Store___eq__ := eqS_gen (cls := cls) (csL := ["Store"]) (tbE := tb___eq___Archive) (tbL := tb___len___Store) (itb := itb_Store) eqA_ok (by decide) (by decide) (by decide) rfl rfl rfl
theorem get_s {s : Sto} {d : D} {a : List ArcA} {m : ArcA} (ha : IsSto s d a) (hm : m ∈ a) (g : GoodS a) : (m_Store___getitem__ [d, .str m.name] s).wp fun d' s' => IsArc s' d' m ∧ Eff [] s s' :=
  get_sto (F := m_Store___contains__) (tb := tb___contains___Store) (cs := ["Store"]) (csI := ["Archive"]) (by decide) (by decide) rfl (cont_s ha (g.names m hm).ok (fun m hm => (g.names m hm).ok) (by have := g.len; omega)) ha hm g.nd (by have := g.len; omega)
theorem names_s {s : Sto} {d : D} {as : List ArcA} (ha : IsSto s d as) (hl : (nmsS as).length ≤ 3000) (ok : ∀ x ∈ nmsS as, strOk x = true) : (m_Store_names [d] s).wp fun d s' => Eff [] s s' ∧ ∃ l, d = .ref l ∧ s.length ≤ l ∧ mlAt s' l = some ((sortS (onceS (nmsS as))).map D.str) := by
  refine wp_of fun P hP => ?_
  unfold m_Store_names s_Store_names
  rw [z_fnM (by rfl)]
  obtain ⟨ds, e, hd⟩ := ha.garcs (cs := ["Store"]) (by decide)
  simp
  rw [e, z_ok]
  refine wp_ne (names_in_gen (itb := itb_Archive) (csM := ["Member"]) (by decide) rfl hd hl ok) ?_
  intro d s' h
  exact hP _ _ h
theorem take_ok : TakeOk m__law_take := take_gen (c1 := 48271) (c2 := 90001) (M := 2147483629) (d1 := 11) (c3 := 39373) (M2 := 2147483647) (d2 := 64) (by decide) (by decide) (by decide) (by decide) (by decide) (by decide)
theorem of_ok : OfOk m__law_of := of_gen take_ok
theorem names_ok : NamesOk m__law_names := names_genA take_ok of_ok
theorem member_ok : MemberOk m__law_member := member_genA take_ok of_ok
theorem plain_ok {s : Sto} {k n m : Nat} {names : List Str} (hb : Bag s k) (hn : mlAt s n = some (names.map D.str)) (hnk : n ≠ k) (nd : names.Nodup) (hl : names.length ≤ 1000) (hm : m ≤ 26) :
    (m__law_plain [.ref k, .ref n, .int m, .int 3] s).wp fun d s' => Eff [k] s s' ∧ ∃ l ps, d = .ref l ∧ s.length ≤ l ∧ mlAt s' l = some (ps.map arcB) ∧ PlainW names ps ∧ ps.length = m :=
  plain_genA take_ok names_ok member_ok hb hn hnk nd hl hm
theorem other_ok {s : Sto} {k n pl : Nat} {names : List Str} {ps : List ArcB} (hb : Bag s k) (hn : mlAt s n = some (names.map D.str)) (hnk : n ≠ k) (nd : names.Nodup) (hl : names.length ≤ 1000) (hp : mlAt s pl = some (ps.map arcB)) (hpk : pl ≠ k) (hpl : ps.length ≤ 100) :
    (m__law_other [.ref k, .ref n, .ref pl] s).wp fun d s' => Eff [k] s s' ∧ ∃ p : ArcB, d = arcB p ∧ (p.1 ∈ ps.map (·.1) ∨ IsName p.1) ∧ (∀ r ∈ p.2, RowG1 names r) ∧ (p.2.map (·.mem)).Nodup ∧ p.2.length ≤ 3 ∧ BodW 199999 300000 (p.2.flatMap bodR) :=
  other_genA take_ok of_ok names_ok member_ok hb hn hnk nd hl hp hpk hpl
theorem bag_ok {s : Sto} {n : Nat} {ns : List Int} {a : Nat} (hx : lstAt s n = some (ns.map D.int)) : (m__law_bag [.ref n, .int a] s).wp fun d s' => ∃ k, d = .ref k ∧ s.length ≤ k ∧ Bag s' k ∧ Eff [] s s' :=
  bag_gen (c0 := 4447) (c1 := 829) (z := 60) (upd := updA 40014 2147483563 331) (M := 2147483399) (p := 18) (by decide) (by decide) (by unfold cPow; decide) (updA_ok (by decide) (by decide) (by decide)) hx
end Z

set_option Elab.async false
set_option linter.all false
set_option maxRecDepth 100000
set_option maxHeartbeats 4000000
namespace Z
open PySem PySem.Spec PyProof.Rows L2 TL
open PySem.PyData (strOk)
structure EI (s : Sto) (seen : List Str) (s2 : Sto) : Prop where
  ef : Eff [] s s2
  hz : s.length < s2.length
  st : mlAt s2 s.length = some (seen.map D.str)
theorem EI.eff {s t u : Sto} {seen : List Str} (h : EI s seen t) (e : Eff [] t u) : EI s seen u := ⟨h.ef.trans e, Nat.lt_of_lt_of_le h.hz e.le, e.ml h.st (by simp)⟩
def nineD (n : Nat) : List D := [D.non, D.int 0, D.bl true, D.tup [], D.ref n, D.tup [D.str (Str.ofString "a")], D.str (Str.ofString ""), D.str (Str.ofString "A"), D.str (Str.ofString "qqqqqqqqq")]
theorem nineD_len {n : Nat} : (nineD n).length = 9 := rfl
theorem right_ok {s : Sto} {d : D} {l : Nat} {names : List Str} {ps : List ArcB} (h : StoW names ps) (hn : ∀ x ∈ names, IsName x) (hS : IsSto s d (ps.map arcW)) (hl : mlAt s l = some (ps.map arcB)) :
    (m__law_is_right [d, .ref l] s).wp fun d' s' => d' = .bl true ∧ Eff [] s s' := by
  refine wp_of fun P hP => ?_
  unfold m__law_is_right
  rw [z_fnM (by rfl)]
  unfold s__law_is_right
  have hg := h.goodS hn
  have hok := h.okA hn
  have h6 := h.len
  rw [z_sCn]
  simp [-List.map_map]
  rw [lstAt_ml hl, lstP_some]
  refine wp_ne (lc_allS (fun d p => d = arcB p) (fun s d p => IsArc s d (arcW p)) (fun h k => h.keep k) (as := ps) AllR.of_map (it_lst (lstAt_ml hl) (by simp [-List.map_map]) rfl) (by rw [size_line]; omega) fun d3 p s3 hp hpm ef3 => ?_) ?_
  · subst hp
    refine ⟨_, rfl, ?_⟩
    simp [-List.map_map]
    refine wp_ne (larc_ok (h.arc p hpm) hn fun x hx => h.bd x (bodP_mem hpm x hx)) ?_
    rintro d4 s4 ⟨h1, h2⟩
    exact ⟨h2, h1⟩
  rintro _ s1 ⟨rfl, ef1, lt1, made, hm1, hmade⟩
  have hmade := hmade.mapr
  generalize hmm : s.length = m at *
  have hS1 := hS.eff0 ef1
  have hl1 := ef1.ml hl (by simp [-List.map_map])
  show nxt _ _ _ _
  rw [z_nxC]
  simp [-List.map_map]
  rw [z_lenO, hS1.ins, clsP_some]
  show optP (some m_Store___len__) _
  rw [optP_some]
  refine lenS_gen (cs := ["Store"]) (by decide) hS1 ?_
  simp [-List.map_map]
  refine ⟨by omega, ?_⟩
  rw [lstAt_ml hl1, lstP_some, if_pos (by rw [List.length_map])]
  obtain ⟨ds, hits, hds⟩ := hS1.its (itb := itb_Store) rfl
  rw [hits, walkP_ins]
  refine wp_ne (lc_allS (IsArc s1) (fun s d a => IsArc s d a) (fun h k => h.keep k) hds (it_tup rfl) (by rw [List.length_map, size_line]; omega) fun d3 a s3 ha _ ef3 => ?_) ?_
  · refine ⟨_, rfl, ?_⟩
    simp [-List.map_map]
    exact ⟨Eff.refl, ha.eff0 ef3⟩
  rintro _ s2 ⟨rfl, ef2, lt2, ys, hm2, hys⟩
  have hmade2 := hmade.mono fun _ _ h => h.eff0 ef2
  have hm1 := ef2.ml hm1 (by simp [-List.map_map])
  refine wp_ne (eqO_lists eqA_ok (cs := cls) (tb := tb___eq___Archive) (neg := true) (by decide) rfl (mlAt_get hm2) (mlAt_get hm1) (by omega) hys hmade2 hok hok) ?_
  rintro _ s3 ⟨rfl, ef3⟩
  have hm3 := ef3.ml hm1 (by simp [-List.map_map])
  have e3 := (ef1.trans ef2).trans ef3
  have hS3 := hS.eff0 e3
  have hl3 := e3.ml hl (by simp [-List.map_map])
  have hmade3 := hmade2.mono fun _ _ h => h.eff0 ef3
  rw [decide_eq_true rfl, Bool.true_xor, Bool.not_true, blP_bl, if_neg Bool.false_ne_true]
  clear hmade2 hmade ef1 ef2 ef3 hS1 hl1 hits hds hm2 hys hm1
  rw [z_nxC, z_sF]
  simp [-List.map_map]
  rw [lstAt_ml hl3, lstP_some]
  refine for_it (ks := []) (s0 := s3) (xs := enD (ps.map arcB)) (it_en (lstAt_ml hl3) (by simp [-List.map_map]) rfl) (fun i e s4 => Eff [] s3 s4 ∧ ∃ o5 o6, e = [some d, some (.ref l), some (.ref m), none, none, o5, o6, none, none, none, none, none, none, none, none]) (fun _ _ _ h => h.1) ?_ ⟨Eff.refl, _, _, rfl⟩ ?_
  · rintro i x e s4 hxi ⟨ef4, o5, o6, rfl⟩
    obtain ⟨p, hp, rfl⟩ : ∃ p, ps[i]? = some p ∧ x = .tup [.int i, arcB p] := by
      unfold enD at hxi
      rw [List.getElem?_mapIdx, List.getElem?_map] at hxi
      obtain ⟨y, h1, h2⟩ := Option.map_eq_some_iff.mp hxi
      obtain ⟨p, h3, rfl⟩ := Option.map_eq_some_iff.mp h1
      exact ⟨p, h3, h2.symm⟩
    have hpm := List.mem_of_getElem? hp
    have hS4 := hS3.eff0 ef4
    have hmem : arcW p ∈ ps.map arcW := List.mem_map_of_mem hpm
    refine ⟨_, rfl, ?_⟩
    simp [-List.map_map, arcB]
    rw [hS4.ins, clsP_some]
    show optP (some m_Store___contains__) _
    rw [optP_some]
    refine wp_ne (cont_s hS4 (h.arc p hpm).nm.ok (fun m hm => (hg.names m hm).ok) (by rw [List.length_map]; omega)) ?_
    rintro _ s5 ⟨rfl, ef5⟩
    have hS5 := hS4.eff0 ef5
    rw [decide_eq_true (show p.1 ∈ (ps.map arcW).map (·.name) from List.mem_map_of_mem (f := ArcA.name) hmem), blP_bl, if_pos rfl]
    rw [hS5.ins, clsP_some]
    show optP (some m_Store___getitem__) _
    rw [optP_some]
    refine wp_ne (get_s (m := arcW p) hS5 hmem hg) ?_
    rintro da s6 ⟨ha6, ef6⟩
    have e6 := (ef4.trans ef5).trans ef6
    have hm6 := e6.ml hm3 (by simp [-List.map_map])
    have hma := (hmade3.2 i _ (arcW p) (List.getElem?_eq_getElem (by rw [hmade3.1, List.length_map]; exact (List.getElem?_eq_some_iff.mp hp).1)) (by rw [List.getElem?_map, hp]; rfl)).eff0 e6
    rw [lstAt_ml hm6, lstP_some, atI_of (List.getElem?_eq_getElem (by rw [hmade3.1, List.length_map]; exact (List.getElem?_eq_some_iff.mp hp).1)), datP_some]
    refine wp_ne (eqO_arc eqA_ok (cls := cls) (tb := tb___eq___Archive) (neg := true) rfl (by decide) ha6 hma (hok _ hmem) (hok _ hmem)) ?_
    rintro _ s7 ⟨rfl, ef7⟩
    rw [decide_eq_true rfl, Bool.true_xor, Bool.not_true, blP_bl, if_neg Bool.false_ne_true]
    exact e6.trans ef7
  rintro e s4 ⟨ef4, o5, o6, rfl⟩
  have e4 := e3.trans ef4
  have hS4 := hS.eff0 e4
  have hl4 := e4.ml hl (by simp [-List.map_map])
  clear hS3 hl3 hmade3 hm3 e3 ef4
  show nxt _ _ _ _
  rw [z_nxC]
  simp [-List.map_map]
  show nxt _ _ _ _
  rw [z_nxC, z_sF]
  have n0 : EI s4 [] (s4 ++ [SO.lst []]) := ⟨Eff.push, by simp [-List.map_map], mlAt_push⟩
  generalize s4 ++ [SO.lst []] = s5 at n0 ⊢
  simp [-List.map_map]
  rw [lstAt_ml (n0.ef.ml hl4 (by simp [-List.map_map])), lstP_some]
  refine for_it (ks := []) (s0 := s4) (xs := ps.map arcB) (it_lst (lstAt_ml hl4) (by simp [-List.map_map]) rfl) (fun i e s5 => EI s4 (nmsB (ps.take i)) s5 ∧ ∃ o7 o8 o9 o10 o11, e = [some d, some (.ref l), some (.ref m), some (.ref s4.length), none, o5, o6, o7, o8, o9, o10, o11, none, none, none]) (fun _ _ _ h => h.1.ef) ?_ ⟨n0, _, _, _, _, _, rfl⟩ ?_
  · rintro i x e s6 hxi ⟨h6', o7, o8, o9, o10, o11, rfl⟩
    obtain ⟨p, hp, rfl⟩ : ∃ p, ps[i]? = some p ∧ x = arcB p := by
      rw [List.getElem?_map] at hxi
      obtain ⟨p, h1, h2⟩ := Option.map_eq_some_iff.mp hxi
      exact ⟨p, h1, h2.symm⟩
    have hpm := List.mem_of_getElem? hp
    have b1 : (nmsB (ps.take i)).length + (p.2.flatMap nmsR).length ≤ (nmsB ps).length := flat_part hp
    have nl := h.nl
    refine ⟨_, rfl, ?_⟩
    rw [z_sF]
    simp [-List.map_map]
    refine for_it (ks := []) (s0 := s4) (xs := p.2.map rowB) (it_tup (by simp [-List.map_map])) (fun j e s5 => EI s4 (nmsB (ps.take i) ++ (p.2.take j).flatMap nmsR) s5 ∧ ∃ o9 o10 o11, e = [some d, some (.ref l), some (.ref m), some (.ref s4.length), none, o5, o6, some (.str p.1), some (.tup (p.2.map rowB)), o9, o10, o11, none, none, none]) (fun _ _ _ h => h.1.ef) ?_ ⟨by simpa [-List.map_map] using h6', _, _, _, rfl⟩ ?_
    · rintro j y e s7 hyj ⟨h7, o9, o10, o11, rfl⟩
      obtain ⟨r, hr, rfl⟩ : ∃ r, p.2[j]? = some r ∧ y = rowB r := by
        rw [List.getElem?_map] at hyj
        obtain ⟨p, h1, h2⟩ := Option.map_eq_some_iff.mp hyj
        exact ⟨p, h1, h2.symm⟩
      have b2 : ((p.2.take j).flatMap nmsR).length + (nmsR r).length ≤ (p.2.flatMap nmsR).length := flat_part hr
      have b3 : (nmsR r).length = r.gs.length + r.ws.length := by unfold nmsR; simp [-List.map_map]
      refine ⟨_, rfl, ?_⟩
      simp [-List.map_map, h7.st, isTy_ml h7.st, rowB]
      refine wp_ne (lc_mapR (ks := []) (fun d p => d = defD p) (fun p => .str p.1) AllR.of_map (it_tup (by simp [-List.map_map])) bags_nil (by rw [size_line]; omega) fun d3 q s8 hq _ ef8 _ => ?_) ?_
      · subst hq
        refine ⟨_, rfl, ?_⟩
        simp [-List.map_map, defD, Eff.refl]
      rintro _ s8 ⟨rfl, ef8, lt8, hl8⟩
      refine ⟨by rw [size_line]; omega, ?_⟩
      simp [-List.map_map]
      rw [show mlAt (s8 ++ [SO.lst (r.ws.map D.str)]) s7.length = some (r.gs.map fun p => D.str p.1) by rw [mlAt_app lt8]; exact hl8, lstP_some]
      have e9 : Eff [] s8 (s8 ++ [SO.lst (r.ws.map D.str), SO.lst ((r.gs.map fun p => D.str p.1) ++ r.ws.map D.str)]) := by
        have := (Eff.push (ks := []) (s := s8) (o := SO.lst (r.ws.map D.str))).trans (Eff.push (o := SO.lst ((r.gs.map fun p => D.str p.1) ++ r.ws.map D.str)))
        simpa [-List.map_map] using this
      have en : (r.gs.map fun p => D.str p.1) ++ r.ws.map D.str = (nmsR r).map D.str := by
        unfold nmsR
        rw [List.map_append, List.map_map]
        rfl
      have g9 : mlAt (s8 ++ [SO.lst (r.ws.map D.str), SO.lst ((r.gs.map fun p => D.str p.1) ++ r.ws.map D.str)]) (s8.length + 1) = some ((nmsR r).map D.str) := by rw [← en]; exact mlAt_some (by rw [List.getElem?_append_right (by omega)]; simp [-List.map_map])
      refine ⟨by rw [List.length_map, size_line]; omega, ?_⟩
      generalize s8 ++ [SO.lst (r.ws.map D.str), SO.lst ((r.gs.map fun p => D.str p.1) ++ r.ws.map D.str)] = s9 at e9 g9 ⊢
      have h9 := (h7.eff ef8).eff e9
      rw [z_extend (k := 0), h9.st, lstP_some, seqD_ref, lstAt_ml g9, optP_some]
      refine ⟨by rw [List.length_map, List.length_map, List.length_append, size_line]; omega, h9.ef.set (Nat.le_refl _), by rw [List.length_set]; exact h9.hz, ?_⟩
      rw [mlAt_set_self h9.hz, flat_snoc hr, ← List.append_assoc]
      simp only [List.map_append]
    · rintro e s7 ⟨h7, o9, o10, o11, rfl⟩
      rw [List.length_map, List.take_length] at h7
      refine ⟨?_, _, _, _, _, _, rfl⟩
      unfold nmsB
      rw [flat_snoc hp]
      exact h7
  rintro e s6 ⟨h6', o7, o8, o9, o10, o11, rfl⟩
  rw [List.length_map, List.take_length] at h6'
  have e6 := e4.trans h6'.ef
  have hS6 := hS.eff0 e6
  have nl := h.nl
  show nxt _ _ _ _
  rw [z_nxC]
  have hS6' := hS6
  obtain ⟨nd, dsS, rfl, hnd, -⟩ := hS6'
  simp [-List.map_map]
  rw [hnd, insP_some]
  show optP (some m_Store_names) _
  rw [optP_some]
  refine ⟨fun a b h => by
    simp only [List.mem_cons, Prod.mk.injEq, List.not_mem_nil, or_false] at h
    rcases h with ⟨rfl, _⟩
    decide, ?_⟩
  have pm := nms_perm (ps := ps)
  have inN : ∀ x ∈ sortS (onceS (nmsS (ps.map arcW))), IsName x := fun x hx => hn x (h.nmsB x (pm.mem_iff.mp ((onceS_mem _ _).mp ((sortS_perm _).mem_iff.mp hx))))
  have inN2 : ∀ x ∈ sortS (onceS (nmsB ps)), IsName x := fun x hx => hn x (h.nmsB x ((onceS_mem _ _).mp ((sortS_perm _).mem_iff.mp hx)))
  have l1 : (sortS (onceS (nmsS (ps.map arcW)))).length ≤ 90 := by
    rw [(sortS_perm _).length_eq]
    have := onceS_le (xs := nmsS (ps.map arcW))
    rw [pm.length_eq] at this
    omega
  have l2 : (sortS (onceS (nmsB ps))).length ≤ 90 := by
    rw [(sortS_perm _).length_eq]
    have := onceS_le (xs := nmsB ps)
    omega
  have same : sortS (onceS (nmsS (ps.map arcW))) = sortS (onceS (nmsB ps)) := sortS_same (onceS_nodup _) (onceS_nodup _) fun x => by rw [onceS_mem, onceS_mem, pm.mem_iff]
  refine wp_ne (names_s hS6 (by rw [pm.length_eq]; omega) fun x hx => (hn x (h.nmsB x (pm.mem_iff.mp hx))).ok) ?_
  rintro _ s7 ⟨ef7, t, rfl, htl, ht⟩
  have e7 := e6.trans ef7
  have h7 := (h6'.eff ef7)
  show nxt _ _ _ _
  rw [z_nxC]
  simp [-List.map_map]
  refine repr_names (lstAt_ml ht) inN (by omega) ?_
  rw [z_setOfL (lstAt_ml h7.st) (keysD_map _) (by rw [List.length_map]; omega), onceD_strs]
  rw [z_sortZ (setAt_some (by simp [-List.map_map])) (strs_mapM _) fun z hz => (hn z (h.nmsB z ((onceS_mem _ _).mp hz))).ok]
  simp [-List.map_map]
  refine repr_names (xs := sortS (onceS (nmsB ps))) (lstAt_some (by rw [List.getElem?_append_right (by omega)]; simp [-List.map_map])) inN2 (by omega) ?_
  rw [z_neS, same, decide_eq_true rfl, Bool.not_true, blP_bl, if_neg Bool.false_ne_true]
  have ef8 : Eff [] s7 (s7 ++ [SO.set ((onceS (nmsB ps)).map D.str), SO.lst ((sortS (onceS (nmsB ps))).map D.str)]) := by
    have := (Eff.push (ks := []) (s := s7) (o := SO.set ((onceS (nmsB ps)).map D.str))).trans (Eff.push (o := SO.lst ((sortS (onceS (nmsB ps))).map D.str)))
    simpa [-List.map_map] using this
  have ht8 := ef8.ml ht (by simp [-List.map_map])
  have z8 := ef8.le
  generalize s7 ++ [SO.set ((onceS (nmsB ps)).map D.str), SO.lst ((sortS (onceS (nmsB ps))).map D.str)] = s8 at ef8 ht8 z8 ⊢
  have e8 := e7.trans ef8
  rw [z_nxC]
  simp [-List.map_map, isTy_ml ht8, ht8]
  refine ⟨by rw [size_line]; omega, ?_⟩
  have e9 : Eff [] s (s8.set t (.lst ((sortS (onceS (nmsS (ps.map arcW)))).map D.str ++ [.str (Str.ofString "x")]))) := e8.set (by have := e6.le; omega)
  generalize s8.set t (.lst ((sortS (onceS (nmsS (ps.map arcW)))).map D.str ++ [.str (Str.ofString "x")])) = s9 at e9 ⊢
  show nxt _ _ _ _
  rw [z_nxt]
  simp [-List.map_map]
  have hS9 := hS.eff0 e9
  have e10 : Eff [] s9 (s9 ++ [SO.lst [], SO.lst (nineD s9.length)]) := by
    have := (Eff.push (ks := []) (s := s9) (o := SO.lst [])).trans (Eff.push (o := SO.lst (nineD s9.length)))
    simpa [-List.map_map] using this
  have g0 : mlAt (s9 ++ [SO.lst [], SO.lst (nineD s9.length)]) s9.length = some [] := mlAt_some (by rw [List.getElem?_append_right (Nat.le_refl _)]; simp [-List.map_map])
  have g1 : mlAt (s9 ++ [SO.lst [], SO.lst (nineD s9.length)]) (s9.length + 1) = some (nineD s9.length) := mlAt_some (by rw [List.getElem?_append_right (by omega)]; simp [-List.map_map])
  refine ⟨by rw [size_line]; omega, by rw [size_line]; omega, ?_⟩
  show lstP (lstAt (s9 ++ [SO.lst [], SO.lst (nineD s9.length)]) (s9.length + 1)) _
  rw [lstAt_ml g1, lstP_some]
  have z10 : (s9 ++ [SO.lst [], SO.lst (nineD s9.length)]).length = s9.length + 2 := by simp [-List.map_map]
  refine wp_ne (lc_mapR2 (ks := []) (s9 ++ [SO.lst [], SO.lst (nineD s9.length)]) (fun d a => d = a) (fun _ => D.bl false) (as := nineD s9.length) (by rw [z10]) (by simp [-List.map_map, nineD]) ⟨rfl, fun i d a h1 h2 => by rw [h1] at h2; exact Option.some.inj h2⟩ (it_lst (lstAt_ml g1) (by simp [-List.map_map]) rfl) bags_nil (by rw [size_line, nineD_len]; omega) fun d3 a s11 hda ham ef11 _ => ?_) ?_
  · subst hda
    refine ⟨_, rfl, ?_⟩
    have hS11 := (hS9.eff0 e10).eff0 ef11
    have g11 := ef11.ml g0 (by simp [-List.map_map])
    simp [-List.map_map]
    rw [hS11.ins, clsP_some]
    show optP (some m_Store___contains__) _
    rw [optP_some]
    have txt : ∀ x : Str, strOk x = true → ¬ IsName x → (m_Store___contains__ [.ref nd, .str x] s11).wp fun d s1 => blP d fun b => Eff [] s11 s1 ∧ b = false := fun x hx hnx => by
      refine wp_ne (cont_s hS11 hx (fun m hm => (hg.names m hm).ok) (by rw [List.length_map]; omega)) ?_
      rintro _ s12 ⟨rfl, ef12⟩
      rw [blP_bl]
      refine ⟨ef12, decide_eq_false fun hm => ?_⟩
      obtain ⟨a, ha, rfl⟩ := List.mem_map.mp hm
      exact hnx (hg.names a ha)
    have no : ∀ (x : D) (n : String), tyN s11 x = some n → kitB n "str" = some false → (m_Store___contains__ [.ref nd, x] s11).wp fun d s1 => blP d fun b => Eff [] s11 s1 ∧ b = false := fun x n h1 h2 =>
      cont_no (cs := ["Store"]) (csI := ["Archive"]) (f := "archives") h1 h2 (by rw [blP_bl]; exact ⟨Eff.refl, rfl⟩)
    unfold nineD at ham
    simp only [List.mem_cons, List.not_mem_nil, or_false] at ham
    rcases ham with rfl | rfl | rfl | rfl | rfl | rfl | rfl | rfl | rfl
    · exact no .non "NoneType" rfl (by decide +kernel)
    · exact no (.int 0) "int" rfl (by decide +kernel)
    · exact no (.bl true) "bool" rfl (by decide +kernel)
    · exact no (.tup []) "tuple" rfl (by decide +kernel)
    · exact no (.ref s9.length) "list" (by unfold tyN; dsimp only; rw [mlAt_get g11]) (by decide +kernel)
    · exact no (.tup [.str (Str.ofString "a")]) "tuple" rfl (by decide +kernel)
    · exact txt _ (by decide +kernel) fun h => absurd h.pos (by decide +kernel)
    · exact txt _ (by decide +kernel) fun h => absurd (h.low 65 (by decide +kernel)) (by unfold isLow; decide)
    · exact txt _ (by decide +kernel) fun h => absurd h.len (by decide +kernel)
  rintro _ s11 ⟨rfl, ef11, lt11, hb11⟩
  rw [z_all]
  refine ⟨_, List.replicate 9 false, lstAt_ml hb11, by rfl, ?_⟩
  simp [-List.map_map]
  exact hP _ _ ⟨rfl, (e9.trans e10).trans ef11⟩
end Z

set_option Elab.async false
set_option linter.all false
set_option maxRecDepth 100000
set_option maxHeartbeats 4000000
namespace Z
open PySem PySem.Spec PyProof.Rows L2 TL
open PySem.PyData (strOk)
def turnE : SM := (sC (sF (iSq (mV 4)) (gN 9) (sC (sA 10 (m2 (dOwnL tb___or___Store ["Archive"] false dNo2) (mV 5) (mN m__law_archive (aC (m2 dIx (mV 9) (mC (.int 0))) (aC (m2 dIx (mV 9) (mC (.int 1))) aN))))) (sI (bOr (bNot (toB (m2 (dEqO cls tb___eq___Store false) (mV 10) (mV 5)))) (bNot (toT (mN m__law_is_right (aC (mV 10) (aC (mV 4) aN)))))) (sR (mC (.bl false))) sN))) (sI (bOr (toB (m2 (dInI tb___eq___Store false (dInB false)) (mV 5) (mN fLst (aC (mC .non) (aC (mN fLst aN) (aC (mV 4) (aC (mL (iOwn itb_Store (mV 5)) (gN 11) tY (mV 11) [11]) aN))))))) (toB (m2 dNe (m2 (dEqO cls tb___eq___Store false) (mN (mkD "Store" m_Store___init__) aN) (mV 5)) (m2 dEq (mV 4) (mN fLst aN))))) (sR (mC (.bl false))) sN))
def turnD : SM := (sC (sI (bOr (bNot (toT (mN m__law_is_right (aC (mV 7) (aC (mV 8) aN))))) (bNot (toT (mN m__law_is_right (aC (mV 5) (aC (mV 4) aN)))))) (sR (mC (.bl false))) sN) (sC (sI (toB (m2 dNe (m2 (dEqO cls tb___eq___Store false) (mV 7) (mV 5)) (m2 dEq (mN m__law_told (aC (mV 8) aN)) (mN m__law_told (aC (mV 4) aN))))) (sR (mC (.bl false))) sN) (sC (sI (toB (m2 dNe (m2 (dEqO cls tb___eq___Store false) (mN m__law_store (aC (mRev (mV 4)) aN)) (mV 5)) (m2 dEq (mRev (mV 4)) (mV 4)))) (sR (mC (.bl false))) sN) turnE)))
def turnB : SM := (sC (sA 6 (mN m__law_other (aC (mV 2) (aC (mV 3) (aC (mV 4) aN))))) (sC (sA 7 (m2 (dOwnL tb___or___Store ["Archive"] false dNo2) (mV 5) (mN m__law_archive (aC (m2 dIx (mV 6) (mC (.int 0))) (aC (m2 dIx (mV 6) (mC (.int 1))) aN))))) (sC (sA 8 (mL (iSq (mV 4)) (gN 9) tY (mIf (toB (m2 dEq (m2 dIx (mV 9) (mC (.int 0))) (m2 dIx (mV 6) (mC (.int 0))))) (mV 6) (mV 9)) [9])) (sC (sA 8 (m2 dAdd (mV 8) (m2 dMul2 (mN fLst (aC (mV 6) aN)) (mN fInt (aC (m2 (dInB true) (mV 6) (mV 8)) aN))))) turnD))))
def turnA : SM := (sC (sA 2 (mN m__law_bag (aC (mV 0) (aC (mV 1) aN)))) (sC (sA 3 (mN m__law_names (aC (mV 2) (aC (mC (.int 6)) aN)))) (sC (sA 4 (mN m__law_plain (aC (mV 2) (aC (mV 3) (aC (mN m__law_take (aC (mV 2) (aC (mC (.int 6)) aN))) (aC (mC (.int 3)) aN)))))) (sC (sA 5 (mN m__law_store (aC (mV 4) aN))) (sC (sI (bOr (bNot (toT (mN m__law_is_right (aC (mV 5) (aC (mV 4) aN))))) (bNot (toB (m2 (dEqO cls tb___eq___Store false) (mV 5) (mN m__law_store (aC (mV 4) aN)))))) (sR (mC (.bl false))) sN) turnB)))))
theorem law_split : s_law = (sC (sF (iR1 (aC (mN fMax2 (aC (mC (.int 1)) (aC (mN fMin2 (aC (mC (.int 4)) (aC (mN fLen (aC (mV 0) aN)) aN))) aN))) aN)) (gN 1) turnA) (sR (mC (.bl true)))) := rfl
theorem told_ok {names : List Str} {ps : List ArcB} (h : StoW names ps) (hn : ∀ x ∈ names, IsName x) {s : Sto} {l : Nat} (hl : mlAt s l = some (ps.map arcB)) :
    (m__law_told [.ref l] s).wp fun d s' => Eff [] s s' ∧ ∃ n, d = .ref n ∧ s.length ≤ n ∧ ∃ ds, mlAt s' n = some ds ∧ AllR (TA n s') ds (ps.map arcW) := told_gen h hn hl
theorem eqS_wp {s : Sto} {x y : D} {neg : Bool} {names : List Str} {ps qs : List ArcB} (hn : ∀ x ∈ names, IsName x) (h : StoW names ps) (h2 : StoW names qs) (hx : IsSto s x (ps.map arcW)) (hy : IsSto s y (qs.map arcW)) :
    (dEqO cls tb___eq___Store neg x y s).wp fun d s' => d = .bl (neg ^^ decide (ps.map arcW = qs.map arcW)) ∧ Eff [] s s' :=
  eqO_sto eqS_ok rfl (by decide) hx hy h.lenA h2.lenA (h.okA hn) (h2.okA hn)
structure EnvE (s0 : Sto) (l : Nat) (d5 : D) (o1 o2 o3 o6 o7 o8 o11 : Option D) (e : Ev) (s : Sto) : Prop where
  ef : Eff [] s0 s
  ex : ∃ o9 o10, e = [some (.ref 0), o1, o2, o3, some (.ref l), some d5, o6, o7, o8, o9, o10, o11]
theorem turnE_wp {s : Sto} {l : Nat} {d5 : D} {names : List Str} {ps : List ArcB} (h : StoW names ps) (hn : ∀ x ∈ names, IsName x) (hl : mlAt s l = some (ps.map arcB)) (hS : IsSto s d5 (ps.map arcW)) (o1 o2 o3 o6 o7 o8 o9 o10 o11 : Option D) :
    (turnE [some (.ref 0), o1, o2, o3, some (.ref l), some d5, o6, o7, o8, o9, o10, o11] s).wp { nx := EnvE s l d5 o1 o2 o3 o6 o7 o8 o11, rt := fun _ _ => False } := by
  unfold turnE
  have hg := h.goodS hn
  have h6 := h.len
  rw [z_sCn, z_sF]
  simp [-List.map_map]
  rw [lstAt_ml hl, lstP_some]
  refine for_it (ks := []) (s0 := s) (xs := ps.map arcB) (it_lst (lstAt_ml hl) (by simp [-List.map_map]) rfl) (fun i e s1 => EnvE s l d5 o1 o2 o3 o6 o7 o8 o11 e s1) (fun _ _ _ h => h.ef) ?_ ⟨Eff.refl, _, _, rfl⟩ ?_
  · rintro i x e s1 hxi ⟨ef1, o9, o10, rfl⟩
    obtain ⟨p, hp, rfl⟩ : ∃ p, ps[i]? = some p ∧ x = arcB p := by
      rw [List.getElem?_map] at hxi
      obtain ⟨p, h1, h2⟩ := Option.map_eq_some_iff.mp hxi
      exact ⟨p, h1, h2.symm⟩
    have hpm := List.mem_of_getElem? hp
    have hmem : arcW p ∈ ps.map arcW := List.mem_map_of_mem hpm
    refine ⟨_, rfl, ?_⟩
    rw [z_sCn]
    simp [-List.map_map, arcB]
    refine wp_ne (larc_ok (h.arc p hpm) hn fun x hx => h.bd x (bodP_mem hpm x hx)) ?_
    rintro da s2 ⟨ha2, ef2⟩
    have hS2 := (hS.eff0 ef1).eff0 ef2
    rw [hS2.ins, clsP_some]
    show optP (some m_Store___or__) _
    rw [optP_some]
    refine ⟨ha2.right, ?_⟩
    have eo : orA (ps.map arcW) (arcW p) = ps.map arcW := orA_same hmem hg.nd
    refine wp_ne (or_ok hS2 ha2 hg (h.arc p hpm).nm (by rw [eo]; exact hg)) ?_
    rintro d3 s3 ⟨hs3, ef3⟩
    rw [eo] at hs3
    have e3 := (ef1.trans ef2).trans ef3
    show nxt _ _ _ _
    rw [z_nxt]
    simp [-List.map_map]
    refine wp_ne (eqS_wp hn h h hs3 (hS.eff0 e3)) ?_
    rintro _ s4 ⟨rfl, ef4⟩
    have e4 := e3.trans ef4
    rw [decide_eq_true rfl]
    simp [-List.map_map]
    refine wp_ne (right_ok h hn (hs3.eff0 ef4) (e4.ml hl (by simp [-List.map_map]))) ?_
    rintro _ s5 ⟨rfl, ef5⟩
    simp [-List.map_map]
    exact ⟨e4.trans ef5, _, _, rfl⟩
  · rintro e s1 ⟨ef1, o9, o10, rfl⟩
    have hS1 := hS.eff0 ef1
    have hl1 := ef1.ml hl (by simp [-List.map_map])
    show nxt _ _ _ _
    rw [z_nxt]
    simp [-List.map_map, -z_mkD]
    have g1 : mlAt (s1 ++ [SO.lst []]) s1.length = some [] := mlAt_push
    have e2 : Eff [] s1 (s1 ++ [SO.lst []]) := Eff.push
    have z2 : (s1 ++ [SO.lst []]).length = s1.length + 1 := by simp [-List.map_map]
    rw [show s1 ++ [SO.lst [], SO.lst []] = (s1 ++ [SO.lst []]) ++ [SO.lst []] by simp [-List.map_map], ← z2]
    generalize hs2 : s1 ++ [SO.lst []] = s2 at g1 e2 z2 ⊢
    have hS2 := hS1.eff0 e2
    have hl2 := e2.ml hl1 (by simp [-List.map_map])
    obtain ⟨ds, hits, hds⟩ := hS2.its (itb := itb_Store) rfl
    rw [hits, walkP_ins]
    refine wp_ne (lc_allS (IsArc s2) (fun s d a => IsArc s d a) (fun h k => h.keep k) hds (it_tup rfl) (by rw [List.length_map, size_line]; omega) fun d3 a s3 ha _ ef3 => ?_) ?_
    · refine ⟨_, rfl, ?_⟩
      simp [-List.map_map]
      exact ⟨Eff.refl, ha.eff0 ef3⟩
    rintro _ s3 ⟨rfl, ef3, lt3, ys, hm3, -⟩
    refine ⟨by rw [size_line]; omega, ?_⟩
    have e4 : Eff [] s3 (s3 ++ [SO.lst [D.non, D.ref s1.length, D.ref l, D.ref s2.length]]) := Eff.push
    have h4 : (s3 ++ [SO.lst [D.non, D.ref s1.length, D.ref l, D.ref s2.length]])[s3.length]? = some (.lst [D.non, D.ref s1.length, D.ref l, D.ref s2.length]) := by simp [-List.map_map]
    have e24 := ef3.trans e4
    have a1 := e24.ml g1 (by simp [-List.map_map])
    have a2 := e24.ml hl2 (by simp [-List.map_map])
    have a3 := e4.ml hm3 (by simp [-List.map_map])
    have hS4 := hS2.eff0 e24
    have e14 := (ef1.trans e2).trans e24
    generalize s3 ++ [SO.lst [D.non, D.ref s1.length, D.ref l, D.ref s2.length]] = s4 at e4 h4 e24 a1 a2 a3 hS4 e14 ⊢
    obtain ⟨n5, fs, hd5, hn5⟩ := ref_of hS4.ins
    have isl : ∀ {i : Nat} {xs : List D}, mlAt s4 i = some xs → itOk s4 (.ref i) = true ∧ ∀ (P : D → Sto → Prop) (E : Str → Str → D → Sto → Prop), P (.bl false) s4 → (m_Store___eq__ [.ref n5, .ref i] s4).wp P E := fun {i xs} hi => by
      have g := mlAt_get hi
      refine ⟨by unfold itOk; dsimp only; rw [mLst_of g]; rfl, fun P E hP => ?_⟩
      exact eqS_no (cls := cls) (tbE := tb___eq___Archive) (tbL := tb___len___Store) (itb := itb_Store) (t := "list") (by unfold insC; dsimp only; rw [g]) (by unfold tyN; dsimp only; rw [g]) (by decide +kernel) hP
    subst hd5
    refine inI_no (tb := tb___eq___Store) (G := m_Store___eq__) (c := "Store") h4 hS4.ins rfl (fun d hd => ?_) ?_
    · simp only [List.mem_cons, List.not_mem_nil, or_false] at hd
      rcases hd with rfl | rfl | rfl | rfl
      · exact ⟨rfl, fun P E hP => eqS_no (cls := cls) (tbE := tb___eq___Archive) (tbL := tb___len___Store) (itb := itb_Store) (t := "NoneType") rfl rfl (by decide +kernel) hP⟩
      · exact isl a1
      · exact isl a2
      · exact isl a3
    rw [blP_bl]
    refine ⟨rfl, ?_⟩
    have g0 : StoW names [] := ⟨by simp [-List.map_map], by simp [-List.map_map], by simp [-List.map_map, bodP], by simp [-List.map_map, bodP], by simp [-List.map_map]⟩
    refine wp_ne (store_ok (g0.goodS hn) AllR.nil) ?_
    rintro d6 s6 ⟨hs6, ef6⟩
    refine wp_ne (eqS_wp hn g0 h (by simpa [-List.map_map] using hs6) (hS4.eff0 ef6)) ?_
    rintro _ s7 ⟨rfl, ef7⟩
    have e7 := (ef6.trans ef7).trans (Eff.push (o := SO.lst []))
    have q1 := e7.ml a2 (by simp [-List.map_map])
    classical
    rw [z_eqL (xs := ps.map arcB) (ys := []) (lstAt_ml q1) lstAt_push (plains_arcB h.arc hn) rfl]
    have eq : (false ^^ decide (List.map arcW [] = ps.map arcW)) = decide (ps.map arcB = []) := by
      cases ps with
      | nil => simp [-List.map_map]
      | cons p ps => simp [-List.map_map]
    rw [eq, z_neB, blP_bl]
    exact ⟨rfl, e14.trans e7, _, _, rfl⟩
end Z

set_option Elab.async false
set_option linter.all false
set_option maxRecDepth 100000
set_option maxHeartbeats 4000000
namespace Z
open PySem PySem.Spec PyProof.Rows L2 TL
open PySem.PyData (strOk)
theorem turnD_wp {s : Sto} {l l8 : Nat} {d5 d7 : D} {names : List Str} {ps qs : List ArcB} (h : StoW names ps) (h2 : StoW names qs) (hn : ∀ x ∈ names, IsName x) (hl : mlAt s l = some (ps.map arcB)) (hl8 : mlAt s l8 = some (qs.map arcB)) (hS : IsSto s d5 (ps.map arcW)) (hS7 : IsSto s d7 (qs.map arcW)) (o1 o2 o3 o6 o9 o10 o11 : Option D) :
    (turnD [some (.ref 0), o1, o2, o3, some (.ref l), some d5, o6, some d7, some (.ref l8), o9, o10, o11] s).wp { nx := fun e s' => Eff [] s s' ∧ ∃ o9 o10, e = [some (.ref 0), o1, o2, o3, some (.ref l), some d5, o6, some d7, some (.ref l8), o9, o10, o11], rt := fun _ _ => False } := by
  unfold turnD
  rw [z_sCn]
  simp [-List.map_map]
  refine wp_ne (right_ok h2 hn hS7 hl8) ?_
  rintro _ s1 ⟨rfl, ef1⟩
  simp [-List.map_map]
  refine wp_ne (right_ok h hn (hS.eff0 ef1) (ef1.ml hl (by simp [-List.map_map]))) ?_
  rintro _ s2 ⟨rfl, ef2⟩
  simp [-List.map_map]
  have e2 := ef1.trans ef2
  show nxt _ _ _ _
  rw [z_nxC]
  simp [-List.map_map]
  refine wp_ne (eqS_wp hn h2 h (hS7.eff0 e2) (hS.eff0 e2)) ?_
  rintro _ s3 ⟨rfl, ef3⟩
  have e3 := e2.trans ef3
  refine wp_ne (told_ok h2 hn (e3.ml hl8 (by simp [-List.map_map]))) ?_
  rintro _ s4 ⟨ef4, n4, rfl, hn4, ds4, hd4, hr4⟩
  have e4 := e3.trans ef4
  refine wp_ne (told_ok h hn (e4.ml hl (by simp [-List.map_map]))) ?_
  rintro _ s5 ⟨ef5, n5, rfl, hn5, ds5, hd5, hr5⟩
  have e5 := e4.trans ef5
  rw [z_eq (shp_told (ef5.ml hd4 (by simp [-List.map_map])) (hr4.mono fun _ _ h => h.stay (Stay.of ef5)) (h2.okA hn)) (shp_told hd5 hr5 (h.okA hn)), eqv_S (h2.okA hn) (h.okA hn), Bool.false_xor, z_neB]
  simp [-List.map_map]
  show nxt _ _ _ _
  rw [z_nxt]
  simp [-List.map_map]
  have hl5 := e5.ml hl (by simp [-List.map_map])
  rw [lstAt_ml hl5, lstP_some]
  have hr : StoW names ps.reverse := h.perm (List.reverse_perm ps)
  have e6 : Eff [] s5 (s5 ++ [SO.lst (ps.map arcB).reverse]) := Eff.push
  have hl6 : mlAt (s5 ++ [SO.lst (ps.map arcB).reverse]) s5.length = some (ps.reverse.map arcB) := by rw [List.map_reverse]; exact mlAt_push
  generalize s5 ++ [SO.lst (ps.map arcB).reverse] = s6 at e6 hl6 ⊢
  refine wp_ne (lsto_ok hr hn hl6) ?_
  rintro d7 s7 ⟨hs7, ef7⟩
  have e7 := (e5.trans e6).trans ef7
  refine wp_ne (eqS_wp hn hr h hs7 (hS.eff0 e7)) ?_
  rintro _ s8 ⟨rfl, ef8⟩
  have e8 := e7.trans ef8
  have hl8' := e8.ml hl (by simp [-List.map_map])
  rw [lstAt_ml hl8', lstP_some]
  have e9 : Eff [] s8 (s8 ++ [SO.lst (ps.map arcB).reverse]) := Eff.push
  have hl9 : mlAt (s8 ++ [SO.lst (ps.map arcB).reverse]) s8.length = some (ps.reverse.map arcB) := by rw [List.map_reverse]; exact mlAt_push
  have hl9' := e9.ml hl8' (by simp [-List.map_map])
  generalize s8 ++ [SO.lst (ps.map arcB).reverse] = s9 at e9 hl9 hl9' ⊢
  classical
  rw [z_eqL (xs := ps.reverse.map arcB) (ys := ps.map arcB) (lstAt_ml hl9) (lstAt_ml hl9') (plains_arcB hr.arc hn) (plains_arcB h.arc hn)]
  have eq : (false ^^ decide (ps.reverse.map arcW = ps.map arcW)) = decide (ps.reverse.map arcB = ps.map arcB) := by
    rw [Bool.false_xor]
    by_cases q : ps.reverse = ps
    · rw [q]
      simp [-List.map_map]
    · rw [decide_eq_false fun e => q (map_inj' (fun _ _ => arcB_inj) e), decide_eq_false fun e => q (perm_names (List.reverse_perm ps) h.nd ?_)]
      have := congrArg (List.map ArcA.name) e
      rw [map_arcW, map_arcW] at this
      exact this
  rw [eq, z_neB]
  simp [-List.map_map]
  have eA := e8.trans e9
  refine RS.wp_mono (turnE_wp h hn (eA.ml hl (by simp [-List.map_map])) (hS.eff0 eA) o1 o2 o3 o6 _ _ o9 o10 o11) ?_ (fun _ _ h => h.elim) (fun _ _ h => h.elim) (fun _ _ h => h.elim) (fun _ _ _ _ _ h => h.elim)
  rintro e t ⟨ef, o9, o10, rfl⟩
  exact ⟨eA.trans ef, _, _, rfl⟩
theorem bags_one {s : Sto} {k : Nat} (h : Bag s k) : Bags s [k] := fun j hj => by
  rw [List.mem_singleton] at hj
  subst hj
  exact h
theorem pushes {ks : List Nat} {s : Sto} {a b : SO} : Eff ks s (s ++ [a, b]) := by
  have := (Eff.push (ks := ks) (s := s) (o := a)).trans (Eff.push (o := b))
  simpa [-List.map_map] using this
theorem turnB_wp {s : Sto} {k L l : Nat} {d5 : D} {names : List Str} {ps : List ArcB} (hb : Bag s k) (hP : PlainW names ps) (h5 : ps.length ≤ 5) (hn : ∀ x ∈ names, IsName x) (nd : names.Nodup) (hnl : names.length ≤ 1000) (hL : mlAt s L = some (names.map D.str)) (hl : mlAt s l = some (ps.map arcB)) (hLk : L ≠ k) (hlk : l ≠ k) (hS : IsSto s d5 (ps.map arcW)) (o1 o6 o7 o8 o9 o10 o11 : Option D) :
    (turnB [some (.ref 0), o1, some (.ref k), some (.ref L), some (.ref l), some d5, o6, o7, o8, o9, o10, o11] s).wp { nx := fun e s' => Eff [k] s s' ∧ ∃ o6 o7 o8 o9 o10, e = [some (.ref 0), o1, some (.ref k), some (.ref L), some (.ref l), some d5, o6, o7, o8, o9, o10, o11], rt := fun _ _ => False } := by
  have h := hP.sto (by omega)
  unfold turnB
  rw [z_sCn]
  simp [-List.map_map]
  refine wp_ne (other_ok hb hL hLk nd hnl hl hlk (by omega)) ?_
  rintro _ s1 ⟨ef1, p, rfl, p1, p2, p3, p4, p5⟩
  have hS1 := hS.eff ef1 (bags_one hb)
  have hl1 := ef1.ml hl (by simpa [-List.map_map] using hlk)
  have hpn : IsName p.1 := by
    rcases p1 with q | q
    · obtain ⟨o, ho, e⟩ := List.mem_map.mp q
      rw [← e]
      exact (h.arc o ho).nm
    · exact q
  have hpA : ArcG1 names p := ⟨hpn, p2, p3, p4⟩
  have hq := StoW.put hP h5 hpA p5
  have hg := h.goodS hn
  have hgq := hq.goodS hn
  show nxt _ _ _ _
  rw [z_nxC]
  simp [-List.map_map, arcB]
  refine wp_ne (larc_ok hpA hn fun x hx => by have := p5.bd x hx; omega) ?_
  rintro da s2 ⟨ha2, ef2⟩
  have hS2 := hS1.eff0 ef2
  rw [hS2.ins, clsP_some]
  show optP (some m_Store___or__) _
  rw [optP_some]
  refine ⟨ha2.right, ?_⟩
  have eo : orA (ps.map arcW) (arcW p) = (putB ps p).map arcW := putB_arcW.symm
  refine wp_ne (or_ok hS2 ha2 hg hpn (by rw [eo]; exact hgq)) ?_
  rintro d3 s3 ⟨hs3, ef3⟩
  rw [eo] at hs3
  have e3 := ef2.trans ef3
  have hl3 := e3.ml hl1 (by simp [-List.map_map])
  show nxt _ _ _ _
  rw [z_nxC]
  simp [-List.map_map]
  rw [lstAt_ml hl3, lstP_some]
  refine wp_ne (lc_mapR (ks := []) (fun d o => d = arcB o) (fun o => arcB (if o.1 = p.1 then p else o)) AllR.of_map (it_lst (lstAt_ml hl3) (by simp [-List.map_map]) rfl) bags_nil (by rw [size_line]; omega) fun d4 o s4 ho _ ef4 _ => ?_) ?_
  · subst ho
    refine ⟨_, rfl, ?_⟩
    simp [-List.map_map, arcB]
    by_cases q : o.1 = p.1
    · simp [-List.map_map, q, Eff.refl]
    · simp [-List.map_map, q, Eff.refl]
  rintro _ s4 ⟨rfl, ef4, lt4, hm4⟩
  show nxt _ _ _ _
  rw [z_nxC]
  simp [-List.map_map]
  refine ⟨by rw [size_line]; omega, ?_⟩
  have e5 : Eff [] s4 (s4 ++ [SO.lst [arcB p]]) := Eff.push
  have hm5 := e5.ml hm4 (by simp [-List.map_map])
  have hp5 : mlAt (s4 ++ [SO.lst [arcB p]]) s4.length = some [arcB p] := mlAt_push
  have e35 := ef4.trans e5
  show (dInB true (arcB p) (.ref s3.length) (s4 ++ [SO.lst [arcB p]])).wp _ _
  generalize s4 ++ [SO.lst [arcB p]] = s5 at e5 hm5 hp5 e35 ⊢
  have em : ps.map (fun o => arcB (if o.1 = p.1 then p else o)) = (ps.map fun o => if o.1 = p.1 then p else o).map arcB := by rw [List.map_map]; rfl
  rw [em] at hm5
  generalize hrs : (ps.map fun o => if o.1 = p.1 then p else o) = rs at hm5
  have hrl : rs.length = ps.length := by rw [← hrs, List.length_map]
  have hra : ∀ o ∈ rs, ArcG1 names o := fun o ho => by
    rw [← hrs] at ho
    obtain ⟨x, hx, rfl⟩ := List.mem_map.mp ho
    split
    · exact hpA
    · exact h.arc x hx
  have e15 := e3.trans e35
  have hS5 := hS1.eff0 e15
  have hl5 := e15.ml hl1 (by simp [-List.map_map])
  have hs5 := hs3.eff0 e35
  -- the last step, whatever the list is
  have fin : ∀ {s7 : Sto} {n : Nat}, Eff [] s5 s7 → mlAt s7 n = some ((putB ps p).map arcB) → (turnD [some (.ref 0), o1, some (.ref k), some (.ref L), some (.ref l), some d5, some (D.tup [D.str p.fst, D.tup (List.map rowB p.snd)]), some d3, some (.ref n), o9, o10, o11] s7).wp { nx := fun e s' => Eff [k] s s' ∧ ∃ o6 o7 o8 o9 o10, e = [some (.ref 0), o1, some (.ref k), some (.ref L), some (.ref l), some d5, o6, o7, o8, o9, o10, o11], rt := fun _ _ => False } := fun {s7 n} e7 h7 => by
    refine RS.wp_mono (turnD_wp h hq hn (e7.ml hl5 (by simp [-List.map_map])) h7 (hS5.eff0 e7) (hs5.eff0 e7) o1 (some (.ref k)) (some (.ref L)) _ o9 o10 o11) ?_ (fun _ _ h => h.elim) (fun _ _ h => h.elim) (fun _ _ h => h.elim) (fun _ _ _ _ _ h => h.elim)
    rintro e t ⟨ef, p9, p10, rfl⟩
    exact ⟨((ef1.trans e15.nil).trans e7.nil).trans ef.nil, _, _, _, _, _, rfl⟩
  have pl : plain 20 (arcB p) = true := plain_arcB (n := 15) hpA hn
  by_cases q : p.1 ∈ ps.map (·.1)
  · have hin : arcB p ∈ rs.map arcB := by
      rw [← hrs]
      obtain ⟨o, ho, e⟩ := List.mem_map.mp q
      exact List.mem_map_of_mem (List.mem_map.mpr ⟨o, ho, if_pos e⟩)
    have hput : putB ps p = rs := by unfold putB; rw [if_pos q, hrs]
    rw [z_inL_yes pl (lstAt_ml hm5) (plains_arcB hra hn) hin]
    simp [-List.map_map, hp5]
    have e6 : Eff [] s5 (s5 ++ [SO.lst []]) := Eff.push
    have m6 := e6.ml hm5 (by simp [-List.map_map])
    rw [m6, lstP_some]
    refine ⟨by rw [List.length_map, size_line]; omega, ?_⟩
    rw [z_nxt]
    refine fin (pushes (a := SO.lst []) (b := SO.lst (rs.map arcB))) ?_
    rw [hput]
    exact mlAt_some (by rw [List.getElem?_append_right (by omega)]; simp [-List.map_map])
  · have hre : rs = ps := by
      rw [← hrs]
      conv => rhs; rw [← List.map_id ps]
      refine List.map_congr_left fun o ho => ?_
      rw [if_neg fun e => q (by rw [← e]; exact List.mem_map_of_mem ho)]
      rfl
    have hin : arcB p ∉ rs.map arcB := fun hm => by
      obtain ⟨o, ho, e⟩ := List.mem_map.mp hm
      rw [arcB_inj e, hre] at ho
      exact q (List.mem_map_of_mem ho)
    have hput : putB ps p = ps ++ [p] := by unfold putB; rw [if_neg q]
    rw [z_inL_no pl (lstAt_ml hm5) (plains_arcB hra hn) hin]
    simp [-List.map_map, hp5]
    have e6 : Eff [] s5 (s5 ++ [SO.lst [arcB p]]) := Eff.push
    have m6 := e6.ml hm5 (by simp [-List.map_map])
    refine ⟨by rw [size_line]; omega, ?_⟩
    rw [m6, lstP_some]
    refine ⟨by rw [List.length_map, size_line]; omega, ?_⟩
    rw [z_nxt]
    refine fin (pushes (a := SO.lst [arcB p]) (b := SO.lst (rs.map arcB ++ [arcB p]))) ?_
    rw [hput, List.map_append, hre]
    exact mlAt_some (by rw [List.getElem?_append_right (by omega)]; simp [-List.map_map])
end Z

set_option Elab.async false
set_option linter.all false
set_option maxRecDepth 100000
set_option maxHeartbeats 4000000
namespace Z
open PySem PySem.Spec PyProof.Rows L2 TL
open PySem.PyData (strOk)
theorem Eff.drop {s t u : Sto} {k : Nat} (h : Eff [] s t) (h2 : Eff [k] t u) (hk : s.length ≤ k) : Eff [] s u :=
  ⟨Nat.le_trans h.le h2.le, fun i hi _ => (h2.eq i (Nat.lt_of_lt_of_le hi h.le) (by simp [-List.map_map]; omega)).trans (h.eq i hi (by simp [-List.map_map])), fun k hk => by simp [-List.map_map] at hk⟩
theorem turnA_wp {s : Sto} {ns : List Int} {a : Nat} (hns : lstAt s 0 = some (ns.map D.int)) (o2 o3 o4 o5 o6 o7 o8 o9 o10 o11 : Option D) :
    (turnA [some (.ref 0), some (.int a), o2, o3, o4, o5, o6, o7, o8, o9, o10, o11] s).wp { nx := fun e s' => Eff [] s s' ∧ ∃ o1 o2 o3 o4 o5 o6 o7 o8 o9 o10 o11, e = [some (.ref 0), o1, o2, o3, o4, o5, o6, o7, o8, o9, o10, o11], rt := fun _ _ => False } := by
  unfold turnA
  rw [z_sCn]
  simp [-List.map_map]
  refine wp_ne (bag_ok hns) ?_
  rintro _ s1 ⟨k, rfl, hk, hb, ef1⟩
  have hkl := hb.lt
  show nxt _ _ _ _
  rw [z_nxC]
  simp [-List.map_map]
  refine wp_ne (names_ok (n := 6) hb (by omega)) ?_
  rintro _ s2 ⟨L, names, rfl, hL, hmL, hlen, nd, hn, ef2⟩
  have hLl := lstAt_lt (lstAt_ml hmL)
  show nxt _ _ _ _
  rw [z_nxC]
  simp [-List.map_map]
  refine wp_ne (take_ok (ef2.bag k (by simp [-List.map_map]) hb) (by omega) (by omega)) ?_
  rintro _ s3 ⟨t, rfl, ht, ef3⟩
  have e3 := ef2.trans ef3
  have hmL := ef3.ml hmL (by simp [-List.map_map]; omega)
  refine wp_ne (plain_ok (e3.bag k (by simp [-List.map_map]) hb) hmL (by omega) nd (by omega) (by omega)) ?_
  rintro _ s4 ⟨ef4, l, ps, rfl, hl, hml, hP, hpl⟩
  have e4 := e3.trans ef4
  have z3 := e3.le
  have hmL := ef4.ml hmL (by simp [-List.map_map]; omega)
  have h := hP.sto (by omega)
  show nxt _ _ _ _
  rw [z_nxC]
  simp [-List.map_map]
  refine wp_ne (lsto_ok h hn hml) ?_
  rintro d5 s5 ⟨hS5, ef5⟩
  have hml5 := ef5.ml hml (by simp [-List.map_map])
  show nxt _ _ _ _
  rw [z_nxC]
  simp [-List.map_map]
  refine wp_ne (right_ok h hn hS5 hml5) ?_
  rintro _ s6 ⟨rfl, ef6⟩
  simp [-List.map_map]
  refine wp_ne (lsto_ok h hn (ef6.ml hml5 (by simp [-List.map_map]))) ?_
  rintro d7 s7 ⟨hS7, ef7⟩
  refine wp_ne (eqS_wp hn h h ((hS5.eff0 ef6).eff0 ef7) hS7) ?_
  rintro _ s8 ⟨rfl, ef8⟩
  rw [decide_eq_true rfl]
  simp [-List.map_map]
  have e58 := (ef6.trans ef7).trans ef8
  have e48 := ef5.trans e58
  have e18 := e4.trans e48.nil
  show nxt _ _ _ _
  rw [z_nxt]
  refine RS.wp_mono (turnB_wp (e18.bag k (by simp [-List.map_map]) hb) hP (by omega) hn nd (by omega) (e48.ml hmL (by simp [-List.map_map])) (e48.ml hml (by simp [-List.map_map])) (by omega) (by omega) (hS5.eff0 e58) _ _ _ _ _ _ _) ?_ (fun _ _ h => h.elim) (fun _ _ h => h.elim) (fun _ _ h => h.elim) (fun _ _ _ _ _ h => h.elim)
  rintro e s9 ⟨ef9, p6, p7, p8, p9, p10, rfl⟩
  exact ⟨ef1.drop (e18.trans ef9) hk, _, _, _, _, _, _, _, _, _, _, _, rfl⟩
structure LawI (s0 : Sto) (i : Nat) (e : Ev) (s : Sto) : Prop where
  ef : Eff [] s0 s
  ex : ∃ o1 o2 o3 o4 o5 o6 o7 o8 o9 o10 o11, e = [some (.ref 0), o1, o2, o3, o4, o5, o6, o7, o8, o9, o10, o11]
theorem plain_law (ns : List Int) (h : ns.length ≤ 63) : ∃ s', m_law [.ref 0] [.frz (ns.map D.int)] = .ok (.bl true) s' := by
  refine ok_of_wp ?_
  refine wp_of fun P hP => ?_
  have hns : lstAt [SO.frz (ns.map D.int)] 0 = some (ns.map D.int) := lstAt_frz rfl
  unfold m_law
  rw [z_fnM (by rfl), law_split]
  show (sC (sF (iR1 (aC (mN fMax2 (aC (mC (.int 1)) (aC (mN fMin2 (aC (mC (.int 4)) (aC (mN fLen (aC (mV 0) aN)) aN))) aN))) aN)) (gN 1) turnA) (sR (mC (.bl true))) [some (.ref 0), none, none, none, none, none, none, none, none, none, none, none] [SO.frz (ns.map D.int)]).wp _
  rw [z_sCn]
  simp [hns]
  obtain ⟨N, hN, hN2⟩ : ∃ N : Nat, (if (1 : Int) < (if (ns.length : Int) < 4 then (ns.length : Int) else 4) then (if (ns.length : Int) < 4 then (ns.length : Int) else 4) else 1) = N ∧ N ≤ 4 := by
    by_cases h5 : (ns.length : Int) < 4
    · rw [if_pos h5]
      by_cases h1 : (1 : Int) < ns.length
      · rw [if_pos h1]; exact ⟨ns.length, rfl, by omega⟩
      · rw [if_neg h1]; exact ⟨1, rfl, by omega⟩
    · rw [if_neg h5]
      exact ⟨4, rfl, by omega⟩
  rw [hN]
  refine ⟨by omega, ?_⟩
  rw [Int.toNat_natCast]
  refine for_it (ks := []) (s0 := [SO.frz (ns.map D.int)]) (xs := rngD 0 N) it_rng (LawI [SO.frz (ns.map D.int)]) (fun _ _ _ h => h.ef) ?_ ⟨Eff.refl, _, _, _, _, _, _, _, _, _, _, _, rfl⟩ ?_
  · rintro i d e s hdi ⟨ef, o1, o2, o3, o4, o5, o6, o7, o8, o9, o10, o11, rfl⟩
    obtain ⟨hi, rfl⟩ := rngD_get hdi
    rw [Int.zero_add]
    refine ⟨_, rfl, ?_⟩
    refine RS.wp_mono (turnA_wp (ef.lst hns (by simp)) _ _ _ _ _ _ _ _ _ _) ?_ (fun _ _ h => h.elim) (fun _ _ h => h.elim) (fun _ _ h => h.elim) (fun _ _ _ _ _ h => h.elim)
    rintro e s2 ⟨ef2, h2⟩
    exact ⟨ef.trans ef2, h2⟩
  · rintro e s ⟨ef, o1, o2, o3, o4, o5, o6, o7, o8, o9, o10, o11, rfl⟩
    dsimp only
    rw [z_nxt]
    simp
    exact hP _ _ rfl
end Z

namespace Z
open PySem PySem.Spec PyProof.Rows L2
def top (i : Nat) : Stmt := PySem.Challenge.pw_lineoflibraries_k05_stores_made.main.body.getD i (.Pass ⟨0, 0, 0, 0⟩)
def clsBody : Stmt → List Stmt
  | .ClassDef _ _ _ b _ _ _ _ _ _ _ => b
  | _ => []
def mth (i j : Nat) : Stmt := (clsBody (top i)).getD j (.Pass ⟨0, 0, 0, 0⟩)
def fn0 : List He.DefD := [⟨("Archive", some "__len__"), "__len__", "Archive.__len__", defArgs (mth 24 2), defBody (mth 24 2), defScope (mth 24 2), [], []⟩,
  ⟨("Member", some "parts"), "parts", "Member.parts", defArgs (mth 23 1), defBody (mth 23 1), defScope (mth 23 1), [], []⟩,
  ⟨("Member", some "__eq__"), "__eq__", "Member.__eq__", defArgs (mth 23 2), defBody (mth 23 2), defScope (mth 23 2), [], []⟩,
  ⟨("Archive", some "__eq__"), "__eq__", "Archive.__eq__", defArgs (mth 24 1), defBody (mth 24 1), defScope (mth 24 1), [], []⟩,
  ⟨("Store", some "__len__"), "__len__", "Store.__len__", defArgs (mth 25 2), defBody (mth 25 2), defScope (mth 25 2), [], []⟩,
  ⟨("Store", some "__eq__"), "__eq__", "Store.__eq__", defArgs (mth 25 1), defBody (mth 25 1), defScope (mth 25 1), [], []⟩,
  ⟨("twice_in", none), "twice_in", "twice_in", defArgs (top 22), defBody (top 22), defScope (top 22), [], []⟩,
  ⟨("Store", some "__init__"), "__init__", "Store.__init__", defArgs (mth 25 0), defBody (mth 25 0), defScope (mth 25 0), [], []⟩,
  ⟨("Store", some "__contains__"), "__contains__", "Store.__contains__", defArgs (mth 25 4), defBody (mth 25 4), defScope (mth 25 4), [], []⟩,
  ⟨("Store", some "__or__"), "__or__", "Store.__or__", defArgs (mth 25 6), defBody (mth 25 6), defScope (mth 25 6), [], []⟩,
  ⟨("is_name", none), "is_name", "is_name", defArgs (top 17), defBody (top 17), defScope (top 17), [], []⟩,
  ⟨("look_name", none), "look_name", "look_name", defArgs (top 18), defBody (top 18), defScope (top 18), [], []⟩,
  ⟨("Archive", some "__init__"), "__init__", "Archive.__init__", defArgs (mth 24 0), defBody (mth 24 0), defScope (mth 24 0), [], []⟩,
  ⟨("Archive", some "__add__"), "__add__", "Archive.__add__", defArgs (mth 24 6), defBody (mth 24 6), defScope (mth 24 6), [], []⟩,
  ⟨("look_body", none), "look_body", "look_body", defArgs (top 21), defBody (top 21), defScope (top 21), [], []⟩]
def fn1 : List He.DefD := [⟨("is_kind", none), "is_kind", "is_kind", defArgs (top 19), defBody (top 19), defScope (top 19), [], []⟩,
  ⟨("look_kind", none), "look_kind", "look_kind", defArgs (top 20), defBody (top 20), defScope (top 20), [], []⟩,
  ⟨("Member", some "__init__"), "__init__", "Member.__init__", defArgs (mth 23 0), defBody (mth 23 0), defScope (mth 23 0), [], []⟩,
  ⟨("_law_archive", none), "_law_archive", "_law_archive", defArgs (top 35), defBody (top 35), defScope (top 35), [], []⟩,
  ⟨("_law_bag", none), "_law_bag", "_law_bag", defArgs (top 28), defBody (top 28), defScope (top 28), [], []⟩,
  ⟨("Store", some "__getitem__"), "__getitem__", "Store.__getitem__", defArgs (mth 25 5), defBody (mth 25 5), defScope (mth 25 5), [], []⟩,
  ⟨("names_in", none), "names_in", "names_in", defArgs (top 26), defBody (top 26), defScope (top 26), [], []⟩,
  ⟨("Store", some "names"), "names", "Store.names", defArgs (mth 25 7), defBody (mth 25 7), defScope (mth 25 7), [], []⟩,
  ⟨("_law_is_right", none), "_law_is_right", "_law_is_right", defArgs (top 37), defBody (top 37), defScope (top 37), [], []⟩,
  ⟨("_law_take", none), "_law_take", "_law_take", defArgs (top 29), defBody (top 29), defScope (top 29), [], []⟩,
  ⟨("_law_of", none), "_law_of", "_law_of", defArgs (top 30), defBody (top 30), defScope (top 30), [], []⟩,
  ⟨("_law_names", none), "_law_names", "_law_names", defArgs (top 32), defBody (top 32), defScope (top 32), [], []⟩,
  ⟨("_law_member", none), "_law_member", "_law_member", defArgs (top 33), defBody (top 33), defScope (top 33), [], []⟩,
  ⟨("_law_other", none), "_law_other", "_law_other", defArgs (top 39), defBody (top 39), defScope (top 39), [], []⟩,
  ⟨("_law_plain", none), "_law_plain", "_law_plain", defArgs (top 34), defBody (top 34), defScope (top 34), [], []⟩]
def fn2 : List He.DefD := [⟨("_law_store", none), "_law_store", "_law_store", defArgs (top 36), defBody (top 36), defScope (top 36), [], []⟩,
  ⟨("_law_told", none), "_law_told", "_law_told", defArgs (top 38), defBody (top 38), defScope (top 38), [], []⟩,
  ⟨("law", none), "law", "law", defArgs (top 40), defBody (top 40), defScope (top 40), [], []⟩,
  ⟨("Archive", some "__iter__"), "__iter__", "Archive.__iter__", defArgs (mth 24 3), defBody (mth 24 3), defScope (mth 24 3), [], []⟩,
  ⟨("Store", some "__iter__"), "__iter__", "Store.__iter__", defArgs (mth 25 3), defBody (mth 25 3), defScope (mth 25 3), [], []⟩]
def fn : List He.DefD := fn0 ++ fn1 ++ fn2
def fa0 : List He.Fa := [.glo "twice_in", .keep "twice_in", .glo "is_name", .keep "is_name", .glo "look_name", .keep "look_name", .glo "look_body", .keep "look_body", .glo "is_kind", .keep "is_kind", .glo "look_kind", .keep "look_kind", .glo "_law_archive", .keep "_law_archive", .glo "_law_bag", .keep "_law_bag", .glo "names_in", .keep "names_in", .glo "_law_is_right", .keep "_law_is_right", .glo "_law_take", .keep "_law_take", .glo "_law_of", .keep "_law_of", .glo "_law_names", .keep "_law_names", .glo "_law_member", .keep "_law_member", .glo "_law_other", .keep "_law_other"]
def fa1 : List He.Fa := [.glo "_law_plain", .keep "_law_plain", .glo "_law_store", .keep "_law_store", .glo "_law_told", .keep "_law_told", .glo "law", .free "abs", .free "all", .free "any", .free "bool", .free "enumerate", .free "int", .free "isinstance", .free "iter", .free "len", .free "list", .free "max", .free "min", .free "range", .free "repr", .free "set", .free "sorted", .free "str", .free "tuple", .glo "KINDS", .str "LETTERS" "abcdefghijklmnopqrstuvwxyz", .int "MOST_ARCHIVES" (6), .int "MOST_BODY" (999999), .int "MOST_LETTERS" (8)]
def fa2 : List He.Fa := [.int "MOST_MEMBERS" (8), .int "MOST_PARTS" (6), .noat "Archive" "members", .noat "Archive" "name", .noat "Member" "defines", .noat "Member" "name", .noat "Member" "wants", .noat "Store" "archives", .meth "Archive" "__add__", .meth "Archive" "__eq__", .meth "Archive" "__iter__", .meth "Archive" "__len__", .meth "Member" "__eq__", .meth "Member" "parts", .meth "Store" "__contains__", .meth "Store" "__eq__", .meth "Store" "__getitem__", .meth "Store" "__iter__", .meth "Store" "__len__", .meth "Store" "__or__", .meth "Store" "names", .mkr "Archive", .mkr "Member", .mkr "Store"]
def fa : List He.Fa := fa0 ++ fa1 ++ fa2
def tb : List (Str × List He.Dv) := [("KINDS", [.str "weak", .str "common", .str "strong"])]
def xb : List (PySem.W.Frag → Bool) := [fun K => decide (PySem.W.findIn K (.ref (He.ga K "Member")) "__ne__" = some (some (.builtin "object.__ne__"))),
  fun K => decide (PySem.W.findIn K (.ref (He.ga K "Archive")) "__ne__" = some (some (.builtin "object.__ne__"))),
  fun K => PySem.W.selfFirst K (He.ga K "Archive"),
  fun K => noFillB K (He.ga K "Member") "add",
  fun K => PySem.W.fnIn K (He.ma K (He.ga K "Store") "__getitem__"),
  fun K => PySem.W.selfFirst K (He.ga K "Store"),
  fun K => noFillB K (He.ga K "Archive") "or",
  fun K => decide (PySem.W.findIn K (.ref (He.ga K "Store")) "__ne__" = some (some (.builtin "object.__ne__"))),
  fun K => tysB.all fun T => decide (PySem.W.subIn K (.ref (He.ga K "Store")) (.type T) = some false)]
def ck (K : PySem.W.Frag) : Bool := chkAll fa tb K && (clsAll K cls && xb.all fun b => b K)
theorem ck_ok {K : PySem.W.Frag} (h : ck K = true) : chkAll fa tb K = true ∧ clsAll K cls = true ∧ (xb.all fun b => b K) = true := ⟨(He.ba h).1, (He.ba (He.ba h).2).1, (He.ba (He.ba h).2).2⟩
structure Txt (K : PySem.W.Frag) (mg : Str → Option Value) : Prop where
  g_twice_in : mg "twice_in" = some (.ref (He.ga K "twice_in"))
  k_twice_in : PySem.W.keepIn K (.ref (He.ga K "twice_in")) = true
  g_is_name : mg "is_name" = some (.ref (He.ga K "is_name"))
  k_is_name : PySem.W.keepIn K (.ref (He.ga K "is_name")) = true
  g_look_name : mg "look_name" = some (.ref (He.ga K "look_name"))
  k_look_name : PySem.W.keepIn K (.ref (He.ga K "look_name")) = true
  g_look_body : mg "look_body" = some (.ref (He.ga K "look_body"))
  k_look_body : PySem.W.keepIn K (.ref (He.ga K "look_body")) = true
  g_is_kind : mg "is_kind" = some (.ref (He.ga K "is_kind"))
  k_is_kind : PySem.W.keepIn K (.ref (He.ga K "is_kind")) = true
  g_look_kind : mg "look_kind" = some (.ref (He.ga K "look_kind"))
  k_look_kind : PySem.W.keepIn K (.ref (He.ga K "look_kind")) = true
  g__law_archive : mg "_law_archive" = some (.ref (He.ga K "_law_archive"))
  k__law_archive : PySem.W.keepIn K (.ref (He.ga K "_law_archive")) = true
  g__law_bag : mg "_law_bag" = some (.ref (He.ga K "_law_bag"))
  k__law_bag : PySem.W.keepIn K (.ref (He.ga K "_law_bag")) = true
  g_names_in : mg "names_in" = some (.ref (He.ga K "names_in"))
  k_names_in : PySem.W.keepIn K (.ref (He.ga K "names_in")) = true
  g__law_is_right : mg "_law_is_right" = some (.ref (He.ga K "_law_is_right"))
  k__law_is_right : PySem.W.keepIn K (.ref (He.ga K "_law_is_right")) = true
  g__law_take : mg "_law_take" = some (.ref (He.ga K "_law_take"))
  k__law_take : PySem.W.keepIn K (.ref (He.ga K "_law_take")) = true
  g__law_of : mg "_law_of" = some (.ref (He.ga K "_law_of"))
  k__law_of : PySem.W.keepIn K (.ref (He.ga K "_law_of")) = true
  g__law_names : mg "_law_names" = some (.ref (He.ga K "_law_names"))
  k__law_names : PySem.W.keepIn K (.ref (He.ga K "_law_names")) = true
  g__law_member : mg "_law_member" = some (.ref (He.ga K "_law_member"))
  k__law_member : PySem.W.keepIn K (.ref (He.ga K "_law_member")) = true
  g__law_other : mg "_law_other" = some (.ref (He.ga K "_law_other"))
  k__law_other : PySem.W.keepIn K (.ref (He.ga K "_law_other")) = true
  g__law_plain : mg "_law_plain" = some (.ref (He.ga K "_law_plain"))
  k__law_plain : PySem.W.keepIn K (.ref (He.ga K "_law_plain")) = true
  g__law_store : mg "_law_store" = some (.ref (He.ga K "_law_store"))
  k__law_store : PySem.W.keepIn K (.ref (He.ga K "_law_store")) = true
  g__law_told : mg "_law_told" = some (.ref (He.ga K "_law_told"))
  k__law_told : PySem.W.keepIn K (.ref (He.ga K "_law_told")) = true
  n_abs : mg "abs" = none
  n_all : mg "all" = none
  n_any : mg "any" = none
  n_bool : mg "bool" = none
  n_enumerate : mg "enumerate" = none
  n_int : mg "int" = none
  n_isinstance : mg "isinstance" = none
  n_iter : mg "iter" = none
  n_len : mg "len" = none
  n_list : mg "list" = none
  n_max : mg "max" = none
  n_min : mg "min" = none
  n_range : mg "range" = none
  n_repr : mg "repr" = none
  n_set : mg "set" = none
  n_sorted : mg "sorted" = none
  n_str : mg "str" = none
  n_tuple : mg "tuple" = none
  c_KINDS : TupC K mg "KINDS" [.str "weak", .str "common", .str "strong"]
  c_LETTERS : ∃ t, mg "LETTERS" = some (.str "abcdefghijklmnopqrstuvwxyz" t)
  c_MOST_ARCHIVES : ∃ t, mg "MOST_ARCHIVES" = some (.int 6 t)
  c_MOST_BODY : ∃ t, mg "MOST_BODY" = some (.int 999999 t)
  c_MOST_LETTERS : ∃ t, mg "MOST_LETTERS" = some (.int 8 t)
  c_MOST_MEMBERS : ∃ t, mg "MOST_MEMBERS" = some (.int 8 t)
  c_MOST_PARTS : ∃ t, mg "MOST_PARTS" = some (.int 6 t)
  a_Archive_members : NoAttr K (He.ga K "Archive") "members"
  a_Archive_name : NoAttr K (He.ga K "Archive") "name"
  a_Member_defines : NoAttr K (He.ga K "Member") "defines"
  a_Member_name : NoAttr K (He.ga K "Member") "name"
  a_Member_wants : NoAttr K (He.ga K "Member") "wants"
  a_Store_archives : NoAttr K (He.ga K "Store") "archives"
  m_Archive___add__ : Meth K (He.ga K "Archive") "__add__" (He.ma K (He.ga K "Archive") "__add__")
  m_Archive___eq__ : Meth K (He.ga K "Archive") "__eq__" (He.ma K (He.ga K "Archive") "__eq__")
  m_Archive___iter__ : Meth K (He.ga K "Archive") "__iter__" (He.ma K (He.ga K "Archive") "__iter__")
  m_Archive___len__ : Meth K (He.ga K "Archive") "__len__" (He.ma K (He.ga K "Archive") "__len__")
  m_Member___eq__ : Meth K (He.ga K "Member") "__eq__" (He.ma K (He.ga K "Member") "__eq__")
  m_Member_parts : Meth K (He.ga K "Member") "parts" (He.ma K (He.ga K "Member") "parts")
  m_Store___contains__ : Meth K (He.ga K "Store") "__contains__" (He.ma K (He.ga K "Store") "__contains__")
  m_Store___eq__ : Meth K (He.ga K "Store") "__eq__" (He.ma K (He.ga K "Store") "__eq__")
  m_Store___getitem__ : Meth K (He.ga K "Store") "__getitem__" (He.ma K (He.ga K "Store") "__getitem__")
  m_Store___iter__ : Meth K (He.ga K "Store") "__iter__" (He.ma K (He.ga K "Store") "__iter__")
  m_Store___len__ : Meth K (He.ga K "Store") "__len__" (He.ma K (He.ga K "Store") "__len__")
  m_Store___or__ : Meth K (He.ga K "Store") "__or__" (He.ma K (He.ga K "Store") "__or__")
  m_Store_names : Meth K (He.ga K "Store") "names" (He.ma K (He.ga K "Store") "names")
  mk_Archive : Mk K (He.ga K "Archive") (He.ma K (He.ga K "Archive") "__init__")
  mk_Member : Mk K (He.ga K "Member") (He.ma K (He.ga K "Member") "__init__")
  mk_Store : Mk K (He.ga K "Store") (He.ma K (He.ga K "Store") "__init__")
  cl : ClsF K mg cls
  x_0 : (fun K => decide (PySem.W.findIn K (.ref (He.ga K "Member")) "__ne__" = some (some (.builtin "object.__ne__")))) K = true
  x_1 : (fun K => decide (PySem.W.findIn K (.ref (He.ga K "Archive")) "__ne__" = some (some (.builtin "object.__ne__")))) K = true
  x_2 : (fun K => PySem.W.selfFirst K (He.ga K "Archive")) K = true
  x_3 : (fun K => noFillB K (He.ga K "Member") "add") K = true
  x_4 : (fun K => PySem.W.fnIn K (He.ma K (He.ga K "Store") "__getitem__")) K = true
  x_5 : (fun K => PySem.W.selfFirst K (He.ga K "Store")) K = true
  x_6 : (fun K => noFillB K (He.ga K "Archive") "or") K = true
  x_7 : (fun K => decide (PySem.W.findIn K (.ref (He.ga K "Store")) "__ne__" = some (some (.builtin "object.__ne__")))) K = true
  x_8 : (fun K => tysB.all fun T => decide (PySem.W.subIn K (.ref (He.ga K "Store")) (.type T) = some false)) K = true
section RowS
variable [Row]
theorem txt {K : PySem.W.Frag} {hp : Heap} {mg : Str → Option Value} (X : K.In hp) (G : hp.Ns mainGlobals mg) (h0 : ck K = true) : Txt K mg :=
  have h := ck_ok h0
  ⟨He.glo_ok X G (chk_fa h.1 0),
   He.keep_ok (chk_fa h.1 1),
   He.glo_ok X G (chk_fa h.1 2),
   He.keep_ok (chk_fa h.1 3),
   He.glo_ok X G (chk_fa h.1 4),
   He.keep_ok (chk_fa h.1 5),
   He.glo_ok X G (chk_fa h.1 6),
   He.keep_ok (chk_fa h.1 7),
   He.glo_ok X G (chk_fa h.1 8),
   He.keep_ok (chk_fa h.1 9),
   He.glo_ok X G (chk_fa h.1 10),
   He.keep_ok (chk_fa h.1 11),
   He.glo_ok X G (chk_fa h.1 12),
   He.keep_ok (chk_fa h.1 13),
   He.glo_ok X G (chk_fa h.1 14),
   He.keep_ok (chk_fa h.1 15),
   He.glo_ok X G (chk_fa h.1 16),
   He.keep_ok (chk_fa h.1 17),
   He.glo_ok X G (chk_fa h.1 18),
   He.keep_ok (chk_fa h.1 19),
   He.glo_ok X G (chk_fa h.1 20),
   He.keep_ok (chk_fa h.1 21),
   He.glo_ok X G (chk_fa h.1 22),
   He.keep_ok (chk_fa h.1 23),
   He.glo_ok X G (chk_fa h.1 24),
   He.keep_ok (chk_fa h.1 25),
   He.glo_ok X G (chk_fa h.1 26),
   He.keep_ok (chk_fa h.1 27),
   He.glo_ok X G (chk_fa h.1 28),
   He.keep_ok (chk_fa h.1 29),
   He.glo_ok X G (chk_fa h.1 30),
   He.keep_ok (chk_fa h.1 31),
   He.glo_ok X G (chk_fa h.1 32),
   He.keep_ok (chk_fa h.1 33),
   He.glo_ok X G (chk_fa h.1 34),
   He.keep_ok (chk_fa h.1 35),
   He.free_ok X G (chk_fa h.1 37),
   He.free_ok X G (chk_fa h.1 38),
   He.free_ok X G (chk_fa h.1 39),
   He.free_ok X G (chk_fa h.1 40),
   He.free_ok X G (chk_fa h.1 41),
   He.free_ok X G (chk_fa h.1 42),
   He.free_ok X G (chk_fa h.1 43),
   He.free_ok X G (chk_fa h.1 44),
   He.free_ok X G (chk_fa h.1 45),
   He.free_ok X G (chk_fa h.1 46),
   He.free_ok X G (chk_fa h.1 47),
   He.free_ok X G (chk_fa h.1 48),
   He.free_ok X G (chk_fa h.1 49),
   He.free_ok X G (chk_fa h.1 50),
   He.free_ok X G (chk_fa h.1 51),
   He.free_ok X G (chk_fa h.1 52),
   He.free_ok X G (chk_fa h.1 53),
   He.free_ok X G (chk_fa h.1 54),
   chk_tup h.1 X G 0 55,
   He.str_ok X G (chk_fa h.1 56),
   He.int_ok X G (chk_fa h.1 57),
   He.int_ok X G (chk_fa h.1 58),
   He.int_ok X G (chk_fa h.1 59),
   He.int_ok X G (chk_fa h.1 60),
   He.int_ok X G (chk_fa h.1 61),
   He.noat_ok (chk_fa h.1 62),
   He.noat_ok (chk_fa h.1 63),
   He.noat_ok (chk_fa h.1 64),
   He.noat_ok (chk_fa h.1 65),
   He.noat_ok (chk_fa h.1 66),
   He.noat_ok (chk_fa h.1 67),
   He.meth_ok (chk_fa h.1 68),
   He.meth_ok (chk_fa h.1 69),
   He.meth_ok (chk_fa h.1 70),
   He.meth_ok (chk_fa h.1 71),
   He.meth_ok (chk_fa h.1 72),
   He.meth_ok (chk_fa h.1 73),
   He.meth_ok (chk_fa h.1 74),
   He.meth_ok (chk_fa h.1 75),
   He.meth_ok (chk_fa h.1 76),
   He.meth_ok (chk_fa h.1 77),
   He.meth_ok (chk_fa h.1 78),
   He.meth_ok (chk_fa h.1 79),
   He.meth_ok (chk_fa h.1 80),
   He.mkr_ok (chk_fa h.1 81),
   He.mkr_ok (chk_fa h.1 82),
   He.mkr_ok (chk_fa h.1 83),
   clsF_of X G h.2.1,
   List.all_eq_true.mp h.2.2 _ (List.mem_of_getElem? (show xb[0]? = some _ from rfl)),
   List.all_eq_true.mp h.2.2 _ (List.mem_of_getElem? (show xb[1]? = some _ from rfl)),
   List.all_eq_true.mp h.2.2 _ (List.mem_of_getElem? (show xb[2]? = some _ from rfl)),
   List.all_eq_true.mp h.2.2 _ (List.mem_of_getElem? (show xb[3]? = some _ from rfl)),
   List.all_eq_true.mp h.2.2 _ (List.mem_of_getElem? (show xb[4]? = some _ from rfl)),
   List.all_eq_true.mp h.2.2 _ (List.mem_of_getElem? (show xb[5]? = some _ from rfl)),
   List.all_eq_true.mp h.2.2 _ (List.mem_of_getElem? (show xb[6]? = some _ from rfl)),
   List.all_eq_true.mp h.2.2 _ (List.mem_of_getElem? (show xb[7]? = some _ from rfl)),
   List.all_eq_true.mp h.2.2 _ (List.mem_of_getElem? (show xb[8]? = some _ from rfl))⟩
section
variable {K : PySem.W.Frag} {mg : Str → Option Value} {base : Heap}
theorem fo_members_Archive (T : Txt K mg) : FldOk K mg ["Archive"] "members" := (fld_cons (T.cl.at_ "Archive" (by decide)) (T.cl.cls (by decide)) T.a_Archive_members fld_nil)
theorem fo_wants_Member (T : Txt K mg) : FldOk K mg ["Member"] "wants" := (fld_cons (T.cl.at_ "Member" (by decide)) (T.cl.cls (by decide)) T.a_Member_wants fld_nil)
theorem fo_defines_Member (T : Txt K mg) : FldOk K mg ["Member"] "defines" := (fld_cons (T.cl.at_ "Member" (by decide)) (T.cl.cls (by decide)) T.a_Member_defines fld_nil)
theorem fo_name_Member (T : Txt K mg) : FldOk K mg ["Member"] "name" := (fld_cons (T.cl.at_ "Member" (by decide)) (T.cl.cls (by decide)) T.a_Member_name fld_nil)
theorem fo_name_Archive (T : Txt K mg) : FldOk K mg ["Archive"] "name" := (fld_cons (T.cl.at_ "Archive" (by decide)) (T.cl.cls (by decide)) T.a_Archive_name fld_nil)
theorem fo_archives_Store (T : Txt K mg) : FldOk K mg ["Store"] "archives" := (fld_cons (T.cl.at_ "Store" (by decide)) (T.cl.cls (by decide)) T.a_Store_archives fld_nil)
abbrev N_Archive___iter__ : List Str := ["self"]
theorem sc_Archive___iter__ : FnScope N_Archive___iter__ ["self"] (defScope (mth 24 3)) := ⟨rfl, rfl, rfl, by decide +kernel, rfl, by decide +kernel, by decide +kernel⟩
theorem it_Archive (c : SaysZ ck fn K) (T : Txt K mg) : IterG Row.prog Row.w K mg base 1 (He.ma K (He.ga K "Archive") "__iter__") (He.ga K "Archive") "members" := by
  obtain ⟨fd, F⟩ := c.def_ 33
  exact iter_fn F sc_Archive___iter__ rfl rfl rfl T.n_iter (T.cl.cls (by decide)) T.a_Archive_members (fun _ _ _ _ _ _ _ => rfl)
abbrev N_Store___iter__ : List Str := ["self"]
theorem sc_Store___iter__ : FnScope N_Store___iter__ ["self"] (defScope (mth 25 3)) := ⟨rfl, rfl, rfl, by decide +kernel, rfl, by decide +kernel, by decide +kernel⟩
theorem it_Store (c : SaysZ ck fn K) (T : Txt K mg) : IterG Row.prog Row.w K mg base 1 (He.ma K (He.ga K "Store") "__iter__") (He.ga K "Store") "archives" := by
  obtain ⟨fd, F⟩ := c.def_ 34
  exact iter_fn F sc_Store___iter__ rfl rfl rfl T.n_iter (T.cl.cls (by decide)) T.a_Store_archives (fun _ _ _ _ _ _ _ => rfl)
theorem itb_Archive_ok (c : SaysZ ck fn K) (T : Txt K mg) : ITab Row.prog Row.w K mg base 1 itb_Archive := (itab_cons (T.cl.at_ "Archive" (by decide)) T.m_Archive___iter__ (it_Archive c T) (by decide) itab_nil)
theorem itb_Store_ok (c : SaysZ ck fn K) (T : Txt K mg) : ITab Row.prog Row.w K mg base 1 itb_Store := (itab_cons (T.cl.at_ "Store" (by decide)) T.m_Store___iter__ (it_Store c T) (by decide) itab_nil)
theorem rt_add_Member (T : Txt K mg) : RTab K mg ["Member"] "add" := fun x h => by
  simp only [List.mem_cons, List.not_mem_nil, or_false] at h
  subst h
  · exact ⟨_, T.cl.at_ "Member" (by decide), T.x_3⟩

theorem rt_or_Archive (T : Txt K mg) : RTab K mg ["Archive"] "or" := fun x h => by
  simp only [List.mem_cons, List.not_mem_nil, or_false] at h
  subst h
  · exact ⟨_, T.cl.at_ "Archive" (by decide), T.x_6⟩

abbrev N_Archive___len__ : List Str := ["self"]
theorem sc_Archive___len__ : FnScope N_Archive___len__ ["self"] (defScope (mth 24 2)) := ⟨rfl, rfl, rfl, by decide +kernel, rfl, by decide +kernel, by decide +kernel⟩
theorem b_Archive___len__ (c : SaysZ ck fn K) (T : Txt K mg) : Body Row.prog Row.w K mg base 6 N_Archive___len__ "Archive.__len__" (defScope (mth 24 2)) (He.ma K (He.ga K "Archive") "__len__") (defBody (mth 24 2)) s_Archive___len__ := by
  intro cdv A outer s H E hr
  exact (js_one (js_ret (je_cb call_lens pn_len rfl T.n_len boot_len (ja_cons (je_fld (fo_members_Archive T) (je_v 0)) ja_nil))))
theorem p_Archive___len__ (c : SaysZ ck fn K) (T : Txt K mg) : FS Row.prog Row.w K mg base 7 (He.ma K (He.ga K "Archive") "__len__") m_Archive___len__ := by
  obtain ⟨fd, F⟩ := c.def_ 0
  exact fs_pos F sc_Archive___len__ (b_Archive___len__ c T) (fun _ _ _ _ _ _ us hl => match us, hl with | [_], _ => rfl)
abbrev N_Member_parts : List Str := ["self"]
theorem sc_Member_parts : FnScope N_Member_parts ["self"] (defScope (mth 23 1)) := ⟨rfl, rfl, rfl, by decide +kernel, rfl, by decide +kernel, by decide +kernel⟩
theorem b_Member_parts (c : SaysZ ck fn K) (T : Txt K mg) : Body Row.prog Row.w K mg base 6 N_Member_parts "Member.parts" (defScope (mth 23 1)) (He.ma K (He.ga K "Member") "parts") (defBody (mth 23 1)) s_Member_parts := by
  intro cdv A outer s H E hr
  exact (js_one (js_ret (je_tup (ja_cons (je_fld (fo_name_Member T) (je_v 0)) (ja_cons (je_fld (fo_defines_Member T) (je_v 0)) (ja_cons (je_fld (fo_wants_Member T) (je_v 0)) ja_nil))))))
theorem p_Member_parts (c : SaysZ ck fn K) (T : Txt K mg) : FS Row.prog Row.w K mg base 7 (He.ma K (He.ga K "Member") "parts") m_Member_parts := by
  obtain ⟨fd, F⟩ := c.def_ 1
  exact fs_pos F sc_Member_parts (b_Member_parts c T) (fun _ _ _ _ _ _ us hl => match us, hl with | [_], _ => rfl)
theorem tb_parts_Member_ok (c : SaysZ ck fn K) (T : Txt K mg) : MTab Row.prog Row.w K mg base 7 tb_parts_Member "parts" := (mtab_cons (T.cl.at_ "Member" (by decide)) (T.cl.cls (by decide)) T.m_Member_parts (p_Member_parts c T) (by decide) mtab_nil)
abbrev N_Member___eq__ : List Str := ["self", "other"]
theorem sc_Member___eq__ : FnScope N_Member___eq__ ["self", "other"] (defScope (mth 23 2)) := ⟨rfl, rfl, rfl, by decide +kernel, rfl, by decide +kernel, by decide +kernel⟩
theorem b_Member___eq__ (c : SaysZ ck fn K) (T : Txt K mg) : Body Row.prog Row.w K mg base 12 N_Member___eq__ "Member.__eq__" (defScope (mth 23 2)) (He.ma K (He.ga K "Member") "__eq__") (defBody (mth 23 2)) s_Member___eq__ := by
  intro cdv A outer s H E hr
  exact (js_one (js_ret (je_and (je_isiC T.cl (by decide) rfl T.n_isinstance rfl (je_v 1)) (je_one (je_cmp (op_eqs (hu64 hr.units)) pr_eq (je_meth0 (tb_parts_Member_ok c T) (hr.mono (by decide)) (takes_of rfl rfl rfl rfl) (je_v 0)) (je_meth0 (tb_parts_Member_ok c T) (hr.mono (by decide)) (takes_of rfl rfl rfl rfl) (je_v 1)) (nomark _))))))
theorem p_Member___eq__ (c : SaysZ ck fn K) (T : Txt K mg) : FS Row.prog Row.w K mg base 13 (He.ma K (He.ga K "Member") "__eq__") m_Member___eq__ := by
  obtain ⟨fd, F⟩ := c.def_ 2
  exact fs_pos F sc_Member___eq__ (b_Member___eq__ c T) (fun _ _ _ _ _ _ us hl => match us, hl with | [_, _], _ => rfl)
theorem tb___len___Archive_ok (c : SaysZ ck fn K) (T : Txt K mg) : MTab Row.prog Row.w K mg base 7 tb___len___Archive "__len__" := (mtab_cons (T.cl.at_ "Archive" (by decide)) (T.cl.cls (by decide)) T.m_Archive___len__ (p_Archive___len__ c T) (by decide) mtab_nil)
theorem tb___eq___Member_ok (c : SaysZ ck fn K) (T : Txt K mg) : MTab Row.prog Row.w K mg base 13 tb___eq___Member "__eq__" := (mtab_cons (T.cl.at_ "Member" (by decide)) (T.cl.cls (by decide)) T.m_Member___eq__ (p_Member___eq__ c T) (by decide) mtab_nil)
theorem tb___eq___Member_e (T : Txt K mg) : ETab K mg cls tb___eq___Member := (etab_cons (by decide) (of_decide_eq_true T.x_0) etab_nil)
abbrev N_Archive___eq__ : List Str := ["self", "other"]
theorem sc_Archive___eq__ : FnScope N_Archive___eq__ ["self", "other"] (defScope (mth 24 1)) := ⟨rfl, rfl, rfl, by decide +kernel, rfl, by decide +kernel, by decide +kernel⟩
theorem b_Archive___eq__ (c : SaysZ ck fn K) (T : Txt K mg) : Body Row.prog Row.w K mg base 18 N_Archive___eq__ "Archive.__eq__" (defScope (mth 24 1)) (He.ma K (He.ga K "Archive") "__eq__") (defBody (mth 24 1)) s_Archive___eq__ := by
  intro cdv A outer s H E hr
  exact (js_one (js_ret (je_and (je_isiC T.cl (by decide) rfl T.n_isinstance rfl (je_v 1)) (je_and (je_cmp (op_eqs (hu64 hr.units)) pr_eq (je_fld (fo_name_Archive T) (je_v 0)) (je_fld (fo_name_Archive T) (je_v 1)) (nomark _)) (je_one (je_cmpd (opd_eqO T.cl (tb___eq___Member_ok c T) (tb___eq___Member_e T) (hr.mono (by decide)) (takes_of rfl rfl rfl rfl) false (OpD.of (op_eqs (hu64 hr.units)) pr_eq)) (je_ctd (calld_listO (tb___len___Archive_ok c T) (ITab.mono (itb_Archive_ok c T) (by decide)) (hr.mono (by decide)) (calld_of call_list_of pn_list)) rfl T.n_list boot_list (ja_cons (je_v 0) ja_nil)) (je_ctd (calld_listO (tb___len___Archive_ok c T) (ITab.mono (itb_Archive_ok c T) (by decide)) (hr.mono (by decide)) (calld_of call_list_of pn_list)) rfl T.n_list boot_list (ja_cons (je_v 1) ja_nil)) (nomark _)))))))
theorem p_Archive___eq__ (c : SaysZ ck fn K) (T : Txt K mg) : FS Row.prog Row.w K mg base 19 (He.ma K (He.ga K "Archive") "__eq__") m_Archive___eq__ := by
  obtain ⟨fd, F⟩ := c.def_ 3
  exact fs_pos F sc_Archive___eq__ (b_Archive___eq__ c T) (fun _ _ _ _ _ _ us hl => match us, hl with | [_, _], _ => rfl)
abbrev N_Store___len__ : List Str := ["self"]
theorem sc_Store___len__ : FnScope N_Store___len__ ["self"] (defScope (mth 25 2)) := ⟨rfl, rfl, rfl, by decide +kernel, rfl, by decide +kernel, by decide +kernel⟩
theorem b_Store___len__ (c : SaysZ ck fn K) (T : Txt K mg) : Body Row.prog Row.w K mg base 6 N_Store___len__ "Store.__len__" (defScope (mth 25 2)) (He.ma K (He.ga K "Store") "__len__") (defBody (mth 25 2)) s_Store___len__ := by
  intro cdv A outer s H E hr
  exact (js_one (js_ret (je_cb call_lens pn_len rfl T.n_len boot_len (ja_cons (je_fld (fo_archives_Store T) (je_v 0)) ja_nil))))
theorem p_Store___len__ (c : SaysZ ck fn K) (T : Txt K mg) : FS Row.prog Row.w K mg base 7 (He.ma K (He.ga K "Store") "__len__") m_Store___len__ := by
  obtain ⟨fd, F⟩ := c.def_ 4
  exact fs_pos F sc_Store___len__ (b_Store___len__ c T) (fun _ _ _ _ _ _ us hl => match us, hl with | [_], _ => rfl)
theorem tb___len___Store_ok (c : SaysZ ck fn K) (T : Txt K mg) : MTab Row.prog Row.w K mg base 7 tb___len___Store "__len__" := (mtab_cons (T.cl.at_ "Store" (by decide)) (T.cl.cls (by decide)) T.m_Store___len__ (p_Store___len__ c T) (by decide) mtab_nil)
theorem tb___eq___Archive_ok (c : SaysZ ck fn K) (T : Txt K mg) : MTab Row.prog Row.w K mg base 19 tb___eq___Archive "__eq__" := (mtab_cons (T.cl.at_ "Archive" (by decide)) (T.cl.cls (by decide)) T.m_Archive___eq__ (p_Archive___eq__ c T) (by decide) mtab_nil)
theorem tb___eq___Archive_e (T : Txt K mg) : ETab K mg cls tb___eq___Archive := (etab_cons (by decide) (of_decide_eq_true T.x_1) etab_nil)
abbrev N_Store___eq__ : List Str := ["self", "other"]
theorem sc_Store___eq__ : FnScope N_Store___eq__ ["self", "other"] (defScope (mth 25 1)) := ⟨rfl, rfl, rfl, by decide +kernel, rfl, by decide +kernel, by decide +kernel⟩
theorem b_Store___eq__ (c : SaysZ ck fn K) (T : Txt K mg) : Body Row.prog Row.w K mg base 24 N_Store___eq__ "Store.__eq__" (defScope (mth 25 1)) (He.ma K (He.ga K "Store") "__eq__") (defBody (mth 25 1)) s_Store___eq__ := by
  intro cdv A outer s H E hr
  exact (js_one (js_ret (je_and (je_isiC T.cl (by decide) rfl T.n_isinstance rfl (je_v 1)) (je_one (je_cmpd (opd_eqO T.cl (tb___eq___Archive_ok c T) (tb___eq___Archive_e T) (hr.mono (by decide)) (takes_of rfl rfl rfl rfl) false (OpD.of (op_eqs (hu64 hr.units)) pr_eq)) (je_ctd (calld_listO (tb___len___Store_ok c T) (ITab.mono (itb_Store_ok c T) (by decide)) (hr.mono (by decide)) (calld_of call_list_of pn_list)) rfl T.n_list boot_list (ja_cons (je_v 0) ja_nil)) (je_ctd (calld_listO (tb___len___Store_ok c T) (ITab.mono (itb_Store_ok c T) (by decide)) (hr.mono (by decide)) (calld_of call_list_of pn_list)) rfl T.n_list boot_list (ja_cons (je_v 1) ja_nil)) (nomark _))))))
theorem p_Store___eq__ (c : SaysZ ck fn K) (T : Txt K mg) : FS Row.prog Row.w K mg base 25 (He.ma K (He.ga K "Store") "__eq__") m_Store___eq__ := by
  obtain ⟨fd, F⟩ := c.def_ 5
  exact fs_pos F sc_Store___eq__ (b_Store___eq__ c T) (fun _ _ _ _ _ _ us hl => match us, hl with | [_, _], _ => rfl)
abbrev N_twice_in : List Str := ["names", "seen", "name"]
theorem sc_twice_in : FnScope N_twice_in ["names"] (defScope (top 22)) := ⟨rfl, rfl, rfl, by decide +kernel, rfl, by decide +kernel, by decide +kernel⟩
theorem b_twice_in (c : SaysZ ck fn K) (T : Txt K mg) : Body Row.prog Row.w K mg base 6 N_twice_in "twice_in" (defScope (top 22)) (He.ga K "twice_in") (defBody (top 22)) s_twice_in := by
  intro cdv A outer s H E hr
  exact (js_cons (js_set (i := 1) sc_twice_in.nd rfl (Or.inl rfl) (je_lst ja_nil))
 (js_cons (js_for (passes_of rfl) rfl (ji_sq (je_v 0)) (pg_name (i := 2) sc_twice_in.nd rfl (by first | exact Or.inl rfl | exact Or.inr rfl)) gq_n (js_cons (js_if (jt_cmp (op_ins (hu65 hr.units)) pr_in (je_v 2) (je_v 1) (by rfl)) (js_one (js_ret (je_v 2))) js_nil)
 (js_one (js_expr (je_bm PySem.F.plainAttrs_list PySem.F.slot_list_append PySem.F.type_list_append (mt_append) pm_append (je_v 1) (ja_cons (je_v 2) ja_nil))))))
 (js_one (js_ret je_non))))
theorem p_twice_in (c : SaysZ ck fn K) (T : Txt K mg) : FS Row.prog Row.w K mg base 7 (He.ga K "twice_in") m_twice_in := by
  obtain ⟨fd, F⟩ := c.def_ 6
  exact fs_pos F sc_twice_in (b_twice_in c T) (fun _ _ _ _ _ _ us hl => match us, hl with | [_], _ => rfl)
abbrev N_Store___init__ : List Str := ["self", "archives", "again", "seen", "archive", "member", "name", "kind", "body"]
theorem sc_Store___init__ : FnScope N_Store___init__ ["self", "archives"] (defScope (mth 25 0)) := ⟨rfl, rfl, rfl, by decide +kernel, rfl, by decide +kernel, by decide +kernel⟩
theorem b_Store___init__ (c : SaysZ ck fn K) (T : Txt K mg) : Body Row.prog Row.w K mg base 12 N_Store___init__ "Store.__init__" (defScope (mth 25 0)) (He.ma K (He.ga K "Store") "__init__") (defBody (mth 25 0)) s_Store___init__ := by
  intro cdv A outer s H E hr
  exact (js_cons (js_set (i := 2) sc_Store___init__.nd rfl (Or.inl rfl) (je_call (p_twice_in c T) (hr.mono (by decide)) (takes_of rfl rfl rfl rfl) rfl T.g_twice_in T.k_twice_in (ja_cons (je_lc rfl sc_Store___init__.nd (ji_sq (je_v 1)) (ok := (show BlkOk N_Store___init__ (defScope (mth 25 0)) _ _ from ⟨rfl, by decide +kernel, by decide +kernel, by decide +kernel, by decide +kernel⟩)) (own := [("archive", 4)]) (by decide) (fun _ _ _ _ _ => (pg_name (i := 4) sc_Store___init__.nd rfl (by first | exact Or.inl rfl | exact Or.inr rfl))) gq_n (fun _ _ _ _ _ => jts_nil) (fun _ _ _ _ _ => (je_fld (fo_name_Archive T) (je_v 4)))) ja_nil)))
 (js_cons (js_if (jt_cmp op_notN pr_notN2 (je_v 2) je_non (nomark _)) (js_one js_no) js_nil)
 (js_cons (js_set (i := 3) sc_Store___init__.nd rfl (Or.inl rfl) (je_lst ja_nil))
 (js_cons (js_for (passes_of rfl) rfl (ji_sq (je_v 1)) (pg_name (i := 4) sc_Store___init__.nd rfl (by first | exact Or.inl rfl | exact Or.inr rfl)) gq_n (js_one (js_for (passes_of rfl) rfl (ji_own (itb_Archive_ok c T) (hr.mono (by decide)) (je_v 4)) (pg_name (i := 5) sc_Store___init__.nd rfl (by first | exact Or.inl rfl | exact Or.inr rfl)) gq_n (js_one (js_for (passes_of rfl) rfl (ji_sq (je_fld (fo_defines_Member T) (je_v 5))) (pg_tup (n := 3) rfl (pgs_cons (pg_name (i := 6) sc_Store___init__.nd rfl (by first | exact Or.inl rfl | exact Or.inr rfl)) (pgs_cons (pg_name (i := 7) sc_Store___init__.nd rfl (by first | exact Or.inl rfl | exact Or.inr rfl)) (pgs_cons (pg_name (i := 8) sc_Store___init__.nd rfl (by first | exact Or.inl rfl | exact Or.inr rfl)) pgs_nil)))) (gq_t (gqs_cons gq_n (gqs_cons gq_n (gqs_cons gq_n gqs_nil)))) (js_cons (js_if (jt_cmp (op_ins (hu65 hr.units)) pr_in (je_tup (ja_cons (je_v 6) (ja_cons (je_v 8) ja_nil))) (je_v 3) (by rfl)) (js_one js_no) js_nil)
 (js_one (js_expr (je_bm PySem.F.plainAttrs_list PySem.F.slot_list_append PySem.F.type_list_append (mt_append) pm_append (je_v 3) (ja_cons (je_tup (ja_cons (je_v 6) (ja_cons (je_v 8) ja_nil))) ja_nil))))))))))
 (js_cons (js_if (jt_cmp op_gt pr_gt (je_cb call_lens pn_len rfl T.n_len boot_len (ja_cons (je_v 1) ja_nil)) (je_gint rfl T.c_MOST_ARCHIVES) (nomark _)) (js_one js_no) js_nil)
 (js_one (js_fld (fo_archives_Store T) (je_v 0) (je_v 1))))))))
theorem p_Store___init__ (c : SaysZ ck fn K) (T : Txt K mg) : FS Row.prog Row.w K mg base 13 (He.ma K (He.ga K "Store") "__init__") m_Store___init__ := by
  obtain ⟨fd, F⟩ := c.def_ 7
  exact fs_star (ps := ["self"]) (pv := "archives") F sc_Store___init__ (b_Store___init__ c T) (fun kV doc pm an cdv ct => by
    refine StX.bind_star1 (B := fun xs => bindArgs (PySem.W.fnOf _ _ _ _ _ .none kV doc pm an cdv ct) ⟨xs, []⟩) ?_ ?_ <;> (intros; rfl))
abbrev N_Store___contains__ : List Str := ["self", "thing", "archive"]
theorem sc_Store___contains__ : FnScope N_Store___contains__ ["self", "thing"] (defScope (mth 25 4)) := ⟨rfl, rfl, rfl, by decide +kernel, rfl, by decide +kernel, by decide +kernel⟩
theorem b_Store___contains__ (c : SaysZ ck fn K) (T : Txt K mg) : Body Row.prog Row.w K mg base 6 N_Store___contains__ "Store.__contains__" (defScope (mth 25 4)) (He.ma K (He.ga K "Store") "__contains__") (defBody (mth 25 4)) s_Store___contains__ := by
  intro cdv A outer s H E hr
  exact (js_one (js_ret (je_and (je_isi rfl T.n_isinstance rfl T.n_str boot_str (je_v 1)) (je_one (je_cmp (op_ins (hu65 hr.units)) pr_in (je_v 1) (je_lc rfl sc_Store___contains__.nd (ji_sq (je_fld (fo_archives_Store T) (je_v 0))) (ok := (show BlkOk N_Store___contains__ (defScope (mth 25 4)) _ _ from ⟨rfl, by decide +kernel, by decide +kernel, by decide +kernel, by decide +kernel⟩)) (own := [("archive", 2)]) (by decide) (fun _ _ _ _ _ => (pg_name (i := 2) sc_Store___contains__.nd rfl (by first | exact Or.inl rfl | exact Or.inr rfl))) gq_n (fun _ _ _ _ _ => jts_nil) (fun _ _ _ _ _ => (je_fld (fo_name_Archive T) (je_v 2)))) (by rfl))))))
theorem p_Store___contains__ (c : SaysZ ck fn K) (T : Txt K mg) : FS Row.prog Row.w K mg base 7 (He.ma K (He.ga K "Store") "__contains__") m_Store___contains__ := by
  obtain ⟨fd, F⟩ := c.def_ 8
  exact fs_pos F sc_Store___contains__ (b_Store___contains__ c T) (fun _ _ _ _ _ _ us hl => match us, hl with | [_, _], _ => rfl)
theorem tb___contains___Store_ok (c : SaysZ ck fn K) (T : Txt K mg) : MTab Row.prog Row.w K mg base 7 tb___contains___Store "__contains__" := (mtab_cons (T.cl.at_ "Store" (by decide)) (T.cl.cls (by decide)) T.m_Store___contains__ (p_Store___contains__ c T) (by decide) mtab_nil)
abbrev N_Store___or__ : List Str := ["self", "archive", "rows", "one"]
theorem sc_Store___or__ : FnScope N_Store___or__ ["self", "archive"] (defScope (mth 25 6)) := ⟨rfl, rfl, rfl, by decide +kernel, rfl, by decide +kernel, by decide +kernel⟩
theorem mk_Store (c : SaysZ ck fn K) (T : Txt K mg) : CMk Row.prog Row.w K mg base 13 "Store" none [] m_Store___init__ := ⟨_, _, T.cl.at_ "Store" (by decide), T.mk_Store, p_Store___init__ c T⟩
theorem b_Store___or__ (c : SaysZ ck fn K) (T : Txt K mg) : Body Row.prog Row.w K mg base 18 N_Store___or__ "Store.__or__" (defScope (mth 25 6)) (He.ma K (He.ga K "Store") "__or__") (defBody (mth 25 6)) s_Store___or__ := by
  intro cdv A outer s H E hr
  exact (js_cons (js_if (jt_cmpd (opd_in (.inr ⟨rfl, rfl⟩) (tb___contains___Store_ok c T) (hr.mono (by decide)) (takes_of rfl rfl rfl rfl) opd_no) (je_fld (fo_name_Archive T) (je_v 1)) (je_v 0) (by rfl)) (js_one (js_ret (je_mkS1 (mk_Store c T) (hr.mono (by decide)) (takes_of rfl rfl rfl rfl) rfl (ja_star (je_fld (fo_archives_Store T) (je_v 0)) (ja_cons (je_v 1) ja_nil))))) js_nil)
 (js_cons (js_setLc (i := 2) rfl sc_Store___or__.nd rfl rfl (by rfl) (ji_sq (je_fld (fo_archives_Store T) (je_v 0))) (ok := (show BlkOk N_Store___or__ (defScope (mth 25 6)) _ _ from ⟨rfl, by decide +kernel, by decide +kernel, by decide +kernel, by decide +kernel⟩)) (own := [("one", 3)]) (by decide) (fun _ _ _ _ _ => (pg_name (i := 3) sc_Store___or__.nd rfl (by first | exact Or.inl rfl | exact Or.inr rfl))) gq_n (fun _ _ _ _ _ => jts_nil) (fun _ _ _ _ _ => (je_if (jt_cmp (op_eqs (hu64 hr.units)) pr_eq (je_fld (fo_name_Archive T) (je_v 3)) (je_fld (fo_name_Archive T) (je_v 1)) (nomark _)) (je_v 1) (je_v 3))))
 (js_one (js_ret (je_mkS0 (mk_Store c T) (hr.mono (by decide)) (takes_of rfl rfl rfl rfl) rfl (je_v 2))))))
theorem p_Store___or__ (c : SaysZ ck fn K) (T : Txt K mg) : FS Row.prog Row.w K mg base 19 (He.ma K (He.ga K "Store") "__or__") m_Store___or__ := by
  obtain ⟨fd, F⟩ := c.def_ 9
  exact fs_pos F sc_Store___or__ (b_Store___or__ c T) (fun _ _ _ _ _ _ us hl => match us, hl with | [_, _], _ => rfl)
abbrev N_is_name : List Str := ["thing", "sign"]
theorem sc_is_name : FnScope N_is_name ["thing"] (defScope (top 17)) := ⟨rfl, rfl, rfl, by decide +kernel, rfl, by decide +kernel, by decide +kernel⟩
theorem b_is_name (c : SaysZ ck fn K) (T : Txt K mg) : Body Row.prog Row.w K mg base 6 N_is_name "is_name" (defScope (top 17)) (He.ga K "is_name") (defBody (top 17)) s_is_name := by
  intro cdv A outer s H E hr
  exact (js_cons (js_if (JW_t (jw_or (jt_not (jt_tru (je_isi rfl T.n_isinstance rfl T.n_str boot_str (je_v 0)))) (jw_or1 (jt_not (jt_ch op_le op_le pr_le pr_le je_int (je_cb call_lens pn_len rfl T.n_len boot_len (ja_cons (je_v 0) ja_nil)) (je_gint rfl T.c_MOST_LETTERS)))))) (js_one (js_ret je_bl)) js_nil)
 (js_one (js_ret (je_cb (cr_all rfl) pn_all rfl T.n_all boot_all (ja_cons (je_lc rfl sc_is_name.nd (ji_str (je_v 0)) (ok := (show BlkOk N_is_name (defScope (top 17)) _ _ from ⟨rfl, by decide +kernel, by decide +kernel, by decide +kernel, by decide +kernel⟩)) (own := [("sign", 1)]) (by decide) (fun _ _ _ _ _ => (pg_name (i := 1) sc_is_name.nd rfl (by first | exact Or.inl rfl | exact Or.inr rfl))) gq_n (fun _ _ _ _ _ => jts_nil) (fun _ _ _ _ _ => (je_cmp (op_ins (hu65 hr.units)) pr_in (je_v 1) (je_gstr rfl T.c_LETTERS) (by rfl)))) ja_nil)))))
theorem p_is_name (c : SaysZ ck fn K) (T : Txt K mg) : FS Row.prog Row.w K mg base 7 (He.ga K "is_name") m_is_name := by
  obtain ⟨fd, F⟩ := c.def_ 10
  exact fs_pos F sc_is_name (b_is_name c T) (fun _ _ _ _ _ _ us hl => match us, hl with | [_], _ => rfl)
abbrev N_look_name : List Str := ["thing"]
theorem sc_look_name : FnScope N_look_name ["thing"] (defScope (top 18)) := ⟨rfl, rfl, rfl, by decide +kernel, rfl, by decide +kernel, by decide +kernel⟩
theorem b_look_name (c : SaysZ ck fn K) (T : Txt K mg) : Body Row.prog Row.w K mg base 12 N_look_name "look_name" (defScope (top 18)) (He.ga K "look_name") (defBody (top 18)) s_look_name := by
  intro cdv A outer s H E hr
  exact (js_one (js_if (jt_not (jt_tru (je_call (p_is_name c T) (hr.mono (by decide)) (takes_of rfl rfl rfl rfl) rfl T.g_is_name T.k_is_name (ja_cons (je_v 0) ja_nil)))) (js_one js_no) js_nil))
theorem p_look_name (c : SaysZ ck fn K) (T : Txt K mg) : FS Row.prog Row.w K mg base 13 (He.ga K "look_name") m_look_name := by
  obtain ⟨fd, F⟩ := c.def_ 11
  exact fs_pos F sc_look_name (b_look_name c T) (fun _ _ _ _ _ _ us hl => match us, hl with | [_], _ => rfl)
abbrev N_Archive___init__ : List Str := ["self", "name", "members", "again", "member"]
theorem sc_Archive___init__ : FnScope N_Archive___init__ ["self", "name", "members"] (defScope (mth 24 0)) := ⟨rfl, rfl, rfl, by decide +kernel, rfl, by decide +kernel, by decide +kernel⟩
theorem b_Archive___init__ (c : SaysZ ck fn K) (T : Txt K mg) : Body Row.prog Row.w K mg base 18 N_Archive___init__ "Archive.__init__" (defScope (mth 24 0)) (He.ma K (He.ga K "Archive") "__init__") (defBody (mth 24 0)) s_Archive___init__ := by
  intro cdv A outer s H E hr
  exact (js_cons (js_expr (je_call (p_look_name c T) (hr.mono (by decide)) (takes_of rfl rfl rfl rfl) rfl T.g_look_name T.k_look_name (ja_cons (je_v 1) ja_nil)))
 (js_cons (js_set (i := 3) sc_Archive___init__.nd rfl (Or.inl rfl) (je_call (p_twice_in c T) (hr.mono (by decide)) (takes_of rfl rfl rfl rfl) rfl T.g_twice_in T.k_twice_in (ja_cons (je_lc rfl sc_Archive___init__.nd (ji_sq (je_v 2)) (ok := (show BlkOk N_Archive___init__ (defScope (mth 24 0)) _ _ from ⟨rfl, by decide +kernel, by decide +kernel, by decide +kernel, by decide +kernel⟩)) (own := [("member", 4)]) (by decide) (fun _ _ _ _ _ => (pg_name (i := 4) sc_Archive___init__.nd rfl (by first | exact Or.inl rfl | exact Or.inr rfl))) gq_n (fun _ _ _ _ _ => jts_nil) (fun _ _ _ _ _ => (je_fld (fo_name_Member T) (je_v 4)))) ja_nil)))
 (js_cons (js_if (jt_cmp op_notN pr_notN2 (je_v 3) je_non (nomark _)) (js_one js_no) js_nil)
 (js_cons (js_if (jt_cmp op_gt pr_gt (je_cb call_lens pn_len rfl T.n_len boot_len (ja_cons (je_v 2) ja_nil)) (je_gint rfl T.c_MOST_MEMBERS) (nomark _)) (js_one js_no) js_nil)
 (js_cons (js_fld (fo_name_Archive T) (je_v 0) (je_v 1))
 (js_one (js_fld (fo_members_Archive T) (je_v 0) (je_v 2))))))))
theorem p_Archive___init__ (c : SaysZ ck fn K) (T : Txt K mg) : FS Row.prog Row.w K mg base 19 (He.ma K (He.ga K "Archive") "__init__") m_Archive___init__ := by
  obtain ⟨fd, F⟩ := c.def_ 12
  exact fs_star (ps := ["self", "name"]) (pv := "members") F sc_Archive___init__ (b_Archive___init__ c T) (fun kV doc pm an cdv ct => by
    refine StX.bind_star2 (B := fun xs => bindArgs (PySem.W.fnOf _ _ _ _ _ .none kV doc pm an cdv ct) ⟨xs, []⟩) ?_ ?_ <;> (intros; rfl))
abbrev N_Archive___add__ : List Str := ["self", "member"]
theorem sc_Archive___add__ : FnScope N_Archive___add__ ["self", "member"] (defScope (mth 24 6)) := ⟨rfl, rfl, rfl, by decide +kernel, rfl, by decide +kernel, by decide +kernel⟩
theorem mk_Archive (c : SaysZ ck fn K) (T : Txt K mg) : CMk Row.prog Row.w K mg base 19 "Archive" none [] m_Archive___init__ := ⟨_, _, T.cl.at_ "Archive" (by decide), T.mk_Archive, p_Archive___init__ c T⟩
theorem b_Archive___add__ (c : SaysZ ck fn K) (T : Txt K mg) : Body Row.prog Row.w K mg base 24 N_Archive___add__ "Archive.__add__" (defScope (mth 24 6)) (He.ma K (He.ga K "Archive") "__add__") (defBody (mth 24 6)) s_Archive___add__ := by
  intro cdv A outer s H E hr
  exact (js_one (js_ret (je_mkS (mk_Archive c T) (hr.mono (by decide)) (takes_of rfl rfl rfl rfl) rfl (ja_cons (je_fld (fo_name_Archive T) (je_v 0)) (ja_star (je_fld (fo_members_Archive T) (je_v 0)) (ja_cons (je_v 1) ja_nil))))))
theorem p_Archive___add__ (c : SaysZ ck fn K) (T : Txt K mg) : FS Row.prog Row.w K mg base 25 (He.ma K (He.ga K "Archive") "__add__") m_Archive___add__ := by
  obtain ⟨fd, F⟩ := c.def_ 13
  exact fs_pos F sc_Archive___add__ (b_Archive___add__ c T) (fun _ _ _ _ _ _ us hl => match us, hl with | [_, _], _ => rfl)
abbrev N_look_body : List Str := ["thing"]
theorem sc_look_body : FnScope N_look_body ["thing"] (defScope (top 21)) := ⟨rfl, rfl, rfl, by decide +kernel, rfl, by decide +kernel, by decide +kernel⟩
theorem b_look_body (c : SaysZ ck fn K) (T : Txt K mg) : Body Row.prog Row.w K mg base 6 N_look_body "look_body" (defScope (top 21)) (He.ga K "look_body") (defBody (top 21)) s_look_body := by
  intro cdv A outer s H E hr
  exact (js_one (js_if (JW_t (jw_or (jt_not (jt_tru (je_isi rfl T.n_isinstance rfl T.n_int boot_int (je_v 0)))) (jw_or (jt_tru (je_isi rfl T.n_isinstance rfl T.n_bool boot_bool (je_v 0))) (jw_or1 (jt_not (jt_ch op_le op_le pr_le pr_le je_int (je_v 0) (je_gint rfl T.c_MOST_BODY))))))) (js_one js_no) js_nil))
theorem p_look_body (c : SaysZ ck fn K) (T : Txt K mg) : FS Row.prog Row.w K mg base 7 (He.ga K "look_body") m_look_body := by
  obtain ⟨fd, F⟩ := c.def_ 14
  exact fs_pos F sc_look_body (b_look_body c T) (fun _ _ _ _ _ _ us hl => match us, hl with | [_], _ => rfl)
abbrev N_is_kind : List Str := ["thing"]
theorem sc_is_kind : FnScope N_is_kind ["thing"] (defScope (top 19)) := ⟨rfl, rfl, rfl, by decide +kernel, rfl, by decide +kernel, by decide +kernel⟩
theorem b_is_kind (c : SaysZ ck fn K) (T : Txt K mg) : Body Row.prog Row.w K mg base 6 N_is_kind "is_kind" (defScope (top 19)) (He.ga K "is_kind") (defBody (top 19)) s_is_kind := by
  intro cdv A outer s H E hr
  exact (js_one (js_ret (je_and (je_isi rfl T.n_isinstance rfl T.n_str boot_str (je_v 0)) (je_one (je_cmp (op_ins (hu65 hr.units)) pr_in (je_v 0) (je_gt rfl T.c_KINDS) (by rfl))))))
theorem p_is_kind (c : SaysZ ck fn K) (T : Txt K mg) : FS Row.prog Row.w K mg base 7 (He.ga K "is_kind") m_is_kind := by
  obtain ⟨fd, F⟩ := c.def_ 15
  exact fs_pos F sc_is_kind (b_is_kind c T) (fun _ _ _ _ _ _ us hl => match us, hl with | [_], _ => rfl)
abbrev N_look_kind : List Str := ["thing"]
theorem sc_look_kind : FnScope N_look_kind ["thing"] (defScope (top 20)) := ⟨rfl, rfl, rfl, by decide +kernel, rfl, by decide +kernel, by decide +kernel⟩
theorem b_look_kind (c : SaysZ ck fn K) (T : Txt K mg) : Body Row.prog Row.w K mg base 12 N_look_kind "look_kind" (defScope (top 20)) (He.ga K "look_kind") (defBody (top 20)) s_look_kind := by
  intro cdv A outer s H E hr
  exact (js_one (js_if (jt_not (jt_tru (je_call (p_is_kind c T) (hr.mono (by decide)) (takes_of rfl rfl rfl rfl) rfl T.g_is_kind T.k_is_kind (ja_cons (je_v 0) ja_nil)))) (js_one js_no) js_nil))
theorem p_look_kind (c : SaysZ ck fn K) (T : Txt K mg) : FS Row.prog Row.w K mg base 13 (He.ga K "look_kind") m_look_kind := by
  obtain ⟨fd, F⟩ := c.def_ 16
  exact fs_pos F sc_look_kind (b_look_kind c T) (fun _ _ _ _ _ _ us hl => match us, hl with | [_], _ => rfl)
abbrev N_Member___init__ : List Str := ["self", "name", "defines", "wants", "wanted", "again", "defined", "kind", "body", "row"]
theorem sc_Member___init__ : FnScope N_Member___init__ ["self", "name", "defines", "wants"] (defScope (mth 23 0)) := ⟨rfl, rfl, rfl, by decide +kernel, rfl, by decide +kernel, by decide +kernel⟩
theorem b_Member___init__ (c : SaysZ ck fn K) (T : Txt K mg) : Body Row.prog Row.w K mg base 18 N_Member___init__ "Member.__init__" (defScope (mth 23 0)) (He.ma K (He.ga K "Member") "__init__") (defBody (mth 23 0)) s_Member___init__ := by
  intro cdv A outer s H E hr
  exact (js_cons (js_expr (je_call (p_look_name c T) (hr.mono (by decide)) (takes_of rfl rfl rfl rfl) rfl T.g_look_name T.k_look_name (ja_cons (je_v 1) ja_nil)))
 (js_cons (js_for (passes_of rfl) rfl (ji_sq (je_v 2)) (pg_tup (n := 3) rfl (pgs_cons (pg_name (i := 6) sc_Member___init__.nd rfl (by first | exact Or.inl rfl | exact Or.inr rfl)) (pgs_cons (pg_name (i := 7) sc_Member___init__.nd rfl (by first | exact Or.inl rfl | exact Or.inr rfl)) (pgs_cons (pg_name (i := 8) sc_Member___init__.nd rfl (by first | exact Or.inl rfl | exact Or.inr rfl)) pgs_nil)))) (gq_t (gqs_cons gq_n (gqs_cons gq_n (gqs_cons gq_n gqs_nil)))) (js_cons (js_expr (je_call (p_look_name c T) (hr.mono (by decide)) (takes_of rfl rfl rfl rfl) rfl T.g_look_name T.k_look_name (ja_cons (je_v 6) ja_nil)))
 (js_cons (js_expr (je_call (p_look_kind c T) (hr.mono (by decide)) (takes_of rfl rfl rfl rfl) rfl T.g_look_kind T.k_look_kind (ja_cons (je_v 7) ja_nil)))
 (js_one (js_expr (je_call (p_look_body c T) (hr.mono (by decide)) (takes_of rfl rfl rfl rfl) rfl T.g_look_body T.k_look_body (ja_cons (je_v 8) ja_nil)))))))
 (js_cons (js_for (passes_of rfl) rfl (ji_sq (je_v 3)) (pg_name (i := 4) sc_Member___init__.nd rfl (by first | exact Or.inl rfl | exact Or.inr rfl)) gq_n (js_one (js_expr (je_call (p_look_name c T) (hr.mono (by decide)) (takes_of rfl rfl rfl rfl) rfl T.g_look_name T.k_look_name (ja_cons (je_v 4) ja_nil)))))
 (js_cons (js_set (i := 5) sc_Member___init__.nd rfl (Or.inl rfl) (je_call (p_twice_in c T) (hr.mono (by decide)) (takes_of rfl rfl rfl rfl) rfl T.g_twice_in T.k_twice_in (ja_cons (je_op op_adds pr_add (je_lc rfl sc_Member___init__.nd (ji_sq (je_v 2)) (ok := (show BlkOk N_Member___init__ (defScope (mth 23 0)) _ _ from ⟨rfl, by decide +kernel, by decide +kernel, by decide +kernel, by decide +kernel⟩)) (own := [("row", 9)]) (by decide) (fun _ _ _ _ _ => (pg_name (i := 9) sc_Member___init__.nd rfl (by first | exact Or.inl rfl | exact Or.inr rfl))) gq_n (fun _ _ _ _ _ => jts_nil) (fun _ _ _ _ _ => (je_ix ix_seq pr_ix (je_v 9) je_int))) (je_ct call_list_of pn_list rfl T.n_list boot_list (ja_cons (je_v 3) ja_nil))) ja_nil)))
 (js_cons (js_if (jt_cmp op_notN pr_notN2 (je_v 5) je_non (nomark _)) (js_one js_no) js_nil)
 (js_cons (js_if (JW_t (jw_or (jt_cmp op_gt pr_gt (je_cb call_lens pn_len rfl T.n_len boot_len (ja_cons (je_v 2) ja_nil)) (je_gint rfl T.c_MOST_PARTS) (nomark _)) (jw_or1 (jt_cmp op_gt pr_gt (je_cb call_lens pn_len rfl T.n_len boot_len (ja_cons (je_v 3) ja_nil)) (je_gint rfl T.c_MOST_PARTS) (nomark _))))) (js_one js_no) js_nil)
 (js_cons (js_fld (fo_name_Member T) (je_v 0) (je_v 1))
 (js_cons (js_fld (fo_defines_Member T) (je_v 0) (je_ct call_tuple_of pn_tuple rfl T.n_tuple boot_tuple (ja_cons (je_cb call_srtA (pn_sortA (hu66 hr.units)) rfl T.n_sorted boot_sorted (ja_cons (je_v 2) ja_nil)) ja_nil)))
 (js_one (js_fld (fo_wants_Member T) (je_v 0) (je_ct call_tuple_of pn_tuple rfl T.n_tuple boot_tuple (ja_cons (je_cb call_srtA (pn_sortA (hu66 hr.units)) rfl T.n_sorted boot_sorted (ja_cons (je_v 3) ja_nil)) ja_nil))))))))))))
theorem k_Member___init___2_defines_wants (c : SaysZ ck fn K) (T : Txt K mg) : FSk Row.prog Row.w K mg base 19 (He.ma K (He.ga K "Member") "__init__") 2 ["defines", "wants"] km_Member___init___2_defines_wants := by
  obtain ⟨fd, F⟩ := c.def_ 17
  exact fs_key (n := 2) F sc_Member___init__ (b_Member___init__ c T) (fun ds es => ds ++ es) (fun _ _ _ _ _ _ us ws h1 h2 => match us, h1, ws, h2 with | [_, _], _, [_, _], _ => rfl) (fun us ws h1 h2 => by rw [List.length_append, h1, h2] <;> rfl) (fun h1 h2 => h1.append h2) (fun h1 h2 => h1.append h2)
theorem tb___add___Archive_ok (c : SaysZ ck fn K) (T : Txt K mg) : MTab Row.prog Row.w K mg base 25 tb___add___Archive "__add__" := (mtab_cons (T.cl.at_ "Archive" (by decide)) (T.cl.cls (by decide)) T.m_Archive___add__ (p_Archive___add__ c T) (by decide) mtab_nil)
theorem tb___add___Archive_l (T : Txt K mg) : LTab K mg tb___add___Archive := (ltab_cons (T.cl.at_ "Archive" (by decide)) T.x_2 ltab_nil)
abbrev N__law_archive : List Str := ["_law_name", "_law_members", "_law_made", "_law_member_here", "_law_gives", "_law_needs"]
theorem sc__law_archive : FnScope N__law_archive ["_law_name", "_law_members"] (defScope (top 35)) := ⟨rfl, rfl, rfl, by decide +kernel, rfl, by decide +kernel, by decide +kernel⟩
theorem mk_Member_2_defines_wants (c : SaysZ ck fn K) (T : Txt K mg) : CMk Row.prog Row.w K mg base 19 "Member" (some 2) ["defines", "wants"] km_Member___init___2_defines_wants := ⟨_, _, T.cl.at_ "Member" (by decide), T.mk_Member, k_Member___init___2_defines_wants c T⟩
theorem b__law_archive (c : SaysZ ck fn K) (T : Txt K mg) : Body Row.prog Row.w K mg base 30 N__law_archive "_law_archive" (defScope (top 35)) (He.ga K "_law_archive") (defBody (top 35)) s__law_archive := by
  intro cdv A outer s H E hr
  exact (js_cons (js_set (i := 2) sc__law_archive.nd rfl (Or.inl rfl) (je_mk (mk_Archive c T) (hr.mono (by decide)) (takes_of rfl rfl rfl rfl) rfl (ja_cons (je_v 0) ja_nil)))
 (js_cons (js_for (passes_of rfl) rfl (ji_sq (je_v 1)) (pg_tup (n := 3) rfl (pgs_cons (pg_name (i := 3) sc__law_archive.nd rfl (by first | exact Or.inl rfl | exact Or.inr rfl)) (pgs_cons (pg_name (i := 4) sc__law_archive.nd rfl (by first | exact Or.inl rfl | exact Or.inr rfl)) (pgs_cons (pg_name (i := 5) sc__law_archive.nd rfl (by first | exact Or.inl rfl | exact Or.inr rfl)) pgs_nil)))) (gq_t (gqs_cons gq_n (gqs_cons gq_n (gqs_cons gq_n gqs_nil)))) (js_one (js_set (i := 2) sc__law_archive.nd rfl (Or.inl rfl) (je_opd (opd_binop (tb___add___Archive_ok c T) (tb___add___Archive_l T) (rt_add_Member T) (fun h => nomatch h) (hr.mono (by decide)) (takes_of rfl rfl rfl rfl) ob_add ob_radd opd_no) (je_v 2) (je_mkk (ks := ["defines", "wants"]) (mk_Member_2_defines_wants c T) (hr.mono (by decide)) (takes_of rfl rfl rfl rfl) rfl (ja_cons (je_v 3) ja_nil) (jk_cons (je_v 4) (jk_cons (je_v 5) jk_nil)))))))
 (js_one (js_ret (je_v 2)))))
theorem p__law_archive (c : SaysZ ck fn K) (T : Txt K mg) : FS Row.prog Row.w K mg base 31 (He.ga K "_law_archive") m__law_archive := by
  obtain ⟨fd, F⟩ := c.def_ 18
  exact fs_pos F sc__law_archive (b__law_archive c T) (fun _ _ _ _ _ _ us hl => match us, hl with | [_, _], _ => rfl)
abbrev N__law_bag : List Str := ["_law_script", "_law_at", "_law_cell", "_law_mixed", "_law_k", "_law_each"]
theorem sc__law_bag : FnScope N__law_bag ["_law_script", "_law_at"] (defScope (top 28)) := ⟨rfl, rfl, rfl, by decide +kernel, rfl, by decide +kernel, by decide +kernel⟩
theorem b__law_bag (c : SaysZ ck fn K) (T : Txt K mg) : Body Row.prog Row.w K mg base 6 N__law_bag "_law_bag" (defScope (top 28)) (He.ga K "_law_bag") (defBody (top 28)) s__law_bag := by
  intro cdv A outer s H E hr
  exact (js_cons (js_set (i := 2) sc__law_bag.nd rfl (Or.inl rfl) (je_if (jt_cmp op_lt pr_lt (je_v 1) (je_cb call_lens pn_len rfl T.n_len boot_len (ja_cons (je_v 0) ja_nil)) (nomark _)) (je_ix ix_seq pr_ix (je_v 0) (je_v 1)) je_int))
 (js_cons (js_set (i := 3) sc__law_bag.nd rfl (Or.inl rfl) (je_op op_adds pr_add (je_op op_muls pr_mul2 je_int (je_v 1)) je_int))
 (js_cons (js_for (passes_of rfl) rfl (ji_en rfl T.n_enumerate (ja_cons (je_sl sl_all ps_sl (je_v 0) jo_none (jo_some je_int)) ja_nil)) (pg_tup (n := 2) rfl (pgs_cons (pg_name (i := 4) sc__law_bag.nd rfl (by first | exact Or.inl rfl | exact Or.inr rfl)) (pgs_cons (pg_name (i := 5) sc__law_bag.nd rfl (by first | exact Or.inl rfl | exact Or.inr rfl)) pgs_nil))) (gq_t (gqs_cons gq_n (gqs_cons gq_n gqs_nil))) (js_one (js_set (i := 3) sc__law_bag.nd rfl (Or.inl rfl) (je_op op_mod pr_mod (je_ct call_int1 pn_int rfl T.n_int boot_int (ja_cons (je_op op_adds pr_add (je_op op_adds pr_add (je_op op_muls pr_mul2 (je_v 3) je_int) (je_op op_mod pr_mod (je_ct call_int1 pn_int rfl T.n_int boot_int (ja_cons (je_v 5) ja_nil)) je_int)) (je_op op_muls pr_mul2 je_int (je_v 4))) ja_nil)) je_int))))
 (js_one (js_ret (je_lst (ja_cons (je_if (jt_cmp op_ge pr_ge (je_cb call_abs pn_abs rfl T.n_abs boot_abs (ja_cons (je_v 2) ja_nil)) (je_op op_pow pr_pow je_int je_int) (nomark _)) (je_cb call_abs pn_abs rfl T.n_abs boot_abs (ja_cons (je_v 2) ja_nil)) je_int) (ja_cons (je_v 3) ja_nil))))))))
theorem p__law_bag (c : SaysZ ck fn K) (T : Txt K mg) : FS Row.prog Row.w K mg base 7 (He.ga K "_law_bag") m__law_bag := by
  obtain ⟨fd, F⟩ := c.def_ 19
  exact fs_pos F sc__law_bag (b__law_bag c T) (fun _ _ _ _ _ _ us hl => match us, hl with | [_, _], _ => rfl)
abbrev N_Store___getitem__ : List Str := ["self", "thing", "archive"]
theorem sc_Store___getitem__ : FnScope N_Store___getitem__ ["self", "thing"] (defScope (mth 25 5)) := ⟨rfl, rfl, rfl, by decide +kernel, rfl, by decide +kernel, by decide +kernel⟩
theorem b_Store___getitem__ (c : SaysZ ck fn K) (T : Txt K mg) : Body Row.prog Row.w K mg base 12 N_Store___getitem__ "Store.__getitem__" (defScope (mth 25 5)) (He.ma K (He.ga K "Store") "__getitem__") (defBody (mth 25 5)) s_Store___getitem__ := by
  intro cdv A outer s H E hr
  exact (js_cons (js_if (jt_cmpd (opd_in (.inr ⟨rfl, rfl⟩) (tb___contains___Store_ok c T) (hr.mono (by decide)) (takes_of rfl rfl rfl rfl) opd_no) (je_v 1) (je_v 0) (by rfl)) (js_one js_no) js_nil)
 (js_one (js_ret (je_ix ix_seq pr_ix (je_lc rfl sc_Store___getitem__.nd (ji_sq (je_fld (fo_archives_Store T) (je_v 0))) (ok := (show BlkOk N_Store___getitem__ (defScope (mth 25 5)) _ _ from ⟨rfl, by decide +kernel, by decide +kernel, by decide +kernel, by decide +kernel⟩)) (own := [("archive", 2)]) (by decide) (fun _ _ _ _ _ => (pg_name (i := 2) sc_Store___getitem__.nd rfl (by first | exact Or.inl rfl | exact Or.inr rfl))) gq_n (fun _ _ _ _ _ => pts_one (jt_cmp (op_eqs (hu64 hr.units)) pr_eq (je_fld (fo_name_Archive T) (je_v 2)) (je_v 1) (nomark _))) (fun _ _ _ _ _ => (je_v 2))) je_int))))
theorem p_Store___getitem__ (c : SaysZ ck fn K) (T : Txt K mg) : FS Row.prog Row.w K mg base 13 (He.ma K (He.ga K "Store") "__getitem__") m_Store___getitem__ := by
  obtain ⟨fd, F⟩ := c.def_ 20
  exact fs_pos F sc_Store___getitem__ (b_Store___getitem__ c T) (fun _ _ _ _ _ _ us hl => match us, hl with | [_, _], _ => rfl)
abbrev N_names_in : List Str := ["archives", "found", "archive", "member", "name", "row"]
theorem sc_names_in : FnScope N_names_in ["archives"] (defScope (top 26)) := ⟨rfl, rfl, rfl, by decide +kernel, rfl, by decide +kernel, by decide +kernel⟩
theorem b_names_in (c : SaysZ ck fn K) (T : Txt K mg) : Body Row.prog Row.w K mg base 6 N_names_in "names_in" (defScope (top 26)) (He.ga K "names_in") (defBody (top 26)) s_names_in := by
  intro cdv A outer s H E hr
  exact (js_cons (js_set (i := 1) sc_names_in.nd rfl (Or.inl rfl) (je_set0 ⟨rfl, rfl⟩ rfl T.n_set))
 (js_cons (js_for (passes_of rfl) rfl (ji_sq (je_v 0)) (pg_name (i := 2) sc_names_in.nd rfl (by first | exact Or.inl rfl | exact Or.inr rfl)) gq_n (js_one (js_for (passes_of rfl) rfl (ji_own (itb_Archive_ok c T) (hr.mono (by decide)) (je_v 2)) (pg_name (i := 3) sc_names_in.nd rfl (by first | exact Or.inl rfl | exact Or.inr rfl)) gq_n (js_one (js_for (passes_of rfl) rfl (ji_sq (je_op op_adds pr_add (je_lc rfl sc_names_in.nd (ji_sq (je_fld (fo_defines_Member T) (je_v 3))) (ok := (show BlkOk N_names_in (defScope (top 26)) _ _ from ⟨rfl, by decide +kernel, by decide +kernel, by decide +kernel, by decide +kernel⟩)) (own := [("row", 5)]) (by decide) (fun _ _ _ _ _ => (pg_name (i := 5) sc_names_in.nd rfl (by first | exact Or.inl rfl | exact Or.inr rfl))) gq_n (fun _ _ _ _ _ => jts_nil) (fun _ _ _ _ _ => (je_ix ix_seq pr_ix (je_v 5) je_int))) (je_ct call_list_of pn_list rfl T.n_list boot_list (ja_cons (je_fld (fo_wants_Member T) (je_v 3)) ja_nil)))) (pg_name (i := 4) sc_names_in.nd rfl (by first | exact Or.inl rfl | exact Or.inr rfl)) gq_n (js_one (js_expr (je_sadd ⟨rfl, rfl⟩ (je_v 1) (ja_cons (je_v 4) ja_nil)))))))))
 (js_one (js_ret (je_cbd (calld_sortZ ⟨rfl, rfl⟩ rfl (hu66 hr.units) (calld_of call_srtA (pn_sortA (hu66 hr.units)))) rfl T.n_sorted boot_sorted (ja_cons (je_v 1) ja_nil))))))
theorem p_names_in (c : SaysZ ck fn K) (T : Txt K mg) : FS Row.prog Row.w K mg base 7 (He.ga K "names_in") m_names_in := by
  obtain ⟨fd, F⟩ := c.def_ 21
  exact fs_pos F sc_names_in (b_names_in c T) (fun _ _ _ _ _ _ us hl => match us, hl with | [_], _ => rfl)
abbrev N_Store_names : List Str := ["self"]
theorem sc_Store_names : FnScope N_Store_names ["self"] (defScope (mth 25 7)) := ⟨rfl, rfl, rfl, by decide +kernel, rfl, by decide +kernel, by decide +kernel⟩
theorem b_Store_names (c : SaysZ ck fn K) (T : Txt K mg) : Body Row.prog Row.w K mg base 12 N_Store_names "Store.names" (defScope (mth 25 7)) (He.ma K (He.ga K "Store") "names") (defBody (mth 25 7)) s_Store_names := by
  intro cdv A outer s H E hr
  exact (js_one (js_ret (je_call (p_names_in c T) (hr.mono (by decide)) (takes_of rfl rfl rfl rfl) rfl T.g_names_in T.k_names_in (ja_cons (je_fld (fo_archives_Store T) (je_v 0)) ja_nil))))
theorem p_Store_names (c : SaysZ ck fn K) (T : Txt K mg) : FS Row.prog Row.w K mg base 13 (He.ma K (He.ga K "Store") "names") m_Store_names := by
  obtain ⟨fd, F⟩ := c.def_ 22
  exact fs_pos F sc_Store_names (b_Store_names c T) (fun _ _ _ _ _ _ us hl => match us, hl with | [_], _ => rfl)
theorem tb___getitem___Store_ok (c : SaysZ ck fn K) (T : Txt K mg) : MTab Row.prog Row.w K mg base 13 tb___getitem___Store "__getitem__" := (mtab_cons (T.cl.at_ "Store" (by decide)) (T.cl.cls (by decide)) T.m_Store___getitem__ (p_Store___getitem__ c T) (by decide) mtab_nil)
theorem tb_names_Store_ok (c : SaysZ ck fn K) (T : Txt K mg) : MTab Row.prog Row.w K mg base 13 tb_names_Store "names" := (mtab_cons (T.cl.at_ "Store" (by decide)) (T.cl.cls (by decide)) T.m_Store_names (p_Store_names c T) (by decide) mtab_nil)
theorem tb___getitem___Store_f (T : Txt K mg) : FnTab K mg tb___getitem___Store "__getitem__" := (fntab_cons (T.cl.at_ "Store" (by decide)) T.m_Store___getitem__ T.x_4 fntab_nil)
abbrev N__law_is_right : List Str := ["_law_store_here", "_law_plain_here", "_law_made", "_law_names_here", "_law_told_here", "_law_k", "_law_row", "_law_archive_here", "_law_members", "_law_member_here", "_law_gives", "_law_needs", "_law_name", "_law_one", "_law_thing"]
theorem sc__law_is_right : FnScope N__law_is_right ["_law_store_here", "_law_plain_here"] (defScope (top 37)) := ⟨rfl, rfl, rfl, by decide +kernel, rfl, by decide +kernel, by decide +kernel⟩
theorem b__law_is_right (c : SaysZ ck fn K) (T : Txt K mg) : Body Row.prog Row.w K mg base 36 N__law_is_right "_law_is_right" (defScope (top 37)) (He.ga K "_law_is_right") (defBody (top 37)) s__law_is_right := by
  intro cdv A outer s H E hr
  exact (js_cons (js_setLc (i := 2) rfl sc__law_is_right.nd rfl rfl (by rfl) (ji_sq (je_v 1)) (ok := (show BlkOk N__law_is_right (defScope (top 37)) _ _ from ⟨rfl, by decide +kernel, by decide +kernel, by decide +kernel, by decide +kernel⟩)) (own := [("_law_name", 12), ("_law_members", 8)]) (by decide) (fun _ _ _ _ _ => (pg_tup (n := 2) rfl (pgs_cons (pg_name (i := 12) sc__law_is_right.nd rfl (by first | exact Or.inl rfl | exact Or.inr rfl)) (pgs_cons (pg_name (i := 8) sc__law_is_right.nd rfl (by first | exact Or.inl rfl | exact Or.inr rfl)) pgs_nil)))) (gq_t (gqs_cons gq_n (gqs_cons gq_n gqs_nil))) (fun _ _ _ _ _ => jts_nil) (fun _ _ _ _ _ => (je_call (p__law_archive c T) (hr.mono (by decide)) (takes0) rfl T.g__law_archive T.k__law_archive (ja_cons (je_v 12) (ja_cons (je_v 8) ja_nil)))))
 (js_cons (js_if (JW_t (jw_or (jt_cmp (op_nes (hu64 hr.units)) pr_ne (je_cbd (calld_len (tb___len___Store_ok c T) (hr.mono (by decide)) (takes_of rfl rfl rfl rfl) (calld_of call_lens pn_len)) rfl T.n_len boot_len (ja_cons (je_v 0) ja_nil)) (je_cb call_lens pn_len rfl T.n_len boot_len (ja_cons (je_v 1) ja_nil)) (nomark _)) (jw_or1 (jt_cmpd (opd_eqO T.cl (tb___eq___Archive_ok c T) (tb___eq___Archive_e T) (hr.mono (by decide)) (takes_of rfl rfl rfl rfl) true (OpD.of (op_nes (hu64 hr.units)) pr_ne)) (je_lc rfl sc__law_is_right.nd (ji_own (itb_Store_ok c T) (hr.mono (by decide)) (je_v 0)) (ok := (show BlkOk N__law_is_right (defScope (top 37)) _ _ from ⟨rfl, by decide +kernel, by decide +kernel, by decide +kernel, by decide +kernel⟩)) (own := [("_law_one", 13)]) (by decide) (fun _ _ _ _ _ => (pg_name (i := 13) sc__law_is_right.nd rfl (by first | exact Or.inl rfl | exact Or.inr rfl))) gq_n (fun _ _ _ _ _ => jts_nil) (fun _ _ _ _ _ => (je_v 13))) (je_v 2) (nomark _))))) (js_one (js_ret je_bl)) js_nil)
 (js_cons (js_for (passes_of rfl) rfl (ji_en rfl T.n_enumerate (ja_cons (je_v 1) ja_nil)) (pg_tup (n := 2) rfl (pgs_cons (pg_name (i := 5) sc__law_is_right.nd rfl (by first | exact Or.inl rfl | exact Or.inr rfl)) (pgs_cons (pg_name (i := 6) sc__law_is_right.nd rfl (by first | exact Or.inl rfl | exact Or.inr rfl)) pgs_nil))) (gq_t (gqs_cons gq_n (gqs_cons gq_n gqs_nil))) (js_one (js_if (JW_t (jw_or (jt_not (jt_cmpd (opd_in (.inl ⟨rfl, rfl⟩) (tb___contains___Store_ok c T) (hr.mono (by decide)) (takes_of rfl rfl rfl rfl) opd_no) (je_ix ix_seq pr_ix (je_v 6) je_int) (je_v 0) (by rfl))) (jw_or1 (jt_cmpd (opd_eqO T.cl (tb___eq___Archive_ok c T) (tb___eq___Archive_e T) (hr.mono (by decide)) (takes_of rfl rfl rfl rfl) true (OpD.of (op_nes (hu64 hr.units)) pr_ne)) (je_ixd (ixd_own (tb___getitem___Store_ok c T) (tb___getitem___Store_f T) (hr.mono (by decide)) (takes_of rfl rfl rfl rfl) ixd_no) (je_v 0) (je_ix ix_seq pr_ix (je_v 6) je_int)) (je_ix ix_seq pr_ix (je_v 2) (je_v 5)) (nomark _))))) (js_one (js_ret je_bl)) js_nil)))
 (js_cons (js_set (i := 3) sc__law_is_right.nd rfl (Or.inl rfl) (je_lst ja_nil))
 (js_cons (js_for (passes_of rfl) rfl (ji_sq (je_v 1)) (pg_tup (n := 2) rfl (pgs_cons (pg_name (i := 7) sc__law_is_right.nd rfl (by first | exact Or.inl rfl | exact Or.inr rfl)) (pgs_cons (pg_name (i := 8) sc__law_is_right.nd rfl (by first | exact Or.inl rfl | exact Or.inr rfl)) pgs_nil))) (gq_t (gqs_cons gq_n (gqs_cons gq_n gqs_nil))) (js_one (js_for (passes_of rfl) rfl (ji_sq (je_v 8)) (pg_tup (n := 3) rfl (pgs_cons (pg_name (i := 9) sc__law_is_right.nd rfl (by first | exact Or.inl rfl | exact Or.inr rfl)) (pgs_cons (pg_name (i := 10) sc__law_is_right.nd rfl (by first | exact Or.inl rfl | exact Or.inr rfl)) (pgs_cons (pg_name (i := 11) sc__law_is_right.nd rfl (by first | exact Or.inl rfl | exact Or.inr rfl)) pgs_nil)))) (gq_t (gqs_cons gq_n (gqs_cons gq_n (gqs_cons gq_n gqs_nil)))) (js_one (js_expr (je_bm PySem.F.plainAttrs_list PySem.F.slot_list_extend PySem.F.type_list_extend mt_extA pm_extend (je_v 3) (ja_cons (je_op op_adds pr_add (je_lc rfl sc__law_is_right.nd (ji_sq (je_v 10)) (ok := (show BlkOk N__law_is_right (defScope (top 37)) _ _ from ⟨rfl, by decide +kernel, by decide +kernel, by decide +kernel, by decide +kernel⟩)) (own := [("_law_row", 6)]) (by decide) (fun _ _ _ _ _ => (pg_name (i := 6) sc__law_is_right.nd rfl (by first | exact Or.inl rfl | exact Or.inr rfl))) gq_n (fun _ _ _ _ _ => jts_nil) (fun _ _ _ _ _ => (je_ix ix_seq pr_ix (je_v 6) je_int))) (je_ct call_list_of pn_list rfl T.n_list boot_list (ja_cons (je_v 11) ja_nil))) ja_nil)))))))
 (js_cons (js_set (i := 4) sc__law_is_right.nd rfl (Or.inl rfl) (je_meth0 (tb_names_Store_ok c T) (hr.mono (by decide)) (takes_of rfl rfl rfl rfl) (je_v 0)))
 (js_cons (js_if (jt_cmp (op_nes (hu64 hr.units)) pr_ne (je_cb (call_reprD hr.gd (hu66 hr.units)) pn_repr rfl T.n_repr boot_repr (ja_cons (je_v 4) ja_nil)) (je_cb (call_reprD hr.gd (hu66 hr.units)) pn_repr rfl T.n_repr boot_repr (ja_cons (je_cbd (calld_sortZ ⟨rfl, rfl⟩ rfl (hu66 hr.units) (calld_of call_srtA (pn_sortA (hu66 hr.units)))) rfl T.n_sorted boot_sorted (ja_cons (je_ctd (calld_setL ⟨rfl, rfl⟩ rfl) rfl T.n_set boot_set (ja_cons (je_v 3) ja_nil)) ja_nil)) ja_nil)) (nomark _)) (js_one (js_ret je_bl)) js_nil)
 (js_cons (js_expr (je_bm PySem.F.plainAttrs_list PySem.F.slot_list_append PySem.F.type_list_append (mt_append) pm_append (je_v 4) (ja_cons je_str ja_nil)))
 (js_one (js_ret (je_not (je_cb (cr_any rfl) pn_any rfl T.n_any boot_any (ja_cons (je_lc rfl sc__law_is_right.nd (ji_sq (je_lst (ja_cons je_non (ja_cons je_int (ja_cons je_bl (ja_cons (je_tup ja_nil) (ja_cons (je_lst ja_nil) (ja_cons (je_tup (ja_cons je_str ja_nil)) (ja_cons je_str (ja_cons je_str (ja_cons je_str ja_nil))))))))))) (ok := (show BlkOk N__law_is_right (defScope (top 37)) _ _ from ⟨rfl, by decide +kernel, by decide +kernel, by decide +kernel, by decide +kernel⟩)) (own := [("_law_thing", 14)]) (by decide) (fun _ _ _ _ _ => (pg_name (i := 14) sc__law_is_right.nd rfl (by first | exact Or.inl rfl | exact Or.inr rfl))) gq_n (fun _ _ _ _ _ => jts_nil) (fun _ _ _ _ _ => (je_cmpd (opd_in (.inl ⟨rfl, rfl⟩) (tb___contains___Store_ok c T) (hr.mono (by decide)) (takes0) opd_no) (je_v 14) (je_v 0) (by rfl)))) ja_nil)))))))))))))
theorem p__law_is_right (c : SaysZ ck fn K) (T : Txt K mg) : FS Row.prog Row.w K mg base 37 (He.ga K "_law_is_right") m__law_is_right := by
  obtain ⟨fd, F⟩ := c.def_ 23
  exact fs_pos F sc__law_is_right (b__law_is_right c T) (fun _ _ _ _ _ _ us hl => match us, hl with | [_, _], _ => rfl)
abbrev N__law_take : List Str := ["_law_bag_here", "_law_many", "_law_digit"]
theorem sc__law_take : FnScope N__law_take ["_law_bag_here", "_law_many"] (defScope (top 29)) := ⟨rfl, rfl, rfl, by decide +kernel, rfl, by decide +kernel, by decide +kernel⟩
theorem b__law_take (c : SaysZ ck fn K) (T : Txt K mg) : Body Row.prog Row.w K mg base 6 N__law_take "_law_take" (defScope (top 29)) (He.ga K "_law_take") (defBody (top 29)) s__law_take := by
  intro cdv A outer s H E hr
  exact (js_cons (js_if (jt_cmp op_gt pr_gt (je_ix ix_seq pr_ix (je_v 0) je_int) je_int (nomark _)) (js_cons (js_set (i := 2) sc__law_take.nd rfl (Or.inl rfl) (je_op op_mod pr_mod (je_ct call_int1 pn_int rfl T.n_int boot_int (ja_cons (je_ix ix_seq pr_ix (je_v 0) je_int) ja_nil)) (je_v 1)))
 (js_cons (js_sub set_list px_setL (je_op op_fdiv pr_div (je_ix ix_seq pr_ix (je_v 0) je_int) (je_v 1)) (je_v 0) je_int)
 (js_one (js_ret (je_v 2))))) js_nil)
 (js_cons (js_sub set_list px_setL (je_op op_mod pr_mod (je_ct call_int1 pn_int rfl T.n_int boot_int (ja_cons (je_op op_adds pr_add (je_op op_muls pr_mul2 (je_ix ix_seq pr_ix (je_v 0) je_int) je_int) je_int) ja_nil)) je_int) (je_v 0) je_int)
 (js_one (js_ret (je_op op_mod pr_mod (je_op op_fdiv pr_div (je_op op_mod pr_mod (je_ct call_int1 pn_int rfl T.n_int boot_int (ja_cons (je_op op_muls pr_mul2 (je_op op_fdiv pr_div (je_ix ix_seq pr_ix (je_v 0) je_int) je_int) je_int) ja_nil)) je_int) je_int) (je_v 1))))))
theorem p__law_take (c : SaysZ ck fn K) (T : Txt K mg) : FS Row.prog Row.w K mg base 7 (He.ga K "_law_take") m__law_take := by
  obtain ⟨fd, F⟩ := c.def_ 24
  exact fs_pos F sc__law_take (b__law_take c T) (fun _ _ _ _ _ _ us hl => match us, hl with | [_, _], _ => rfl)
abbrev N__law_of : List Str := ["_law_bag_here", "_law_some"]
theorem sc__law_of : FnScope N__law_of ["_law_bag_here", "_law_some"] (defScope (top 30)) := ⟨rfl, rfl, rfl, by decide +kernel, rfl, by decide +kernel, by decide +kernel⟩
theorem b__law_of (c : SaysZ ck fn K) (T : Txt K mg) : Body Row.prog Row.w K mg base 12 N__law_of "_law_of" (defScope (top 30)) (He.ga K "_law_of") (defBody (top 30)) s__law_of := by
  intro cdv A outer s H E hr
  exact (js_one (js_ret (je_ix ix_seq pr_ix (je_v 1) (je_call (p__law_take c T) (hr.mono (by decide)) (takes_of rfl rfl rfl rfl) rfl T.g__law_take T.k__law_take (ja_cons (je_v 0) (ja_cons (je_cb call_lens pn_len rfl T.n_len boot_len (ja_cons (je_v 1) ja_nil)) ja_nil))))))
theorem p__law_of (c : SaysZ ck fn K) (T : Txt K mg) : FS Row.prog Row.w K mg base 13 (He.ga K "_law_of") m__law_of := by
  obtain ⟨fd, F⟩ := c.def_ 25
  exact fs_pos F sc__law_of (b__law_of c T) (fun _ _ _ _ _ _ us hl => match us, hl with | [_, _], _ => rfl)
abbrev N__law_names : List Str := ["_law_bag_here", "_law_many", "_law_turn", "_law_left", "_law_found", "_law_stem", "_law_is_ahead", "_law_sign"]
theorem sc__law_names : FnScope N__law_names ["_law_bag_here", "_law_many"] (defScope (top 32)) := ⟨rfl, rfl, rfl, by decide +kernel, rfl, by decide +kernel, by decide +kernel⟩
theorem b__law_names (c : SaysZ ck fn K) (T : Txt K mg) : Body Row.prog Row.w K mg base 18 N__law_names "_law_names" (defScope (top 32)) (He.ga K "_law_names") (defBody (top 32)) s__law_names := by
  intro cdv A outer s H E hr
  exact (js_cons (js_par (i := 3) (j := 4) rfl sc__law_names.nd rfl rfl (by decide) rfl rfl (ja_cons (je_ctd (calld_listZ rfl (calld_of call_list_of pn_list)) rfl T.n_list boot_list (ja_cons je_str ja_nil)) (ja_cons (je_lst ja_nil) ja_nil)) (by rfl))
 (js_cons (js_par (i := 5) (j := 6) rfl sc__law_names.nd rfl rfl (by decide) rfl rfl (ja_cons je_str (ja_cons (je_cmp (op_eqs (hu64 hr.units)) pr_eq (je_call (p__law_take c T) (hr.mono (by decide)) (takes_of rfl rfl rfl rfl) rfl T.g__law_take T.k__law_take (ja_cons (je_v 0) (ja_cons je_int ja_nil))) je_int (nomark _)) ja_nil)) (by rfl))
 (js_cons (js_for (passes_of rfl) rfl (ji_range1 rfl T.n_range (ja_cons (je_call (p__law_take c T) (hr.mono (by decide)) (takes_of rfl rfl rfl rfl) rfl T.g__law_take T.k__law_take (ja_cons (je_v 0) (ja_cons je_int ja_nil))) ja_nil)) (pg_name (i := 2) sc__law_names.nd rfl (by first | exact Or.inl rfl | exact Or.inr rfl)) gq_n (js_one (js_set (i := 5) sc__law_names.nd rfl (Or.inl rfl) (je_op op_adds pr_add (je_v 5) (je_call (p__law_of c T) (hr.mono (by decide)) (takes_of rfl rfl rfl rfl) rfl T.g__law_of T.k__law_of (ja_cons (je_v 0) (ja_cons (je_lst (ja_cons je_str (ja_cons je_str (ja_cons je_str (ja_cons je_str ja_nil))))) ja_nil)))))))
 (js_cons (js_for (passes_of rfl) rfl (ji_range1 rfl T.n_range (ja_cons (je_v 1) ja_nil)) (pg_name (i := 2) sc__law_names.nd rfl (by first | exact Or.inl rfl | exact Or.inr rfl)) gq_n (js_cons (js_set (i := 7) sc__law_names.nd rfl (Or.inl rfl) (je_bm PySem.F.plainAttrs_list PySem.F.slot_list_pop PySem.F.type_list_pop (mt_popAt) pm_popAt (je_v 3) (ja_cons (je_call (p__law_take c T) (hr.mono (by decide)) (takes_of rfl rfl rfl rfl) rfl T.g__law_take T.k__law_take (ja_cons (je_v 0) (ja_cons (je_cb call_lens pn_len rfl T.n_len boot_len (ja_cons (je_v 3) ja_nil)) ja_nil))) ja_nil)))
 (js_one (js_expr (je_bm PySem.F.plainAttrs_list PySem.F.slot_list_append PySem.F.type_list_append (mt_append) pm_append (je_v 4) (ja_cons (je_if (jt_tru (je_v 6)) (je_op op_adds pr_add (je_v 7) (je_v 5)) (je_op op_adds pr_add (je_v 5) (je_v 7))) ja_nil))))))
 (js_one (js_ret (je_v 4)))))))
theorem p__law_names (c : SaysZ ck fn K) (T : Txt K mg) : FS Row.prog Row.w K mg base 19 (He.ga K "_law_names") m__law_names := by
  obtain ⟨fd, F⟩ := c.def_ 26
  exact fs_pos F sc__law_names (b__law_names c T) (fun _ _ _ _ _ _ us hl => match us, hl with | [_, _], _ => rfl)
abbrev N__law_member : List Str := ["_law_bag_here", "_law_names_here", "_law_bodies", "_law_most", "_law_turn", "_law_left", "_law_gives", "_law_needs", "_law_name"]
theorem sc__law_member : FnScope N__law_member ["_law_bag_here", "_law_names_here", "_law_bodies", "_law_most"] (defScope (top 33)) := ⟨rfl, rfl, rfl, by decide +kernel, rfl, by decide +kernel, by decide +kernel⟩
theorem b__law_member (c : SaysZ ck fn K) (T : Txt K mg) : Body Row.prog Row.w K mg base 18 N__law_member "_law_member" (defScope (top 33)) (He.ga K "_law_member") (defBody (top 33)) s__law_member := by
  intro cdv A outer s H E hr
  exact (js_cons (js_par3 (i := 5) (j := 6) (l := 7) rfl sc__law_member.nd rfl rfl rfl (by decide) (by decide) (by decide) rfl rfl rfl (ja_cons (je_ct call_list_of pn_list rfl T.n_list boot_list (ja_cons (je_v 1) ja_nil)) (ja_cons (je_lst ja_nil) (ja_cons (je_lst ja_nil) ja_nil))) (by rfl))
 (js_cons (js_for (passes_of rfl) rfl (ji_range1 rfl T.n_range (ja_cons (je_call (p__law_take c T) (hr.mono (by decide)) (takes_of rfl rfl rfl rfl) rfl T.g__law_take T.k__law_take (ja_cons (je_v 0) (ja_cons (je_op op_adds pr_add (je_cb (call_min2 rfl) pn_min2 rfl T.n_min boot_min (ja_cons (je_v 3) (ja_cons (je_cb call_lens pn_len rfl T.n_len boot_len (ja_cons (je_v 5) ja_nil)) ja_nil))) je_int) ja_nil))) ja_nil)) (pg_name (i := 4) sc__law_member.nd rfl (by first | exact Or.inl rfl | exact Or.inr rfl)) gq_n (js_cons (js_set (i := 8) sc__law_member.nd rfl (Or.inl rfl) (je_bm PySem.F.plainAttrs_list PySem.F.slot_list_pop PySem.F.type_list_pop (mt_popAt) pm_popAt (je_v 5) (ja_cons (je_call (p__law_take c T) (hr.mono (by decide)) (takes_of rfl rfl rfl rfl) rfl T.g__law_take T.k__law_take (ja_cons (je_v 0) (ja_cons (je_cb call_lens pn_len rfl T.n_len boot_len (ja_cons (je_v 5) ja_nil)) ja_nil))) ja_nil)))
 (js_cons (js_expr (je_bm PySem.F.plainAttrs_list PySem.F.slot_list_append PySem.F.type_list_append (mt_append) pm_append (je_v 2) (ja_cons (je_op op_adds pr_add (je_op op_adds pr_add (je_ix ix_seq pr_ix (je_v 2) (je_un un_neg pr_neg je_int)) je_int) (je_call (p__law_take c T) (hr.mono (by decide)) (takes_of rfl rfl rfl rfl) rfl T.g__law_take T.k__law_take (ja_cons (je_v 0) (ja_cons je_int ja_nil)))) ja_nil)))
 (js_one (js_expr (je_bm PySem.F.plainAttrs_list PySem.F.slot_list_append PySem.F.type_list_append (mt_append) pm_append (je_v 6) (ja_cons (je_tup (ja_cons (je_v 8) (ja_cons (je_call (p__law_of c T) (hr.mono (by decide)) (takes_of rfl rfl rfl rfl) rfl T.g__law_of T.k__law_of (ja_cons (je_v 0) (ja_cons (je_lst (ja_cons je_str (ja_cons je_str (ja_cons je_str (ja_cons je_str ja_nil))))) ja_nil))) (ja_cons (je_ix ix_seq pr_ix (je_v 2) (je_un un_neg pr_neg je_int)) ja_nil)))) ja_nil)))))))
 (js_cons (js_for (passes_of rfl) rfl (ji_range1 rfl T.n_range (ja_cons (je_call (p__law_take c T) (hr.mono (by decide)) (takes_of rfl rfl rfl rfl) rfl T.g__law_take T.k__law_take (ja_cons (je_v 0) (ja_cons (je_op op_adds pr_add (je_cb (call_min2 rfl) pn_min2 rfl T.n_min boot_min (ja_cons je_int (ja_cons (je_cb call_lens pn_len rfl T.n_len boot_len (ja_cons (je_v 5) ja_nil)) ja_nil))) je_int) ja_nil))) ja_nil)) (pg_name (i := 4) sc__law_member.nd rfl (by first | exact Or.inl rfl | exact Or.inr rfl)) gq_n (js_one (js_expr (je_bm PySem.F.plainAttrs_list PySem.F.slot_list_append PySem.F.type_list_append (mt_append) pm_append (je_v 7) (ja_cons (je_bm PySem.F.plainAttrs_list PySem.F.slot_list_pop PySem.F.type_list_pop (mt_popAt) pm_popAt (je_v 5) (ja_cons (je_call (p__law_take c T) (hr.mono (by decide)) (takes_of rfl rfl rfl rfl) rfl T.g__law_take T.k__law_take (ja_cons (je_v 0) (ja_cons (je_cb call_lens pn_len rfl T.n_len boot_len (ja_cons (je_v 5) ja_nil)) ja_nil))) ja_nil)) ja_nil)))))
 (js_one (js_ret (je_tup (ja_cons (je_ct call_tuple_of pn_tuple rfl T.n_tuple boot_tuple (ja_cons (je_v 6) ja_nil)) (ja_cons (je_ct call_tuple_of pn_tuple rfl T.n_tuple boot_tuple (ja_cons (je_v 7) ja_nil)) ja_nil))))))))
theorem p__law_member (c : SaysZ ck fn K) (T : Txt K mg) : FS Row.prog Row.w K mg base 19 (He.ga K "_law_member") m__law_member := by
  obtain ⟨fd, F⟩ := c.def_ 27
  exact fs_pos F sc__law_member (b__law_member c T) (fun _ _ _ _ _ _ us hl => match us, hl with | [_, _, _, _], _ => rfl)
abbrev N__law_other : List Str := ["_law_bag_here", "_law_names_here", "_law_plain_here", "_law_bodies", "_law_members", "_law_member_here", "_law_name", "_law_gives", "_law_needs", "_law_row"]
theorem sc__law_other : FnScope N__law_other ["_law_bag_here", "_law_names_here", "_law_plain_here"] (defScope (top 39)) := ⟨rfl, rfl, rfl, by decide +kernel, rfl, by decide +kernel, by decide +kernel⟩
theorem b__law_other (c : SaysZ ck fn K) (T : Txt K mg) : Body Row.prog Row.w K mg base 24 N__law_other "_law_other" (defScope (top 39)) (He.ga K "_law_other") (defBody (top 39)) s__law_other := by
  intro cdv A outer s H E hr
  exact (js_cons (js_set (i := 3) sc__law_other.nd rfl (Or.inl rfl) (je_lst (ja_cons (je_op op_adds pr_add je_int (je_call (p__law_take c T) (hr.mono (by decide)) (takes_of rfl rfl rfl rfl) rfl T.g__law_take T.k__law_take (ja_cons (je_v 0) (ja_cons je_int ja_nil)))) ja_nil)))
 (js_cons (js_set (i := 4) sc__law_other.nd rfl (Or.inl rfl) (je_lst ja_nil))
 (js_cons (js_for (passes_of rfl) rfl (ji_sq (je_call (p__law_names c T) (hr.mono (by decide)) (takes_of rfl rfl rfl rfl) rfl T.g__law_names T.k__law_names (ja_cons (je_v 0) (ja_cons (je_call (p__law_take c T) (hr.mono (by decide)) (takes_of rfl rfl rfl rfl) rfl T.g__law_take T.k__law_take (ja_cons (je_v 0) (ja_cons je_int ja_nil))) ja_nil)))) (pg_name (i := 5) sc__law_other.nd rfl (by first | exact Or.inl rfl | exact Or.inr rfl)) gq_n (js_cons (js_asg (je_call (p__law_member c T) (hr.mono (by decide)) (takes_of rfl rfl rfl rfl) rfl T.g__law_member T.k__law_member (ja_cons (je_v 0) (ja_cons (je_v 1) (ja_cons (je_v 3) (ja_cons je_int ja_nil))))) (pg_tup (n := 2) rfl (pgs_cons (pg_name (i := 7) sc__law_other.nd rfl (by first | exact Or.inl rfl | exact Or.inr rfl)) (pgs_cons (pg_name (i := 8) sc__law_other.nd rfl (by first | exact Or.inl rfl | exact Or.inr rfl)) pgs_nil))) (gq_t (gqs_cons gq_n (gqs_cons gq_n gqs_nil))))
 (js_one (js_expr (je_bm PySem.F.plainAttrs_list PySem.F.slot_list_append PySem.F.type_list_append (mt_append) pm_append (je_v 4) (ja_cons (je_tup (ja_cons (je_v 5) (ja_cons (je_v 7) (ja_cons (je_v 8) ja_nil)))) ja_nil))))))
 (js_cons (js_set (i := 6) sc__law_other.nd rfl (Or.inl rfl) (je_call (p__law_of c T) (hr.mono (by decide)) (takes_of rfl rfl rfl rfl) rfl T.g__law_of T.k__law_of (ja_cons (je_v 0) (ja_cons (je_op op_adds pr_add (je_lc rfl sc__law_other.nd (ji_sq (je_v 2)) (ok := (show BlkOk N__law_other (defScope (top 39)) _ _ from ⟨rfl, by decide +kernel, by decide +kernel, by decide +kernel, by decide +kernel⟩)) (own := [("_law_row", 9)]) (by decide) (fun _ _ _ _ _ => (pg_name (i := 9) sc__law_other.nd rfl (by first | exact Or.inl rfl | exact Or.inr rfl))) gq_n (fun _ _ _ _ _ => jts_nil) (fun _ _ _ _ _ => (je_ix ix_seq pr_ix (je_v 9) je_int))) (je_lst (ja_cons (je_ix ix_seq pr_ix (je_call (p__law_names c T) (hr.mono (by decide)) (takes_of rfl rfl rfl rfl) rfl T.g__law_names T.k__law_names (ja_cons (je_v 0) (ja_cons je_int ja_nil))) je_int) ja_nil))) ja_nil))))
 (js_one (js_ret (je_tup (ja_cons (je_v 6) (ja_cons (je_ct call_tuple_of pn_tuple rfl T.n_tuple boot_tuple (ja_cons (je_v 4) ja_nil)) ja_nil)))))))))
theorem p__law_other (c : SaysZ ck fn K) (T : Txt K mg) : FS Row.prog Row.w K mg base 25 (He.ga K "_law_other") m__law_other := by
  obtain ⟨fd, F⟩ := c.def_ 28
  exact fs_pos F sc__law_other (b__law_other c T) (fun _ _ _ _ _ _ us hl => match us, hl with | [_, _, _], _ => rfl)
abbrev N__law_plain : List Str := ["_law_bag_here", "_law_names_here", "_law_many", "_law_most", "_law_archive_here", "_law_found", "_law_bodies", "_law_members", "_law_member_here", "_law_gives", "_law_needs"]
theorem sc__law_plain : FnScope N__law_plain ["_law_bag_here", "_law_names_here", "_law_many", "_law_most"] (defScope (top 34)) := ⟨rfl, rfl, rfl, by decide +kernel, rfl, by decide +kernel, by decide +kernel⟩
theorem b__law_plain (c : SaysZ ck fn K) (T : Txt K mg) : Body Row.prog Row.w K mg base 24 N__law_plain "_law_plain" (defScope (top 34)) (He.ga K "_law_plain") (defBody (top 34)) s__law_plain := by
  intro cdv A outer s H E hr
  exact (js_cons (js_par (i := 5) (j := 6) rfl sc__law_plain.nd rfl rfl (by decide) rfl rfl (ja_cons (je_lst ja_nil) (ja_cons (je_lst (ja_cons (je_call (p__law_take c T) (hr.mono (by decide)) (takes_of rfl rfl rfl rfl) rfl T.g__law_take T.k__law_take (ja_cons (je_v 0) (ja_cons je_int ja_nil))) ja_nil)) ja_nil)) (by rfl))
 (js_cons (js_for (passes_of rfl) rfl (ji_sq (je_call (p__law_names c T) (hr.mono (by decide)) (takes_of rfl rfl rfl rfl) rfl T.g__law_names T.k__law_names (ja_cons (je_v 0) (ja_cons (je_v 2) ja_nil)))) (pg_name (i := 4) sc__law_plain.nd rfl (by first | exact Or.inl rfl | exact Or.inr rfl)) gq_n (js_cons (js_set (i := 7) sc__law_plain.nd rfl (Or.inl rfl) (je_lst ja_nil))
 (js_cons (js_for (passes_of rfl) rfl (ji_sq (je_call (p__law_names c T) (hr.mono (by decide)) (takes_of rfl rfl rfl rfl) rfl T.g__law_names T.k__law_names (ja_cons (je_v 0) (ja_cons (je_call (p__law_take c T) (hr.mono (by decide)) (takes_of rfl rfl rfl rfl) rfl T.g__law_take T.k__law_take (ja_cons (je_v 0) (ja_cons (je_op op_adds pr_add (je_v 3) je_int) ja_nil))) ja_nil)))) (pg_name (i := 8) sc__law_plain.nd rfl (by first | exact Or.inl rfl | exact Or.inr rfl)) gq_n (js_cons (js_asg (je_call (p__law_member c T) (hr.mono (by decide)) (takes_of rfl rfl rfl rfl) rfl T.g__law_member T.k__law_member (ja_cons (je_v 0) (ja_cons (je_v 1) (ja_cons (je_v 6) (ja_cons je_int ja_nil))))) (pg_tup (n := 2) rfl (pgs_cons (pg_name (i := 9) sc__law_plain.nd rfl (by first | exact Or.inl rfl | exact Or.inr rfl)) (pgs_cons (pg_name (i := 10) sc__law_plain.nd rfl (by first | exact Or.inl rfl | exact Or.inr rfl)) pgs_nil))) (gq_t (gqs_cons gq_n (gqs_cons gq_n gqs_nil))))
 (js_one (js_expr (je_bm PySem.F.plainAttrs_list PySem.F.slot_list_append PySem.F.type_list_append (mt_append) pm_append (je_v 7) (ja_cons (je_tup (ja_cons (je_v 8) (ja_cons (je_v 9) (ja_cons (je_v 10) ja_nil)))) ja_nil))))))
 (js_one (js_expr (je_bm PySem.F.plainAttrs_list PySem.F.slot_list_append PySem.F.type_list_append (mt_append) pm_append (je_v 5) (ja_cons (je_tup (ja_cons (je_v 4) (ja_cons (je_ct call_tuple_of pn_tuple rfl T.n_tuple boot_tuple (ja_cons (je_v 7) ja_nil)) ja_nil))) ja_nil)))))))
 (js_one (js_ret (je_v 5)))))
theorem p__law_plain (c : SaysZ ck fn K) (T : Txt K mg) : FS Row.prog Row.w K mg base 25 (He.ga K "_law_plain") m__law_plain := by
  obtain ⟨fd, F⟩ := c.def_ 29
  exact fs_pos F sc__law_plain (b__law_plain c T) (fun _ _ _ _ _ _ us hl => match us, hl with | [_, _, _, _], _ => rfl)
theorem tb___or___Store_ok (c : SaysZ ck fn K) (T : Txt K mg) : MTab Row.prog Row.w K mg base 19 tb___or___Store "__or__" := (mtab_cons (T.cl.at_ "Store" (by decide)) (T.cl.cls (by decide)) T.m_Store___or__ (p_Store___or__ c T) (by decide) mtab_nil)
theorem tb___or___Store_l (T : Txt K mg) : LTab K mg tb___or___Store := (ltab_cons (T.cl.at_ "Store" (by decide)) T.x_5 ltab_nil)
abbrev N__law_store : List Str := ["_law_plain_here", "_law_made", "_law_name", "_law_members"]
theorem sc__law_store : FnScope N__law_store ["_law_plain_here"] (defScope (top 36)) := ⟨rfl, rfl, rfl, by decide +kernel, rfl, by decide +kernel, by decide +kernel⟩
theorem b__law_store (c : SaysZ ck fn K) (T : Txt K mg) : Body Row.prog Row.w K mg base 36 N__law_store "_law_store" (defScope (top 36)) (He.ga K "_law_store") (defBody (top 36)) s__law_store := by
  intro cdv A outer s H E hr
  exact (js_cons (js_set (i := 1) sc__law_store.nd rfl (Or.inl rfl) (je_mk0 (mk_Store c T) (hr.mono (by decide)) (takes_of rfl rfl rfl rfl) rfl))
 (js_cons (js_for (passes_of rfl) rfl (ji_sq (je_v 0)) (pg_tup (n := 2) rfl (pgs_cons (pg_name (i := 2) sc__law_store.nd rfl (by first | exact Or.inl rfl | exact Or.inr rfl)) (pgs_cons (pg_name (i := 3) sc__law_store.nd rfl (by first | exact Or.inl rfl | exact Or.inr rfl)) pgs_nil))) (gq_t (gqs_cons gq_n (gqs_cons gq_n gqs_nil))) (js_one (js_set (i := 1) sc__law_store.nd rfl (Or.inl rfl) (je_opd (opd_binop (tb___or___Store_ok c T) (tb___or___Store_l T) (rt_or_Archive T) (fun h => nomatch h) (hr.mono (by decide)) (takes_of rfl rfl rfl rfl) ob_or ob_ror opd_no) (je_v 1) (je_call (p__law_archive c T) (hr.mono (by decide)) (takes_of rfl rfl rfl rfl) rfl T.g__law_archive T.k__law_archive (ja_cons (je_v 2) (ja_cons (je_v 3) ja_nil)))))))
 (js_one (js_ret (je_v 1)))))
theorem p__law_store (c : SaysZ ck fn K) (T : Txt K mg) : FS Row.prog Row.w K mg base 37 (He.ga K "_law_store") m__law_store := by
  obtain ⟨fd, F⟩ := c.def_ 30
  exact fs_pos F sc__law_store (b__law_store c T) (fun _ _ _ _ _ _ us hl => match us, hl with | [_], _ => rfl)
abbrev N__law_told : List Str := ["_law_plain_here", "_law_found", "_law_archive_here", "_law_members", "_law_one"]
theorem sc__law_told : FnScope N__law_told ["_law_plain_here"] (defScope (top 38)) := ⟨rfl, rfl, rfl, by decide +kernel, rfl, by decide +kernel, by decide +kernel⟩
theorem b__law_told (c : SaysZ ck fn K) (T : Txt K mg) : Body Row.prog Row.w K mg base 6 N__law_told "_law_told" (defScope (top 38)) (He.ga K "_law_told") (defBody (top 38)) s__law_told := by
  intro cdv A outer s H E hr
  exact (js_cons (js_set (i := 1) sc__law_told.nd rfl (Or.inl rfl) (je_lst ja_nil))
 (js_cons (js_for (passes_of rfl) rfl (ji_sq (je_v 0)) (pg_tup (n := 2) rfl (pgs_cons (pg_name (i := 2) sc__law_told.nd rfl (by first | exact Or.inl rfl | exact Or.inr rfl)) (pgs_cons (pg_name (i := 3) sc__law_told.nd rfl (by first | exact Or.inl rfl | exact Or.inr rfl)) pgs_nil))) (gq_t (gqs_cons gq_n (gqs_cons gq_n gqs_nil))) (js_one (js_expr (je_bm PySem.F.plainAttrs_list PySem.F.slot_list_append PySem.F.type_list_append (mt_append) pm_append (je_v 1) (ja_cons (je_tup (ja_cons (je_v 2) (ja_cons (je_lc rfl sc__law_told.nd (ji_sq (je_v 3)) (ok := (show BlkOk N__law_told (defScope (top 38)) _ _ from ⟨rfl, by decide +kernel, by decide +kernel, by decide +kernel, by decide +kernel⟩)) (own := [("_law_one", 4)]) (by decide) (fun _ _ _ _ _ => (pg_name (i := 4) sc__law_told.nd rfl (by first | exact Or.inl rfl | exact Or.inr rfl))) gq_n (fun _ _ _ _ _ => jts_nil) (fun _ _ _ _ _ => (je_tup (ja_cons (je_ix ix_seq pr_ix (je_v 4) je_int) (ja_cons (je_cb call_srtA (pn_sortA (hu66 hr.units)) rfl T.n_sorted boot_sorted (ja_cons (je_ix ix_seq pr_ix (je_v 4) je_int) ja_nil)) (ja_cons (je_cb call_srtA (pn_sortA (hu66 hr.units)) rfl T.n_sorted boot_sorted (ja_cons (je_ix ix_seq pr_ix (je_v 4) je_int) ja_nil)) ja_nil)))))) ja_nil))) ja_nil)))))
 (js_one (js_ret (je_v 1)))))
theorem p__law_told (c : SaysZ ck fn K) (T : Txt K mg) : FS Row.prog Row.w K mg base 7 (He.ga K "_law_told") m__law_told := by
  obtain ⟨fd, F⟩ := c.def_ 31
  exact fs_pos F sc__law_told (b__law_told c T) (fun _ _ _ _ _ _ us hl => match us, hl with | [_], _ => rfl)
theorem tb___eq___Store_ok (c : SaysZ ck fn K) (T : Txt K mg) : MTab Row.prog Row.w K mg base 25 tb___eq___Store "__eq__" := (mtab_cons (T.cl.at_ "Store" (by decide)) (T.cl.cls (by decide)) T.m_Store___eq__ (p_Store___eq__ c T) (by decide) mtab_nil)
theorem tb___eq___Store_e (T : Txt K mg) : ETab K mg cls tb___eq___Store := (etab_cons (by decide) (of_decide_eq_true T.x_7) etab_nil)
theorem tb___eq___Store_s (T : Txt K mg) : STab K tb___eq___Store := (stab_cons T.x_8 stab_nil)
abbrev N_law : List Str := ["_law_script", "_law_at", "_law_bag_here", "_law_names_here", "_law_plain_here", "_law_store_here", "_law_other_here", "_law_later", "_law_due", "_law_row", "_law_again", "_law_one"]
theorem sc_law : FnScope N_law ["_law_script"] (defScope (top 40)) := ⟨rfl, rfl, rfl, by decide +kernel, rfl, by decide +kernel, by decide +kernel⟩
theorem b_law (c : SaysZ ck fn K) (T : Txt K mg) : Body Row.prog Row.w K mg base 42 N_law "law" (defScope (top 40)) (He.ga K "law") (defBody (top 40)) s_law := by
  intro cdv A outer s H E hr
  exact (js_cons (js_for (passes_of rfl) rfl (ji_range1 rfl T.n_range (ja_cons (je_cb (call_max2 rfl) pn_max2 rfl T.n_max boot_max (ja_cons je_int (ja_cons (je_cb (call_min2 rfl) pn_min2 rfl T.n_min boot_min (ja_cons je_int (ja_cons (je_cb call_lens pn_len rfl T.n_len boot_len (ja_cons (je_v 0) ja_nil)) ja_nil))) ja_nil))) ja_nil)) (pg_name (i := 1) sc_law.nd rfl (by first | exact Or.inl rfl | exact Or.inr rfl)) gq_n (js_cons (js_set (i := 2) sc_law.nd rfl (Or.inl rfl) (je_call (p__law_bag c T) (hr.mono (by decide)) (takes_of rfl rfl rfl rfl) rfl T.g__law_bag T.k__law_bag (ja_cons (je_v 0) (ja_cons (je_v 1) ja_nil))))
 (js_cons (js_set (i := 3) sc_law.nd rfl (Or.inl rfl) (je_call (p__law_names c T) (hr.mono (by decide)) (takes_of rfl rfl rfl rfl) rfl T.g__law_names T.k__law_names (ja_cons (je_v 2) (ja_cons je_int ja_nil))))
 (js_cons (js_set (i := 4) sc_law.nd rfl (Or.inl rfl) (je_call (p__law_plain c T) (hr.mono (by decide)) (takes_of rfl rfl rfl rfl) rfl T.g__law_plain T.k__law_plain (ja_cons (je_v 2) (ja_cons (je_v 3) (ja_cons (je_call (p__law_take c T) (hr.mono (by decide)) (takes_of rfl rfl rfl rfl) rfl T.g__law_take T.k__law_take (ja_cons (je_v 2) (ja_cons je_int ja_nil))) (ja_cons je_int ja_nil))))))
 (js_cons (js_set (i := 5) sc_law.nd rfl (Or.inl rfl) (je_call (p__law_store c T) (hr.mono (by decide)) (takes_of rfl rfl rfl rfl) rfl T.g__law_store T.k__law_store (ja_cons (je_v 4) ja_nil)))
 (js_cons (js_if (JW_t (jw_or (jt_not (jt_tru (je_call (p__law_is_right c T) (hr.mono (by decide)) (takes_of rfl rfl rfl rfl) rfl T.g__law_is_right T.k__law_is_right (ja_cons (je_v 5) (ja_cons (je_v 4) ja_nil))))) (jw_or1 (jt_not (jt_cmpd (opd_eqO T.cl (tb___eq___Store_ok c T) (tb___eq___Store_e T) (hr.mono (by decide)) (takes_of rfl rfl rfl rfl) false (OpD.of (op_eqs (hu64 hr.units)) pr_eq)) (je_v 5) (je_call (p__law_store c T) (hr.mono (by decide)) (takes_of rfl rfl rfl rfl) rfl T.g__law_store T.k__law_store (ja_cons (je_v 4) ja_nil)) (nomark _)))))) (js_one (js_ret je_bl)) js_nil)
 (js_cons (js_set (i := 6) sc_law.nd rfl (Or.inr rfl) (je_call (p__law_other c T) (hr.mono (by decide)) (takes_of rfl rfl rfl rfl) rfl T.g__law_other T.k__law_other (ja_cons (je_v 2) (ja_cons (je_v 3) (ja_cons (je_v 4) ja_nil)))))
 (js_cons (js_set (i := 7) sc_law.nd rfl (Or.inl rfl) (je_opd (opd_binop (tb___or___Store_ok c T) (tb___or___Store_l T) (rt_or_Archive T) (fun h => nomatch h) (hr.mono (by decide)) (takes_of rfl rfl rfl rfl) ob_or ob_ror opd_no) (je_v 5) (je_call (p__law_archive c T) (hr.mono (by decide)) (takes_of rfl rfl rfl rfl) rfl T.g__law_archive T.k__law_archive (ja_cons (je_ix ix_seq pr_ix (je_v 6) je_int) (ja_cons (je_ix ix_seq pr_ix (je_v 6) je_int) ja_nil)))))
 (js_cons (js_setLc (i := 8) rfl sc_law.nd rfl rfl (by rfl) (ji_sq (je_v 4)) (ok := (show BlkOk N_law (defScope (top 40)) _ _ from ⟨rfl, by decide +kernel, by decide +kernel, by decide +kernel, by decide +kernel⟩)) (own := [("_law_row", 9)]) (by decide) (fun _ _ _ _ _ => (pg_name (i := 9) sc_law.nd rfl (by first | exact Or.inl rfl | exact Or.inr rfl))) gq_n (fun _ _ _ _ _ => jts_nil) (fun _ _ _ _ _ => (je_if (jt_cmp (op_eqs (hu64 hr.units)) pr_eq (je_ix ix_seq pr_ix (je_v 9) je_int) (je_ix ix_seq pr_ix (je_v 6) je_int) (nomark _)) (je_v 6) (je_v 9))))
 (js_cons (js_set (i := 8) sc_law.nd rfl (Or.inl rfl) (je_op op_adds pr_add (je_v 8) (je_op op_muls pr_mul2 (je_lst (ja_cons (je_v 6) ja_nil)) (je_ct call_int1 pn_int rfl T.n_int boot_int (ja_cons (je_cmp (op_notIns (hu65 hr.units)) pr_in (je_v 6) (je_v 8) (by rfl)) ja_nil)))))
 (js_cons (js_if (JW_t (jw_or (jt_not (jt_tru (je_call (p__law_is_right c T) (hr.mono (by decide)) (takes_of rfl rfl rfl rfl) rfl T.g__law_is_right T.k__law_is_right (ja_cons (je_v 7) (ja_cons (je_v 8) ja_nil))))) (jw_or1 (jt_not (jt_tru (je_call (p__law_is_right c T) (hr.mono (by decide)) (takes_of rfl rfl rfl rfl) rfl T.g__law_is_right T.k__law_is_right (ja_cons (je_v 5) (ja_cons (je_v 4) ja_nil)))))))) (js_one (js_ret je_bl)) js_nil)
 (js_cons (js_if (jt_cmp (op_nes (hu64 hr.units)) pr_ne (je_cmpd (opd_eqO T.cl (tb___eq___Store_ok c T) (tb___eq___Store_e T) (hr.mono (by decide)) (takes_of rfl rfl rfl rfl) false (OpD.of (op_eqs (hu64 hr.units)) pr_eq)) (je_v 7) (je_v 5) (nomark _)) (je_cmp (op_eqs (hu64 hr.units)) pr_eq (je_call (p__law_told c T) (hr.mono (by decide)) (takes_of rfl rfl rfl rfl) rfl T.g__law_told T.k__law_told (ja_cons (je_v 8) ja_nil)) (je_call (p__law_told c T) (hr.mono (by decide)) (takes_of rfl rfl rfl rfl) rfl T.g__law_told T.k__law_told (ja_cons (je_v 4) ja_nil)) (nomark _)) (nomark _)) (js_one (js_ret je_bl)) js_nil)
 (js_cons (js_if (jt_cmp (op_nes (hu64 hr.units)) pr_ne (je_cmpd (opd_eqO T.cl (tb___eq___Store_ok c T) (tb___eq___Store_e T) (hr.mono (by decide)) (takes_of rfl rfl rfl rfl) false (OpD.of (op_eqs (hu64 hr.units)) pr_eq)) (je_call (p__law_store c T) (hr.mono (by decide)) (takes_of rfl rfl rfl rfl) rfl T.g__law_store T.k__law_store (ja_cons (je_rev (je_v 4)) ja_nil)) (je_v 5) (nomark _)) (je_cmp (op_eqs (hu64 hr.units)) pr_eq (je_rev (je_v 4)) (je_v 4) (nomark _)) (nomark _)) (js_one (js_ret je_bl)) js_nil)
 (js_cons (js_for (passes_of rfl) rfl (ji_sq (je_v 4)) (pg_name (i := 9) sc_law.nd rfl (by first | exact Or.inl rfl | exact Or.inr rfl)) gq_n (js_cons (js_set (i := 10) sc_law.nd rfl (Or.inl rfl) (je_opd (opd_binop (tb___or___Store_ok c T) (tb___or___Store_l T) (rt_or_Archive T) (fun h => nomatch h) (hr.mono (by decide)) (takes_of rfl rfl rfl rfl) ob_or ob_ror opd_no) (je_v 5) (je_call (p__law_archive c T) (hr.mono (by decide)) (takes_of rfl rfl rfl rfl) rfl T.g__law_archive T.k__law_archive (ja_cons (je_ix ix_seq pr_ix (je_v 9) je_int) (ja_cons (je_ix ix_seq pr_ix (je_v 9) je_int) ja_nil)))))
 (js_one (js_if (JW_t (jw_or (jt_not (jt_cmpd (opd_eqO T.cl (tb___eq___Store_ok c T) (tb___eq___Store_e T) (hr.mono (by decide)) (takes_of rfl rfl rfl rfl) false (OpD.of (op_eqs (hu64 hr.units)) pr_eq)) (je_v 10) (je_v 5) (nomark _))) (jw_or1 (jt_not (jt_tru (je_call (p__law_is_right c T) (hr.mono (by decide)) (takes_of rfl rfl rfl rfl) rfl T.g__law_is_right T.k__law_is_right (ja_cons (je_v 10) (ja_cons (je_v 4) ja_nil)))))))) (js_one (js_ret je_bl)) js_nil))))
 (js_one (js_if (JW_t (jw_or (jt_cmpd (opd_inI (.inl ⟨rfl, rfl⟩) T.cl (tb___eq___Store_ok c T) (tb___eq___Store_e T) (tb___eq___Store_s T) (hr.mono (by decide)) (takes_of rfl rfl rfl rfl) (OpD.of (op_ins (hu65 hr.units)) pr_in)) (je_v 5) (je_lst (ja_cons je_non (ja_cons (je_lst ja_nil) (ja_cons (je_v 4) (ja_cons (je_lc rfl sc_law.nd (ji_own (itb_Store_ok c T) (hr.mono (by decide)) (je_v 5)) (ok := (show BlkOk N_law (defScope (top 40)) _ _ from ⟨rfl, by decide +kernel, by decide +kernel, by decide +kernel, by decide +kernel⟩)) (own := [("_law_one", 11)]) (by decide) (fun _ _ _ _ _ => (pg_name (i := 11) sc_law.nd rfl (by first | exact Or.inl rfl | exact Or.inr rfl))) gq_n (fun _ _ _ _ _ => jts_nil) (fun _ _ _ _ _ => (je_v 11))) ja_nil))))) (by rfl)) (jw_or1 (jt_cmp (op_nes (hu64 hr.units)) pr_ne (je_cmpd (opd_eqO T.cl (tb___eq___Store_ok c T) (tb___eq___Store_e T) (hr.mono (by decide)) (takes_of rfl rfl rfl rfl) false (OpD.of (op_eqs (hu64 hr.units)) pr_eq)) (je_mk0 (mk_Store c T) (hr.mono (by decide)) (takes_of rfl rfl rfl rfl) rfl) (je_v 5) (nomark _)) (je_cmp (op_eqs (hu64 hr.units)) pr_eq (je_v 4) (je_lst ja_nil) (nomark _)) (nomark _))))) (js_one (js_ret je_bl)) js_nil))))))))))))))))
 (js_one (js_ret je_bl)))
theorem p_law (c : SaysZ ck fn K) (T : Txt K mg) : FS Row.prog Row.w K mg base 43 (He.ga K "law") m_law := by
  obtain ⟨fd, F⟩ := c.def_ 32
  exact fs_pos F sc_law (b_law c T) (fun _ _ _ _ _ _ us hl => match us, hl with | [_], _ => rfl)
end
end RowS
set_option maxHeartbeats 0
def names0 : List PySem.Str := ["_wall", "BadName", "BadKind", "BadBody", "Twice", "NoArchive", "NoMember", "TooMany", "KINDS", "LETTERS", "MOST_LETTERS", "MOST_BODY", "MOST_PARTS", "MOST_MEMBERS", "MOST_ARCHIVES", "is_name", "look_name", "is_kind", "look_kind", "look_body", "twice_in", "Member", "Archive", "Store", "names_in", "_law_bag", "_law_take", "_law_of", "_law_few", "_law_names"]
def names1 : List PySem.Str := ["_law_member", "_law_plain", "_law_archive", "_law_store", "_law_is_right", "_law_told", "_law_other"]
def names : List PySem.Str := names0 ++ names1
abbrev R : PySem.W.OpenRow := PySem.W.OpenLaw.row PySem.Challenge.rw_lineoflibraries_k05_stores_made
abbrev hk : PySem.W.Hook := hookZ 6 ck fn
def ob (s : PySem.W.SharedT) : AlZ := obsZG 6 ck fn (HandSHeadRun.getT s)
theorem ob_eq (s : PySem.W.SharedT) : ob s = hk.obs s.abs := obsZG_eq (HandSHeadRun.getT_eq s)
theorem run (w : World) : HandSHeadRun.RunEq R (PySem.W.view R.prog [40]) hk ob 60000 names w := by
  intro os
  kernel_rfl
end Z
open PySem PySem.W PySem.Calls PyProof.Rows
theorem PySem.Challenge.cw_lineoflibraries_k05_stores_made_holds : PySem.Challenge.rw_lineoflibraries_k05_stores_made.Holds := by
  w_on; o_law
  refine HandSHeadRun.head_any (r := OpenLaw.row PySem.Challenge.rw_lineoflibraries_k05_stores_made) (q := view (OpenLaw.row PySem.Challenge.rw_lineoflibraries_k05_stores_made).prog [40]) (H := Z.hk) (ob := Z.ob) (M := 60000) (loose := Z.names) (d := HandSHeadRun.topDef (OpenLaw.row PySem.Challenge.rw_lineoflibraries_k05_stores_made).prog 40) (kwd := []) Z.ob_eq
    (by kernel_rfl) (fun s => by kernel_rfl) Z.run (by kernel_rfl) (by kernel_rfl) (by kernel_rfl) (by rfl) (by first | assumption | decide +kernel) (by decide +kernel) ⟨rfl, rfl, rfl, rfl, rfl, by decide +kernel⟩ ?hw ?hc
  case hw => w_witness2
  case hc =>
    refine Z.walk_law (l := PySem.Challenge.rw_lineoflibraries_k05_stores_made) (n := 63) (k := 43) rfl (by decide) (by kernel_rfl) ⟨rfl, by decide, by decide⟩ ?F
    intro w mg fa h Y G hmg0
    letI : Z.Row := Z.rowOf (PySem.Challenge.rw_lineoflibraries_k05_stores_made).prog w
    obtain ⟨K, KX, c⟩ := Y
    have hmg : mg ("law" : PySem.Str) = some (.ref fa) := by
      have e : (HandSHeadRun.topDef (OpenLaw.row PySem.Challenge.rw_lineoflibraries_k05_stores_made).prog 40).name = ("law" : PySem.Str) := by kernel_rfl
      rw [← e]
      exact hmg0
    have T := Z.txt KX G c.ok_
    have e := hmg.symm.trans (He.glo_ok KX G (Z.chk_fa (Z.ck_ok c.ok_).1 (f := .glo "law") 36))
    cases e
    exact ⟨K, Z.m_law, KX, Z.plain_law, fun base _ _ => @Z.p_law (Z.rowOf _ w) K mg base c T⟩
