import PyProof.Rows.All
import Wide.All
import OpenK.AllK
import Wide.FinOn
import HandS.ForMost
import HandS.Exc
import HandS.WordsExc
import HandS.Defaults
import HandS.More
import HandS.Star
import HandS.HeadHook2
import HandS.ExcOwn
import HandS.TupAny
import HandS.Deep
import HandS.IsInst
import HandS.FStr
import HandS.Small
import HandS.RaiseMore
import KE.SortData
import HandS.Sort
import HandS.Iter
import HandS.Zip
import KE.KStateDown
import HandS.Head0
import HandS.Head1
import HandS.Head2
import HandS.HeadEnd
import HandS.Text
import PyProof.Rows.RegFStrParts
import PySem.Challenge.RW_lineoflibraries_k76_texts_of_faces_and_l
set_option Elab.async false
set_option linter.all false
set_option maxRecDepth 100000
set_option maxHeartbeats 4000000
namespace Z
open PySem PySem.Spec PyProof.Rows L2

/-! ### data, stores, results -/
/-- a value: tuples are values, lists, dicts, instances are places of the store -/
inductive D where
  | non | bl (b : Bool) | int (i : Int) | str (x : Str) | tup (xs : List D) | ref (n : Nat)

/-- what stands at a place -/
inductive SO where
  | lst (xs : List D)
  | frz (xs : List D)
  | dict (t : Bool) (kvs : List (D × D))
  | ins (c : Str) (fs : List (Str × D))
abbrev Sto := List SO
abbrev Ev := List (Option D)

/-- a result: a value, an exception of the class c with its one field f, or stuck -/
inductive Rs (α : Type) where
  | ok (a : α) (s : Sto)
  | ex (c f : Str) (v : D) (s : Sto)
  | no
def Rs.bind {α β : Type} (r : Rs α) (k : α → Sto → Rs β) : Rs β := match r with
  | .ok a s => k a s
  | .ex c f v s => .ex c f v s
  | .no => .no
abbrev EM (α : Type) := Ev → Sto → Rs α
inductive RS where
  | nx (e : Ev) (s : Sto)
  | rt (d : D) (s : Sto)
  | bk (e : Ev) (s : Sto)
  | ct (e : Ev) (s : Sto)
  | ex (c f : Str) (v : D) (e : Ev) (s : Sto)
  | no
abbrev SM := Ev → Sto → RS
/-- an expression's result goes on as a statement -/
def Rs.st {α : Type} (r : Rs α) (e : Ev) (k : α → Sto → RS) : RS := match r with
  | .ok a s => k a s
  | .ex c f v s => .ex c f v e s
  | .no => .no
def RS.seq (r : RS) (k : SM) : RS := match r with
  | .nx e s => k e s
  | r => r

/-! ### what stands for what -/
mutual
def VR (K : PySem.W.Frag) (ρ : Nat → Addr) (n : Nat) (H : Hp) : D → V → Prop
  | .non, v => v = .non
  | .bl b, v => v = .bl b
  | .int i, v => v = .int i
  | .str x, v => v = .str x
  | .tup xs, v => ∃ a vs, v = .ref a ∧ SqT K H a vs ∧ VRs K ρ n H xs vs
  | .ref k, v => k < n ∧ v = .ref (ρ k)
def VRs (K : PySem.W.Frag) (ρ : Nat → Addr) (n : Nat) (H : Hp) : List D → List V → Prop
  | [], vs => vs = []
  | d :: ds, vs => ∃ v r, vs = v :: r ∧ VR K ρ n H d v ∧ VRs K ρ n H ds r
end
/-- the later world bears the earlier one -/
structure Ext (ρ : Nat → Addr) (n : Nat) (H : Hp) (ρ' : Nat → Addr) (n' : Nat) (H' : Hp) : Prop where
  le : n ≤ n'
  ag : ∀ k, k < n → ρ' k = ρ k
  tp : ∀ a vs, Rd H a (.tup vs) → Rd H' a (.tup vs)
theorem Ext.refl {ρ : Nat → Addr} {n : Nat} {H : Hp} : Ext ρ n H ρ n H := ⟨Nat.le_refl _, fun _ _ => rfl, fun _ _ h => h⟩
theorem Ext.trans {ρ ρ1 ρ2 : Nat → Addr} {n n1 n2 : Nat} {H H1 H2 : Hp} (a : Ext ρ n H ρ1 n1 H1) (b : Ext ρ1 n1 H1 ρ2 n2 H2) : Ext ρ n H ρ2 n2 H2 :=
  ⟨Nat.le_trans a.le b.le, fun k h => (b.ag k (Nat.lt_of_lt_of_le h a.le)).trans (a.ag k h), fun p vs h => b.tp p vs (a.tp p vs h)⟩
section
variable {K : PySem.W.Frag} {mg : Str → Option Value} {ρ ρ' : Nat → Addr} {n n' : Nat} {H H' : Hp}
theorem Ext.sqt (e : Ext ρ n H ρ' n' H') {a : Addr} {vs : List V} (h : SqT K H a vs) : SqT K H' a vs := h.elim (fun z => .inl (e.tp a vs z)) .inr
mutual
theorem VR.mono (e : Ext ρ n H ρ' n' H') : ∀ {d : D} {v : V}, VR K ρ n H d v → VR K ρ' n' H' d v
  | .non, _, h => h
  | .bl _, _, h => h
  | .int _, _, h => h
  | .str _, _, h => h
  | .tup xs, _, h => by
    rw [VR] at h ⊢
    obtain ⟨a, vs, e1, q, r⟩ := h
    exact ⟨a, vs, e1, e.sqt q, VRs.mono e r⟩
  | .ref k, _, h => by
    rw [VR] at h ⊢
    exact ⟨Nat.lt_of_lt_of_le h.1 e.le, by rw [e.ag k h.1]; exact h.2⟩
theorem VRs.mono (e : Ext ρ n H ρ' n' H') : ∀ {ds : List D} {vs : List V}, VRs K ρ n H ds vs → VRs K ρ' n' H' ds vs
  | [], _, h => h
  | d :: ds, _, h => by
    rw [VRs] at h ⊢
    obtain ⟨v, r, e1, h1, h2⟩ := h
    exact ⟨v, r, e1, VR.mono e h1, VRs.mono e h2⟩
end
theorem VRs.cons {d : D} {v : V} {ds : List D} {vs : List V} (h : VR K ρ n H d v) (t : VRs K ρ n H ds vs) : VRs K ρ n H (d :: ds) (v :: vs) := by
  rw [VRs]
  exact ⟨v, vs, rfl, h, t⟩
theorem VRs.nil : VRs K ρ n H [] [] := by rw [VRs]
theorem VRs.length : ∀ {ds : List D} {vs : List V}, VRs K ρ n H ds vs → vs.length = ds.length
  | [], _, h => by rw [VRs] at h; rw [h] <;> rfl
  | d :: ds, _, h => by
    rw [VRs] at h
    obtain ⟨v, r, e1, h1, h2⟩ := h
    rw [e1, List.length_cons, List.length_cons, VRs.length h2]
theorem VRs.get : ∀ {ds : List D} {vs : List V} {i : Nat} {d : D}, VRs K ρ n H ds vs → ds[i]? = some d → ∃ v, vs[i]? = some v ∧ VR K ρ n H d v
  | [], _, _, _, _, h => by simp at h
  | d :: ds, _, 0, _, h, q => by
    rw [VRs] at h
    obtain ⟨v, r, e1, h1, h2⟩ := h
    simp at q
    subst q e1
    exact ⟨v, rfl, h1⟩
  | d :: ds, _, i + 1, _, h, q => by
    rw [VRs] at h
    obtain ⟨v, r, e1, h1, h2⟩ := h
    subst e1
    simp at q
    obtain ⟨u, hu, hr⟩ := VRs.get h2 q
    exact ⟨u, by simpa using hu, hr⟩
theorem VRs.get' : ∀ {ds : List D} {vs : List V} {i : Nat} {v : V}, VRs K ρ n H ds vs → vs[i]? = some v → ∃ d, ds[i]? = some d ∧ VR K ρ n H d v := fun {ds vs i v} h q => by
  have hl := h.length
  have hi : i < vs.length := (List.getElem?_eq_some_iff.mp q).1
  have e : ds[i]? = some (ds[i]'(by omega)) := List.getElem?_eq_getElem (by omega)
  obtain ⟨u, hu, hr⟩ := h.get e
  rw [q] at hu
  cases hu
  exact ⟨_, e, hr⟩
theorem VRs.append : ∀ {ds es : List D} {vs us : List V}, VRs K ρ n H ds vs → VRs K ρ n H es us → VRs K ρ n H (ds ++ es) (vs ++ us)
  | [], _, _, _, h, t => by rw [VRs] at h; subst h; exact t
  | d :: ds, _, _, _, h, t => by
    rw [VRs] at h
    obtain ⟨v, r, e1, h1, h2⟩ := h
    subst e1
    exact VRs.cons h1 (VRs.append h2 t)
theorem VRs.set : ∀ {ds : List D} {vs : List V} {d : D} {v : V} (i : Nat), VRs K ρ n H ds vs → VR K ρ n H d v → VRs K ρ n H (ds.set i d) (vs.set i v)
  | [], _, _, _, _, h, _ => by rw [VRs] at h; subst h; exact VRs.nil
  | d :: ds, _, _, _, 0, h, q => by
    rw [VRs] at h
    obtain ⟨v, r, e1, h1, h2⟩ := h
    subst e1
    exact VRs.cons q h2
  | d :: ds, _, _, _, i + 1, h, q => by
    rw [VRs] at h
    obtain ⟨v, r, e1, h1, h2⟩ := h
    subst e1
    exact VRs.cons h1 (VRs.set i h2 q)
theorem VRs.take : ∀ {ds : List D} {vs : List V} (i : Nat), VRs K ρ n H ds vs → VRs K ρ n H (ds.take i) (vs.take i)
  | [], _, _, h => by rw [VRs] at h; subst h; simpa using VRs.nil
  | d :: ds, _, 0, _ => VRs.nil
  | d :: ds, _, i + 1, h => by
    rw [VRs] at h
    obtain ⟨v, r, e1, h1, h2⟩ := h
    subst e1
    exact VRs.cons h1 (VRs.take i h2)
theorem VRs.drop : ∀ {ds : List D} {vs : List V} (i : Nat), VRs K ρ n H ds vs → VRs K ρ n H (ds.drop i) (vs.drop i)
  | [], _, _, h => by rw [VRs] at h; subst h; simpa using VRs.nil
  | d :: ds, _, 0, h => h
  | d :: ds, _, i + 1, h => by
    rw [VRs] at h
    obtain ⟨v, r, e1, h1, h2⟩ := h
    subst e1
    exact VRs.drop i h2
theorem VRs.reverse : ∀ {ds : List D} {vs : List V}, VRs K ρ n H ds vs → VRs K ρ n H ds.reverse vs.reverse
  | [], _, h => by rw [VRs] at h; subst h; exact VRs.nil
  | d :: ds, _, h => by
    rw [VRs] at h
    obtain ⟨v, r, e1, h1, h2⟩ := h
    subst e1
    rw [List.reverse_cons, List.reverse_cons]
    exact VRs.append (VRs.reverse h2) (VRs.cons h1 VRs.nil)
theorem VRs.one {d : D} {vs : List V} (h : VRs K ρ n H [d] vs) : ∃ v, vs = [v] ∧ VR K ρ n H d v := by
  rw [VRs] at h
  obtain ⟨v, r, e1, h1, h2⟩ := h
  rw [VRs] at h2
  subst h2
  exact ⟨v, e1, h1⟩
theorem VRs.uncons {d : D} {ds : List D} {vs : List V} (h : VRs K ρ n H (d :: ds) vs) : ∃ v r, vs = v :: r ∧ VR K ρ n H d v ∧ VRs K ρ n H ds r := by
  rw [VRs] at h
  exact h

/-- attributes, by name and in order -/
def FR (K : PySem.W.Frag) (ρ : Nat → Addr) (n : Nat) (H : Hp) : List (Str × D) → List (Str × V) → Prop
  | [], vs => vs = []
  | p :: ps, vs => ∃ v r, vs = (p.1, v) :: r ∧ VR K ρ n H p.2 v ∧ FR K ρ n H ps r
theorem FR.mono (e : Ext ρ n H ρ' n' H') : ∀ {ds : List (Str × D)} {vs : List (Str × V)}, FR K ρ n H ds vs → FR K ρ' n' H' ds vs
  | [], _, h => h
  | _ :: _, _, ⟨v, r, e1, h1, h2⟩ => ⟨v, r, e1, h1.mono e, FR.mono e h2⟩
theorem FR.lookup : ∀ {ds : List (Str × D)} {vs : List (Str × V)} {f : Str} {d : D}, FR K ρ n H ds vs → ds.lookup f = some d → ∃ v, vs.lookup f = some v ∧ VR K ρ n H d v
  | [], _, _, _, _, h => by cases h
  | (g, x) :: ps, _, f, d, ⟨v, r, e1, h1, h2⟩, h => by
    subst e1
    rw [List.lookup_cons] at h ⊢
    by_cases q : f == g
    · rw [q] at h
      rw [q]
      cases h
      exact ⟨v, rfl, h1⟩
    · simp only [Bool.not_eq_true] at q
      rw [q] at h
      rw [q]
      exact FR.lookup h2 h
theorem FR.lookup_none : ∀ {ds : List (Str × D)} {vs : List (Str × V)} {f : Str}, FR K ρ n H ds vs → ds.lookup f = none → vs.lookup f = none
  | [], _, _, h, _ => by
    have h : _ = ([] : List (Str × V)) := h
    subst h
    rfl
  | (g, x) :: ps, _, f, ⟨v, r, e1, h1, h2⟩, h => by
    subst e1
    rw [List.lookup_cons] at h ⊢
    by_cases q : f == g
    · rw [q] at h
      cases h
    · simp only [Bool.not_eq_true] at q
      rw [q] at h
      rw [q]
      exact FR.lookup_none h2 h
theorem FR.length : ∀ {ds : List (Str × D)} {vs : List (Str × V)}, FR K ρ n H ds vs → vs.length = ds.length
  | [], _, h => by
    have h : _ = ([] : List (Str × V)) := h
    rw [h] <;> rfl
  | _ :: _, _, ⟨v, r, e1, h1, h2⟩ => by rw [e1, List.length_cons, List.length_cons, FR.length h2]
/-- an attribute stored -/
def putD (f : Str) (d : D) : List (Str × D) → List (Str × D)
  | [] => [(f, d)]
  | (g, x) :: r => if g = f then (g, d) :: r else (g, x) :: putD f d r
theorem FR.put {f : Str} {d : D} {v : V} (q : VR K ρ n H d v) : ∀ {ds : List (Str × D)} {vs : List (Str × V)}, FR K ρ n H ds vs → FR K ρ n H (putD f d ds) (putF f v vs)
  | [], _, h => by
    have h : _ = ([] : List (Str × V)) := h
    subst h
    exact ⟨v, [], rfl, q, rfl⟩
  | (g, x) :: ps, _, ⟨u, r, e1, h1, h2⟩ => by
    subst e1
    show FR K ρ n H (if g = f then (g, d) :: ps else (g, x) :: putD f d ps) (if g = f then (g, v) :: r else (g, u) :: putF f v r)
    by_cases e : g = f
    · rw [if_pos e, if_pos e]
      exact ⟨v, r, rfl, q, h2⟩
    · rw [if_neg e, if_neg e]
      exact ⟨u, _, rfl, h1, FR.put q h2⟩

/-- a dict's keys: ints and texts -/
def keyD : D → Option Key
  | .int i => some (.inl i)
  | .str x => some (.inr x)
  | _ => none
def keysD : List D → Option (List Key)
  | [] => some []
  | d :: ds => match keyD d, keysD ds with
    | some k, some ks => some (k :: ks)
    | _, _ => none
def tkeyD : D → Option (List Key)
  | .tup xs => keysD xs
  | _ => none
def KR {κ : Type} (key : D → Option κ) (K : PySem.W.Frag) (ρ : Nat → Addr) (n : Nat) (H : Hp) : List (D × D) → List (κ × V) → Prop
  | [], vs => vs = []
  | p :: ps, vs => ∃ k v r, vs = (k, v) :: r ∧ key p.1 = some k ∧ VR K ρ n H p.2 v ∧ KR key K ρ n H ps r
theorem KR.mono {κ : Type} {key : D → Option κ} (e : Ext ρ n H ρ' n' H') : ∀ {ds : List (D × D)} {vs : List (κ × V)}, KR key K ρ n H ds vs → KR key K ρ' n' H' ds vs
  | [], _, h => h
  | _ :: _, _, ⟨k, v, r, e1, h0, h1, h2⟩ => ⟨k, v, r, e1, h0, h1.mono e, KR.mono e h2⟩

/-- a list known to its object, or of the module: never written -/
def SqF (K : PySem.W.Frag) (H : Hp) (a : Addr) (xs : List V) : Prop :=
  (∃ o, H a = some (.frz o (.lst xs))) ∨
    ∃ (o : Obj) (its : Array Value) (n : Nat), K.lookup a = some o ∧ o.cls = .type "list" ∧ o.dict = none ∧ o.data = .seq its n ∧ its.size ≤ sizeLine ∧ Vals xs its.toList
theorem SqF.sq {a : Addr} {xs : List V} (h : SqF K H a xs) : SqL K H a xs := h.elim (fun z => .inl (.inr z)) .inr
/-- the object at a place -/
def OR (K : PySem.W.Frag) (mg : Str → Option Value) (ρ : Nat → Addr) (n : Nat) (H : Hp) (a : Addr) : SO → Prop
  | .lst xs => ∃ vs, H a = some (.lst vs) ∧ VRs K ρ n H xs vs
  | .frz xs => ∃ vs, SqF K H a vs ∧ VRs K ρ n H xs vs
  | .dict false kvs => ∃ vs, H a = some (.dK vs) ∧ KR keyD K ρ n H kvs vs
  | .dict true kvs => ∃ vs, H a = some (.dT vs) ∧ KR tkeyD K ρ n H kvs vs
  | .ins c fs => ∃ C dx vs, mg c = some (.ref C) ∧ H a = some (.ins C dx vs) ∧ FR K ρ n H fs vs
/-- may be written -/
def mutS : SO → Bool
  | .frz _ => false
  | _ => true
theorem OR.mut {a : Addr} {o : SO} (h : OR K mg ρ n H a o) (m : mutS o = true) : ∃ u, H a = some u ∧ Mut (some u) ∧ (∀ ob w, u ≠ .frz ob w) ∧ (∀ xs, u ≠ .tup xs) ∧ ∀ x, u ≠ .own x := by
  cases o with
  | lst xs => obtain ⟨vs, h, _⟩ := h; exact ⟨_, h, trivial, fun _ _ z => (nomatch z), fun _ z => (nomatch z), fun _ z => (nomatch z)⟩
  | frz xs => cases m
  | dict t kvs =>
    cases t with
    | false => obtain ⟨vs, h, _⟩ := h; exact ⟨_, h, trivial, fun _ _ z => (nomatch z), fun _ z => (nomatch z), fun _ z => (nomatch z)⟩
    | true => obtain ⟨vs, h, _⟩ := h; exact ⟨_, h, trivial, fun _ _ z => (nomatch z), fun _ z => (nomatch z), fun _ z => (nomatch z)⟩
  | ins c fs => obtain ⟨C, dx, vs, _, h, _⟩ := h; exact ⟨_, h, trivial, fun _ _ z => (nomatch z), fun _ z => (nomatch z), fun _ z => (nomatch z)⟩
/-- the object stands still, the world grows -/
theorem OR.mono (e : Ext ρ n H ρ' n' H') {a : Addr} (ha : ∀ u, H a = some u → H' a = some u) {o : SO} (h : OR K mg ρ n H a o) : OR K mg ρ' n' H' a o := by
  cases o with
  | lst xs => obtain ⟨vs, h, r⟩ := h; exact ⟨vs, ha _ h, r.mono e⟩
  | frz xs =>
    obtain ⟨vs, h, r⟩ := h
    refine ⟨vs, ?_, r.mono e⟩
    rcases h with ⟨o, h⟩ | h
    · exact .inl ⟨o, ha _ h⟩
    · exact .inr h
  | dict t kvs =>
    cases t with
    | false => obtain ⟨vs, h, r⟩ := h; exact ⟨vs, ha _ h, r.mono e⟩
    | true => obtain ⟨vs, h, r⟩ := h; exact ⟨vs, ha _ h, r.mono e⟩
  | ins c fs => obtain ⟨C, dx, vs, g, h, r⟩ := h; exact ⟨C, dx, vs, g, ha _ h, r.mono e⟩

/-- the store stands for the heap -/
structure SR (K : PySem.W.Frag) (mg : Str → Option Value) (ρ : Nat → Addr) (s : Sto) (H : Hp) : Prop where
  inj : ∀ (i j : Nat) oi oj, s[i]? = some oi → s[j]? = some oj → mutS oi = true → mutS oj = true → ρ i = ρ j → i = j
  ob : ∀ (i : Nat) o, s[i]? = some o → OR K mg ρ s.length H (ρ i) o
theorem Ext.same (st : ∀ b o, H b = some o → H' b = some o) : Ext ρ n H ρ n H' :=
  ⟨Nat.le_refl _, fun _ _ => rfl, fun a vs h => h.elim (fun z => .inl (st _ _ z)) fun ⟨o, z⟩ => .inr ⟨o, st _ _ z⟩⟩
/-- untracked or new things come -/
theorem SR.grow {s : Sto} (h : SR K mg ρ s H) (st : ∀ b o, H b = some o → H' b = some o) : SR K mg ρ s H' :=
  ⟨h.inj, fun i o e => (h.ob i o e).mono (Ext.same st) fun u z => st _ _ z⟩
def ρup (ρ : Nat → Addr) (n : Nat) (p : Addr) : Nat → Addr := fun k => if k = n then p else ρ k
theorem ρup_same {p : Addr} : ρup ρ n p n = p := by unfold ρup; rw [if_pos rfl]
theorem ρup_ne {p : Addr} {k : Nat} (h : k ≠ n) : ρup ρ n p k = ρ k := by unfold ρup; rw [if_neg h]
theorem Ext.alloc {p : Addr} (st : ∀ b o, H b = some o → H' b = some o) : Ext ρ n H (ρup ρ n p) (n + 1) H' :=
  ⟨Nat.le_succ _, fun k h => ρup_ne (Nat.ne_of_lt h), (Ext.same (ρ := ρ) (n := n) st).tp⟩
theorem SR.alloc {s : Sto} {p : Addr} {o : SO} (h : SR K mg ρ s H) (hp : H p = none) (st : ∀ b u, H b = some u → H' b = some u)
    (ho : OR K mg (ρup ρ s.length p) (s.length + 1) H' p o) : SR K mg (ρup ρ s.length p) (s ++ [o]) H' := by
  have ext : Ext ρ s.length H (ρup ρ s.length p) (s.length + 1) H' := Ext.alloc st
  have old : ∀ {i : Nat} {oi : SO}, i < s.length → (s ++ [o])[i]? = some oi → s[i]? = some oi := fun hi e => by rwa [List.getElem?_append_left hi] at e
  have new : ∀ {i : Nat} {oi : SO}, ¬ i < s.length → (s ++ [o])[i]? = some oi → i = s.length ∧ oi = o := fun {i oi} hi e => by
    have hl := (List.getElem?_eq_some_iff.mp e).1
    simp only [List.length_append, List.length_cons, List.length_nil] at hl
    have : i = s.length := by omega
    subst this
    simp at e
    exact ⟨rfl, e.symm⟩
  refine ⟨fun i j oi oj e1 e2 m1 m2 q => ?_, fun i oi e => ?_⟩
  · by_cases hi : i < s.length
    · by_cases hj : j < s.length
      · rw [ρup_ne (Nat.ne_of_lt hi), ρup_ne (Nat.ne_of_lt hj)] at q
        exact h.inj i j oi oj (old hi e1) (old hj e2) m1 m2 q
      · obtain ⟨rfl, rfl⟩ := new hj e2
        rw [ρup_ne (Nat.ne_of_lt hi), ρup_same] at q
        obtain ⟨u, hu, _⟩ := (h.ob i oi (old hi e1)).mut m1
        rw [q, hp] at hu
        cases hu
    · obtain ⟨rfl, rfl⟩ := new hi e1
      by_cases hj : j < s.length
      · rw [ρup_ne (Nat.ne_of_lt hj), ρup_same] at q
        obtain ⟨u, hu, _⟩ := (h.ob j oj (old hj e2)).mut m2
        rw [← q, hp] at hu
        cases hu
      · exact (new hj e2).1.symm
  · rw [List.length_append]
    by_cases hi : i < s.length
    · rw [ρup_ne (Nat.ne_of_lt hi)]
      exact (h.ob i oi (old hi e)).mono ext fun u z => st _ _ z
    · obtain ⟨rfl, rfl⟩ := new hi e
      rw [ρup_same]
      exact ho
theorem Ext.write {i : Nat} {o : SO} {u : HO} (h : OR K mg ρ n H (ρ i) o) (m : mutS o = true) : Ext ρ n H ρ n (upd H (ρ i) u) := by
  obtain ⟨w, hw, _, nf, nt, _⟩ := h.mut m
  refine ⟨Nat.le_refl _, fun _ _ => rfl, fun a vs r => ?_⟩
  rcases r with r | ⟨ob, r⟩
  · refine .inl ?_
    rw [upd_ne]
    · exact r
    · intro z
      rw [z, hw] at r
      exact nt vs (Option.some.inj r)
  · refine .inr ⟨ob, ?_⟩
    rw [upd_ne]
    · exact r
    · intro z
      rw [z, hw] at r
      exact nf _ _ (Option.some.inj r)
theorem SR.write {s : Sto} {i : Nat} {o o' : SO} {u : HO} (h : SR K mg ρ s H) (e : s[i]? = some o) (m : mutS o = true) (m' : mutS o' = true)
    (ho : OR K mg ρ s.length (upd H (ρ i) u) (ρ i) o') : SR K mg ρ (s.set i o') (upd H (ρ i) u) := by
  have ext : Ext ρ s.length H ρ s.length (upd H (ρ i) u) := Ext.write (h.ob i o e) m
  have hi := (List.getElem?_eq_some_iff.mp e).1
  have back : ∀ {j : Nat} {oj : SO}, (s.set i o')[j]? = some oj → (j = i ∧ oj = o') ∨ (j ≠ i ∧ s[j]? = some oj) := fun {j oj} q => by
    by_cases hj : j = i
    · subst hj
      rw [List.getElem?_set_self hi] at q
      exact .inl ⟨rfl, (Option.some.inj q).symm⟩
    · rw [List.getElem?_set_ne (Ne.symm hj)] at q
      exact .inr ⟨hj, q⟩
  refine ⟨fun j k oj ok e1 e2 m1 m2 q => ?_, fun j oj q => ?_⟩
  · have t1 : ∃ o1, s[j]? = some o1 ∧ mutS o1 = true := by
      rcases back e1 with ⟨rfl, rfl⟩ | ⟨_, z⟩
      · exact ⟨o, e, m⟩
      · exact ⟨oj, z, m1⟩
    have t2 : ∃ o1, s[k]? = some o1 ∧ mutS o1 = true := by
      rcases back e2 with ⟨rfl, rfl⟩ | ⟨_, z⟩
      · exact ⟨o, e, m⟩
      · exact ⟨ok, z, m2⟩
    obtain ⟨o1, f1, g1⟩ := t1
    obtain ⟨o2, f2, g2⟩ := t2
    exact h.inj j k o1 o2 f1 f2 g1 g2 q
  · rw [List.length_set]
    obtain ⟨w', hw', _, nf, nt, _⟩ := (h.ob i o e).mut m
    rcases back q with ⟨rfl, rfl⟩ | ⟨hj, z⟩
    · exact ho
    · cases mj : mutS oj with
      | true =>
        refine (h.ob j oj z).mono ext fun w hw => ?_
        rw [upd_ne]
        · exact hw
        · intro qq
          exact hj (h.inj j i oj o z e mj m qq)
      | false =>
        cases oj with
        | frz xs =>
          obtain ⟨vs, sq, r⟩ := h.ob j _ z
          refine ⟨vs, ?_, r.mono ext⟩
          rcases sq with ⟨ob, sq⟩ | sq
          · refine .inl ⟨ob, ?_⟩
            rw [upd_ne]
            · exact sq
            · intro qq
              rw [qq, hw'] at sq
              exact nf _ _ (Option.some.inj sq)
          · exact .inr sq
        | _ => cases mj
end
end Z

set_option Elab.async false
set_option linter.all false
set_option maxRecDepth 100000
set_option maxHeartbeats 4000000
namespace Z
open PySem PySem.Spec PyProof.Rows L2

/-- names by slots -/
def EnvR (K : PySem.W.Frag) (ρ : Nat → Addr) (n : Nat) (H : Hp) (env : Ev) (σ : L2.St) : Prop :=
  env.length = σ.length ∧ ∀ (i : Nat) d, env[i]? = some (some d) → ∃ v, σ[i]? = some (some v) ∧ VR K ρ n H d v
section
variable {K : PySem.W.Frag} {mg : Str → Option Value} {ρ ρ' ρ1 : Nat → Addr} {n n' n1 : Nat} {H H' H1 : Hp}
theorem EnvR.mono (e : Ext ρ n H ρ' n' H') {env : Ev} {σ : L2.St} (h : EnvR K ρ n H env σ) : EnvR K ρ' n' H' env σ :=
  ⟨h.1, fun i d q => let ⟨v, e1, r⟩ := h.2 i d q; ⟨v, e1, r.mono e⟩⟩
theorem EnvR.set {env : Ev} {σ : L2.St} (h : EnvR K ρ n H env σ) {i : Nat} {d : D} {v : V} (r : VR K ρ n H d v) : EnvR K ρ n H (env.set i (some d)) (σ.set i (some v)) := by
  refine ⟨by rw [List.length_set, List.length_set]; exact h.1, fun j e q => ?_⟩
  by_cases hj : i = j
  · subst hj
    by_cases hl : i < env.length
    · rw [List.getElem?_set_self hl] at q
      cases q
      exact ⟨v, by rw [List.getElem?_set_self (by rw [← h.1]; exact hl)], r⟩
    · rw [List.getElem?_eq_none (by rw [List.length_set]; omega)] at q
      cases q
  · rw [List.getElem?_set_ne hj] at q
    obtain ⟨u, e1, r1⟩ := h.2 j e q
    exact ⟨u, by rw [List.getElem?_set_ne hj]; exact e1, r1⟩
theorem EnvR.del {env : Ev} {σ : L2.St} (h : EnvR K ρ n H env σ) {i : Nat} : EnvR K ρ n H (env.set i none) (σ.set i none) := by
  refine ⟨by rw [List.length_set, List.length_set]; exact h.1, fun j e q => ?_⟩
  by_cases hj : i = j
  · subst hj
    by_cases hl : i < env.length
    · rw [List.getElem?_set_self hl] at q
      cases q
    · rw [List.getElem?_eq_none (by rw [List.length_set]; omega)] at q
      cases q
  · rw [List.getElem?_set_ne hj] at q
    obtain ⟨u, e1, r1⟩ := h.2 j e q
    exact ⟨u, by rw [List.getElem?_set_ne hj]; exact e1, r1⟩

abbrev Rl (α β : Type) := (Nat → Addr) → Nat → Hp → α → β → Prop
/-- what a result asks -/
def Po {α β : Type} (K : PySem.W.Frag) (mg : Str → Option Value) (R : Rl α β) (W : WX) (σ : L2.St) (ρ : Nat → Addr) (n : Nat) (H : Hp) (r : Rs α) (Q : β → Hp → Prop) : Prop :=
  match r with
  | .ok d s' => ∀ ρ' H' v, Ext ρ n H ρ' s'.length H' → SR K mg ρ' s' H' → R ρ' s'.length H' d v → Q v H'
  | .ex c f d s' => ∀ ρ' H' C dx v, Ext ρ n H ρ' s'.length H' → SR K mg ρ' s' H' → mg c = some (.ref C) → VR K ρ' s'.length H' d v → H' dx = some (.xd [(f, v)]) → W (.ref C) (some dx) σ H'
  | .no => False
theorem Po.rebase {α β : Type} {R : Rl α β} {W : WX} {σ : L2.St} {r : Rs α} {Q : β → Hp → Prop} (h : Po K mg R W σ ρ n H r Q) (e : Ext ρ n H ρ1 n1 H1) : Po K mg R W σ ρ1 n1 H1 r Q := by
  cases r with
  | ok d s => exact fun ρ' H' v e' => h ρ' H' v (e.trans e')
  | ex c f d s => exact fun ρ' H' C dx v e' => h ρ' H' C dx v (e.trans e')
  | no => exact h
/-- behind a part -/
def Mid {α β : Type} (K : PySem.W.Frag) (mg : Str → Option Value) (R : Rl α β) (ρ : Nat → Addr) (n : Nat) (H : Hp) (v : β) (H1 : Hp) (k : (Nat → Addr) → Sto → α → Prop) : Prop :=
  ∃ ρ1 s1 d, Ext ρ n H ρ1 s1.length H1 ∧ SR K mg ρ1 s1 H1 ∧ R ρ1 s1.length H1 d v ∧ k ρ1 s1 d
theorem Po.bind {α β γ δ : Type} {R : Rl α β} {R' : Rl γ δ} {W : WX} {σ : L2.St} {r : Rs α} {k : α → Sto → Rs γ} {Q : δ → Hp → Prop} (h : Po K mg R' W σ ρ n H (r.bind k) Q) :
    Po K mg R W σ ρ n H r (fun v H1 => Mid K mg R ρ n H v H1 fun ρ1 s1 d => Po K mg R' W σ ρ1 s1.length H1 (k d s1) Q) := by
  cases r with
  | ok d s => exact fun ρ' H' v e sr r => ⟨ρ', s, d, e, sr, r, Po.rebase h e⟩
  | ex c f d s => exact h
  | no => exact h
/-- the lifted reading -/
def lG {α β : Type} (K : PySem.W.Frag) (mg : Str → Option Value) (R : Rl α β) (W : WX) (m : EM α) : L2.St → Hp → (β → Hp → Prop) → Prop :=
  fun σ H Q => ∃ ρ env s, SR K mg ρ s H ∧ EnvR K ρ s.length H env σ ∧ Po K mg R W σ ρ s.length H (m env s) Q
abbrev RB : Rl Bool Bool := fun _ _ _ b c => b = c
abbrev lE (K : PySem.W.Frag) (mg : Str → Option Value) : WX → EM D → TE := lG K mg (VR K)
abbrev lA (K : PySem.W.Frag) (mg : Str → Option Value) : WX → EM (List D) → TA := lG K mg (VRs K)
abbrev lT (K : PySem.W.Frag) (mg : Str → Option Value) : WX → EM Bool → TT := lG K mg RB
end

section
variable {X : Cx}
theorem PE_imp {e : Expr} {t t' : TE} (h : PE X e t) (i : ∀ σ H Q, t' σ H Q → t σ H Q) : PE X e t' := ⟨fun p s σ H Q I q => h.run p s σ H Q I (i σ H Q q)⟩
theorem PT_imp {e : Expr} {t t' : TT} (h : PT X e t) (i : ∀ σ H Q, t' σ H Q → t σ H Q) : PT X e t' := ⟨fun p s σ H Q I q => h.run p s σ H Q I (i σ H Q q)⟩
theorem PW_imp {e : Expr} {t t' : TT} (h : PW X e t) (i : ∀ σ H Q, t' σ H Q → t σ H Q) : PW X e t' := ⟨fun w p s σ H Q I q => h.run w p s σ H Q I (i σ H Q q)⟩
theorem PA_imp {e : List Expr} {t t' : TA} (h : PA X e t) (i : ∀ σ H Q, t' σ H Q → t σ H Q) : PA X e t' := ⟨fun p pins s σ H Q I q => h.run p pins s σ H Q I (i σ H Q q)⟩
theorem PS_imp {e : Stmt} {t t' : TS} (h : PS X e t) (i : ∀ σ H Q, t' Q σ H → t Q σ H) : PS X e t' := ⟨fun p s σ H Q I q => h.run p s σ H Q I (i σ H Q q)⟩
theorem PSs_imp {e : List Stmt} {t t' : TS} (h : PSs X e t) (i : ∀ σ H Q, t' Q σ H → t Q σ H) : PSs X e t' := ⟨fun p s σ H Q I q => h.run p s σ H Q I (i σ H Q q)⟩

abbrev JE (X : Cx) (W : WX) (e : Expr) (m : EM D) : Prop := PE X e (lE X.K X.mg W m)
abbrev JT (X : Cx) (W : WX) (e : Expr) (m : EM Bool) : Prop := PT X e (lT X.K X.mg W m)
abbrev JW (X : Cx) (W : WX) (e : Expr) (m : EM Bool) : Prop := PW X e (lT X.K X.mg W m)
abbrev JA (X : Cx) (W : WX) (es : List Expr) (m : EM (List D)) : Prop := PA X es (lA X.K X.mg W m)

variable {W : WX}
/-! ### names, constants -/
def mV (i : Nat) : EM D := fun env s => match env[i]? with
  | some (some d) => .ok d s
  | _ => .no
def mC (d : D) : EM D := fun _ s => .ok d s
theorem je_v (i : Nat) {x : Str} {pos : Pos} (hN : X.N[i]? = some x := by rfl) (hv : Vis X.env.scope x := by first | exact Or.inl rfl | exact Or.inr (Or.inl rfl) | exact Or.inr (Or.inr rfl)) (hd : (x == ("__debug__" : Str)) = false := by decide)
    (hcd : (x == ("__classdict__" : Str)) = false := by decide) : JE X W (.Name x pos) (mV i) := by
  refine PE_imp (pe_var hN hv hd hcd) fun σ H Q ⟨ρ, env, s, sr, er, po⟩ => ?_
  unfold mV at po
  cases h : env[i]? with
  | none => rw [h] at po; exact po.elim
  | some o =>
    rw [h] at po
    cases o with
    | none => exact po.elim
    | some d =>
      obtain ⟨v, e1, r⟩ := er.2 i d h
      exact ⟨v, e1, po ρ H v Ext.refl sr r⟩
/-- a value that the store doesn't matter for -/
def flatD : D → V → Prop
  | .non, v => v = .non
  | .bl b, v => v = .bl b
  | .int i, v => v = .int i
  | .str x, v => v = .str x
  | _, _ => False
theorem flatD.vr {K : PySem.W.Frag} {ρ : Nat → Addr} {n : Nat} {H : Hp} {d : D} {v : V} (h : flatD d v) : VR K ρ n H d v := by
  cases d <;> first | exact h | exact h.elim
theorem je_const {e : Expr} {d : D} {v : V} (h : PE X e (tC v)) (r : flatD d v) : JE X W e (mC d) :=
  PE_imp h fun σ H Q ⟨ρ, env, s, sr, er, po⟩ => po ρ H v Ext.refl sr r.vr
theorem je_int {i j pos} : JE X W (.Constant (.int i) j pos) (mC (.int i)) := je_const pe_int rfl
theorem je_bl {b j pos} : JE X W (.Constant (.bool b) j pos) (mC (.bl b)) := je_const pe_bl rfl
theorem je_non {j pos} : JE X W (.Constant .none j pos) (mC .non) := je_const pe_non rfl
theorem je_str {x j pos} : JE X W (.Constant (.str x) j pos) (mC (.str x)) := je_const pe_str rfl
/-- a module's constant: an int, a text -/
theorem je_gint {x : Str} {i : Int} {pos : Pos} (hg : Gl X x) (hm : ∃ t, X.mg x = some (.int i t)) (hd : (x == ("__debug__" : Str)) = false := by decide) : JE X W (.Name x pos) (mC (.int i)) := by
  obtain ⟨t, hm⟩ := hm
  exact je_const (v := .int i) (pe_glob hg hm ⟨t, rfl⟩ hd) rfl
theorem je_gstr {x z : Str} {pos : Pos} (hg : Gl X x) (hm : ∃ t, X.mg x = some (.str z t)) (hd : (x == ("__debug__" : Str)) = false := by decide) : JE X W (.Name x pos) (mC (.str z)) := by
  obtain ⟨t, hm⟩ := hm
  exact je_const (v := .str z) (pe_glob hg hm ⟨t, rfl⟩ hd) rfl
/-- a module's constant: a tuple of the written part -/
theorem je_gtup {x : Str} {ds : List D} {a : Addr} {vs : List V} {pos : Pos} (hg : Gl X x) (hm : X.mg x = some (.ref a)) (hq : ∀ H, SqT X.K H a vs) (r : ∀ ρ n H, VRs X.K ρ n H ds vs) (hd : (x == ("__debug__" : Str)) = false := by decide) : JE X W (.Name x pos) (mC (.tup ds)) := by
  refine PE_imp (pe_glob hg hm (v := .ref a) rfl hd) fun σ H Q ⟨ρ, env, s, sr, er, po⟩ => po ρ H (.ref a) Ext.refl sr ?_
  rw [VR]
  exact ⟨a, vs, rfl, hq H, r _ _ _⟩

/-! ### operations on values -/
/-- f does what r does -/
def Pr2 (X : Cx) (W : WX) (f : D → D → Sto → Rs D) (r : R2) : Prop :=
  ∀ (ρ : Nat → Addr) (s : Sto) (H : Hp) (σ : L2.St) (x y : D) (vx vy : V) (Q : VK), SR X.K X.mg ρ s H → VR X.K ρ s.length H x vx → VR X.K ρ s.length H y vy → Po X.K X.mg (VR X.K) W σ ρ s.length H (f x y s) Q → r vx vy H Q
def Pr1 (X : Cx) (W : WX) (f : D → Sto → Rs D) (r : V → Hp → VK → Prop) : Prop :=
  ∀ (ρ : Nat → Addr) (s : Sto) (H : Hp) (σ : L2.St) (x : D) (vx : V) (Q : VK), SR X.K X.mg ρ s H → VR X.K ρ s.length H x vx → Po X.K X.mg (VR X.K) W σ ρ s.length H (f x s) Q → r vx H Q
def PrN (X : Cx) (W : WX) (f : List D → Sto → Rs D) (r : List V → Hp → VK → Prop) : Prop :=
  ∀ (ρ : Nat → Addr) (s : Sto) (H : Hp) (σ : L2.St) (xs : List D) (vs : List V) (Q : VK), SR X.K X.mg ρ s H → VRs X.K ρ s.length H xs vs → Po X.K X.mg (VR X.K) W σ ρ s.length H (f xs s) Q → r vs H Q
def PrM (X : Cx) (W : WX) (f : D → List D → Sto → Rs D) (r : V → List V → Hp → VK → Prop) : Prop :=
  ∀ (ρ : Nat → Addr) (s : Sto) (H : Hp) (σ : L2.St) (x : D) (xs : List D) (v : V) (vs : List V) (Q : VK), SR X.K X.mg ρ s H → VR X.K ρ s.length H x v → VRs X.K ρ s.length H xs vs → Po X.K X.mg (VR X.K) W σ ρ s.length H (f x xs s) Q → r v vs H Q
def m2 (f : D → D → Sto → Rs D) (ma mb : EM D) : EM D := fun env s => (ma env s).bind fun x s1 => (mb env s1).bind fun y s2 => f x y s2
def m1 (f : D → Sto → Rs D) (ma : EM D) : EM D := fun env s => (ma env s).bind fun x s1 => f x s1
def mN (f : List D → Sto → Rs D) (ms : EM (List D)) : EM D := fun env s => (ms env s).bind fun xs s1 => f xs s1
def mM (f : D → List D → Sto → Rs D) (ma : EM D) (ms : EM (List D)) : EM D := fun env s => (ma env s).bind fun x s1 => (ms env s1).bind fun xs s2 => f x xs s2
def aN : EM (List D) := fun _ s => .ok [] s
def aC (ma : EM D) (ms : EM (List D)) : EM (List D) := fun env s => (ma env s).bind fun x s1 => (ms env s1).bind fun xs s2 => .ok (x :: xs) s2
theorem Po.imp {α β : Type} {K : PySem.W.Frag} {mg : Str → Option Value} {R : Rl α β} {σ : L2.St} {ρ : Nat → Addr} {n : Nat} {H : Hp} {r : Rs α} {Q Q' : β → Hp → Prop} (h : Po K mg R W σ ρ n H r Q) (i : ∀ v H', Q v H' → Q' v H') : Po K mg R W σ ρ n H r Q' := by
  cases r with
  | ok d s => exact fun ρ' H' v e sr r => i _ _ (h ρ' H' v e sr r)
  | ex c f d s => exact h
  | no => exact h
theorem Po.ite {α β : Type} {K : PySem.W.Frag} {mg : Str → Option Value} {R : Rl α β} {σ : L2.St} {ρ : Nat → Addr} {n : Nat} {H : Hp} {c : Prop} [Decidable c] {r : Rs α} {Q : β → Hp → Prop} (h : Po K mg R W σ ρ n H (if c then r else .no) Q) : c ∧ Po K mg R W σ ρ n H r Q := by
  by_cases hc : c
  · rw [if_pos hc] at h
    exact ⟨hc, h⟩
  · rw [if_neg hc] at h
    exact h.elim
variable {a b c : Expr} {es : List Expr} {ma mb mc : EM D} {ms : EM (List D)} {pos : Pos} {f : D → D → Sto → Rs D} {r : R2}
theorem lop (hp : Pr2 X W f r) {σ : L2.St} {H : Hp} {Q : VK} (h : lE X.K X.mg W (m2 f ma mb) σ H Q) : tOp r (lE X.K X.mg W ma) (lE X.K X.mg W mb) σ H Q :=
  let ⟨ρ, env, s, sr, er, po⟩ := h
  ⟨ρ, env, s, sr, er, (Po.bind po).imp fun _ _ ⟨ρ1, s1, d1, e1, sr1, r1, po1⟩ => ⟨ρ1, env, s1, sr1, er.mono e1, (Po.bind po1).imp fun _ _ ⟨ρ2, s2, d2, e2, sr2, r2, po2⟩ =>
    hp ρ2 s2 _ σ _ _ _ _ Q sr2 (r1.mono e2) r2 po2⟩⟩
theorem lun {f : D → Sto → Rs D} {r : V → Hp → VK → Prop} (hp : Pr1 X W f r) {σ : L2.St} {H : Hp} {Q : VK} (h : lE X.K X.mg W (m1 f ma) σ H Q) : tUn r (lE X.K X.mg W ma) σ H Q :=
  let ⟨ρ, env, s, sr, er, po⟩ := h
  ⟨ρ, env, s, sr, er, (Po.bind po).imp fun _ _ ⟨ρ1, s1, d1, e1, sr1, r1, po1⟩ => hp ρ1 s1 _ σ _ _ Q sr1 r1 po1⟩
theorem lcb {f : List D → Sto → Rs D} {r : List V → Hp → VK → Prop} (hp : PrN X W f r) {σ : L2.St} {H : Hp} {Q : VK} (h : lE X.K X.mg W (mN f ms) σ H Q) : tCB r (lA X.K X.mg W ms) σ H Q :=
  let ⟨ρ, env, s, sr, er, po⟩ := h
  ⟨ρ, env, s, sr, er, (Po.bind po).imp fun _ _ ⟨ρ1, s1, d1, e1, sr1, r1, po1⟩ => hp ρ1 s1 _ σ _ _ Q sr1 r1 po1⟩
theorem ja_nil : JA X W [] aN := PA_imp pa_nil fun σ H Q ⟨ρ, env, s, sr, er, po⟩ => po ρ H [] Ext.refl sr VRs.nil
theorem ja_cons {e : Expr} (h : JE X W e ma) (t : JA X W es ms) (hs : starEach (e :: es) X.env = (false, eval e X.env) :: starEach es X.env := by rfl) : JA X W (e :: es) (aC ma ms) :=
  PA_imp (pa_cons h t hs) fun σ H Q ⟨ρ, env, s, sr, er, po⟩ =>
    ⟨ρ, env, s, sr, er, (Po.bind po).imp fun _ _ ⟨ρ1, s1, d1, e1, sr1, r1, po1⟩ => ⟨ρ1, env, s1, sr1, er.mono e1, (Po.bind po1).imp fun _ _ ⟨ρ2, s2, d2, e2, sr2, r2, po2⟩ =>
      po2 ρ2 _ _ Ext.refl sr2 (VRs.cons (r1.mono e2) r2)⟩⟩
theorem je_op {op : Operator} (ho : OpR X (binaryOp op) r) (hp : Pr2 X W f r) (ha : JE X W a ma) (hb : JE X W b mb) : JE X W (.BinOp a op b pos) (m2 f ma mb) := PE_imp (pe_op ho ha hb) fun _ _ _ => lop hp
theorem je_un {op : UnaryOp} {f : D → Sto → Rs D} {r : V → Hp → VK → Prop} (ho : UnR X (unaryOp op) r) (hp : Pr1 X W f r) (ha : JE X W a ma) : JE X W (.UnaryOp op a pos) (m1 f ma) := PE_imp (pe_un ho ha) fun _ _ _ => lun hp
theorem je_cmp {op : CmpOp} (ho : OpR X (compareOp op) r) (hp : Pr2 X W f r) (ha : JE X W a ma) (hb : JE X W b mb) (hm : behindInMarks op b = false) : JE X W (.Compare a [op] [b] pos) (m2 f ma mb) := PE_imp (pe_cmpR ho ha hb hm) fun _ _ _ => lop hp
/-- a bool as a test -/
def toB (m : EM D) : EM Bool := fun env s => (m env s).bind fun d s1 => match d with
  | .bl b => .ok b s1
  | _ => .no
theorem ltoB {m : EM D} {t : TE} {σ : L2.St} {H : Hp} {Q : Bool → Hp → Prop} (i : ∀ Q, lE X.K X.mg W m σ H Q → t σ H Q) (h : lT X.K X.mg W (toB m) σ H Q) : tTest t σ H Q :=
  let ⟨ρ, env, s, sr, er, po⟩ := h
  i _ ⟨ρ, env, s, sr, er, (Po.bind po).imp fun v H1 ⟨ρ1, s1, d1, e1, sr1, r1, po1⟩ => by
    cases d1 with
    | bl b =>
      have e : v = .bl b := r1
      exact ⟨b, e, po1 ρ1 H1 b Ext.refl sr1 rfl⟩
    | _ => exact po1.elim⟩
theorem jt_cmp {op : CmpOp} (ho : OpR X (compareOp op) r) (hp : Pr2 X W f r) (ha : JE X W a ma) (hb : JE X W b mb) (hm : behindInMarks op b = false) : JT X W (.Compare a [op] [b] pos) (toB (m2 f ma mb)) :=
  PT_imp (pt_cmpR ho ha hb hm) fun _ _ _ h => ltoB (fun _ => lop hp) h
theorem jt_val {e : Expr} {m : EM D} (h : JE X W e m) (he : ∀ whole, isTrue e X.env whole = (do let v ← whole; standAt e.pos; holding [v] (truthy v)) := by intro _; rfl) : JT X W e (toB m) :=
  PT_imp (pt_val h he) fun _ _ _ h => ltoB (fun _ q => q) h
/-! ### and, or, not, if -/
def bAnd (a b : EM Bool) : EM Bool := fun env s => (a env s).bind fun x s1 => if x then b env s1 else .ok false s1
def bOr (a b : EM Bool) : EM Bool := fun env s => (a env s).bind fun x s1 => if x then .ok true s1 else b env s1
def bNot (a : EM Bool) : EM Bool := fun env s => (a env s).bind fun x s1 => .ok (!x) s1
def mIf (t : EM Bool) (a b : EM D) : EM D := fun env s => (t env s).bind fun x s1 => if x then a env s1 else b env s1
/-- a test's value -/
def ofB (t : EM Bool) : EM D := fun env s => (t env s).bind fun x s1 => .ok (.bl x) s1
variable {t u : EM Bool} {rest : List Expr}
theorem jw_and1 (ha : JT X W a t) : JW X W (.BoolOp .And [a] pos) t := pw_and1 ha
theorem jw_or1 (ha : JT X W a t) : JW X W (.BoolOp .Or [a] pos) t := pw_or1 ha
theorem jw_and (ha : JT X W a t) (hb : JW X W (.BoolOp .And (b :: rest) pos) u) : JW X W (.BoolOp .And (a :: b :: rest) pos) (bAnd t u) :=
  PW_imp (pw_and ha hb) fun σ H Q ⟨ρ, env, s, sr, er, po⟩ => ⟨ρ, env, s, sr, er, (Po.bind po).imp fun v H1 ⟨ρ1, s1, d1, e1, sr1, r1, po1⟩ => by
    have e : d1 = v := r1
    subst e
    cases d1 with
    | true => exact ⟨ρ1, env, s1, sr1, er.mono e1, po1⟩
    | false => exact po1 ρ1 H1 false Ext.refl sr1 rfl⟩
theorem jw_or (ha : JT X W a t) (hb : JW X W (.BoolOp .Or (b :: rest) pos) u) : JW X W (.BoolOp .Or (a :: b :: rest) pos) (bOr t u) :=
  PW_imp (pw_or ha hb) fun σ H Q ⟨ρ, env, s, sr, er, po⟩ => ⟨ρ, env, s, sr, er, (Po.bind po).imp fun v H1 ⟨ρ1, s1, d1, e1, sr1, r1, po1⟩ => by
    have e : d1 = v := r1
    subst e
    cases d1 with
    | false => exact ⟨ρ1, env, s1, sr1, er.mono e1, po1⟩
    | true => exact po1 ρ1 H1 true Ext.refl sr1 rfl⟩
theorem JW_t {e : Expr} (h : JW X W e t) : JT X W e t := h.pt
theorem jt_not (ha : JT X W a t) : JT X W (.UnaryOp .Not a pos) (bNot t) :=
  PT_imp (pt_not ha) fun σ H Q ⟨ρ, env, s, sr, er, po⟩ => ⟨ρ, env, s, sr, er, (Po.bind po).imp fun v H1 ⟨ρ1, s1, d1, e1, sr1, r1, po1⟩ => by
    have e : d1 = v := r1
    subst e
    exact po1 ρ1 H1 _ Ext.refl sr1 rfl⟩
theorem je_if (ht : JT X W c t) (ha : JE X W a ma) (hb : JE X W b mb) : JE X W (.IfExp c a b pos) (mIf t ma mb) :=
  PE_imp (pe_ifExp ht ha hb) fun σ H Q ⟨ρ, env, s, sr, er, po⟩ => ⟨ρ, env, s, sr, er, (Po.bind po).imp fun v H1 ⟨ρ1, s1, d1, e1, sr1, r1, po1⟩ => by
    have e : d1 = v := r1
    subst e
    cases d1 with
    | true => exact ⟨ρ1, env, s1, sr1, er.mono e1, po1⟩
    | false => exact ⟨ρ1, env, s1, sr1, er.mono e1, po1⟩⟩
/-- and, or, not as values: the parts are bools -/
def mAnd (a b : EM D) : EM D := fun env s => (a env s).bind fun x s1 => match x with
  | .bl true => b env s1
  | .bl false => .ok (.bl false) s1
  | _ => .no
def mOr (a b : EM D) : EM D := fun env s => (a env s).bind fun x s1 => match x with
  | .bl true => .ok (.bl true) s1
  | .bl false => b env s1
  | _ => .no
def mNot (a : EM D) : EM D := fun env s => (a env s).bind fun x s1 => match x with
  | .bl b => .ok (.bl (!b)) s1
  | _ => .no
theorem je_one {op} (h : JE X W a ma) : JE X W (.BoolOp op [a] pos) ma := pe_one h
theorem je_and (ha : JE X W a ma) (hb : JE X W (.BoolOp .And (b :: rest) pos) mb) : JE X W (.BoolOp .And (a :: b :: rest) pos) (mAnd ma mb) :=
  PE_imp (pe_and ha hb) fun σ H Q ⟨ρ, env, s, sr, er, po⟩ => ⟨ρ, env, s, sr, er, (Po.bind po).imp fun v H1 ⟨ρ1, s1, d1, e1, sr1, r1, po1⟩ => by
    cases d1 with
    | bl q =>
      have e : v = .bl q := r1
      subst e
      cases q with
      | true => exact ⟨true, rfl, ρ1, env, s1, sr1, er.mono e1, po1⟩
      | false => exact ⟨false, rfl, po1 ρ1 H1 _ Ext.refl sr1 rfl⟩
    | _ => exact po1.elim⟩
theorem je_or (ha : JE X W a ma) (hb : JE X W (.BoolOp .Or (b :: rest) pos) mb) : JE X W (.BoolOp .Or (a :: b :: rest) pos) (mOr ma mb) :=
  PE_imp (pe_or ha hb) fun σ H Q ⟨ρ, env, s, sr, er, po⟩ => ⟨ρ, env, s, sr, er, (Po.bind po).imp fun v H1 ⟨ρ1, s1, d1, e1, sr1, r1, po1⟩ => by
    cases d1 with
    | bl q =>
      have e : v = .bl q := r1
      subst e
      cases q with
      | false => exact ⟨false, rfl, ρ1, env, s1, sr1, er.mono e1, po1⟩
      | true => exact ⟨true, rfl, po1 ρ1 H1 _ Ext.refl sr1 rfl⟩
    | _ => exact po1.elim⟩
theorem je_not (ha : JE X W a ma) : JE X W (.UnaryOp .Not a pos) (mNot ma) :=
  PE_imp (pe_not ha) fun σ H Q ⟨ρ, env, s, sr, er, po⟩ => ⟨ρ, env, s, sr, er, (Po.bind po).imp fun v H1 ⟨ρ1, s1, d1, e1, sr1, r1, po1⟩ => by
    cases d1 with
    | bl q =>
      have e : v = .bl q := r1
      subst e
      exact ⟨q, rfl, po1 ρ1 H1 _ Ext.refl sr1 rfl⟩
    | _ => exact po1.elim⟩
/-- a chain of two comparisons -/
def mCh (f g : D → D → Sto → Rs D) (ma mb mc : EM D) : EM D := fun env s => (ma env s).bind fun x s1 => (mb env s1).bind fun y s2 => (f x y s2).bind fun z s3 => match z with
  | .bl true => (mc env s3).bind fun w s4 => g y w s4
  | .bl false => .ok (.bl false) s3
  | _ => .no
theorem lch {f g : D → D → Sto → Rs D} {r r' : R2} (hp : Pr2 X W f r) (hp' : Pr2 X W g r') {σ : L2.St} {H : Hp} {Q : VK} (h : lE X.K X.mg W (mCh f g ma mb mc) σ H Q) :
    tChain r r' (lE X.K X.mg W ma) (lE X.K X.mg W mb) (lE X.K X.mg W mc) σ H Q :=
  let ⟨ρ, env, s, sr, er, po⟩ := h
  ⟨ρ, env, s, sr, er, (Po.bind po).imp fun _ _ ⟨ρ1, s1, d1, e1, sr1, r1, po1⟩ => ⟨ρ1, env, s1, sr1, er.mono e1, (Po.bind po1).imp fun _ _ ⟨ρ2, s2, d2, e2, sr2, r2, po2⟩ =>
    hp ρ2 s2 _ σ _ _ _ _ _ sr2 (r1.mono e2) r2 ((Po.bind po2).imp fun v H3 ⟨ρ3, s3, d3, e3, sr3, r3, po3⟩ => by
      cases d3 with
      | bl q =>
        have e : v = .bl q := r3
        subst e
        cases q with
        | true => exact ⟨true, rfl, ρ3, env, s3, sr3, ((er.mono e1).mono e2).mono e3, (Po.bind po3).imp fun _ _ ⟨ρ4, s4, d4, e4, sr4, r4, po4⟩ => hp' ρ4 s4 _ σ _ _ _ _ _ sr4 ((r2.mono e3).mono e4) r4 po4⟩
        | false => exact ⟨false, rfl, po3 ρ3 H3 _ Ext.refl sr3 rfl⟩
      | _ => exact po3.elim)⟩⟩
theorem je_ch {op op' : CmpOp} {f g : D → D → Sto → Rs D} {r r' : R2} (ho : OpR X (compareOp op) r) (ho' : OpR X (compareOp op') r') (hp : Pr2 X W f r) (hp' : Pr2 X W g r') (ha : JE X W a ma) (hb : JE X W b mb) (hc : JE X W c mc)
    (hm : lastMarks [op, op'] [b, c] = false := by with_unfolding_all rfl) : JE X W (.Compare a [op, op'] [b, c] pos) (mCh f g ma mb mc) := PE_imp (pe_chain ho ho' ha hb hc hm) fun _ _ _ => lch hp hp'
theorem jt_ch {op op' : CmpOp} {f g : D → D → Sto → Rs D} {r r' : R2} (ho : OpR X (compareOp op) r) (ho' : OpR X (compareOp op') r') (hp : Pr2 X W f r) (hp' : Pr2 X W g r') (ha : JE X W a ma) (hb : JE X W b mb) (hc : JE X W c mc)
    (hm : lastMarks [op, op'] [b, c] = false := by with_unfolding_all rfl) : JT X W (.Compare a [op, op'] [b, c] pos) (toB (mCh f g ma mb mc)) := PT_imp (pt_chain ho ho' ha hb hc hm) fun _ _ _ h => ltoB (fun _ => lch hp hp') h
/-! ### built-ins by name, methods, subscripts, displays -/
variable {id T : String} {x : Str} {p apos : Pos} {e : Expr}
theorem je_cb {f : List D → Sto → Rs D} {r : List V → Hp → VK → Prop} (hc : CallR X (.builtin id) r) (hp : PrN X W f r) (hg : Gl X x) (hm : X.mg x = none) (hv : bootBuiltins x = some (.builtin id)) (ha : JA X W (e :: es) ms) (hn : x ≠ "__name__" := by decide) (hdb : (x == ("__debug__" : Str)) = false := by decide)
    (he : starEach (e :: es) X.env = (false, eval e X.env) :: starEach es X.env := by rfl) (hpl : (backTo pos (starEach es X.env)).any (·.1) = false := by rfl) : JE X W (.Call (.Name x p) (e :: es) [] pos) (mN f ms) :=
  PE_imp (pe_callB hc hg hm hv ha hn hdb he hpl) fun _ _ _ => lcb hp
theorem je_ct {f : List D → Sto → Rs D} {r : List V → Hp → VK → Prop} (hc : CallR X (.type T) r) (hp : PrN X W f r) (hg : Gl X x) (hm : X.mg x = none) (hv : bootBuiltins x = some (.type T)) (ha : JA X W (e :: es) ms) (hn : x ≠ "__name__" := by decide) (hdb : (x == ("__debug__" : Str)) = false := by decide)
    (he : starEach (e :: es) X.env = (false, eval e X.env) :: starEach es X.env := by rfl) (hpl : (backTo pos (starEach es X.env)).any (·.1) = false := by rfl) : JE X W (.Call (.Name x p) (e :: es) [] pos) (mN f ms) :=
  PE_imp (pe_callTy hc hg hm hv ha hn hdb he hpl) fun _ _ _ => lcb hp
/-- the receiver of a built-in's method is of its type -/
def isTy (T : String) (s : Sto) : D → Bool
  | .str _ => T == "str"
  | .ref n => match s[n]? with
    | some (.lst _) => T == "list"
    | some (.frz _) => T == "list"
    | some (.dict _ _) => T == "dict"
    | _ => false
  | _ => false
def mBM (T : String) (f : D → List D → Sto → Rs D) (ma : EM D) (ms : EM (List D)) : EM D := fun env s => (ma env s).bind fun x s1 => if isTy T s1 x then (ms env s1).bind fun xs s2 => f x xs s2 else .no
theorem isTy_tyV {K : PySem.W.Frag} {mg : Str → Option Value} {ρ : Nat → Addr} {s : Sto} {H : Hp} {d : D} {v : V} (sr : SR K mg ρ s H) (r : VR K ρ s.length H d v) (h : isTy T s d = true) : tyV K T v H := by
  cases d with
  | str y =>
    have e : v = .str y := r
    subst e
    exact eq_of_beq h
  | ref n =>
    rw [VR] at r
    obtain ⟨hn, rfl⟩ := r
    have h2 : (match s[n]? with
      | some (.lst _) => T == "list"
      | some (.frz _) => T == "list"
      | some (.dict _ _) => T == "dict"
      | _ => false) = true := h
    cases e : s[n]? with
    | none => rw [e] at h2; cases h2
    | some o =>
      rw [e] at h2
      have ob := sr.ob n o e
      cases o with
      | lst xs =>
        obtain ⟨vs, q, _⟩ := ob
        exact .inl ⟨eq_of_beq h2, vs, .of q⟩
      | frz xs =>
        obtain ⟨vs, q, _⟩ := ob
        exact .inl ⟨eq_of_beq h2, vs, q.sq⟩
      | dict t kvs =>
        have e2 : T = "dict" := eq_of_beq h2
        cases t with
        | false =>
          obtain ⟨vs, q, _⟩ := ob
          exact .inr (.inr (.inl ⟨e2, .inl ⟨vs, q⟩⟩))
        | true =>
          obtain ⟨vs, q, _⟩ := ob
          exact .inr (.inr (.inl ⟨e2, .inr ⟨vs, q⟩⟩))
      | ins c fs => cases h2
  | _ => cases h
variable {o : Expr} {name : Str} {cpos : Pos} {mo : EM D}
theorem lbm {f : D → List D → Sto → Rs D} {r : V → List V → Hp → VK → Prop} (hp : PrM X W f r) {σ : L2.St} {H : Hp} {Q : VK} (h : lE X.K X.mg W (mBM T f mo ms) σ H Q) : tBM X.K T r (lE X.K X.mg W mo) (lA X.K X.mg W ms) σ H Q :=
  let ⟨ρ, env, s, sr, er, po⟩ := h
  ⟨ρ, env, s, sr, er, (Po.bind po).imp fun _ H1 ⟨ρ1, s1, d1, e1, sr1, r1, po1⟩ => by
    dsimp only at po1
    cases hty : isTy T s1 d1 with
    | false =>
      rw [hty, if_neg Bool.false_ne_true] at po1
      exact po1.elim
    | true =>
      rw [hty, if_pos rfl] at po1
      exact ⟨isTy_tyV sr1 r1 hty, ρ1, env, s1, sr1, er.mono e1, (Po.bind po1).imp fun _ _ ⟨ρ2, s2, d2, e2, sr2, r2, po2⟩ => hp ρ2 s2 _ σ _ _ _ _ Q sr2 (r1.mono e2) r2 po2⟩⟩
theorem je_bm {f : D → List D → Sto → Rs D} {r : V → List V → Hp → VK → Prop} (pa : PlainAttrs T) (slot : Slot T name id) (hty : typeOf (.builtin id) = pure (.type "method_descriptor")) (hm : MtR X id r) (hp : PrM X W f r) (ho : JE X W o mo) (ha : JA X W (e :: es) ms)
    (hbase : attributeBase o name X.env (eval o X.env) = eval o X.env := by rfl)
    (hfew : ((backTo cpos (starEach (e :: es) X.env)).all (fun x => !x.1) && (backToKw cpos (keywordEach [] X.env)).all (fun x => x.1.isSome)
      && decide ((e :: es).length + ([] : List Keyword).length + (if ([] : List Keyword).isEmpty then 0 else 1) < 30)) = true := by rfl)
    (hline : (apos.endLine == cpos.line) = true := by rfl) (hs : starEach (e :: es) X.env = (false, eval e X.env) :: starEach es X.env := by rfl) (hplain : (backTo cpos (starEach es X.env)).any (·.1) = false := by rfl) :
    JE X W (.Call (.Attribute o name apos) (e :: es) [] cpos) (mBM T f mo ms) := PE_imp (pe_bm pa slot hty hm ho ha hbase hfew hline hs hplain) fun _ _ _ => lbm hp
theorem je_bm0 {f : D → List D → Sto → Rs D} {r : V → List V → Hp → VK → Prop} (pa : PlainAttrs T) (slot : Slot T name id) (hty : typeOf (.builtin id) = pure (.type "method_descriptor")) (hm : MtR X id r) (hp : PrM X W f r) (ho : JE X W o mo)
    (hbase : attributeBase o name X.env (eval o X.env) = eval o X.env := by rfl) (hline : (apos.endLine == cpos.line) = true := by rfl) : JE X W (.Call (.Attribute o name apos) [] [] cpos) (mBM T f mo aN) :=
  PE_imp (pe_bm0 pa slot hty hm ho hbase hline) fun σ H Q ⟨ρ, env, s, sr, er, po⟩ => ⟨ρ, env, s, sr, er, (Po.bind po).imp fun _ H1 ⟨ρ1, s1, d1, e1, sr1, r1, po1⟩ => by
    dsimp only at po1
    cases hty : isTy T s1 d1 with
    | false =>
      rw [hty, if_neg Bool.false_ne_true] at po1
      exact po1.elim
    | true =>
      rw [hty, if_pos rfl] at po1
      exact ⟨isTy_tyV sr1 r1 hty, hp ρ1 s1 _ σ _ _ _ _ Q sr1 r1 VRs.nil po1⟩⟩
theorem je_ix {f : D → D → Sto → Rs D} {r : R2} (hr : IxR X r) (hp : Pr2 X W f r) (ha : JE X W a ma) (hb : JE X W b mb) (hs : PlainIx b := by exact fun _ _ => rfl) : JE X W (.Subscript a b pos) (m2 f ma mb) := PE_imp (pe_ix hr ha hb hs) fun _ _ _ => lop hp
/-! ### slices -/
abbrev RO : Rl (Option Int) (Option Int) := fun _ _ _ b c => b = c
abbrev JO (X : Cx) (W : WX) (e : Option Expr) (m : EM (Option Int)) : Prop := PO X e (lG X.K X.mg RO W m)
def oN : EM (Option Int) := fun _ s => .ok none s
def oS (m : EM D) : EM (Option Int) := fun env s => (m env s).bind fun d s1 => match d with
  | .int i => .ok (some i) s1
  | _ => .no
theorem PO_imp {e : Option Expr} {t t' : TO} (h : PO X e t) (i : ∀ σ H Q, t' σ H Q → t σ H Q) : PO X e t' := ⟨fun p s σ H Q I q => h.run p s σ H Q I (i σ H Q q)⟩
theorem jo_none : JO X W none oN := PO_imp po_none fun σ H Q ⟨ρ, env, s, sr, er, po⟩ => po ρ H _ Ext.refl sr rfl
theorem jo_some (h : JE X W a ma) : JO X W (some a) (oS ma) := PO_imp (po_some h) fun σ H Q ⟨ρ, env, s, sr, er, po⟩ => ⟨ρ, env, s, sr, er, (Po.bind po).imp fun v H1 ⟨ρ1, s1, d1, e1, sr1, r1, po1⟩ => by
  cases d1 with
  | int i =>
    have e : v = .int i := r1
    exact ⟨i, e, po1 ρ1 H1 _ Ext.refl sr1 rfl⟩
  | _ => exact po1.elim⟩
def PrS (X : Cx) (W : WX) (f : D → Option Int → Option Int → Sto → Rs D) (r : V → Option Int → Option Int → Hp → VK → Prop) : Prop :=
  ∀ (ρ : Nat → Addr) (s : Sto) (H : Hp) (σ : L2.St) (x : D) (vx : V) (lo hi : Option Int) (Q : VK), SR X.K X.mg ρ s H → VR X.K ρ s.length H x vx → Po X.K X.mg (VR X.K) W σ ρ s.length H (f x lo hi s) Q → r vx lo hi H Q
def mSl (f : D → Option Int → Option Int → Sto → Rs D) (ma : EM D) (ml mh : EM (Option Int)) : EM D := fun env s => (ma env s).bind fun x s1 => (ml env s1).bind fun lo s2 => (mh env s2).bind fun hi s3 => f x lo hi s3
theorem je_sl {f : D → Option Int → Option Int → Sto → Rs D} {r : V → Option Int → Option Int → Hp → VK → Prop} {lo hi : Option Expr} {ml mh : EM (Option Int)} {p2 : Pos} (hr : SlR X r) (hp : PrS X W f r) (he : JE X W a ma) (hl : JO X W lo ml) (hu : JO X W hi mh) :
    JE X W (.Subscript a (.Slice lo hi none p2) pos) (mSl f ma ml mh) := PE_imp (pe_slice hr he hl hu) fun σ H Q ⟨ρ, env, s, sr, er, po⟩ =>
  ⟨ρ, env, s, sr, er, (Po.bind po).imp fun _ _ ⟨ρ1, s1, d1, e1, sr1, r1, po1⟩ => ⟨ρ1, env, s1, sr1, er.mono e1, (Po.bind po1).imp fun _ _ ⟨ρ2, s2, d2, e2, sr2, r2, po2⟩ =>
    ⟨ρ2, env, s2, sr2, (er.mono e1).mono e2, (Po.bind po2).imp fun _ _ ⟨ρ3, s3, d3, e3, sr3, r3, po3⟩ => by
      cases r2
      cases r3
      exact hp ρ3 s3 _ σ _ _ _ _ Q sr3 ((r1.mono e2).mono e3) po3⟩⟩⟩
/-! ### displays -/
theorem new_tup {K : PySem.W.Frag} {mg : Str → Option Value} {ρ : Nat → Addr} {s : Sto} {H : Hp} {ds : List D} {vs : List V} {q : Addr} (sr : SR K mg ρ s H) (hq : H q = none) (r : VRs K ρ s.length H ds vs) :
    Ext ρ s.length H ρ s.length (upd H q (.tup vs)) ∧ SR K mg ρ s (upd H q (.tup vs)) ∧ VR K ρ s.length (upd H q (.tup vs)) (.tup ds) (.ref q) := by
  have st : ∀ b o, H b = some o → upd H q (.tup vs) b = some o := fun b o e => by rw [upd_ne (ne_of_none e hq)]; exact e
  refine ⟨Ext.same st, sr.grow st, ?_⟩
  rw [VR]
  exact ⟨q, vs, rfl, .of upd_same, r.mono (Ext.same st)⟩
theorem new_lst {K : PySem.W.Frag} {mg : Str → Option Value} {ρ : Nat → Addr} {s : Sto} {H : Hp} {ds : List D} {vs : List V} {q : Addr} (sr : SR K mg ρ s H) (hq : H q = none) (r : VRs K ρ s.length H ds vs) :
    Ext ρ s.length H (ρup ρ s.length q) (s ++ [SO.lst ds]).length (upd H q (.lst vs)) ∧ SR K mg (ρup ρ s.length q) (s ++ [.lst ds]) (upd H q (.lst vs)) ∧ VR K (ρup ρ s.length q) (s ++ [SO.lst ds]).length (upd H q (.lst vs)) (.ref s.length) (.ref q) := by
  have st : ∀ b o, H b = some o → upd H q (.lst vs) b = some o := fun b o e => by rw [upd_ne (ne_of_none e hq)]; exact e
  rw [List.length_append]
  refine ⟨Ext.alloc st, sr.alloc hq st ⟨vs, upd_same, r.mono (Ext.alloc st)⟩, ?_⟩
  rw [VR]
  exact ⟨by simp, by rw [ρup_same]⟩
def fTup : List D → Sto → Rs D := fun ds s => if ds.length ≤ sizeLine then .ok (.tup ds) s else .no
def fLst : List D → Sto → Rs D := fun ds s => if ds.length ≤ sizeLine then .ok (.ref s.length) (s ++ [.lst ds]) else .no
theorem je_tup {k : Nat} (h : JA X W es ms) : JE X W (.Tuple es k pos) (mN fTup ms) := PE_imp (pe_tup h) fun σ H Q ⟨ρ, env, s, sr, er, po⟩ => ⟨ρ, env, s, sr, er, (Po.bind po).imp fun _ H1 ⟨ρ1, s1, d1, e1, sr1, r1, po1⟩ => by
  obtain ⟨hl, po1⟩ := Po.ite (c := d1.length ≤ sizeLine) po1
  · refine ⟨by rw [r1.length]; exact hl, fun q hq => ?_⟩
    obtain ⟨e2, sr2, r2⟩ := new_tup sr1 hq r1
    exact po1 ρ1 _ _ e2 sr2 r2⟩
theorem je_lst (h : JA X W es ms) : JE X W (.List es pos) (mN fLst ms) := PE_imp (pe_lst h) fun σ H Q ⟨ρ, env, s, sr, er, po⟩ => ⟨ρ, env, s, sr, er, (Po.bind po).imp fun _ H1 ⟨ρ1, s1, d1, e1, sr1, r1, po1⟩ => by
  obtain ⟨hl, po1⟩ := Po.ite (c := d1.length ≤ sizeLine) po1
  · refine ⟨by rw [r1.length]; exact hl, fun q hq => ?_⟩
    obtain ⟨e2, sr2, r2⟩ := new_lst sr1 hq r1
    exact po1 _ _ _ e2 sr2 r2⟩
end
end Z

set_option Elab.async false
set_option linter.all false
set_option maxRecDepth 100000
set_option maxHeartbeats 4000000
namespace Z
open PySem PySem.Spec PyProof.Rows L2

/-! ### statements -/
def PoS (K : PySem.W.Frag) (mg : Str → Option Value) (W : WX) (D : Ends) (ρ : Nat → Addr) (n : Nat) (H : Hp) (r : RS) : Prop :=
  match r with
  | .nx e s' => ∀ ρ' H' σ', Ext ρ n H ρ' s'.length H' → SR K mg ρ' s' H' → EnvR K ρ' s'.length H' e σ' → D.nx σ' H'
  | .rt d s' => ∀ ρ' H' v, Ext ρ n H ρ' s'.length H' → SR K mg ρ' s' H' → VR K ρ' s'.length H' d v → D.rt v H'
  | .bk e s' => ∀ ρ' H' σ', Ext ρ n H ρ' s'.length H' → SR K mg ρ' s' H' → EnvR K ρ' s'.length H' e σ' → D.bk σ' H'
  | .ct e s' => ∀ ρ' H' σ', Ext ρ n H ρ' s'.length H' → SR K mg ρ' s' H' → EnvR K ρ' s'.length H' e σ' → D.ct σ' H'
  | .ex c f d e s' => ∀ ρ' H' σ' C dx v, Ext ρ n H ρ' s'.length H' → SR K mg ρ' s' H' → EnvR K ρ' s'.length H' e σ' → mg c = some (.ref C) → VR K ρ' s'.length H' d v → H' dx = some (.xd [(f, v)]) → W (.ref C) (some dx) σ' H'
  | .no => False
section
variable {K : PySem.W.Frag} {mg : Str → Option Value} {ρ ρ' ρ1 : Nat → Addr} {n n' n1 : Nat} {H H' H1 : Hp} {W : WX} {D : Ends}
theorem PoS.rebase {r : RS} (h : PoS K mg W D ρ n H r) (e : Ext ρ n H ρ1 n1 H1) : PoS K mg W D ρ1 n1 H1 r := by
  cases r with
  | nx env s => exact fun ρ' H' σ' e' => h ρ' H' σ' (e.trans e')
  | rt d s => exact fun ρ' H' v e' => h ρ' H' v (e.trans e')
  | bk env s => exact fun ρ' H' σ' e' => h ρ' H' σ' (e.trans e')
  | ct env s => exact fun ρ' H' σ' e' => h ρ' H' σ' (e.trans e')
  | ex c f d env s => exact fun ρ' H' σ' C dx v e' => h ρ' H' σ' C dx v (e.trans e')
  | no => exact h
def MidS (K : PySem.W.Frag) (mg : Str → Option Value) (ρ : Nat → Addr) (n : Nat) (H : Hp) (σ : L2.St) (H1 : Hp) (k : (Nat → Addr) → Ev → Sto → Prop) : Prop :=
  ∃ ρ1 env1 s1, Ext ρ n H ρ1 s1.length H1 ∧ SR K mg ρ1 s1 H1 ∧ EnvR K ρ1 s1.length H1 env1 σ ∧ k ρ1 env1 s1
theorem PoS.imp {D' : Ends} {r : RS} (h : PoS K mg W D ρ n H r) (h1 : ∀ σ H, D.nx σ H → D'.nx σ H) (h2 : ∀ v H, D.rt v H → D'.rt v H) (h3 : ∀ σ H, D.bk σ H → D'.bk σ H) (h4 : ∀ σ H, D.ct σ H → D'.ct σ H) : PoS K mg W D' ρ n H r := by
  cases r with
  | nx env s => exact fun ρ' H' σ' e sr er => h1 _ _ (h ρ' H' σ' e sr er)
  | rt d s => exact fun ρ' H' v e sr r => h2 _ _ (h ρ' H' v e sr r)
  | bk env s => exact fun ρ' H' σ' e sr er => h3 _ _ (h ρ' H' σ' e sr er)
  | ct env s => exact fun ρ' H' σ' e sr er => h4 _ _ (h ρ' H' σ' e sr er)
  | ex c f d env s => exact h
  | no => exact h
theorem PoS.seq {r : RS} {k : SM} (h : PoS K mg W D ρ n H (r.seq k)) :
    PoS K mg W { D with nx := fun σ H1 => MidS K mg ρ n H σ H1 fun ρ1 env1 s1 => PoS K mg W D ρ1 s1.length H1 (k env1 s1) } ρ n H r := by
  cases r with
  | nx env s => exact fun ρ' H' σ' e sr er => ⟨ρ', env, s, e, sr, er, PoS.rebase h e⟩
  | _ => exact h
theorem PoS.st {α β : Type} {R : Rl α β} {σ : L2.St} {r : Rs α} {env : Ev} {k : α → Sto → RS} (er : EnvR K ρ n H env σ) (h : PoS K mg W D ρ n H (r.st env k)) :
    Po K mg R W σ ρ n H r (fun v H1 => Mid K mg R ρ n H v H1 fun ρ1 s1 d => EnvR K ρ1 s1.length H1 env σ ∧ PoS K mg W D ρ1 s1.length H1 (k d s1)) := by
  cases r with
  | ok d s => exact fun ρ' H' v e sr r => ⟨ρ', s, d, e, sr, r, er.mono e, PoS.rebase h e⟩
  | ex c f d s => exact fun ρ' H' C dx v e sr => h ρ' H' σ C dx v e sr (er.mono e)
  | no => exact h
end
def lS (K : PySem.W.Frag) (mg : Str → Option Value) (W : WX) (m : SM) : TS :=
  fun D σ H => ∃ ρ env s, SR K mg ρ s H ∧ EnvR K ρ s.length H env σ ∧ PoS K mg W D ρ s.length H (m env s)
abbrev JS (X : Cx) (W : WX) (st : Stmt) (m : SM) : Prop := PS X st (lS X.K X.mg W m)
abbrev JSs (X : Cx) (W : WX) (st : List Stmt) (m : SM) : Prop := PSs X st (lS X.K X.mg W m)
def sN : SM := fun e s => .nx e s
def sC (a b : SM) : SM := fun e s => (a e s).seq b
def sA (i : Nat) (m : EM D) : SM := fun e s => (m e s).st e fun d s1 => .nx (e.set i (some d)) s1
def sE (m : EM D) : SM := fun e s => (m e s).st e fun _ s1 => .nx e s1
def sR (m : EM D) : SM := fun e s => (m e s).st e fun d s1 => .rt d s1
def sR0 : SM := fun _ s => .rt .non s
def sI (t : EM Bool) (a b : SM) : SM := fun e s => (t e s).st e fun q s1 => if q then a e s1 else b e s1
def sNo : SM := fun _ _ => .no
section
variable {X : Cx} {W : WX} {st : Stmt} {rest : List Stmt} {a b : SM} {e : Expr} {m : EM D} {pos : Pos}
theorem js_nil : JSs X W [] sN := PSs_imp pss_nil fun σ H D ⟨ρ, env, s, sr, er, po⟩ => po ρ H σ Ext.refl sr er
theorem js_cons (h1 : JS X W st a) (h2 : JSs X W rest b) : JSs X W (st :: rest) (sC a b) := PSs_imp (pss_cons h1 h2) fun σ H D ⟨ρ, env, s, sr, er, po⟩ =>
  ⟨ρ, env, s, sr, er, (PoS.seq po).imp (fun σ1 H1 ⟨ρ1, env1, s1, e1, sr1, er1, po1⟩ => ⟨ρ1, env1, s1, sr1, er1, po1⟩) (fun _ _ h => h) (fun _ _ h => h) fun _ _ h => h⟩
theorem js_one (h1 : JS X W st a) : JSs X W [st] a := pss_one h1
theorem js_pass : JS X W (.Pass pos) sN := PS_imp ps_pass fun σ H D ⟨ρ, env, s, sr, er, po⟩ => po ρ H σ Ext.refl sr er
theorem js_break : JS X W (.Break pos) (fun e s => .bk e s) := PS_imp ps_break fun σ H D ⟨ρ, env, s, sr, er, po⟩ => po ρ H σ Ext.refl sr er
theorem js_cont : JS X W (.Continue pos) (fun e s => .ct e s) := PS_imp ps_continue fun σ H D ⟨ρ, env, s, sr, er, po⟩ => po ρ H σ Ext.refl sr er
theorem js_no : JS X W st sNo := PS_imp ps_never fun σ H D ⟨ρ, env, s, sr, er, po⟩ => po
theorem jss_no : JSs X W rest sNo := PSs_imp pss_never fun σ H D ⟨ρ, env, s, sr, er, po⟩ => po
theorem js_expr (he : JE X W e m) (hs : swapsWith e none pos.line X.env = pure false := by rfl) : JS X W (.Expr e pos) (sE m) := PS_imp (ps_expr he hs) fun σ H D ⟨ρ, env, s, sr, er, po⟩ =>
  ⟨ρ, env, s, sr, er, (PoS.st (R := VR X.K) er po).imp fun v H1 ⟨ρ1, s1, d1, e1, sr1, r1, er1, po1⟩ => po1 ρ1 H1 σ Ext.refl sr1 er1⟩
theorem js_ret (he : JE X W e m) : JS X W (.Return (some e) pos) (sR m) := PS_imp (ps_ret he) fun σ H D ⟨ρ, env, s, sr, er, po⟩ =>
  ⟨ρ, env, s, sr, er, (PoS.st (R := VR X.K) er po).imp fun v H1 ⟨ρ1, s1, d1, e1, sr1, r1, er1, po1⟩ => po1 ρ1 H1 v Ext.refl sr1 r1⟩
theorem js_ret0 : JS X W (.Return none pos) sR0 := PS_imp ps_retN fun σ H D ⟨ρ, env, s, sr, er, po⟩ => po ρ H .non Ext.refl sr rfl
theorem js_if {c : Expr} {t : EM Bool} {as bs : List Stmt} (ht : JT X W c t) (ha : JSs X W as a) (hb : JSs X W bs b) : JS X W (.If c as bs pos) (sI t a b) := PS_imp (ps_if ht ha hb) fun σ H D ⟨ρ, env, s, sr, er, po⟩ =>
  ⟨ρ, env, s, sr, er, (PoS.st (R := RB) er po).imp fun v H1 ⟨ρ1, s1, d1, e1, sr1, r1, er1, po1⟩ => by
    have q : d1 = v := r1
    subst q
    cases d1 with
    | true => exact ⟨ρ1, env, s1, sr1, er1, po1⟩
    | false => exact ⟨ρ1, env, s1, sr1, er1, po1⟩⟩
/-! ### assignments -/
/-- a target's store -/
abbrev GM := D → Ev → Sto → Option (Ev × Sto)
def PrG (X : Cx) (g : TG) (f : GM) : Prop :=
  ∀ (ρ : Nat → Addr) (s : Sto) (H : Hp) (σ : L2.St) (env : Ev) (x : D) (vx : V) (Q : L2.St → Hp → Prop) (env' : Ev) (s' : Sto), SR X.K X.mg ρ s H → EnvR X.K ρ s.length H env σ → VR X.K ρ s.length H x vx → f x env s = some (env', s') →
    (∀ ρ' H' σ', Ext ρ s.length H ρ' s'.length H' → SR X.K X.mg ρ' s' H' → EnvR X.K ρ' s'.length H' env' σ' → Q σ' H') → g vx σ H Q
/-- targets that keep the store: names, tuples of names -/
abbrev GN := D → Ev → Option Ev
def gN (i : Nat) : GN := fun d e => some (e.set i (some d))
def gTs : List GN → List D → Ev → Option Ev
  | [], [], e => some e
  | g :: gs, d :: ds, e => (g d e).bind fun e' => gTs gs ds e'
  | _, _, _ => none
def gT (gs : List GN) : GN := fun d e => match d with
  | .tup ds => gTs gs ds e
  | _ => none
theorem wipe_set {σ : L2.St} {i : Nat} {v : Option V} : ∀ {vs : List Nat}, i ∈ vs → wipe (σ.set i v) vs = wipe σ vs
  | [], h => by simp at h
  | w :: vs, h => by
    show (wipe (σ.set i v) vs).set w none = (wipe σ vs).set w none
    by_cases hm : i ∈ vs
    · rw [wipe_set hm]
    · have hw : i = w := by
        rcases List.mem_cons.mp h with h | h
        · exact h
        · exact absurd h hm
      subst hw
      have out : ∀ {us : List Nat}, i ∉ us → wipe (σ.set i v) us = (wipe σ us).set i v := by
        intro us
        induction us with
        | nil => intro _; rfl
        | cons u us ih =>
          intro hu
          simp only [List.mem_cons, not_or] at hu
          show (wipe (σ.set i v) us).set u none = ((wipe σ us).set u none).set i v
          rw [ih hu.2, List.set_comm _ _ hu.1]
      rw [out hm, List.set_set]
/-- a target's reading: it sets the slots at is alone -/
def GQ (K : PySem.W.Frag) (f : GN) (is : List Nat) (g : TG) : Prop :=
  ∀ (ρ : Nat → Addr) (s : Sto) (H : Hp) (σ : L2.St) (env env' : Ev) (x : D) (vx : V) (Q : L2.St → Hp → Prop), EnvR K ρ s.length H env σ → VR K ρ s.length H x vx → f x env = some env' →
    (∀ σ', EnvR K ρ s.length H env' σ' → (∀ vs, (∀ i ∈ is, i ∈ vs) → wipe σ' vs = wipe σ vs) → Q σ' H) → g vx σ H Q
def GQs (K : PySem.W.Frag) (fs : List GN) (is : List Nat) (g : TGs) : Prop :=
  ∀ (ρ : Nat → Addr) (s : Sto) (H : Hp) (σ : L2.St) (env env' : Ev) (xs : List D) (vs : List V) (Q : L2.St → Hp → Prop), EnvR K ρ s.length H env σ → VRs K ρ s.length H xs vs → gTs fs xs env = some env' →
    (∀ σ', EnvR K ρ s.length H env' σ' → (∀ vs, (∀ i ∈ is, i ∈ vs) → wipe σ' vs = wipe σ vs) → Q σ' H) → g vs σ H Q
theorem gq_n {K : PySem.W.Frag} {i : Nat} : GQ K (gN i) [i] (gName i) := fun ρ s H σ env env' x vx Q er r e q => by
  cases e
  exact q _ (er.set r) fun vs h => wipe_set (h i (by simp))
theorem gqs_nil {K : PySem.W.Frag} : GQs K [] [] gNil := fun ρ s H σ env env' xs vs Q er r e q => by
  cases xs with
  | nil =>
    rw [VRs] at r
    subst r
    cases e
    exact ⟨rfl, q _ er fun _ _ => rfl⟩
  | cons _ _ => cases e
theorem gqs_cons {K : PySem.W.Frag} {f : GN} {fs : List GN} {is js : List Nat} {g : TG} {gs : TGs} (h : GQ K f is g) (hs : GQs K fs js gs) : GQs K (f :: fs) (is ++ js) (gCons g gs) := fun ρ s H σ env env' xs vs Q er r e k => by
  cases xs with
  | nil => cases e
  | cons x xs =>
    obtain ⟨v, vr, rfl, r1, r2⟩ := r.uncons
    obtain ⟨e1, h1, h2⟩ := Option.bind_eq_some_iff.mp e
    exact ⟨v, vr, rfl, h ρ s H σ env e1 x v _ er r1 h1 fun σ' er' w1 => hs ρ s H σ' e1 env' xs vr Q er' r2 h2 fun σ2 er2 w2 => k σ2 er2 fun vs hv => (w2 vs fun i hi => hv i (List.mem_append_right _ hi)).trans (w1 vs fun i hi => hv i (List.mem_append_left _ hi))⟩
theorem gTs_len : ∀ {fs : List GN} {xs : List D} {e e' : Ev}, gTs fs xs e = some e' → xs.length = fs.length
  | [], [], _, _, _ => rfl
  | [], _ :: _, _, _, h => by cases h
  | _ :: _, [], _, _, h => by cases h
  | f :: fs, x :: xs, e, e', h => by
    obtain ⟨e1, h1, h2⟩ := Option.bind_eq_some_iff.mp h
    rw [List.length_cons, List.length_cons, gTs_len h2]
theorem gq_t {K : PySem.W.Frag} {fs : List GN} {is : List Nat} {gs : TGs} {n : Nat} (h : GQs K fs is gs) (hn : fs.length = n := by rfl) : GQ K (gT fs) is (gTup K n gs) := fun ρ s H σ env env' x vx Q er r e k => by
  cases x with
  | tup ds =>
    rw [VR] at r
    obtain ⟨a, vs, rfl, sq, r⟩ := r
    exact ⟨a, vs, rfl, sq, by rw [r.length, gTs_len e, hn], h ρ s H σ env env' ds vs Q er r e k⟩
  | _ => cases e
/-- target = e -/
def sG (g : GN) (m : EM D) : SM := fun e s => (m e s).st e fun d s1 => match g d e with
  | some e' => .nx e' s1
  | none => .no
theorem js_asg {tg : Expr} {g : GN} {g' : TG} {is : List Nat} (he : JE X W e m) (hg' : PG X tg g') (q : GQ X.K g is g') (hs : swapsWithSole [tg] e pos.line X.env = pure false := by rfl) (hw : swappedStores [tg] e X.env = pure none := by rfl)
    (h1 : (assignEach [tg] X.env).map (·.2) = [assign tg X.env] := by rfl) : JS X W (.Assign [tg] e pos) (sG g m) := by
  refine PS_imp (ps_asg he hg' hs hw h1) fun σ H D ⟨ρ, env, s, sr, er, po⟩ => ⟨ρ, env, s, sr, er, (PoS.st (R := VR X.K) er po).imp fun v H1 ⟨ρ1, s1, d1, e1, sr1, r1, er1, po1⟩ => ?_⟩
  cases hq : g d1 env with
  | none => rw [hq] at po1; exact po1.elim
  | some env' =>
    rw [hq] at po1
    exact q ρ1 s1 H1 σ env env' d1 v _ er1 r1 hq fun σ' er' _ => po1 ρ1 H1 σ' Ext.refl sr1 er'
theorem js_set {i : Nat} {x : Str} {pos' : Pos} (hN : X.N.Nodup) (hi : X.N[i]? = some x) (hx : Loc X.env.scope x) (he : JE X W e m) (hs : swapsWith e (some (.Name x pos')) pos.line X.env = pure false := by rfl) (hf : X.fn x = true ∨ X.env.scope.names.lookup x = some .local := by first | exact .inl rfl | exact .inr rfl | assumption) :
    JS X W (.Assign [.Name x pos'] e pos) (sA i m) := PS_imp (ps_set hN hi hx he hs hf) fun σ H D ⟨ρ, env, s, sr, er, po⟩ =>
  ⟨ρ, env, s, sr, er, (PoS.st (R := VR X.K) er po).imp fun v H1 ⟨ρ1, s1, d1, e1, sr1, r1, er1, po1⟩ => po1 ρ1 H1 _ Ext.refl sr1 (er1.set r1)⟩
/-- a, b = x, y -/
def sP (i j : Nat) (ms : EM (List D)) : SM := fun e s => (ms e s).st e fun ds s1 => match ds with
  | [x, y] => .nx ((e.set i (some x)).set j (some y)) s1
  | _ => .no
theorem js_par {i j : Nat} {x y : Str} {ea eb : Expr} {ms : EM (List D)} {px py pt : Pos} {kt k2 pt2} (hc : X.calm = true) (hN : X.N.Nodup) (hi : X.N[i]? = some x) (hj : X.N[j]? = some y) (hij : i ≠ j)
    (hx : X.env.scope.names.lookup x = some .local) (hy : X.env.scope.names.lookup y = some .local) (ha : JA X W [ea, eb] ms)
    (hw : swappedStores [.Tuple [.Name x px, .Name y py] kt pt] (.Tuple [ea, eb] k2 pt2) X.env = pure (some [x, y]))
    (hs : swapsWithSole [.Tuple [.Name x px, .Name y py] kt pt] (.Tuple [ea, eb] k2 pt2) pos.line X.env = pure false := by rfl) :
    JS X W (.Assign [.Tuple [.Name x px, .Name y py] kt pt] (.Tuple [ea, eb] k2 pt2) pos) (sP i j ms) := PS_imp (ps_par hc hN hi hj hij hx hy ha hw hs) fun σ H D ⟨ρ, env, s, sr, er, po⟩ =>
  ⟨ρ, env, s, sr, er, (PoS.st (R := VRs X.K) er po).imp fun v H1 ⟨ρ1, s1, d1, e1, sr1, r1, er1, po1⟩ => by
    split at po1
    · rename_i x y
      obtain ⟨v1, vr, rfl, r2, r3⟩ := r1.uncons
      obtain ⟨v2, rfl, r4⟩ := r3.one
      exact ⟨v1, v2, rfl, po1 ρ1 H1 _ Ext.refl sr1 ((er1.set r2).set r4)⟩
    · exact po1.elim⟩
/-- o[i] = e -/
def PrSet (X : Cx) (f : D → D → D → Sto → Option Sto) (t : TSet) : Prop :=
  ∀ (ρ : Nat → Addr) (s s' : Sto) (H : Hp) (o i x : D) (vo vi vx : V) (Q : Hp → Prop), SR X.K X.mg ρ s H → VR X.K ρ s.length H o vo → VR X.K ρ s.length H i vi → VR X.K ρ s.length H x vx → f o i x s = some s' →
    (∀ ρ' H', Ext ρ s.length H ρ' s'.length H' → SR X.K X.mg ρ' s' H' → Q H') → t vo vi vx H Q
def sX (f : D → D → D → Sto → Option Sto) (mo mi m : EM D) : SM := fun e s => (m e s).st e fun x s1 => (mo e s1).st e fun o s2 => (mi e s2).st e fun i s3 => match f o i x s3 with
  | some s4 => .nx e s4
  | none => .no
theorem js_sub {o i : Expr} {mo mi : EM D} {f : D → D → D → Sto → Option Sto} {t : TSet} {spos : Pos} (ht : PSet X t) (hp : PrSet X f t) (he : JE X W e m) (ho : JE X W o mo) (hi : JE X W i mi)
    (ha : ∀ v, assign (.Subscript o i spos) X.env v = (do
      let ov ← holding [v] (eval o X.env)
      let iv ← holding [v, ov] (eval i X.env)
      standAt spos
      holding [v, ov, iv] (setItem ov iv v)
      release [v, ov, iv] []) := by intro _; rfl)
    (hs : swapsWithSole [.Subscript o i spos] e pos.line X.env = pure false := by rfl) (hw : swappedStores [.Subscript o i spos] e X.env = pure none := by rfl)
    (h1 : (assignEach [.Subscript o i spos] X.env).map (·.2) = [assign (.Subscript o i spos) X.env] := by rfl) : JS X W (.Assign [.Subscript o i spos] e pos) (sX f mo mi m) :=
  PS_imp (ps_asg he (pg_sub ho hi ht ha) hs hw h1) fun σ H D ⟨ρ, env, s, sr, er, po⟩ => ⟨ρ, env, s, sr, er, (PoS.st (R := VR X.K) er po).imp fun v H1 ⟨ρ1, s1, d1, e1, sr1, r1, er1, po1⟩ =>
    ⟨ρ1, env, s1, sr1, er1, (PoS.st (R := VR X.K) er1 po1).imp fun v2 H2 ⟨ρ2, s2, d2, e2, sr2, r2, er2, po2⟩ =>
      ⟨ρ2, env, s2, sr2, er2, (PoS.st (R := VR X.K) er2 po2).imp fun v3 H3 ⟨ρ3, s3, d3, e3, sr3, r3, er3, po3⟩ => by
        cases hq : f d2 d3 d1 s3 with
        | none => rw [hq] at po3; exact po3.elim
        | some s4 =>
          rw [hq] at po3
          exact hp ρ3 s3 s4 H3 d2 d3 d1 v2 v3 v _ sr3 (r2.mono e3) r3 ((r1.mono e2).mono e3) hq fun ρ' H' e4 sr4 => po3 ρ' H' σ e4 sr4 (er3.mono e4)⟩⟩⟩
end
end Z

set_option Elab.async false
set_option linter.all false
set_option maxRecDepth 100000
set_option maxHeartbeats 4000000
namespace Z
open PySem PySem.Spec PyProof.Rows L2

/-! ### what is walked: at turn i over the store: none: stuck; some none: the end; else the item -/
abbrev Stp := Nat → Sto → Option (Option D)
def RI (K : PySem.W.Frag) (mg : Str → Option Value) : Rl (Nat × Stp) It := fun ρ n H jt J =>
  ∀ (ρ' : Nat → Addr) (s' : Sto) (H' : Hp) (i : Nat), Ext ρ n H ρ' s'.length H' → SR K mg ρ' s' H' → match jt.2 i s' with
    | none => True
    | some none => J.stop i H'
    | some (some d) => J.go i H' ∧ ∀ x H'', J.yld i H' x H'' → Ext ρ' s'.length H' ρ' s'.length H'' ∧ SR K mg ρ' s' H'' ∧ VR K ρ' s'.length H'' d x
abbrev JI (X : Cx) (W : WX) (tg iter : Expr) (mi : EM (Nat × Stp)) : Prop := PI X tg iter (lG X.K X.mg (RI X.K X.mg) W mi)
theorem PI_imp {X : Cx} {tg e : Expr} {t t' : TI} (h : PI X tg e t) (i : ∀ σ H Q, t' σ H Q → t σ H Q) : PI X tg e t' := ⟨fun p s σ H Q I q => h.run p s σ H Q I (i σ H Q q)⟩
def jLst (n : Nat) : Stp := fun i s => match s[n]? with
  | some (.lst xs) => some xs[i]?
  | some (.frz xs) => some xs[i]?
  | _ => none
def jTup (ds : List D) : Stp := fun i _ => some ds[i]?
def jRng (lo : Int) (n : Nat) : Stp := fun i _ => some (if i < n then some (.int (lo + i)) else none)
/-- a list or a tuple -/
def iSq (m : EM D) : EM (Nat × Stp) := fun e s => (m e s).bind fun d s1 => match d with
  | .tup ds => .ok (ds.length, jTup ds) s1
  | .ref n => match s1[n]? with
    | some (.lst xs) => .ok (xs.length, jLst n) s1
    | some (.frz xs) => .ok (xs.length, jLst n) s1
    | _ => .no
  | _ => .no
section
variable {K : PySem.W.Frag} {mg : Str → Option Value} {ρ : Nat → Addr} {s : Sto} {H : Hp}
/-- a place that is a list is read -/
def lstAt (s : Sto) (n : Nat) : Option (List D) := match s[n]? with
  | some (.lst xs) => some xs
  | some (.frz xs) => some xs
  | _ => none
theorem SR.lst (sr : SR K mg ρ s H) {n : Nat} {xs : List D} (h : lstAt s n = some xs) : ∃ vs, SqL K H (ρ n) vs ∧ VRs K ρ s.length H xs vs := by
  unfold lstAt at h
  cases e : s[n]? with
  | none => rw [e] at h; cases h
  | some o =>
    rw [e] at h
    have ob := sr.ob n o e
    cases o with
    | lst ys =>
      cases h
      obtain ⟨vs, q, r⟩ := ob
      exact ⟨vs, .of q, r⟩
    | frz ys =>
      cases h
      obtain ⟨vs, q, r⟩ := ob
      exact ⟨vs, q.sq, r⟩
    | _ => cases h
theorem lstAt_lt {n : Nat} {xs : List D} (h : lstAt s n = some xs) : n < s.length := by
  unfold lstAt at h
  cases e : s[n]? with
  | none => rw [e] at h; cases h
  | some o => exact (List.getElem?_eq_some_iff.mp e).1
theorem jLst_eq (n i : Nat) (s : Sto) : jLst n i s = (lstAt s n).map fun xs => xs[i]? := by
  unfold jLst lstAt
  cases s[n]? with
  | none => rfl
  | some o => cases o <;> rfl
end
section
variable {X : Cx} {W : WX} {pos : Pos}
theorem SqL_fun {K : PySem.W.Frag} {H : Hp} {a : Addr} {xs ys : List V} (h : SqL K H a xs) (h' : SqL K H a ys) (nk : (∃ o, H a = some o) → K.lookup a = none ∨ True) : True := trivial
/-- the list walked: what is yielded is its item -/
theorem ri_lst {ρ : Nat → Addr} {n m : Nat} {H : Hp} {N : Nat} (hm : m < n) : RI X.K X.mg ρ n H (N, jLst m) (Itl X.K (ρ m)) := by
  intro ρ' s' H' i e sr
  show match jLst m i s' with
    | none => True
    | some none => _
    | some (some d) => _
  rw [jLst_eq]
  cases h : lstAt s' m with
  | none => trivial
  | some xs =>
    obtain ⟨vs, sq, r⟩ := sr.lst h
    rw [e.ag m hm] at sq
    cases hx : xs[i]? with
    | none =>
      simp only [Option.map, hx]
      exact ⟨vs, sq, by rw [r.length]; exact List.getElem?_eq_none_iff.mp hx⟩
    | some d =>
      simp only [Option.map, hx]
      obtain ⟨v, hv, rv⟩ := r.get hx
      refine ⟨⟨vs, v, sq, hv⟩, fun x H'' y => ?_⟩
      obtain ⟨rfl, y⟩ := y
      have q := y vs sq
      rw [hv] at q
      cases q
      exact ⟨Ext.refl, sr, rv⟩
theorem ri_tup {ρ : Nat → Addr} {n : Nat} {H : Hp} {N : Nat} {ds : List D} {vs : List V} {a : Addr} (sq : SqT X.K H a vs) (r : VRs X.K ρ n H ds vs) : RI X.K X.mg ρ n H (N, jTup ds) (Itt X.K a) := by
  intro ρ' s' H' i e sr
  show match some ds[i]? with
    | none => True
    | some none => _
    | some (some d) => _
  have r' := r.mono e
  have sq' := e.sqt sq
  cases hx : ds[i]? with
  | none => exact ⟨vs, sq', by rw [r'.length]; exact List.getElem?_eq_none_iff.mp hx⟩
  | some d =>
    obtain ⟨v, hv, rv⟩ := r'.get hx
    refine ⟨⟨vs, v, sq', hv⟩, fun x H'' y => ?_⟩
    obtain ⟨rfl, y⟩ := y
    have q := y vs sq'
    rw [hv] at q
    cases q
    exact ⟨Ext.refl, sr, rv⟩
theorem ri_rng {ρ : Nat → Addr} {n : Nat} {H : Hp} {N : Nat} {lo : Int} {k : Nat} : RI X.K X.mg ρ n H (N, jRng lo k) (Itr lo k) := by
  intro ρ' s' H' i e sr
  show match some (if i < k then some (D.int (lo + i)) else none) with
    | none => True
    | some none => _
    | some (some d) => _
  by_cases h : i < k
  · rw [if_pos h]
    refine ⟨h, fun x H'' y => ?_⟩
    obtain ⟨rfl, rfl⟩ := y
    exact ⟨Ext.refl, sr, rfl⟩
  · rw [if_neg h]
    exact Nat.le_of_not_lt h
variable {tg l : Expr} {m : EM D}
/-- the walk's two kinds -/
def iLsT (K : PySem.W.Frag) (tl : TE) : TI := fun σ H R => tl σ H fun x H1 => ∃ a, x = .ref a ∧ ((∃ xs, SqL K H1 a xs) ∧ R (Itl K a) H1 ∨ (∃ xs, SqT K H1 a xs) ∧ R (Itt K a) H1)
theorem pi_sq {tl : TE} (hl : PE X l tl) : PI X tg l (iLsT X.K tl) := by
  refine ⟨fun pins s σ H R I h => ?_⟩
  refine thn (hl.run pins s σ H _ I h) fun v s1 ⟨x, H1, I1, r1, q1⟩ => ?_
  obtain ⟨a, e, q⟩ := q1
  subst e
  cases r1
  rcases q with ⟨⟨xs, hq⟩, q⟩ | ⟨⟨xs, hq⟩, q⟩
  · obtain ⟨its, rv, p, hz⟩ := I1.list hq
    refine wpAny_pyIter_list p.isList ?_
    refine ⟨s1.heap.objs.size, [s1.heap.objs.size], _, _, H1, rfl, I1.kept (t' := s1.toks) fun b o e => Heap.get?_push_of_some _ e, turn_list a _, ⟨_, Heap.get?_push_size _ rfl, rfl, rfl⟩, fun b hb => ?_, q⟩
    have e : b = s1.heap.objs.size := by simpa using hb
    subst e
    exact I1.fpOk (Nat.le_refl _) (I1.hok.fresh (Nat.le_refl _))
  · obtain ⟨its, rv, p, hz⟩ := I1.tuple hq
    refine wpAny_pyIter_tuple (show s1.heap.IsTuple a its.toArray from p) ?_
    refine ⟨s1.heap.objs.size, [s1.heap.objs.size], _, _, H1, rfl, I1.kept (t' := s1.toks) fun b o e => Heap.get?_push_of_some _ e, turn_tuple a _, ⟨_, Heap.get?_push_size _ rfl, rfl, rfl⟩, fun b hb => ?_, q⟩
    have e : b = s1.heap.objs.size := by simpa using hb
    subst e
    exact I1.fpOk (Nat.le_refl _) (I1.hok.fresh (Nat.le_refl _))
theorem ji_sq (hl : JE X W l m) : JI X W tg l (iSq m) := PI_imp (pi_sq hl) fun σ H Q ⟨ρ, env, s, sr, er, po⟩ => ⟨ρ, env, s, sr, er, (Po.bind po).imp fun v H1 ⟨ρ1, s1, d1, e1, sr1, r1, po1⟩ => by
  cases d1 with
  | tup ds =>
    rw [VR] at r1
    obtain ⟨a, vs, rfl, sq, r⟩ := r1
    exact ⟨a, rfl, .inr ⟨⟨vs, sq⟩, po1 ρ1 H1 _ Ext.refl sr1 (ri_tup sq r)⟩⟩
  | ref n =>
    rw [VR] at r1
    obtain ⟨hn, rfl⟩ := r1
    have po2 : Po X.K X.mg (RI X.K X.mg) W σ ρ1 s1.length H1 (match s1[n]? with
      | some (.lst xs) => .ok (xs.length, jLst n) s1
      | some (.frz xs) => .ok (xs.length, jLst n) s1
      | _ => .no) Q := po1
    cases e : s1[n]? with
    | none => rw [e] at po2; exact po2.elim
    | some o =>
      rw [e] at po2
      cases o with
      | lst xs =>
        obtain ⟨vs, sq, _⟩ := sr1.lst (n := n) (xs := xs) (by unfold lstAt; rw [e])
        exact ⟨_, rfl, .inl ⟨⟨vs, sq⟩, po2 ρ1 H1 _ Ext.refl sr1 (ri_lst hn)⟩⟩
      | frz xs =>
        obtain ⟨vs, sq, _⟩ := sr1.lst (n := n) (xs := xs) (by unfold lstAt; rw [e])
        exact ⟨_, rfl, .inl ⟨⟨vs, sq⟩, po2 ρ1 H1 _ Ext.refl sr1 (ri_lst hn)⟩⟩
      | _ => exact po2.elim
  | _ => exact po1.elim⟩
/-- range(n), range(a, b) -/
def iR1 (ms : EM (List D)) : EM (Nat × Stp) := fun e s => (ms e s).bind fun ds s1 => match ds with
  | [.int j] => if -(2 ^ 62) ≤ j ∧ j < 2 ^ 62 then .ok (j.toNat, jRng 0 j.toNat) s1 else .no
  | _ => .no
def iR2 (ms : EM (List D)) : EM (Nat × Stp) := fun e s => (ms e s).bind fun ds s1 => match ds with
  | [.int i, .int j] => if -(2 ^ 62) ≤ i ∧ i < 2 ^ 62 ∧ -(2 ^ 62) ≤ j ∧ j < 2 ^ 62 then .ok ((j - i).toNat, jRng i (j - i).toNat) s1 else .no
  | _ => .no
variable {a b : Expr} {ms : EM (List D)} {p : Pos}
theorem ji_range1 (hg : Gl X "range") (hm : X.mg "range" = none) (ha : JA X W [a] ms) (hs : starEach [a] X.env = [(false, eval a X.env)] := by rfl) : JI X W tg (.Call (.Name "range" p) [a] [] pos) (iR1 ms) :=
  PI_imp (pi_range1 hg hm ha hs) fun σ H Q ⟨ρ, env, s, sr, er, po⟩ => ⟨ρ, env, s, sr, er, (Po.bind po).imp fun v H1 ⟨ρ1, s1, d1, e1, sr1, r1, po1⟩ => by
    dsimp only at po1
    split at po1
    · rename_i j
      obtain ⟨u, rfl, ru⟩ := r1.one
      obtain rfl : u = .int j := ru
      obtain ⟨⟨h1, h2⟩, po1⟩ := Po.ite po1
      exact ⟨j, rfl, h1, h2, po1 ρ1 H1 _ Ext.refl sr1 ri_rng⟩
    · exact po1.elim⟩
theorem ji_range2 (hg : Gl X "range") (hm : X.mg "range" = none) (ha : JA X W [a, b] ms) (hs : starEach [a, b] X.env = [(false, eval a X.env), (false, eval b X.env)] := by rfl) (hs2 : starEach [b] X.env = [(false, eval b X.env)] := by rfl) : JI X W tg (.Call (.Name "range" p) [a, b] [] pos) (iR2 ms) :=
  PI_imp (pi_range2 hg hm ha hs hs2) fun σ H Q ⟨ρ, env, s, sr, er, po⟩ => ⟨ρ, env, s, sr, er, (Po.bind po).imp fun v H1 ⟨ρ1, s1, d1, e1, sr1, r1, po1⟩ => by
    dsimp only at po1
    split at po1
    · rename_i i j
      obtain ⟨u, vr, rfl, ru, rr⟩ := r1.uncons
      obtain ⟨u2, rfl, ru2⟩ := rr.one
      obtain rfl : u = .int i := ru
      obtain rfl : u2 = .int j := ru2
      obtain ⟨hb, po1⟩ := Po.ite po1
      exact ⟨i, j, rfl, hb, po1 ρ1 H1 _ Ext.refl sr1 ri_rng⟩
    · exact po1.elim⟩
end

/-! ### for, while -/
def forL (j : Stp) (g : GN) (body : SM) : Nat → Nat → Ev → Sto → RS
  | 0, i, e, s => match j i s with
    | some none => .nx e s
    | _ => .no
  | f + 1, i, e, s => match j i s with
    | none => .no
    | some none => .nx e s
    | some (some d) => match g d e with
      | none => .no
      | some e1 => match body e1 s with
        | .nx e2 s2 => forL j g body f (i + 1) e2 s2
        | .ct e2 s2 => forL j g body f (i + 1) e2 s2
        | .bk e2 s2 => .nx e2 s2
        | r => r
def sF (mi : EM (Nat × Stp)) (g : GN) (body : SM) : SM := fun e s => (mi e s).st e fun jt s1 => forL jt.2 g body jt.1 0 e s1
def whL (t : EM Bool) (body : SM) : Nat → Ev → Sto → RS
  | 0, _, _ => .no
  | f + 1, e, s => (t e s).st e fun q s1 => if q then match body e s1 with
      | .nx e2 s2 => whL t body f e2 s2
      | .ct e2 s2 => whL t body f e2 s2
      | .bk e2 s2 => .nx e2 s2
      | r => r
    else .nx e s1
def sW (f : Nat) (t : EM Bool) (body : SM) : SM := fun e s => whL t body f e s
section
variable {X : Cx} {W : WX} {pos : Pos}
theorem js_for {tg iter : Expr} {body : List Stmt} {mi : EM (Nat × Stp)} {g : GN} {g' : TG} {is : List Nat} {mb : SM} (hp : PassesOwn (model X.prog X.w) X.A X.env X.xe) (hc : X.calm = true) (hi : JI X W tg iter mi) (hg' : PG X tg g') (gq : GQ X.K g is g') (hb : JSs X W body mb)
    (hs : ∀ x, foldedSetIterable iter X.env x = pure x := by intro _; rfl) : JS X W (.For tg iter body [] pos) (sF mi g mb) := by
  refine PS_imp (ps_for hp hc hi hg' hb hs) fun σ H D ⟨ρ, env, s, sr, er, po⟩ => ⟨ρ, env, s, sr, er, (PoS.st (R := RI X.K X.mg) er po).imp fun J H1 ⟨ρ1, s1, jt, e1, sr1, ri, er1, po1⟩ => ?_⟩
  refine ⟨fun i m σ2 H2 => ∃ ρ2 env2 s2, Ext ρ1 s1.length H1 ρ2 s2.length H2 ∧ SR X.K X.mg ρ2 s2 H2 ∧ EnvR X.K ρ2 s2.length H2 env2 σ2 ∧ PoS X.K X.mg W D ρ2 s2.length H2 (forL jt.2 g mb m i env2 s2), ⟨jt.1, ρ1, env, s1, Ext.refl, sr1, er1, po1⟩, ?_⟩
  rintro i m σ2 H2 ⟨ρ2, env2, s2, x2, sr2, er2, po2⟩
  have hj := ri ρ2 s2 H2 i x2 sr2
  cases m with
  | zero =>
    rw [forL] at po2
    cases e : jt.2 i s2 with
    | none => rw [e] at po2; exact po2.elim
    | some o =>
      rw [e] at po2 hj
      cases o with
      | none => exact .inl ⟨hj, po2 ρ2 H2 σ2 Ext.refl sr2 er2⟩
      | some d => exact po2.elim
  | succ f =>
    rw [forL] at po2
    cases e : jt.2 i s2 with
    | none => rw [e] at po2; exact po2.elim
    | some o =>
      rw [e] at po2 hj
      cases o with
      | none => exact .inl ⟨hj, po2 ρ2 H2 σ2 Ext.refl sr2 er2⟩
      | some d =>
        dsimp only at po2 hj
        obtain ⟨go, yl⟩ := hj
        refine .inr ⟨go, _, fun σ' H' w => ⟨f, Nat.lt_succ_self f, w⟩, fun x H' y => ?_⟩
        obtain ⟨x3, sr3, r3⟩ := yl x H' y
        cases hgd : g d env2 with
        | none => rw [hgd] at po2; exact po2.elim
        | some e4 =>
          rw [hgd] at po2
          dsimp only at po2
          refine gq ρ2 s2 H' σ2 env2 e4 d x _ (er2.mono x3) r3 hgd fun σ4 er4 _ => ⟨ρ2, e4, s2, sr3, er4, ?_⟩
          have po3 := po2.rebase x3
          have x5 := x2.trans x3
          cases hb2 : mb e4 s2 with
          | nx e6 s6 =>
            rw [hb2] at po3
            intro ρ6 H6 σ6 x6 sr6 er6
            exact ⟨ρ6, e6, s6, x5.trans x6, sr6, er6, po3.rebase x6⟩
          | ct e6 s6 =>
            rw [hb2] at po3
            intro ρ6 H6 σ6 x6 sr6 er6
            exact ⟨ρ6, e6, s6, x5.trans x6, sr6, er6, po3.rebase x6⟩
          | bk e6 s6 =>
            rw [hb2] at po3
            exact po3
          | rt d6 s6 =>
            rw [hb2] at po3
            exact po3
          | ex c f d6 e6 s6 =>
            rw [hb2] at po3
            exact po3
          | no =>
            rw [hb2] at po3
            exact po3
theorem js_while (N : Nat) {c : Expr} {body : List Stmt} {t : EM Bool} {mb : SM} (hp : PassesOwn (model X.prog X.w) X.A X.env X.xe) (hc : JT X W c t) (hb : JSs X W body mb) : JS X W (.While c body [] pos) (sW N t mb) := by
  refine PS_imp (ps_while hp hc hb) fun σ H D ⟨ρ, env, s, sr, er, po⟩ => ?_
  refine ⟨fun m σ2 H2 => ∃ ρ2 env2 s2, SR X.K X.mg ρ2 s2 H2 ∧ EnvR X.K ρ2 s2.length H2 env2 σ2 ∧ PoS X.K X.mg W D ρ2 s2.length H2 (whL t mb m env2 s2), ⟨N, ρ, env, s, sr, er, po⟩, ?_⟩
  rintro m σ2 H2 ⟨ρ2, env2, s2, sr2, er2, po2⟩
  cases m with
  | zero => exact po2.elim
  | succ f =>
    rw [whL] at po2
    refine ⟨ρ2, env2, s2, sr2, er2, (PoS.st (R := RB) er2 po2).imp fun q H3 ⟨ρ3, s3, q3, x3, sr3, r3, er3, po3⟩ => ?_⟩
    have e : q3 = q := r3
    subst e
    cases q3 with
    | false => exact po3 ρ3 H3 σ2 Ext.refl sr3 er3
    | true =>
      rw [if_pos rfl] at po3 ⊢
      refine ⟨_, fun σ' H' w => ⟨f, Nat.lt_succ_self f, w⟩, ρ3, env2, s3, sr3, er3, ?_⟩
      cases hb2 : mb env2 s3 with
      | nx e6 s6 =>
        rw [hb2] at po3
        intro ρ6 H6 σ6 x6 sr6 er6
        exact ⟨ρ6, e6, s6, sr6, er6, po3.rebase x6⟩
      | ct e6 s6 =>
        rw [hb2] at po3
        intro ρ6 H6 σ6 x6 sr6 er6
        exact ⟨ρ6, e6, s6, sr6, er6, po3.rebase x6⟩
      | bk e6 s6 =>
        rw [hb2] at po3
        exact po3
      | rt d6 s6 =>
        rw [hb2] at po3
        exact po3
      | ex c f d6 e6 s6 =>
        rw [hb2] at po3
        exact po3
      | no =>
        rw [hb2] at po3
        exact po3
end

/-! ### list comprehensions -/
def Rs.nox {α : Type} (r : Rs α) : Rs α := match r with
  | .ok a s => .ok a s
  | _ => .no
def wipeD (e : Ev) : List Nat → Ev
  | [] => e
  | v :: vs => (wipeD e vs).set v none
def lcL (j : Stp) (g : GN) (t : EM Bool) (m : EM D) (l : Nat) : Nat → Nat → Ev → Sto → Rs D
  | 0, i, e, s => match j i s with
    | some none => .ok (.ref l) s
    | _ => .no
  | f + 1, i, e, s => match j i s with
    | none => .no
    | some none => .ok (.ref l) s
    | some (some d) => match g d e with
      | none => .no
      | some e1 => (t e1 s).nox.bind fun q s1 => if q then (m e1 s1).nox.bind fun y s2 => match s2[l]? with
          | some (.lst acc) => if acc.length < sizeLine then lcL j g t m l f (i + 1) e (s2.set l (.lst (acc ++ [y]))) else .no
          | _ => .no
        else lcL j g t m l f (i + 1) e s1
def mL (mi : EM (Nat × Stp)) (g : GN) (t : EM Bool) (m : EM D) (vs : List Nat) : EM D := fun e s => (mi e s).bind fun jt s1 => lcL jt.2 g t m s1.length jt.1 0 (wipeD e vs) (s1 ++ [.lst []])
def tY : EM Bool := fun _ s => .ok true s
abbrev WF : WX := fun _ _ _ _ => False
section
variable {K : PySem.W.Frag} {mg : Str → Option Value} {ρ : Nat → Addr} {n : Nat} {H : Hp}
theorem EnvR.wipe {env : Ev} {σ : L2.St} (h : EnvR K ρ n H env σ) : ∀ vs, EnvR K ρ n H (wipeD env vs) (L2.wipe σ vs)
  | [] => h
  | v :: vs => EnvR.del (EnvR.wipe h vs)
theorem Po.nox {α β : Type} {R : Rl α β} {W W' : WX} {σ σ' : L2.St} {r : Rs α} {Q : β → Hp → Prop} (h : Po K mg R W σ ρ n H r.nox Q) : Po K mg R W' σ' ρ n H r Q := by
  cases r with
  | ok a s => exact h
  | _ => exact h.elim
theorem Po.bindx {α β γ δ : Type} {R : Rl α β} {R' : Rl γ δ} {W W' : WX} {σ σ' : L2.St} {r : Rs α} {k : α → Sto → Rs γ} {Q : δ → Hp → Prop} (h : Po K mg R' W σ ρ n H (r.nox.bind k) Q) :
    Po K mg R W' σ' ρ n H r (fun v H1 => Mid K mg R ρ n H v H1 fun ρ1 s1 d => Po K mg R' W σ ρ1 s1.length H1 (k d s1) Q) := Po.nox (W := W) (σ := σ) (Po.bind h)
end
section
variable {X : Cx} {W : WX} {pos : Pos} {elt tg iter : Expr} {ifs : List Expr} {scope : Scope} {own : List (Str × Nat)} {mi : EM (Nat × Stp)} {g : GN} {is : List Nat} {t : EM Bool} {m : EM D}
theorem llc {K : PySem.W.Frag} {mg : Str → Option Value} {vs : List Nat} {g' : TG} {tt : TT} {te : TE} (his : ∀ i ∈ is, i ∈ vs)
    (gq : GQ K g is g')
    (ht : ∀ σ H Q, lT K mg WF t σ H Q → tt σ H Q) (he : ∀ σ H Q, lE K mg WF m σ H Q → te σ H Q) {σ : L2.St} {H : Hp} {Q : VK} (h : lE K mg W (mL mi g t m vs) σ H Q) : tLc (lG K mg (RI K mg) W mi) g' tt te vs σ H Q := by
  obtain ⟨ρ, env, s, sr, er, po⟩ := h
  refine ⟨ρ, env, s, sr, er, (Po.bind po).imp fun J H1 ⟨ρ1, s1, jt, e1, sr1, ri, po1⟩ => fun Dl hDl => ?_⟩
  obtain ⟨x2, sr2, r2⟩ := new_lst sr1 hDl (VRs.nil (K := K) (ρ := ρ1) (n := s1.length) (H := H1))
  refine ⟨fun i m2 H2 => ∃ ρ2 s2, Ext (ρup ρ1 s1.length Dl) (s1 ++ [SO.lst []]).length (upd H1 Dl (.lst [])) ρ2 s2.length H2 ∧ SR K mg ρ2 s2 H2 ∧ Po K mg (VR K) W σ ρ2 s2.length H2 (lcL jt.2 g t m s1.length m2 i (wipeD env vs) s2) Q, ⟨jt.1, ρup ρ1 s1.length Dl, _, Ext.refl, sr2, po1.rebase x2⟩, ?_⟩
  rintro i m2 H2 ⟨ρ2, s2, x3, sr3, po2⟩
  have x23 := x2.trans x3
  have hj := ri ρ2 s2 H2 i x23 sr3
  have lt1 : s1.length < (s1 ++ [SO.lst []]).length := by simp
  have rD : VR K ρ2 s2.length H2 (.ref s1.length) (.ref Dl) := r2.mono x3
  have eD : ρ2 s1.length = Dl := by
    rw [x3.ag _ lt1, ρup_same]
  cases m2 with
  | zero =>
    rw [lcL] at po2
    cases e : jt.2 i s2 with
    | none => rw [e] at po2; exact po2.elim
    | some o =>
      rw [e] at po2 hj
      cases o with
      | none => exact .inl ⟨hj, po2 ρ2 H2 _ Ext.refl sr3 rD⟩
      | some d => exact po2.elim
  | succ f =>
    rw [lcL] at po2
    cases e : jt.2 i s2 with
    | none => rw [e] at po2; exact po2.elim
    | some o =>
      rw [e] at po2 hj
      cases o with
      | none => exact .inl ⟨hj, po2 ρ2 H2 _ Ext.refl sr3 rD⟩
      | some d =>
        dsimp only at po2 hj
        obtain ⟨go, yl⟩ := hj
        refine .inr ⟨go, _, fun H' w => ⟨f, Nat.lt_succ_self f, w⟩, fun x H' y => ?_⟩
        obtain ⟨x4, sr4, r4⟩ := yl x H' y
        cases hgd : g d (wipeD env vs) with
        | none => rw [hgd] at po2; exact po2.elim
        | some e4 =>
          rw [hgd] at po2
          dsimp only at po2
          have erw : EnvR K ρ2 s2.length H' (wipeD env vs) (wipe σ vs) := ((er.mono e1).mono (x23.trans x4)).wipe vs
          refine gq ρ2 s2 H' _ _ e4 d x _ erw r4 hgd fun σ4 er4 hw => ⟨?_, ?_⟩
          · rw [hw vs his]
            have ww : ∀ us : List Nat, (∀ u ∈ us, u ∈ vs) → wipe (wipe σ vs) us = wipe σ vs := by
              intro us
              induction us with
              | nil => intro _; rfl
              | cons u us ih =>
                intro hu
                show (wipe (wipe σ vs) us).set u none = wipe σ vs
                rw [ih fun z hz => hu z (List.mem_cons_of_mem _ hz)]
                have key : ∀ ws : List Nat, u ∈ ws → (wipe σ ws).set u none = wipe σ ws := by
                  intro ws
                  induction ws with
                  | nil => intro h; simp at h
                  | cons w ws ihw =>
                    intro h
                    show ((wipe σ ws).set w none).set u none = (wipe σ ws).set w none
                    by_cases q : u = w
                    · subst q
                      rw [List.set_set]
                    · rw [List.set_comm _ _ (Ne.symm q), ihw ((List.mem_cons.mp h).resolve_left q)]
                exact key vs (hu u List.mem_cons_self)
            exact ww vs fun _ h => h
          · refine ht _ _ _ ⟨ρ2, e4, s2, sr4, er4, (Po.bindx (po2.rebase x4)).imp fun q H5 ⟨ρ5, s5, q5, x5, sr5, r5, po5⟩ => ?_⟩
            have eq : q5 = q := r5
            subst eq
            have x35 := (x3.trans x4).trans x5
            cases q5 with
            | false => exact ⟨ρ5, s5, x35, sr5, po5⟩
            | true =>
              rw [if_pos rfl] at po5 ⊢
              refine he _ _ _ ⟨ρ5, e4, s5, sr5, er4.mono x5, (Po.bindx po5).imp fun y6 H6 ⟨ρ6, s6, d6, x6, sr6, r6, po6⟩ => ?_⟩
              have x36 := x35.trans x6
              have eD6 : ρ6 s1.length = Dl := by
                rw [x36.ag _ lt1, ρup_same]
              dsimp only at po6
              cases el : s6[s1.length]? with
              | none => rw [el] at po6; exact po6.elim
              | some o =>
                rw [el] at po6
                cases o with
                | lst acc =>
                  obtain ⟨hl, po7⟩ := Po.ite po6
                  obtain ⟨av, hav, rav⟩ := sr6.ob _ _ el
                  rw [eD6] at hav
                  have ob' := sr6.ob _ _ el
                  have xw : Ext ρ6 s6.length H6 ρ6 s6.length (upd H6 (ρ6 s1.length) (.lst (av ++ [y6]))) := Ext.write (u := .lst (av ++ [y6])) ob' rfl
                  refine ⟨av, hav, by rw [rav.length]; exact hl, ρ6, s6.set s1.length (.lst (acc ++ [d6])), ?_, ?_, ?_⟩
                  · rw [List.length_set]
                    have x7 := x36.trans xw
                    rw [eD6] at x7
                    exact x7
                  · rw [← eD6]
                    exact sr6.write el rfl rfl ⟨av ++ [y6], upd_same, (rav.append (VRs.cons r6 VRs.nil)).mono xw⟩
                  · rw [List.length_set, ← eD6]
                    exact po7.rebase xw
                | _ => exact po6.elim
theorem je_lc {g' : TG} (hc : X.calm = true) (hN : X.N.Nodup) (hi : JI X W tg iter mi) (ok : BlkOk X.N X.env.scope scope own) (his : ∀ i ∈ is, i ∈ own.map (·.2))
    (hg' : ∀ (s : Shared) (H : Hp) (C : Addr) (cl : List (Str × Addr)) (fp : List Addr), PG (X.blk s H scope (compEnvC scope cl C X.env) fp) tg g') (gq : GQ X.K g is g')
    (ht : ∀ (s : Shared) (H : Hp) (C : Addr) (cl : List (Str × Addr)) (fp : List Addr), PTs (X.blk s H scope (compEnvC scope cl C X.env) fp) ifs (lT X.K X.mg WF t))
    (he : ∀ (s : Shared) (H : Hp) (C : Addr) (cl : List (Str × Addr)) (fp : List Addr), JE (X.blk s H scope (compEnvC scope cl C X.env) fp) WF elt m) (hs : ∀ x, foldedSetIterable iter X.env x = pure x := by intro _; rfl) :
    JE X W (.ListComp elt [⟨tg, iter, ifs, 0⟩] scope pos) (mL mi g t m (own.map (·.2))) := by
  exact PE_imp (pe_lc hc hN hi ok hg' ht he hs) fun σ H Q h => llc his gq (fun _ _ _ z => z) (fun _ _ _ z => z) h
end
end Z

set_option Elab.async false
set_option linter.all false
set_option maxRecDepth 100000
set_option maxHeartbeats 4000000
namespace Z
open PySem PySem.Spec PyProof.Rows L2

/-! ### functions -/
/-- room for a call; no collection is being shown -/
structure Rm (k : Nat) (A : Around) : Prop where
  room : Room k A
  gd : A.guards = some []
theorem Rm.mono {j k : Nat} {A : Around} (r : Rm k A) (h : j ≤ k) : Rm j A := ⟨r.room.mono h, r.gd⟩
theorem Rm.deeper {k : Nat} {A : Around} (r : Rm (k + 1) A) (env : Env) : Rm k (A.deeper env) := ⟨r.room.deeper env, r.gd⟩
theorem Rm.units {k : Nat} {A : Around} (r : Rm k A) : A.units + 100 < cLine := by have := r.room.un; omega
/-- what is called at f keeps the promise sp, for positional values and keywords named ks -/
def FnG (P : Program) (w : World) (K : PySem.W.Frag) (mg : Str → Option Value) (base : Heap) (k : Nat) (f : Addr) (n : Option Nat) (ks : List Str) (sp : Sp) : Prop :=
  ∀ (A : Around) (outer : List Env) (st : Shared) (H : Hp) (us ws : List Value) (vs zs : List V) (Q : VK) (E : XK), Rm k A → Env0 P w K mg base A outer st H → Vals vs us → Vals zs ws → (∀ m, n = some m → us.length = m) → ws.length = ks.length → sp (vs ++ zs) H Q E →
    codeAny (model P w) A (.call (.ref f) ⟨us, ks.zip ws⟩) (CR (L2.CX P w) outer P w H st Q E) st
/-- the promise: what F says -/
def spF (K : PySem.W.Frag) (mg : Str → Option Value) (F : List D → Sto → Rs D) : Sp := fun vs H Q E => ∃ ρ s ds, SR K mg ρ s H ∧ VRs K ρ s.length H ds vs ∧ Po K mg (VR K) (fun c d _ H => E c d H) [] ρ s.length H (F ds s) Q
/-- positional calls; calls of n positional values and keywords ks -/
abbrev FS (P : Program) (w : World) (K : PySem.W.Frag) (mg : Str → Option Value) (base : Heap) (k : Nat) (f : Addr) (F : List D → Sto → Rs D) : Prop := FnG P w K mg base k f none [] (spF K mg F)
abbrev FSk (P : Program) (w : World) (K : PySem.W.Frag) (mg : Str → Option Value) (base : Heap) (k : Nat) (f : Addr) (n : Nat) (ks : List Str) (F : List D → Sto → Rs D) : Prop := FnG P w K mg base k f (some n) ks (spF K mg F)
theorem FnG.mono {P : Program} {w : World} {K : PySem.W.Frag} {mg : Str → Option Value} {base : Heap} {j k : Nat} {f : Addr} {n : Option Nat} {ks : List Str} {sp : Sp} (F : FnG P w K mg base j f n ks sp) (h : j ≤ k) : FnG P w K mg base k f n ks sp :=
  fun A outer st H us ws vs zs Q E hr => F A outer st H us ws vs zs Q E (hr.mono h)
def RS.fin (r : RS) : Rs D := match r with
  | .nx _ s' => .ok .non s'
  | .rt d s' => .ok d s'
  | .ex c f d _ s' => .ex c f d s'
  | _ => .no
def fnM (ps n : Nat) (m : SM) : List D → Sto → Rs D := fun ds s => if ds.length = ps then (m (ds.map some ++ List.replicate (n - ds.length) none) s).fin else .no
section
variable {P : Program} {w : World} {K : PySem.W.Frag} {mg : Str → Option Value} {base : Heap} {k : Nat} {f : Addr} {fd : FuncData} {x qual : Str} {params : Arguments} {body : List Stmt} {scope : Scope} {dvs : List V} {kws : List (Str × V)} {N ps : List Str} {m : SM}
theorem envR_start {ρ : Nat → Addr} {n : Nat} {H : Hp} {N : List Str} {ds : List D} {vs : List V} (r : VRs K ρ n H ds vs) : EnvR K ρ n H (ds.map some ++ List.replicate (N.length - ds.length) none) (L2.start N vs) := by
  unfold L2.start
  have hl := r.length
  refine ⟨by simp [hl], fun i d h => ?_⟩
  by_cases hi : i < ds.length
  · rw [List.getElem?_append_left (by simpa using hi), List.getElem?_map] at h
    cases e : ds[i]? with
    | none => rw [e] at h; cases h
    | some d' =>
      rw [e] at h
      cases h
      obtain ⟨v, hv, rv⟩ := r.get e
      refine ⟨v, ?_, rv⟩
      rw [List.getElem?_append_left (by simp [hl]; exact hi), List.getElem?_map, hv]
      rfl
  · rw [List.getElem?_append_right (by simpa using hi), List.getElem?_replicate] at h
    split at h <;> cases h
theorem PoS.fin {ρ : Nat → Addr} {n : Nat} {H : Hp} {σ : L2.St} {r : RS} {Q : VK} {E : XK} (h : Po K mg (VR K) (fun c d _ H => E c d H) σ ρ n H r.fin Q) : PoS K mg (fun c d _ H => E c d H) { nx := fun _ H' => Q .non H', rt := Q } ρ n H r := by
  cases r with
  | nx e s => exact fun ρ' H' σ' x sr er => h ρ' H' .non x sr rfl
  | rt d s => exact h
  | ex c f d e s => exact fun ρ' H' σ' C dx v x sr er => h ρ' H' C dx v x sr
  | _ => exact h.elim
/-- a body does m -/
abbrev Body (P : Program) (w : World) (K : PySem.W.Frag) (mg : Str → Option Value) (base : Heap) (k : Nat) (N : List Str) (qual : Str) (scope : Scope) (f : Addr) (body : List Stmt) (m : SM) : Prop :=
  ∀ (cdv : Value) (A : Around) (outer : List Env) (s : Shared) (H : Hp) (E : XK), Rm k (A.deeper (envOfC qual scope s.heap.objs.size f cdv)) → JSs (cxOf (L2.CX P w) P w K mg base N qual scope f cdv A outer s H E) (fun c d _ H => E c d H) body m
/-- how the values come to the parameters: positional us, keywords' ws give g us ws -/
structure Bnd (K : PySem.W.Frag) (fd : FuncData) (ps : List Str) (n : Nat) (ks : List Str) (g : List Value → List Value → List Value) (gV : List V → List V → List V) (gD : List D → List D → List D) : Prop where
  to : ∀ (st : Shared) (us ws : List Value), K.In st.heap → us.length = n → ws.length = ks.length → BindsTo st fd ⟨us, ks.zip ws⟩ (ps.zip (g us ws))
  rel : ∀ {vs : List V} {us : List Value} {zs : List V} {ws : List Value}, Vals vs us → Vals zs ws → Vals (gV vs zs) (g us ws)
  len : ∀ us ws : List Value, us.length = n → ws.length = ks.length → (g us ws).length = ps.length
  dat : ∀ {ρ : Nat → Addr} {m : Nat} {H : Hp} {ds es : List D} {vs zs : List V}, VRs K ρ m H ds vs → VRs K ρ m H es zs → VRs K ρ m H (gD ds es) (gV vs zs)
/-- the function of a call by g -/
def callF (n : Nat) (gD : List D → List D → List D) (F : List D → Sto → Rs D) : List D → Sto → Rs D := fun ds s => F (gD (ds.take n) (ds.drop n)) s
/-- THE RULE: a def whose body does m, however it is called -/
theorem fs_ok {n : Nat} {ks : List Str} {g : List Value → List Value → List Value} {gV : List V → List V → List V} {gD : List D → List D → List D} (F : FunD K x qual params body scope dvs kws f fd) (S : FnScope N ps scope) (hb : Body P w K mg base k N qual scope f body m)
    (B : Bnd K fd ps n ks g gV gD) : FSk P w K mg base (k + 1) f n ks (callF n gD (fnM ps.length N.length m)) := by
  obtain ⟨oc, od, dV, kV, doc, pm, an, cdv, ct, osl, rfl, lk, hcd, _, _⟩ := F.ex
  intro A outer st H us ws vs zs Q E hr e0 rv rz hn hks ⟨ρ, s, ds, sr, rd, po⟩
  have hn := hn n rfl
  have r1 : VRs K ρ s.length H (ds.take n) vs := by
    have := rd.take n
    rwa [List.take_left' (by rw [rv.length]; exact hn)] at this
  have r2 : VRs K ρ s.length H (ds.drop n) zs := by
    have := rd.drop n
    rwa [List.drop_left' (by rw [rv.length]; exact hn)] at this
  have rr := B.rel rv rz
  have rD := B.dat r1 r2
  have inK : K.In st.heap := e0.mod.kin.keeps fun b o e => (e0.bs b o e).1
  have noL : st.heap.NoLimit := e0.mod.nolimit.keeps fun b o e => (e0.bs b o e).1
  have kinds : ∀ y ∈ ps.zip (g us ws), scope.names.lookup y.1 = some .local ∨ (scope.names.lookup y.1 = some .cell ∧ ((cellsFrom (st.heap.objs.size + 1) scope.names []).lookup y.1).isSome = true) := by
    rintro ⟨z, u⟩ hz
    rcases S.par z (List.of_mem_zip hz).1 with q | q
    · exact .inl q
    · exact .inr ⟨q, PySem.W.cellsFrom_some _ _ _ (.inl q)⟩
  refine codeAny_call_function hr.room.depth (inK _ _ lk) rfl S.co S.gen rfl (PySem.W.codeRec_of inK hcd) (B.to st us ws inK hn hks _ _ _ _ ?_)
  refine wpAny_newFunctionEnv_cells S.kind kinds fun env he st1 xx => ?_
  subst he
  refine ⟨noL.keeps xx.toInCall.keep, codeAny_func ?_⟩
  have I := inv_start (CX := L2.CX P w) (E := E) S hr.room.hd e0 (by rw [rr.length]; exact B.len us ws hn hks) rr xx
  refine wpAny_mono ((hb cdv A outer st H E (hr.deeper _)).run [] st1 _ H { nx := fun _ H' => Q .non H', rt := Q } I ⟨ρ, _, s, sr, envR_start rD, PoS.fin (σ := []) (Po.ite po).2⟩) (fun fl st2 hs => ?_) fun e st2 hs => hs
  cases fl with
  | ret u =>
    obtain ⟨v, σ', H', J, rv', q⟩ := hs
    exact ⟨v, H', J.os, J.bare, J.base, J.hok, rv', q⟩
  | next =>
    obtain ⟨σ', H', J, q⟩ := hs
    exact ⟨V.non, H', J.os, J.bare, J.base, J.hok, rfl, q⟩
  | brk =>
    obtain ⟨_, _, _, q⟩ := hs
    exact False.elim q
  | cont =>
    obtain ⟨_, _, _, q⟩ := hs
    exact False.elim q
/-- a plain def, called by position -/
theorem fs_pos (F : FunD K x qual params body scope [] [] f fd) (S : FnScope N ps scope) (hb : Body P w K mg base k N qual scope f body m)
    (h : ∀ (kV doc pm : Value) (an : Option Addr) (cdv ct : Value) (us : List Value), us.length = ps.length → bindArgs (PySem.W.fnOf x qual params body scope .none kV doc pm an cdv ct) ⟨us, []⟩ = pure (ps.zip us)) :
    FS P w K mg base (k + 1) f (fnM ps.length N.length m) := by
  have B : Bnd K fd ps ps.length [] (fun us _ => us) (fun vs _ => vs) (fun ds _ => ds) := by
    refine ⟨fun st us ws _ h1 h2 => ?_, fun h _ => h, fun _ _ h _ => h, fun h _ => h⟩
    obtain ⟨oc, od, dV, kV, doc, pm, an, cdv, ct, osl, rfl, lk, hcd, hD, hK⟩ := F.ex
    rcases hD with ⟨_, rfl⟩ | ⟨e, _⟩
    · exact .of_eq (h kV doc pm an cdv ct us h1)
    · exact absurd rfl e
  intro A outer st H us ws vs zs Q E hr e0 rv rz _ hks ⟨ρ, s, ds, sr, rd, po⟩
  have hz : zs = [] := by
    have e1 := rz.length
    rw [hks] at e1
    exact List.eq_nil_of_length_eq_zero e1
  subst hz
  rw [List.append_nil] at rd
  have hl := (Po.ite (c := ds.length = ps.length) po).1
  refine fs_ok F S hb B A outer st H us ws vs [] Q E hr e0 rv rz (fun m hm => ?_) hks ⟨ρ, s, ds, sr, by rw [List.append_nil]; exact rd, ?_⟩
  · cases hm
    rw [← rv.length, rd.length]
    exact hl
  · unfold callF
    have e : ds.take ps.length = ds := by rw [← hl, List.take_length]
    rw [e]
    exact po
/-- a plain def, n values by position and all others by keyword -/
theorem fs_key {n : Nat} {ks : List Str} (F : FunD K x qual params body scope [] [] f fd) (S : FnScope N ps scope) (hb : Body P w K mg base k N qual scope f body m) (g : {α : Type} → List α → List α → List α)
    (h : ∀ (kV doc pm : Value) (an : Option Addr) (cdv ct : Value) (us ws : List Value), us.length = n → ws.length = ks.length → bindArgs (PySem.W.fnOf x qual params body scope .none kV doc pm an cdv ct) ⟨us, ks.zip ws⟩ = pure (ps.zip (g us ws)))
    (hl : ∀ us ws : List Value, us.length = n → ws.length = ks.length → (g us ws).length = ps.length)
    (hg : ∀ {vs : List V} {us : List Value} {zs : List V} {ws : List Value}, Vals vs us → Vals zs ws → Vals (g vs zs) (g us ws))
    (hd : ∀ {ρ : Nat → Addr} {j : Nat} {H : Hp} {ds es : List D} {vs zs : List V}, VRs K ρ j H ds vs → VRs K ρ j H es zs → VRs K ρ j H (g ds es) (g vs zs)) :
    FSk P w K mg base (k + 1) f n ks (callF n g (fnM ps.length N.length m)) := by
  refine fs_ok F S hb (g := g) (gV := g) (gD := g) ⟨fun st us ws _ h1 h2 => ?_, hg, hl, hd⟩
  obtain ⟨oc, od, dV, kV, doc, pm, an, cdv, ct, osl, rfl, lk, hcd, hD, hK⟩ := F.ex
  rcases hD with ⟨_, rfl⟩ | ⟨e, _⟩
  · exact .of_eq (h kV doc pm an cdv ct us ws h1 h2)
  · exact absurd rfl e
theorem Po.congr {α β : Type} {R : Rl α β} {W W' : WX} {σ σ' : L2.St} {ρ : Nat → Addr} {n : Nat} {H : Hp} {r : Rs α} {Q : β → Hp → Prop} (h : Po K mg R W σ ρ n H r Q) (i : ∀ c d H, W c d σ H → W' c d σ' H) : Po K mg R W' σ' ρ n H r Q := by
  cases r with
  | ok a s => exact h
  | ex c f d s => exact fun ρ' H' C dx v e sr hm r hx => i _ _ _ (h ρ' H' C dx v e sr hm r hx)
  | no => exact h
end
section
variable {X : Cx} {W : WX} {k : Nat} {f : Addr} {F : List D → Sto → Rs D} {x : Str} {p pos apos : Pos} {e o : Expr} {es : List Expr} {ms mk : EM (List D)} {sp : Sp} {E : L2.St → XK} {n : Option Nat} {ks : List Str} {kws : List Keyword}
theorem run_at {pins : List (Addr × Obj)} {σ : L2.St} {H : Hp} {s : Shared} {Q : VK} {us ws : List Value} {vs zs : List V} (F : FnG X.prog X.w X.K X.mg X.base k f n ks sp) (hr : Rm k X.A) (hx : PassesAt (L2.CX X.prog X.w) X σ (E σ))
    (I : Inv X pins σ H s) (r : Vals vs us) (rz : Vals zs ws) (hn : ∀ m, n = some m → us.length = m) (hks : ws.length = ks.length) (h : sp (vs ++ zs) H Q (E σ)) : wpAny (model X.prog X.w) X.A (call (.ref f) us (ks.zip ws)) (EP X pins σ Q) X.xe s := by
  refine wpAny_call (codeAny_mono (F X.A X.stack s H us ws vs zs Q (E σ) hr I.env0 r rz hn hks h) fun r s' hq => ?_)
  cases r with
  | error e => exact hx pins H s e s' I hq
  | ok fl =>
    cases fl with
    | ret u => exact I.after hq
    | next => exact False.elim hq
    | brk => exact False.elim hq
    | cont => exact False.elim hq
/-- f(e, ..) -/
theorem je_call (F' : FS X.prog X.w X.K X.mg X.base k f F) (hr : Rm k X.A) (tk : Takes X W) (hg : Gl X x) (hm : X.mg x = some (.ref f)) (hk : PySem.W.keepIn X.K (.ref f) = true)
    (ha : JA X W (e :: es) ms) (hdb : (x == ("__debug__" : Str)) = false := by decide) (he : starEach (e :: es) X.env = (false, eval e X.env) :: starEach es X.env := by rfl) (hpl : (backTo pos (starEach es X.env)).any (·.1) = false := by rfl) :
    JE X W (.Call (.Name x p) (e :: es) [] pos) (mN F ms) := by
  refine ⟨fun pins s σ H Q I ⟨ρ, env, st, sr, er, po⟩ => ?_⟩
  refine wpAny_Call_Name_kw (ld_glob I hg hm ?_ hdb)
  refine PySem.W.callWith_K (h₀ := X.base) I.ok.mod.kin hk (thn (ha.run pos pins s σ H _ I ⟨ρ, env, st, sr, er, Po.bind po⟩) fun us s1 ⟨vs, H1, I1, r, ρ1, s2, ds, e1, sr1, r1, po1⟩ => ⟨I1.kIn, ?_⟩) he hpl
  exact run_at (E := WE W) (ws := []) (zs := []) F' hr (passAt tk σ) I1 r .nil (fun _ h => nomatch h) rfl ⟨ρ1, s2, ds, sr1, by rw [List.append_nil]; exact r1, po1.congr fun _ _ _ z => z⟩
theorem je_call0 (F' : FS X.prog X.w X.K X.mg X.base k f F) (hr : Rm k X.A) (tk : Takes X W) (hg : Gl X x) (hm : X.mg x = some (.ref f)) (hk : PySem.W.keepIn X.K (.ref f) = true) (hdb : (x == ("__debug__" : Str)) = false := by decide) :
    JE X W (.Call (.Name x p) [] [] pos) (mN F aN) := by
  refine ⟨fun pins s σ H Q I ⟨ρ, env, st, sr, er, po⟩ => ?_⟩
  refine wpAny_Call_Name_kw (ld_glob I hg hm ?_ hdb)
  exact PySem.W.callWith_K0 I.kIn hk (run_at (E := WE W) (us := []) (ws := []) (zs := []) F' hr (passAt tk σ) I .nil .nil (fun _ h => nomatch h) rfl ⟨ρ, st, [], sr, VRs.nil, Po.congr po fun _ _ _ z => z⟩)
/-! ### keywords: F takes the positional values, then the keywords' -/
abbrev JK (X : Cx) (W : WX) (kws : List Keyword) (m : EM (List D)) : Prop := PK X kws (lA X.K X.mg W m)
theorem PK_imp {e : List Keyword} {t t' : TA} (h : PK X e t) (i : ∀ σ H Q, t' σ H Q → t σ H Q) : PK X e t' := ⟨fun p pins s σ H Q I q => h.run p pins s σ H Q I (i σ H Q q)⟩
theorem jk_nil : JK X W [] aN := PK_imp pk_nil fun σ H Q ⟨ρ, env, s, sr, er, po⟩ => po ρ H [] Ext.refl sr VRs.nil
theorem jk_cons {ma : EM D} {nm : Option Str} {kpos : Pos} (h : JE X W e ma) (t : JK X W kws mk) : JK X W (⟨nm, e, kpos⟩ :: kws) (aC ma mk) :=
  PK_imp (pk_cons h t) fun σ H Q ⟨ρ, env, s, sr, er, po⟩ =>
    ⟨ρ, env, s, sr, er, (Po.bind po).imp fun _ _ ⟨ρ1, s1, d1, e1, sr1, r1, po1⟩ => ⟨ρ1, env, s1, sr1, er.mono e1, (Po.bind po1).imp fun _ _ ⟨ρ2, s2, d2, e2, sr2, r2, po2⟩ =>
      po2 ρ2 _ _ Ext.refl sr2 (VRs.cons (r1.mono e2) r2)⟩⟩
/-- positional values, then keywords' -/
def mNk (n m : Nat) (F : List D → Sto → Rs D) (ms mk : EM (List D)) : EM D := fun e s => (ms e s).bind fun xs s1 => (mk e s1).bind fun ys s2 => if xs.length = n ∧ ys.length = m then F (xs ++ ys) s2 else .no
/-- f(e, .., k = v, ..) -/
theorem je_callk {n : Nat} (F' : FSk X.prog X.w X.K X.mg X.base k f n ks F) (hr : Rm k X.A) (tk : Takes X W) (hg : Gl X x) (hm : X.mg x = some (.ref f)) (hk : PySem.W.keepIn X.K (.ref f) = true)
    (ha : JA X W (e :: es) ms) (hkw : JK X W kws mk) (hall : (backToKw pos (keywordEach kws X.env)).all (·.1.isSome) = true := by rfl) (hks : (backToKw pos (keywordEach kws X.env)).filterMap (·.1) = ks := by rfl)
    (hdb : (x == ("__debug__" : Str)) = false := by decide) (he : starEach (e :: es) X.env = (false, eval e X.env) :: starEach es X.env := by rfl)
    (hpl : ((backTo pos (starEach (e :: es) X.env)).any (·.1) || (backToKw pos (keywordEach kws X.env)).any (·.1.isNone)) = false := by rfl) :
    JE X W (.Call (.Name x p) (e :: es) kws pos) (mNk n ks.length F ms mk) := by
  refine ⟨fun pins s σ H Q I ⟨ρ, env, st, sr, er, po⟩ => ?_⟩
  refine wpAny_Call_Name_kw (ld_glob I hg hm ?_ hdb)
  refine PySem.W.callWith_KW (h₀ := X.base) I.ok.mod.kin hk hall (thn (ha.run pos pins s σ H _ I ⟨ρ, env, st, sr, er, Po.bind po⟩) fun us s1 ⟨vs, H1, I1, r, ρ1, s2, ds, e1, sr1, r1, po1⟩ => ?_) hpl he
  refine thn (hkw.run pos pins s1 σ H1 _ I1 ⟨ρ1, env, s2, sr1, er.mono e1, Po.bind po1⟩) fun ws s3 ⟨zs, H3, I3, rz, ρ3, s4, ys, e3, sr3, r3, po3⟩ => ⟨I3.kIn, ?_⟩
  rw [hks]
  obtain ⟨⟨h1, h2⟩, po4⟩ := Po.ite po3
  exact run_at (E := WE W) F' hr (passAt tk σ) I3 r rz (fun m hm => by cases hm; show us.length = n; rw [← r.length, r1.length]; exact h1) (by rw [← rz.length, r3.length]; exact h2) ⟨ρ3, s4, ds ++ ys, sr3, (r1.mono e3).append r3, po4.congr fun _ _ _ z => z⟩
/-- f(k = v, ..) -/
theorem je_callk0 (F' : FSk X.prog X.w X.K X.mg X.base k f 0 ks F) (hr : Rm k X.A) (tk : Takes X W) (hg : Gl X x) (hm : X.mg x = some (.ref f)) (hk : PySem.W.keepIn X.K (.ref f) = true)
    (hkw : JK X W kws mk) (hall : (backToKw pos (keywordEach kws X.env)).all (·.1.isSome) = true := by rfl) (hks : (backToKw pos (keywordEach kws X.env)).filterMap (·.1) = ks := by rfl)
    (hdb : (x == ("__debug__" : Str)) = false := by decide)
    (hpl : ((backTo pos (starEach [] X.env)).any (·.1) || (backToKw pos (keywordEach kws X.env)).any (·.1.isNone)) = false := by rfl) :
    JE X W (.Call (.Name x p) [] kws pos) (mNk 0 ks.length F aN mk) := by
  refine ⟨fun pins s σ H Q I ⟨ρ, env, st, sr, er, po⟩ => ?_⟩
  refine wpAny_Call_Name_kw (ld_glob I hg hm ?_ hdb)
  refine PySem.W.callWith_KW0 (h₀ := X.base) I.ok.mod.kin hk hall ?_ hpl
  refine thn (hkw.run pos pins s σ H _ I ⟨ρ, env, st, sr, er, Po.bind po⟩) fun ws s3 ⟨zs, H3, I3, rz, ρ3, s4, ys, e3, sr3, r3, po3⟩ => ⟨I3.kIn, ?_⟩
  rw [hks]
  obtain ⟨⟨h1, h2⟩, po4⟩ := Po.ite po3
  exact run_at (E := WE W) (us := []) (vs := []) F' hr (passAt tk σ) I3 .nil rz (fun m hm => by cases hm; rfl) (by rw [← rz.length, r3.length]; exact h2) ⟨ρ3, s4, ys, sr3, r3, po4.congr fun _ _ _ z => z⟩
end
/-! ### the law's own call -/
section
variable {P : Program} {w : World} {K : PySem.W.Frag} {mg mb : Str → Option Value} {k : Nat} {fa a : Addr} {s₁ : Shared} {vs : List Value} {ns : List Int} {F : List D → Sto → Rs D}
theorem rm_caller {k : Nat} (h : Room k callerA) : Rm k callerA := ⟨h, rfl⟩
/-- the law, over the heap behind the top -/
theorem law_run (KX : K.In s₁.heap) (hns : s₁.heap.Ns mainGlobals mg) (hb : s₁.heap.Ns builtinsNs mb) (hbb : ∀ y : Str, y ≠ "__name__" → mb y = bootBuiltins y) (hlim : s₁.heap.NoLimit) (hg : s₁.gens = #[])
    (ha : s₁.heap.get? a = some { cls := .type "list", data := .seq vs.toArray }) (hi : IntsAre vs ns) (hl : ns.length ≤ sizeLine) (hr : Room k callerA)
    (hF : ∀ base : Heap, K.In base → base.Ns mainGlobals mg → FS P w K mg base k fa F) (hQ : ∃ s', F [.ref 0] [.frz (ns.map D.int)] = .ok (.bl true) s') :
    codeAny (model P w) callerA (.call (.ref fa) ⟨[.ref a], []⟩) (fun r s' => r = .ok (.ret (.bool true)) ∧ OldK s₁.heap s'.heap ∧ s'.os = s₁.os ∧ AllBare s'.gens) s₁ := by
  obtain ⟨se, hse⟩ := hQ
  have vI := vals_ints hi
  have eL := hi.length
  have vD : ∀ {ρ : Nat → Addr} {n : Nat} {H : Hp} (ms : List Int), VRs K ρ n H (ms.map D.int) (ms.map V.int) := by
    intro ρ n H ms
    induction ms with
    | nil => exact VRs.nil
    | cons m ms ih => exact VRs.cons rfl ih
  have core : ∀ H : Hp, Only H → SqF K H a (ns.map V.int) → HOk P w H s₁.heap → (∀ b, H b ≠ none → b = a) → (H a ≠ none → K.lookup a = none) →
      codeAny (model P w) callerA (.call (.ref fa) ⟨[.ref a], []⟩) (fun r s' => r = .ok (.ret (.bool true)) ∧ OldK s₁.heap s'.heap ∧ s'.os = s₁.os ∧ AllBare s'.gens) s₁ := by
    intro H hO hS hok hA hK
    have only : ∀ {b : Addr} {u : HO}, H b = some u → b = a := fun {b u} q => hA b (by rw [q]; exact nofun)
    have nd : ∀ {b : Addr} {o : Obj} {es : Array DictEntry} {ep : Nat}, s₁.heap.get? b = some o → o.data = .dict es ep → H b = none := fun {b o es ep} e d => by
      cases q : H b with
      | none => rfl
      | some u =>
        have eb := only q
        subst eb
        rw [ha] at e
        cases e
        cases d
    have nsH : ∀ {b : Addr} {m : Str → Option Value}, s₁.heap.Ns b m → (hidT s₁.heap H).Ns b m := fun {b m} ⟨o, es, ep, e, d, r⟩ => ⟨o, es, ep, hidT_get e (nd e d), d, r⟩
    have kH : K.In (hidT s₁.heap H) := fun b o e => hidT_get (KX b o e) (by
      cases q : H b with
      | none => rfl
      | some u =>
        have eb := only q
        subst eb
        rw [hK (by rw [q]; exact nofun)] at e
        cases e)
    have e0 : Env0 P w K mg (hidT s₁.heap H) callerA [] s₁ H := ⟨rfl, ⟨kH, nsH hns, ⟨mb, nsH hb, hbb⟩, let ⟨mc, h1, h2⟩ := hlim; ⟨mc, nsH h1, h2⟩⟩, fun b o e => of_hidT e, Nat.le_of_eq (hidT_size _ _), trivial, fun b hb => absurd hb (by simp [frs]), hok, .of_eq hg⟩
    have sr : SR K mg (fun _ => a) [SO.frz (ns.map D.int)] H := by
      refine ⟨fun i j oi oj e1 e2 _ _ _ => ?_, fun i o e => ?_⟩
      · have h1 := (List.getElem?_eq_some_iff.mp e1).1
        have h2 := (List.getElem?_eq_some_iff.mp e2).1
        simp only [List.length_cons, List.length_nil] at h1 h2
        omega
      · have h1 := (List.getElem?_eq_some_iff.mp e).1
        simp only [List.length_cons, List.length_nil] at h1
        have : i = 0 := by omega
        subst this
        cases e
        exact ⟨_, hS, vD ns⟩
    refine codeAny_mono (hF _ kH (nsH hns) callerA [] s₁ H [.ref a] [] [V.ref a] [] (fun v _ => v = .bl true) (fun _ _ _ => False) (rm_caller hr) e0 (.cons rfl .nil) .nil (fun _ h => nomatch h) rfl ⟨_, _, [.ref 0], sr, VRs.cons (by rw [VR]; exact ⟨Nat.zero_lt_succ _, rfl⟩) VRs.nil, ?_⟩) fun r s' h => ?_
    · rw [hse]
      exact fun ρ' H' v _ _ r => r
    · cases r with
      | error e =>
        obtain ⟨_, _, _, _, _, _, _, _, _, _, _, _, z⟩ := h
        exact z.elim
      | ok fl =>
        cases fl with
        | ret u =>
          obtain ⟨v, H', os, bare, un, hok', r', q⟩ := h
          have q' : v = .bl true := q
          subst q'
          obtain rfl : u = Value.bool true := r'
          refine ⟨rfl, OldK.of_keep fun b o e => ?_, os, bare⟩
          cases q : H b with
          | none => exact un.keep b o e q (by simp [frs]) (by simp)
          | some u =>
            rcases hO b with z | ⟨ob, xs, z⟩
            · rw [q] at z
              cases z
            · obtain ⟨e1, _⟩ := hok b _ z
              obtain ⟨e2, _⟩ := hok' b _ (un.frzs b ob _ z)
              rw [e] at e1
              cases e1
              exact e2
        | next => exact False.elim h
        | brk => exact False.elim h
        | cont => exact False.elim h
  cases hk : K.lookup a with
  | some o =>
    have e := KX a o hk
    rw [ha] at e
    cases e
    exact core (fun _ => none) (fun _ => .inl rfl) (.inr ⟨_, vs.toArray, _, hk, rfl, rfl, rfl, by rw [List.size_toArray, eL]; exact hl, by simpa using vI⟩) (fun b u z => nomatch z) (fun b z => absurd rfl z) fun z => absurd rfl z
  | none =>
    refine core (fun b => if b = a then some (.frz { cls := .type "list", data := .seq vs.toArray } (.lst (ns.map V.int))) else none) (fun b => ?_) (.inl ⟨{ cls := .type "list", data := .seq vs.toArray }, if_pos rfl⟩) (fun b u z => ?_) (fun b z => ?_) fun _ => hk
    · by_cases eb : b = a
      · exact .inr ⟨_, _, if_pos eb⟩
      · exact .inl (if_neg eb)
    · by_cases eb : b = a
      · have z' := (if_pos eb).symm.trans z
        cases z'
        subst eb
        exact ⟨ha, by rw [List.length_map]; exact hl, vs, _, vI, ha⟩
      · have z' := (if_neg eb).symm.trans z
        cases z'
    · by_cases eb : b = a
      · exact eb
      · exact absurd (if_neg eb) z
end
/-- the law's walk: F gives the written part and the law's function -/
theorem walk_law {l : PySem.W.OpenLaw} {n k : Nat} {q : Program} {loose : List Str} {XP : (Str → Option Value) → Heap → Prop} {YP : World → Heap → Prop} {d : DefRec}
    (hn : l.most = some n) (hn2 : n ≤ sizeLine) (hdf : d.params.defaults = []) (hr : Room k callerA)
    (F : ∀ (w : World) (mg : Str → Option Value) (fa : Addr) (h : Heap), YP w h → h.Ns mainGlobals mg → mg d.name = some (.ref fa) →
      ∃ (K : PySem.W.Frag) (F : List D → Sto → Rs D), K.In h ∧ (∀ ns : List Int, ns.length ≤ n → ∃ s', F [.ref 0] [.frz (ns.map D.int)] = .ok (.bl true) s') ∧ ∀ base : Heap, K.In base → base.Ns mainGlobals mg → FS l.prog w K mg base k fa F) :
    PySem.W.WalkO q loose XP YP l.row.toRowW d [] (fun f vs => PySem.call f vs) := by
  refine Att.attach_call hn hdf fun w s₀ s₁ mg mb fa o pm cd doc a vs ns G Y ho hd hcd hmg hobj hints hlen hg => ?_
  obtain ⟨K, F, KX, hsp, hF⟩ := F w mg fa _ Y G.T.g hmg
  exact law_run KX G.T.g G.T.b G.T.builtins G.T.nolimit hg hobj hints (Nat.le_trans hlen hn2) hr hF (hsp ns hlen)
end Z

set_option Elab.async false
set_option linter.all false
set_option maxRecDepth 100000
set_option maxHeartbeats 4000000
namespace Z
open PySem PySem.Spec PyProof.Rows L2

section
variable {X : Cx} {W : WX}
/-! ### ints -/
def dI (g : Int → Int → D) (x y : D) (s : Sto) : Rs D := match x, y with
  | .int i, .int j => .ok (g i j) s
  | _, _ => .no
def dIc (C : Int → Int → Prop) [∀ i j, Decidable (C i j)] (g : Int → Int → D) (x y : D) (s : Sto) : Rs D := match x, y with
  | .int i, .int j => if C i j then .ok (g i j) s else .no
  | _, _ => .no
theorem pr_I {g : Int → Int → D} {g' : Int → Int → V} (h : ∀ i j, flatD (g i j) (g' i j)) : Pr2 X W (dI g) (rI0 g') := by
  intro ρ s H σ x y vx vy Q sr r1 r2 po
  cases x with
  | int i =>
    cases y with
    | int j =>
      obtain rfl : vx = .int i := r1
      obtain rfl : vy = .int j := r2
      exact ⟨i, j, rfl, rfl, po ρ H _ Ext.refl sr (h i j).vr⟩
    | _ => exact po.elim
  | _ => exact po.elim
theorem pr_Ic {C C' : Int → Int → Prop} [∀ i j, Decidable (C i j)] {g : Int → Int → D} {g' : Int → Int → V} (hc : ∀ i j, C i j → C' i j) (h : ∀ i j, flatD (g i j) (g' i j)) : Pr2 X W (dIc C g) (rI C' g') := by
  intro ρ s H σ x y vx vy Q sr r1 r2 po
  cases x with
  | int i =>
    cases y with
    | int j =>
      obtain rfl : vx = .int i := r1
      obtain rfl : vy = .int j := r2
      obtain ⟨h1, po⟩ := Po.ite (c := C i j) po
      exact ⟨i, j, rfl, rfl, hc i j h1, po ρ H _ Ext.refl sr (h i j).vr⟩
    | _ => exact po.elim
  | _ => exact po.elim
def cDiv (i j : Int) : Prop := 0 < j ∧ j < 1073741824
instance (i j : Int) : Decidable (cDiv i j) := inferInstanceAs (Decidable (_ ∧ _))
def cMul (i j : Int) : Prop := (-(2 ^ 64) < i ∧ i < 2 ^ 64) ∨ (-(2 ^ 64) < j ∧ j < 2 ^ 64)
instance (i j : Int) : Decidable (cMul i j) := inferInstanceAs (Decidable (_ ∨ _))
def cMod (i j : Int) : Prop := 0 < j
instance (i j : Int) : Decidable (cMod i j) := inferInstanceAs (Decidable (0 < j))
def cPow (i j : Int) : Prop := 0 ≤ j ∧ j ≤ 1000000 ∧ i.natAbs < 2 ^ 64
instance (i j : Int) : Decidable (cPow i j) := inferInstanceAs (Decidable (_ ∧ _ ∧ _))
def dSub := dI fun i j => .int (i - j)
def dMul := dIc cMul fun i j => .int (i * j)
def dDiv := dIc cDiv fun i j => .int (i / j)
def dMod := dIc cMod fun i j => .int (i % j)
def dPow := dIc cPow fun i j => .int (i ^ j.toNat)
def dLt := dI fun i j => .bl (decide (i < j))
def dLe := dI fun i j => .bl (decide (i ≤ j))
def dGt := dI fun i j => .bl (decide (j < i))
def dGe := dI fun i j => .bl (decide (j ≤ i))
theorem pr_sub : Pr2 X W dSub (rI0 fun i j => .int (i - j)) := pr_I fun _ _ => rfl
theorem pr_mul : Pr2 X W dMul (rI CMul fun i j => .int (i * j)) := pr_Ic (fun _ _ h => h) fun _ _ => rfl
theorem pr_div : Pr2 X W dDiv (rI CDiv fun i j => .int (i / j)) := pr_Ic (fun _ _ h => h) fun _ _ => rfl
theorem pr_mod : Pr2 X W dMod (rI (fun _ j => 0 < j) fun i j => .int (i % j)) := pr_Ic (fun _ _ h => h) fun _ _ => rfl
theorem pr_pow : Pr2 X W dPow (rI CPow fun i j => .int (i ^ j.toNat)) := pr_Ic (fun _ _ h => h) fun _ _ => rfl
theorem pr_lt : Pr2 X W dLt (rI0 fun i j => .bl (decide (i < j))) := pr_I fun _ _ => rfl
theorem pr_le : Pr2 X W dLe (rI0 fun i j => .bl (decide (i ≤ j))) := pr_I fun _ _ => rfl
theorem pr_gt : Pr2 X W dGt (rI0 fun i j => .bl (decide (j < i))) := pr_I fun _ _ => rfl
theorem pr_ge : Pr2 X W dGe (rI0 fun i j => .bl (decide (j ≤ i))) := pr_I fun _ _ => rfl
def dNeg (x : D) (s : Sto) : Rs D := match x with
  | .int i => .ok (.int (-i)) s
  | _ => .no
theorem pr_neg : Pr1 X W dNeg (rU fun i => .int (-i)) := by
  intro ρ s H σ x vx Q sr r1 po
  cases x with
  | int i =>
    obtain rfl : vx = .int i := r1
    exact ⟨i, rfl, po ρ H _ Ext.refl sr rfl⟩
  | _ => exact po.elim

/-! ### + -/
def dAdd (x y : D) (s : Sto) : Rs D := match x, y with
  | .int i, .int j => .ok (.int (i + j)) s
  | .str a, .str b => if a.length + b.length ≤ sizeLine then .ok (.str (a ++ b)) s else .no
  | .tup a, .tup b => if a.length + b.length ≤ sizeLine then .ok (.tup (a ++ b)) s else .no
  | .ref a, .ref b => match s[a]?, s[b]? with
    | some (.lst xs), some (.lst ys) => if xs.length + ys.length ≤ sizeLine then .ok (.ref s.length) (s ++ [.lst (xs ++ ys)]) else .no
    | _, _ => .no
  | _, _ => .no
def rAdds (K : PySem.W.Frag) : R2 := fun x y H Q => (∃ i j, x = .int i ∧ y = .int j ∧ Q (.int (i + j)) H) ∨ (∃ i j, x = .str i ∧ y = .str j ∧ i.length + j.length ≤ sizeLine ∧ Q (.str (i ++ j)) H) ∨ rCatA K x y H Q ∨ rCat x y H Q
theorem op_adds : OpR X (binaryOp .Add) (rAdds X.K) := op_add.or (op_add_str.or (op_catA.or op_cat))
theorem pr_add : Pr2 X W dAdd (rAdds X.K) := by
  intro ρ s H σ x y vx vy Q sr r1 r2 po
  cases x with
  | int i =>
    cases y with
    | int j => exact .inl ⟨i, j, r1, r2, po ρ H _ Ext.refl sr rfl⟩
    | _ => exact po.elim
  | str i =>
    cases y with
    | str j =>
      obtain ⟨h1, po⟩ := Po.ite (c := i.length + j.length ≤ sizeLine) po
      exact .inr (.inl ⟨i, j, r1, r2, h1, po ρ H _ Ext.refl sr rfl⟩)
    | _ => exact po.elim
  | tup i =>
    cases y with
    | tup j =>
      obtain ⟨h1, po⟩ := Po.ite (c := i.length + j.length ≤ sizeLine) po
      have q1 := r1
      have q2 := r2
      rw [VR] at r1 r2
      obtain ⟨a, vs, e1, sq1, rr1⟩ := r1
      obtain ⟨b, us, e2, sq2, rr2⟩ := r2
      subst e1 e2
      refine .inr (.inr (.inl ⟨a, b, vs, us, rfl, rfl, sq1, sq2, by rw [rr1.length, rr2.length]; exact h1, fun e => ?_, fun _ e => ?_, fun _ _ p hp => ?_⟩))
      · subst e
        have e' : i = [] := List.eq_nil_of_length_eq_zero rr1.length.symm
        subst e'
        exact po ρ H _ Ext.refl sr q2
      · subst e
        have e' : j = [] := List.eq_nil_of_length_eq_zero rr2.length.symm
        subst e'
        rw [List.append_nil] at po
        exact po ρ H _ Ext.refl sr q1
      · obtain ⟨x1, sr1, v1⟩ := new_tup sr hp (rr1.append rr2)
        exact po ρ _ _ x1 sr1 v1
    | _ => exact po.elim
  | ref a =>
    cases y with
    | ref b =>
      have po2 : Po X.K X.mg (VR X.K) W σ ρ s.length H (match s[a]?, s[b]? with
        | some (.lst xs), some (.lst ys) => if xs.length + ys.length ≤ sizeLine then Rs.ok (.ref s.length) (s ++ [.lst (xs ++ ys)]) else .no
        | _, _ => .no) Q := po
      rw [VR] at r1 r2
      obtain ⟨h1, rfl⟩ := r1
      obtain ⟨h2, rfl⟩ := r2
      split at po2
      · rename_i xs ys e1 e2
        obtain ⟨vs, hv, rv⟩ := sr.ob _ _ e1
        obtain ⟨us, hu, ru⟩ := sr.ob _ _ e2
        obtain ⟨hl, po3⟩ := Po.ite po2
        refine .inr (.inr (.inr ⟨_, _, vs, us, rfl, rfl, hv, hu, by rw [rv.length, ru.length]; exact hl, fun p hp => ?_⟩))
        obtain ⟨x1, sr1, v1⟩ := new_lst sr hp (rv.append ru)
        exact po3 _ _ _ x1 sr1 v1
      · exact po2.elim
    | _ => exact po.elim
  | _ => exact po.elim

/-! ### data: none, bools, ints, texts, lists, tuples -/
def pyd : Nat → Sto → D → Option PyData
  | 0, _, _ => none
  | _ + 1, _, .non => some .none
  | _ + 1, _, .bl b => some (.bool b)
  | _ + 1, _, .int i => some (.int i)
  | _ + 1, _, .str x => some (.str x)
  | n + 1, s, .tup xs => (xs.mapM (pyd n s)).map .tuple
  | n + 1, s, .ref k => (lstAt s k).bind fun xs => (xs.mapM (pyd n s)).map .list
theorem pyd_dp {K : PySem.W.Frag} {mg : Str → Option Value} {ρ : Nat → Addr} {s : Sto} {H : Hp} (sr : SR K mg ρ s H) : ∀ (n : Nat) (d : D) (v : V) (p : PyData), pyd n s d = some p → VR K ρ s.length H d v → Dp K H v p := by
  intro n
  induction n with
  | zero => intro d v p h; cases h
  | succ n ih =>
    have all : ∀ (ds : List D) (vs : List V) (ps : List PyData), ds.mapM (pyd n s) = some ps → VRs K ρ s.length H ds vs → DpAll K H vs ps := by
      intro ds
      induction ds with
      | nil =>
        intro vs ps h r
        rw [VRs] at r
        subst r
        simp at h
        subst h
        exact .nil
      | cons d ds ihd =>
        intro vs ps h r
        obtain ⟨v, vr, rfl, r1, r2⟩ := r.uncons
        rw [List.mapM_cons] at h
        obtain ⟨p, h1, h⟩ := Option.bind_eq_some_iff.mp h
        obtain ⟨qs, h2, h⟩ := Option.bind_eq_some_iff.mp h
        cases h
        exact .cons (ih d v p h1 r1) (ihd vr qs h2 r2)
    intro d v p h r
    cases d with
    | non =>
      cases h
      obtain rfl : v = .non := r
      exact .non
    | bl b =>
      cases h
      obtain rfl : v = .bl b := r
      exact .bl b
    | int i =>
      cases h
      obtain rfl : v = .int i := r
      exact .int i
    | str x =>
      cases h
      obtain rfl : v = .str x := r
      exact .str x
    | tup xs =>
      rw [pyd] at h
      obtain ⟨ps, h1, rfl⟩ := Option.map_eq_some_iff.mp h
      rw [VR] at r
      obtain ⟨a, vs, rfl, sq, rr⟩ := r
      exact .tup sq (all xs vs ps h1 rr)
    | ref k =>
      rw [pyd] at h
      obtain ⟨xs, h1, h⟩ := Option.bind_eq_some_iff.mp h
      obtain ⟨ps, h2, rfl⟩ := Option.map_eq_some_iff.mp h
      rw [VR] at r
      obtain ⟨hk, rfl⟩ := r
      obtain ⟨vs, sq, rr⟩ := sr.lst h1
      exact .lst sq (all xs vs ps h2 rr)
/-- the data of a value that == and repr take -/
def shp (s : Sto) (d : D) : Option PyData := match pyd 30 s d with
  | some p => if SeqAt.shaped p = true then some p else none
  | none => none
theorem shp_dp {K : PySem.W.Frag} {mg : Str → Option Value} {ρ : Nat → Addr} {s : Sto} {H : Hp} (sr : SR K mg ρ s H) {d : D} {v : V} {p : PyData} (h : shp s d = some p) (r : VR K ρ s.length H d v) : Dp K H v p ∧ SeqAt.shaped p = true := by
  unfold shp at h
  cases e : pyd 30 s d with
  | none => rw [e] at h; cases h
  | some q =>
    rw [e] at h
    by_cases hs : SeqAt.shaped q = true
    · simp only [hs, if_true] at h
      obtain rfl : q = p := Option.some.inj h
      exact ⟨pyd_dp sr 30 d v q e r, hs⟩
    · simp only [hs] at h
      cases h
/-- == of texts, of data -/
def dEqB (neg : Bool) (x y : D) (s : Sto) : Rs D := match x, y with
  | .str a, .str b => .ok (.bl (neg ^^ decide (a = b))) s
  | x, y => match shp s x, shp s y with
    | some p, some q => .ok (.bl (neg ^^ PyData.eqv p q)) s
    | _, _ => .no
def dEq := dEqB false
def dNe := dEqB true
def rEqs (K : PySem.W.Frag) : R2 := fun x y H Q => rEq x y H Q ∨ rEqD K x y H Q
def rNes (K : PySem.W.Frag) : R2 := fun x y H Q => rNe x y H Q ∨ rNeD K x y H Q
theorem op_eqs (hu : X.A.units + 64 < cLine) : OpR X (compareOp .Eq) (rEqs X.K) := op_eq.or (op_eqD hu)
theorem op_nes (hu : X.A.units + 64 < cLine) : OpR X (compareOp .NotEq) (rNes X.K) := op_ne.or (op_neD hu)
theorem decide_strV (a b : Str) : decide (V.str a = V.str b) = decide (a = b) := by
  by_cases h : a = b
  · rw [h, decide_eq_true rfl, decide_eq_true rfl]
  · rw [decide_eq_false h, decide_eq_false fun e => h (by cases e; rfl)]
theorem pr_eq : Pr2 X W dEq (rEqs X.K) := by
  intro ρ s H σ x y vx vy Q sr r1 r2 po
  unfold dEq dEqB at po
  split at po
  · rename_i a b
    obtain rfl : vx = .str a := r1
    obtain rfl : vy = .str b := r2
    refine .inl ⟨rfl, ?_⟩
    rw [decide_strV]
    refine po ρ H _ Ext.refl sr ?_
    show V.bl _ = V.bl _
    rw [Bool.false_xor]
  · split at po
    · rename_i p q h1 h2
      obtain ⟨a1, a2⟩ := shp_dp sr h1 r1
      obtain ⟨b1, b2⟩ := shp_dp sr h2 r2
      refine .inr ⟨p, q, a1, b1, a2, b2, po ρ H _ Ext.refl sr ?_⟩
      show V.bl _ = V.bl _
      rw [Bool.false_xor]
    · exact po.elim
theorem pr_ne : Pr2 X W dNe (rNes X.K) := by
  intro ρ s H σ x y vx vy Q sr r1 r2 po
  unfold dNe dEqB at po
  split at po
  · rename_i a b
    obtain rfl : vx = .str a := r1
    obtain rfl : vy = .str b := r2
    refine .inl ⟨rfl, ?_⟩
    rw [decide_strV]
    refine po ρ H _ Ext.refl sr ?_
    show V.bl _ = V.bl _
    rw [Bool.true_xor]
  · split at po
    · rename_i p q h1 h2
      obtain ⟨a1, a2⟩ := shp_dp sr h1 r1
      obtain ⟨b1, b2⟩ := shp_dp sr h2 r2
      refine .inr ⟨p, q, a1, b1, a2, b2, po ρ H _ Ext.refl sr ?_⟩
      show V.bl _ = V.bl _
      rw [Bool.true_xor]
    · exact po.elim
/-- is None -/
def dIsN (neg : Bool) (x : D) (s : Sto) : Rs D := match x with
  | .non => .ok (.bl (!neg)) s
  | _ => .ok (.bl neg) s
/-- x in a list or a tuple of data; one sign in a text -/
def dInB (neg : Bool) (x y : D) (s : Sto) : Rs D := match y with
  | .str z => match x with
    | .str c => if c.length = 1 then .ok (.bl (neg ^^ decide (c.cps.getD 0 0 ∈ z.cps.toList))) s else .no
    | _ => .no
  | .tup ys => match shp s x, shp s (.tup ys) with
    | some p, some (.tuple ps) => .ok (.bl (neg ^^ ps.any fun z => PyData.eqv z p)) s
    | _, _ => .no
  | .ref n => match shp s x, shp s (.ref n) with
    | some p, some (.list ps) => .ok (.bl (neg ^^ ps.any fun z => PyData.eqv z p)) s
    | _, _ => .no
  | _ => .no

theorem room_in {A : Around} {d : PyData} (h : SeqAt.shaped d = true) (hu : A.units + 65 < cLine) : A.units + d.depth < cLine := by
  have := SeqAt.depth_of_shaped h
  omega
def rInT (K : PySem.W.Frag) (neg : Bool) : R2 := fun x y H Q => ∃ d ds, Dp K H x d ∧ Dp K H y (.tuple ds) ∧ SeqAt.shaped d = true ∧ SeqAt.shaped (.tuple ds) = true ∧ Q (.bl (neg ^^ ds.any fun z => PyData.eqv z d)) H
theorem op_inT (hu : X.A.units + 65 < cLine) : OpR X (compareOp .In) (rInT X.K false) := by
  intro pins s σ H x y v u Q I rx ry h
  obtain ⟨d, ds, hd, he, sd, se, q⟩ := h
  obtain ⟨as, r1⟩ := Dp.reads I d x v hd rx
  obtain ⟨bs, r2⟩ := Dp.reads I (.tuple ds) y u he ry
  rw [Bool.false_xor] at q
  exact SeqAt.in_tuple_reads r2 r1 (SeqAt.canLay_of_shaped se) (SeqAt.canLay_of_shaped sd) (by first | exact room_in sd hu | exact room_in_shaped sd hu) ⟨.bl _, H, I, rfl, q⟩
theorem op_notInT (hu : X.A.units + 65 < cLine) : OpR X (compareOp .NotIn) (rInT X.K true) := by
  intro pins s σ H x y v u Q I rx ry h
  obtain ⟨d, ds, hd, he, sd, se, q⟩ := h
  obtain ⟨as, r1⟩ := Dp.reads I d x v hd rx
  obtain ⟨bs, r2⟩ := Dp.reads I (.tuple ds) y u he ry
  rw [Bool.true_xor] at q
  exact SeqAt.notIn_tuple_reads r2 r1 (SeqAt.canLay_of_shaped se) (SeqAt.canLay_of_shaped sd) (by first | exact room_in sd hu | exact room_in_shaped sd hu) ⟨.bl _, H, I, rfl, q⟩
def rInL (K : PySem.W.Frag) (neg : Bool) : R2 := fun x y H Q => ∃ d ds, Dp K H x d ∧ Dp K H y (.list ds) ∧ SeqAt.shaped d = true ∧ SeqAt.shaped (.list ds) = true ∧ Q (.bl (neg ^^ ds.any fun z => PyData.eqv z d)) H
theorem op_inL (hu : X.A.units + 65 < cLine) : OpR X (compareOp .In) (rInL X.K false) := by
  intro pins s σ H x y v u Q I rx ry ⟨d, ds, h1, h2, h3, h4, q⟩
  rw [Bool.false_xor] at q
  exact op_inD hu pins s σ H x y v u Q I rx ry ⟨d, ds, h1, h2, h3, h4, q⟩
theorem op_notInL (hu : X.A.units + 65 < cLine) : OpR X (compareOp .NotIn) (rInL X.K true) := by
  intro pins s σ H x y v u Q I rx ry ⟨d, ds, h1, h2, h3, h4, q⟩
  rw [Bool.true_xor] at q
  exact op_notInD hu pins s σ H x y v u Q I rx ry ⟨d, ds, h1, h2, h3, h4, q⟩
def rInS (neg : Bool) : R2 := fun x y H Q => ∃ (c : Nat) (z : Str), x = .str ⟨#[c]⟩ ∧ y = .str z ∧ Q (.bl (neg ^^ decide (c ∈ z.cps.toList))) H
theorem op_inS : OpR X (compareOp .In) (rInS false) := by
  intro pins s σ H x y v u Q I rx ry ⟨c, z, h1, h2, q⟩
  rw [Bool.false_xor] at q
  exact op_in_sign pins s σ H x y v u Q I rx ry ⟨c, z, h1, h2, q⟩
theorem op_notInS : OpR X (compareOp .NotIn) (rInS true) := by
  intro pins s σ H x y v u Q I rx ry ⟨c, z, h1, h2, q⟩
  rw [Bool.true_xor] at q
  exact op_notIn_sign pins s σ H x y v u Q I rx ry ⟨c, z, h1, h2, q⟩
def rIns (K : PySem.W.Frag) (neg : Bool) : R2 := fun x y H Q => rInS neg x y H Q ∨ rInT K neg x y H Q ∨ rInL K neg x y H Q
theorem op_ins (hu : X.A.units + 65 < cLine) : OpR X (compareOp .In) (rIns X.K false) := op_inS.or ((op_inT hu).or (op_inL hu))
theorem op_notIns (hu : X.A.units + 65 < cLine) : OpR X (compareOp .NotIn) (rIns X.K true) := op_notInS.or ((op_notInT hu).or (op_notInL hu))
theorem str_one {c : Str} (h : c.length = 1) : c = ⟨#[c.cps.getD 0 0]⟩ := by
  obtain ⟨⟨l⟩⟩ := c
  match l, h with
  | [a], _ => rfl
theorem pr_in {neg : Bool} : Pr2 X W (dInB neg) (rIns X.K neg) := by
  intro ρ s H σ x y vx vy Q sr r1 r2 po
  cases y with
  | str z =>
    cases x with
    | str c =>
      obtain ⟨h1, po⟩ := Po.ite (c := c.length = 1) po
      obtain rfl : vx = .str c := r1
      obtain rfl : vy = .str z := r2
      exact .inl ⟨c.cps.getD 0 0, z, congrArg V.str (str_one h1), rfl, po ρ H _ Ext.refl sr rfl⟩
    | _ => exact po.elim
  | tup ys =>
    have po2 : Po X.K X.mg (VR X.K) W σ ρ s.length H (match shp s x, shp s (.tup ys) with
      | some p, some (.tuple ps) => .ok (.bl (neg ^^ ps.any fun z => PyData.eqv z p)) s
      | _, _ => .no) Q := po
    split at po2
    · rename_i p ps h1 h2
      obtain ⟨a1, a2⟩ := shp_dp sr h1 r1
      obtain ⟨b1, b2⟩ := shp_dp sr h2 r2
      exact .inr (.inl ⟨p, ps, a1, b1, a2, b2, po2 ρ H _ Ext.refl sr rfl⟩)
    · exact po2.elim
  | ref k =>
    have po2 : Po X.K X.mg (VR X.K) W σ ρ s.length H (match shp s x, shp s (.ref k) with
      | some p, some (.list ps) => .ok (.bl (neg ^^ ps.any fun z => PyData.eqv z p)) s
      | _, _ => .no) Q := po
    split at po2
    · rename_i p ps h1 h2
      obtain ⟨a1, a2⟩ := shp_dp sr h1 r1
      obtain ⟨b1, b2⟩ := shp_dp sr h2 r2
      exact .inr (.inr ⟨p, ps, a1, b1, a2, b2, po2 ρ H _ Ext.refl sr rfl⟩)
    · exact po2.elim
  | _ => exact po.elim
theorem pr_isN : Pr2 X W (fun x y s => match y with | .non => dIsN false x s | _ => .no) (fun x y H Q => y = .non ∧ Q (.bl (decide (x = .non))) H) := by
  intro ρ s H σ x y vx vy Q sr r1 r2 po
  cases y with
  | non =>
    refine ⟨r2, ?_⟩
    cases x with
    | non =>
      obtain rfl : vx = .non := r1
      exact po ρ H _ Ext.refl sr rfl
    | tup xs =>
      rw [VR] at r1
      obtain ⟨a, vs, rfl, _⟩ := r1
      exact po ρ H _ Ext.refl sr rfl
    | ref k =>
      rw [VR] at r1
      obtain ⟨_, rfl⟩ := r1
      exact po ρ H _ Ext.refl sr rfl
    | bl b =>
      obtain rfl : vx = .bl b := r1
      exact po ρ H _ Ext.refl sr rfl
    | int b =>
      obtain rfl : vx = .int b := r1
      exact po ρ H _ Ext.refl sr rfl
    | str b =>
      obtain rfl : vx = .str b := r1
      exact po ρ H _ Ext.refl sr rfl
  | _ => exact po.elim
theorem pr_notN : Pr2 X W (fun x y s => match y with | .non => dIsN true x s | _ => .no) (fun x y H Q => y = .non ∧ Q (.bl (!decide (x = .non))) H) := by
  intro ρ s H σ x y vx vy Q sr r1 r2 po
  cases y with
  | non =>
    refine ⟨r2, ?_⟩
    cases x with
    | non =>
      obtain rfl : vx = .non := r1
      exact po ρ H _ Ext.refl sr rfl
    | tup xs =>
      rw [VR] at r1
      obtain ⟨a, vs, rfl, _⟩ := r1
      exact po ρ H _ Ext.refl sr rfl
    | ref k =>
      rw [VR] at r1
      obtain ⟨_, rfl⟩ := r1
      exact po ρ H _ Ext.refl sr rfl
    | bl b =>
      obtain rfl : vx = .bl b := r1
      exact po ρ H _ Ext.refl sr rfl
    | int b =>
      obtain rfl : vx = .int b := r1
      exact po ρ H _ Ext.refl sr rfl
    | str b =>
      obtain rfl : vx = .str b := r1
      exact po ρ H _ Ext.refl sr rfl
  | _ => exact po.elim

/-! ### built-ins by name -/
theorem vr_seq {K : PySem.W.Frag} {mg : Str → Option Value} {ρ : Nat → Addr} {s : Sto} {H : Hp} (sr : SR K mg ρ s H) {d : D} {v : V} (r : VR K ρ s.length H d v) {xs : List D} (h : (match d with | .tup ys => some ys | .ref n => lstAt s n | _ => none) = some xs) :
    ∃ a vs, v = .ref a ∧ (SqL K H a vs ∨ SqT K H a vs) ∧ VRs K ρ s.length H xs vs := by
  cases d with
  | tup ys =>
    cases h
    rw [VR] at r
    obtain ⟨a, vs, rfl, sq, rr⟩ := r
    exact ⟨a, vs, rfl, .inr sq, rr⟩
  | ref n =>
    rw [VR] at r
    obtain ⟨_, rfl⟩ := r
    obtain ⟨vs, sq, rr⟩ := sr.lst h
    exact ⟨_, vs, rfl, .inl sq, rr⟩
  | _ => cases h
/-- the items of a list or a tuple -/
def seqD (s : Sto) (d : D) : Option (List D) := match d with
  | .tup ys => some ys
  | .ref n => lstAt s n
  | _ => none
def fLen (ds : List D) (s : Sto) : Rs D := match ds with
  | [.str z] => if z.length ≤ sizeLine then .ok (.int z.length) s else .no
  | [d] => match seqD s d with
    | some xs => .ok (.int xs.length) s
    | none => .no
  | _ => .no
def rLens (K : PySem.W.Frag) : List V → Hp → VK → Prop := fun xs H Q => (∃ z, xs = [.str z] ∧ z.length ≤ sizeLine ∧ Q (.int z.length) H) ∨ ∃ p ys, xs = [.ref p] ∧ (SqL K H p ys ∨ SqT K H p ys) ∧ Q (.int ys.length) H
theorem call_lens : CallR X (.builtin "len") (rLens X.K) := call_len_str.or call_len_seq
theorem pn_len : PrN X W fLen (rLens X.K) := by
  intro ρ s H σ xs vs Q sr r po
  unfold fLen at po
  split at po
  · rename_i z
    obtain ⟨v, rfl, rv⟩ := r.one
    obtain rfl : v = .str z := rv
    obtain ⟨h1, po⟩ := Po.ite po
    exact .inl ⟨z, rfl, h1, po ρ H _ Ext.refl sr rfl⟩
  · rename_i d _
    obtain ⟨v, rfl, rv⟩ := r.one
    cases e : seqD s d with
    | none => rw [e] at po; exact po.elim
    | some ys =>
      rw [e] at po
      obtain ⟨a, ws, rfl, sq, rr⟩ := vr_seq sr rv (xs := ys) (by cases d <;> exact e)
      exact .inr ⟨a, ws, rfl, sq, po ρ H _ Ext.refl sr (by rw [rr.length]; rfl)⟩
  · exact po.elim
def fList (ds : List D) (s : Sto) : Rs D := match ds with
  | [d] => match seqD s d with
    | some xs => if xs.length ≤ sizeLine then .ok (.ref s.length) (s ++ [.lst xs]) else .no
    | none => .no
  | _ => .no
theorem pn_list : PrN X W fList (fun xs H Q => ∃ p ys, xs = [.ref p] ∧ (SqL X.K H p ys ∨ SqT X.K H p ys) ∧ ∀ l, H l = none → Q (.ref l) (upd H l (.lst ys))) := by
  intro ρ s H σ xs vs Q sr r po
  unfold fList at po
  split at po
  · rename_i d
    obtain ⟨v, rfl, rv⟩ := r.one
    cases e : seqD s d with
    | none => rw [e] at po; exact po.elim
    | some ys =>
      rw [e] at po
      obtain ⟨hl, po⟩ := Po.ite po
      obtain ⟨a, ws, rfl, sq, rr⟩ := vr_seq sr rv (xs := ys) (by cases d <;> exact e)
      refine ⟨a, ws, rfl, sq, fun l hn => ?_⟩
      obtain ⟨x1, sr1, v1⟩ := new_lst sr hn rr
      exact po _ _ _ x1 sr1 v1
  · exact po.elim
def fTuple (ds : List D) (s : Sto) : Rs D := match ds with
  | [d] => match seqD s d with
    | some xs => .ok (.tup xs) s
    | none => .no
  | _ => .no
theorem pn_tuple : PrN X W fTuple (fun xs H Q => ∃ p ys, xs = [.ref p] ∧ ((SqL X.K H p ys ∧ ∀ l, H l = none → Q (.ref l) (upd H l (.tup ys))) ∨ (SqT X.K H p ys ∧ Q (.ref p) H))) := by
  intro ρ s H σ xs vs Q sr r po
  unfold fTuple at po
  split at po
  · rename_i d
    obtain ⟨v, rfl, rv⟩ := r.one
    cases e : seqD s d with
    | none => rw [e] at po; exact po.elim
    | some ys =>
      rw [e] at po
      obtain ⟨a, ws, rfl, sq, rr⟩ := vr_seq sr rv (xs := ys) (by cases d <;> exact e)
      refine ⟨a, ws, rfl, ?_⟩
      rcases sq with sq | sq
      · refine .inl ⟨sq, fun l hn => ?_⟩
        obtain ⟨x1, sr1, v1⟩ := new_tup sr hn rr
        exact po _ _ _ x1 sr1 v1
      · refine .inr ⟨sq, po ρ H _ Ext.refl sr ?_⟩
        rw [VR]
        exact ⟨a, ws, rfl, sq, rr⟩
  · exact po.elim
def fInt (ds : List D) (s : Sto) : Rs D := match ds with
  | [.int i] => .ok (.int i) s
  | [.bl b] => .ok (.int (if b then 1 else 0)) s
  | _ => .no
theorem pn_int : PrN X W fInt (fun xs H Q => (∃ i, xs = [.int i] ∧ Q (.int i) H) ∨ ∃ k, xs = [.bl k] ∧ Q (.int (if k then 1 else 0)) H) := by
  intro ρ s H σ xs vs Q sr r po
  unfold fInt at po
  split at po
  · rename_i i
    obtain ⟨v, rfl, rv⟩ := r.one
    obtain rfl : v = .int i := rv
    exact .inl ⟨i, rfl, po ρ H _ Ext.refl sr rfl⟩
  · rename_i b
    obtain ⟨v, rfl, rv⟩ := r.one
    obtain rfl : v = .bl b := rv
    exact .inr ⟨b, rfl, po ρ H _ Ext.refl sr rfl⟩
  · exact po.elim
def fAbs (ds : List D) (s : Sto) : Rs D := match ds with
  | [.int i] => .ok (.int (if i < 0 then -i else i)) s
  | _ => .no
theorem pn_abs : PrN X W fAbs (fun xs H Q => ∃ i, xs = [.int i] ∧ Q (.int (if i < 0 then -i else i)) H) := by
  intro ρ s H σ xs vs Q sr r po
  unfold fAbs at po
  split at po
  · rename_i i
    obtain ⟨v, rfl, rv⟩ := r.one
    obtain rfl : v = .int i := rv
    exact ⟨i, rfl, po ρ H _ Ext.refl sr rfl⟩
  · exact po.elim
def fMax2 (ds : List D) (s : Sto) : Rs D := match ds with
  | [.int i, .int j] => .ok (.int (if j > i then j else i)) s
  | _ => .no
def fMin2 (ds : List D) (s : Sto) : Rs D := match ds with
  | [.int i, .int j] => .ok (.int (if j < i then j else i)) s
  | _ => .no
theorem pn_max2 : PrN X W fMax2 (fun xs H Q => ∃ i j, xs = [.int i, .int j] ∧ Q (.int (if j > i then j else i)) H) := by
  intro ρ s H σ xs vs Q sr r po
  unfold fMax2 at po
  split at po
  · rename_i i j
    obtain ⟨v, vr, rfl, rv, rr⟩ := r.uncons
    obtain ⟨u, rfl, ru⟩ := rr.one
    obtain rfl : v = .int i := rv
    obtain rfl : u = .int j := ru
    exact ⟨i, j, rfl, po ρ H _ Ext.refl sr rfl⟩
  · exact po.elim
theorem pn_min2 : PrN X W fMin2 (fun xs H Q => ∃ i j, xs = [.int i, .int j] ∧ Q (.int (if j < i then j else i)) H) := by
  intro ρ s H σ xs vs Q sr r po
  unfold fMin2 at po
  split at po
  · rename_i i j
    obtain ⟨v, vr, rfl, rv, rr⟩ := r.uncons
    obtain ⟨u, rfl, ru⟩ := rr.one
    obtain rfl : v = .int i := rv
    obtain rfl : u = .int j := ru
    exact ⟨i, j, rfl, po ρ H _ Ext.refl sr rfl⟩
  · exact po.elim
def blD : D → Option Bool
  | .bl b => some b
  | _ => none
theorem bls_of {K : PySem.W.Frag} {ρ : Nat → Addr} {n : Nat} {H : Hp} : ∀ {xs : List D} {vs : List V} {bs : List Bool}, VRs K ρ n H xs vs → xs.mapM blD = some bs → vs = bs.map V.bl
  | [], vs, bs, r, h => by
    rw [VRs] at r
    subst r
    simp at h
    subst h
    rfl
  | x :: xs, vs, bs, r, h => by
    obtain ⟨v, vr, rfl, r1, r2⟩ := r.uncons
    rw [List.mapM_cons] at h
    obtain ⟨b, h1, h⟩ := Option.bind_eq_some_iff.mp h
    obtain ⟨cs, h2, h⟩ := Option.bind_eq_some_iff.mp h
    cases h
    rw [bls_of r2 h2]
    cases x with
    | bl b' =>
      cases h1
      obtain rfl : v = .bl _ := r1
      rfl
    | _ => cases h1
def fAllAny (all : Bool) (ds : List D) (s : Sto) : Rs D := match ds with
  | [.ref n] => match (lstAt s n).bind fun xs => xs.mapM blD with
    | some bs => .ok (.bl (if all then bs.all id else bs.any id)) s
    | none => .no
  | _ => .no
theorem pn_all : PrN X W (fAllAny true) (rAll X.K) := by
  intro ρ s H σ xs vs Q sr r po
  unfold fAllAny at po
  split at po
  · rename_i n
    obtain ⟨v, rfl, rv⟩ := r.one
    split at po
    · rename_i bs e
      obtain ⟨ys, h1, h2⟩ := Option.bind_eq_some_iff.mp e
      rw [VR] at rv
      obtain ⟨_, rfl⟩ := rv
      obtain ⟨ws, sq, rr⟩ := sr.lst h1
      rw [bls_of rr h2] at sq
      exact ⟨_, bs, rfl, sq, po ρ H _ Ext.refl sr rfl⟩
    · exact po.elim
  · exact po.elim
theorem pn_any : PrN X W (fAllAny false) (rAny X.K) := by
  intro ρ s H σ xs vs Q sr r po
  unfold fAllAny at po
  split at po
  · rename_i n
    obtain ⟨v, rfl, rv⟩ := r.one
    split at po
    · rename_i bs e
      obtain ⟨ys, h1, h2⟩ := Option.bind_eq_some_iff.mp e
      rw [VR] at rv
      obtain ⟨_, rfl⟩ := rv
      obtain ⟨ws, sq, rr⟩ := sr.lst h1
      rw [bls_of rr h2] at sq
      exact ⟨_, bs, rfl, sq, po ρ H _ Ext.refl sr rfl⟩
    · exact po.elim
  · exact po.elim
/-! ### sorted: data of one shape, stable, any length -/
open PySem.W in
def rSrt (X : Cx) : List V → Hp → VK → Prop := fun vs H Q => ∃ (a : Addr) (ps : List (D × V)) (enc : D → PyData), vs = [.ref a] ∧ SqL X.K H a (ps.map (·.2)) ∧ (∀ p ∈ ps, Dp X.K H p.2 (enc p.1)) ∧
  AllAlike (ps.map fun p => enc p.1) ∧ Sortable (ps.map fun p => enc p.1) ∧ (∀ p ∈ ps, X.A.units + 2 + (enc p.1).depth < cLine) ∧ ∀ q, H q = none → Q (.ref q) (upd H q (.lst ((ps.mergeSort (dataLe false fun p => enc p.1)).map (·.2))))
theorem each_vals {ps : List (D × V)} : ∀ {us : List Value}, PySem.W.EachIs (fun u (p : D × V) => RelV p.2 u) us ps → Vals (ps.map (·.2)) us := by
  induction ps with
  | nil =>
    intro us h
    cases h
    exact .nil
  | cons p ps ih =>
    intro us h
    cases h with
    | cons h1 h2 => exact .cons h1 (ih h2)
theorem vals_each {ps : List (D × V)} : ∀ {us : List Value}, Vals (ps.map (·.2)) us → PySem.W.EachIs (fun u (p : D × V) => RelV p.2 u) us ps := by
  induction ps with
  | nil =>
    intro us h
    cases h
    exact .nil
  | cons p ps ih =>
    intro us h
    cases h with
    | cons h1 h2 => exact .cons h1 (ih h2)
theorem call_srt : CallR X (.builtin "sorted") (rSrt X) := by
  intro pins s σ H vs us Q I r h
  obtain ⟨a, ps, enc, rfl, hs, hd, hal, hk, hu, q⟩ := h
  obtain ⟨its, rv, hl, hz⟩ := I.list hs
  rw [Vals.ref1 r]
  have e1 := vals_each rv
  have er : ∀ {qs : List (D × V)} {ws : List Value}, (∀ p ∈ qs, Dp X.K H p.2 (enc p.1)) → PySem.W.EachIs (fun u (p : D × V) => RelV p.2 u) ws qs → PySem.W.EachIs (fun v (p : D × V) => ∃ as, Reads s.heap v (enc p.1) as) ws qs := by
    intro qs
    induction qs with
    | nil =>
      intro ws _ h
      cases h
      exact .nil
    | cons p qs ih =>
      intro ws hp h
      cases h with
      | cons h1 h2 => exact .cons (Dp.reads I _ _ _ (hp p List.mem_cons_self) h1) (ih (fun z hz => hp z (List.mem_cons_of_mem _ hz)) h2)
  refine PySem.W.sorted_data (R := fun u (p : D × V) => RelV p.2 u) (enc := fun p => enc p.1) (bs := ps) hl.isList e1 (er hd e1) hal hk (by rw [List.length_map] at hz; exact hz) hu fun out ho eo => ?_
  obtain ⟨ep, he'⟩ := PyProof.Rows.sortedAll_at s.heap its out.toArray
  have hv := each_vals eo
  have hlen : ((ps.mergeSort (PySem.W.dataLe false fun p => enc p.1)).map (·.2)).length ≤ sizeLine := by rw [hv.length, ho]; rw [List.length_map] at hz; exact hz
  exact ⟨.ref _, upd H (s.heap.objs.size + 1) (.lst ((ps.mergeSort (PySem.W.dataLe false fun p => enc p.1)).map (·.2))), I.laid (t' := s.toks) (fun _ _ => PyProof.Rows.sortedAll_old) (Nat.le_succ _) ⟨hlen, out, ep, hv, he'⟩, rfl, q _ (I.hok.fresh (Nat.le_succ _))⟩
end
end Z

set_option Elab.async false
set_option linter.all false
set_option maxRecDepth 100000
set_option maxHeartbeats 4000000
namespace Z
open PySem PySem.Spec PyProof.Rows L2

section
variable {X : Cx} {W : WX}
/-! ### sorted -/
def encD (s : Sto) (d : D) : PyData := (pyd 30 s d).getD .none
def tupB : PyData → Bool
  | .tuple (_ :: _) => true
  | _ => false
def noTupB : PyData → Bool
  | .tuple _ => false
  | .none => false
  | _ => true
def canSort (s : Sto) (xs : List D) : Bool := (xs.all fun d => (shp s d).isSome) && (xs.all fun d => xs.all fun e => PySem.W.alike (encD s d) (encD s e)) && ((xs.all fun d => tupB (encD s d)) || xs.all fun d => noTupB (encD s d))
def sortD (s : Sto) (xs : List D) : List D := xs.mergeSort (PySem.W.dataLe false (encD s))
theorem shp_enc {s : Sto} {d : D} (h : (shp s d).isSome = true) : pyd 30 s d = some (encD s d) ∧ SeqAt.shaped (encD s d) = true := by
  unfold shp at h
  unfold encD
  cases e : pyd 30 s d with
  | none => rw [e] at h; cases h
  | some p =>
    rw [e] at h
    by_cases hs : SeqAt.shaped p = true
    · exact ⟨rfl, hs⟩
    · simp [hs] at h
theorem VRs.pairs {K : PySem.W.Frag} {ρ : Nat → Addr} {n : Nat} {H : Hp} : ∀ {ds : List D} {vs : List V}, VRs K ρ n H ds vs → ∃ ps : List (D × V), ps.map (·.1) = ds ∧ ps.map (·.2) = vs ∧ ∀ p ∈ ps, VR K ρ n H p.1 p.2
  | [], vs, r => by
    rw [VRs] at r
    subst r
    exact ⟨[], rfl, rfl, fun p hp => absurd hp (by simp)⟩
  | d :: ds, vs, r => by
    obtain ⟨v, vr, rfl, r1, r2⟩ := r.uncons
    obtain ⟨ps, h1, h2, h3⟩ := VRs.pairs r2
    exact ⟨(d, v) :: ps, by simp [h1], by simp [h2], fun p hp => by
      rcases List.mem_cons.mp hp with rfl | hp
      · exact r1
      · exact h3 p hp⟩
theorem VRs.of_pairs {K : PySem.W.Frag} {ρ : Nat → Addr} {n : Nat} {H : Hp} : ∀ {ps : List (D × V)}, (∀ p ∈ ps, VR K ρ n H p.1 p.2) → VRs K ρ n H (ps.map (·.1)) (ps.map (·.2))
  | [], _ => VRs.nil
  | p :: ps, h => VRs.cons (h p List.mem_cons_self) (VRs.of_pairs fun q hq => h q (List.mem_cons_of_mem _ hq))
def fSorted (ds : List D) (s : Sto) : Rs D := match ds with
  | [.ref n] => match lstAt s n with
    | some xs => if canSort s xs = true then .ok (.ref s.length) (s ++ [.lst (sortD s xs)]) else .no
    | none => .no
  | _ => .no
theorem pn_sorted (hu : X.A.units + 66 < cLine) : PrN X W fSorted (rSrt X) := by
  intro ρ s H σ xs vs Q sr r po
  unfold fSorted at po
  split at po
  · rename_i n
    obtain ⟨v, rfl, rv⟩ := r.one
    split at po
    · rename_i ys h1
      obtain ⟨hc, po⟩ := Po.ite po
      rw [VR] at rv
      obtain ⟨_, rfl⟩ := rv
      obtain ⟨ws, sq, rr⟩ := sr.lst h1
      obtain ⟨ps, e1, e2, e3⟩ := rr.pairs
      unfold canSort at hc
      rw [Bool.and_eq_true, Bool.and_eq_true] at hc
      obtain ⟨⟨c1, c2⟩, c3⟩ := hc
      have mem1 : ∀ p ∈ ps, p.1 ∈ ys := fun p hp => by rw [← e1]; exact List.mem_map_of_mem hp
      refine ⟨ρ n, ps, encD s, rfl, by rw [e2]; exact sq, fun p hp => ?_, ?_, ?_, fun p hp => ?_, fun q hq => ?_⟩
      · exact pyd_dp sr 30 p.1 p.2 _ (shp_enc (List.all_eq_true.mp c1 p.1 (mem1 p hp))).1 (e3 p hp)
      · intro d hd d' hd'
        obtain ⟨p, hp, rfl⟩ := List.mem_map.mp hd
        obtain ⟨p', hp', rfl⟩ := List.mem_map.mp hd'
        exact List.all_eq_true.mp (List.all_eq_true.mp c2 p.1 (mem1 p hp)) p'.1 (mem1 p' hp')
      · rcases Bool.or_eq_true_iff.mp c3 with c3 | c3
        · refine .inl fun d hd => ?_
          obtain ⟨p, hp, rfl⟩ := List.mem_map.mp hd
          have := List.all_eq_true.mp c3 p.1 (mem1 p hp)
          revert this
          cases encD s p.1 with
          | tuple l => cases l with
            | nil => intro h; cases h
            | cons x r => intro _; exact ⟨x, r, rfl⟩
          | _ => intro h; cases h
        · refine .inr fun d hd => ?_
          obtain ⟨p, hp, rfl⟩ := List.mem_map.mp hd
          have := List.all_eq_true.mp c3 p.1 (mem1 p hp)
          revert this
          cases encD s p.1 with
          | tuple l => intro h; cases h
          | none => intro h; cases h
          | _ => intro _; exact ⟨(fun h => nomatch h), (fun l h => nomatch h)⟩
      · have := SeqAt.depth_of_shaped (shp_enc (List.all_eq_true.mp c1 p.1 (mem1 p hp))).2
        omega
      · have em : (ps.mergeSort (PySem.W.dataLe false fun p => encD s p.1)).map (·.1) = sortD s ys := by
          unfold sortD
          rw [← e1]
          exact List.map_mergeSort fun a _ b _ => rfl
        have rs : VRs X.K ρ s.length H (sortD s ys) ((ps.mergeSort (PySem.W.dataLe false fun p => encD s p.1)).map (·.2)) := by
          rw [← em]
          exact VRs.of_pairs fun p hp => e3 p ((List.mergeSort_perm _ _).mem_iff.mp hp)
        obtain ⟨x1, sr1, v1⟩ := new_lst sr hq rs
        exact po _ _ _ x1 sr1 v1
    · exact po.elim
  · exact po.elim

/-! ### subscripts, slices -/
def dIx (x y : D) (s : Sto) : Rs D := match y with
  | .int i => match x with
    | .str z => if z.length ≤ sizeLine then (match atI z.cps.toList i with
        | some c => .ok (.str ⟨#[c]⟩) s
        | none => .no) else .no
    | _ => match seqD s x with
      | some xs => match atI xs i with
        | some d => .ok d s
        | none => .no
      | none => .no
  | _ => .no
theorem VRs.atI {K : PySem.W.Frag} {ρ : Nat → Addr} {n : Nat} {H : Hp} {ds : List D} {vs : List V} {i : Int} {d : D} (r : VRs K ρ n H ds vs) (h : atI ds i = some d) : ∃ v, L2.atI vs i = some v ∧ VR K ρ n H d v := by
  unfold L2.atI at h ⊢
  rw [r.length]
  cases e : ixN ds.length i with
  | none => rw [e] at h; cases h
  | some j =>
    rw [e] at h
    exact r.get h
theorem pr_ix : Pr2 X W dIx (rIx X.K) := by
  intro ρ s H σ x y vx vy Q sr r1 r2 po
  cases y with
  | int i =>
    obtain rfl : vy = .int i := r2
    have gen : ∀ xs : List D, seqD s x = some xs → Po X.K X.mg (VR X.K) W σ ρ s.length H (match atI xs i with | some d => Rs.ok d s | none => .no) Q → rIx X.K vx (.int i) H Q := by
      intro xs e po
      cases h : atI xs i with
      | none => rw [h] at po; exact po.elim
      | some d =>
        rw [h] at po
        obtain ⟨a, vs, rfl, sq, rr⟩ := vr_seq sr r1 (xs := xs) (by cases x <;> exact e)
        obtain ⟨v, hv, rv⟩ := rr.atI h
        rcases sq with sq | sq
        · exact .inl ⟨a, vs, i, v, rfl, rfl, sq, hv, po ρ H _ Ext.refl sr rv⟩
        · exact .inr (.inl ⟨a, vs, i, v, rfl, rfl, sq, hv, po ρ H _ Ext.refl sr rv⟩)
    cases x with
    | str z =>
      obtain rfl : vx = .str z := r1
      obtain ⟨hl, po⟩ := Po.ite (c := z.length ≤ sizeLine) po
      cases h : L2.atI z.cps.toList i with
      | none => rw [h] at po; exact po.elim
      | some c =>
        rw [h] at po
        exact .inr (.inr ⟨z, i, c, rfl, rfl, hl, h, po ρ H _ Ext.refl sr rfl⟩)
    | tup xs => exact gen xs rfl po
    | ref n =>
      have po2 : Po X.K X.mg (VR X.K) W σ ρ s.length H (match lstAt s n with
        | some xs => match atI xs i with
          | some d => Rs.ok d s
          | none => .no
        | none => .no) Q := po
      cases e : lstAt s n with
      | none => rw [e] at po2; exact po2.elim
      | some xs =>
        rw [e] at po2
        exact gen xs e po2
    | _ => exact po.elim
  | _ =>
    unfold dIx at po
    exact po.elim
def cutD (xs : List D) (lo hi : Option Int) : List D := (xs.drop (HT.sIx xs.length 0 lo)).take (HT.sIx xs.length xs.length hi - HT.sIx xs.length 0 lo)
def dSl (x : D) (lo hi : Option Int) (s : Sto) : Rs D := match x with
  | .str z => if z.length ≤ sizeLine then .ok (.str (cutS z lo hi)) s else .no
  | .tup xs => .ok (.tup (cutD xs lo hi)) s
  | .ref n => match lstAt s n with
    | some xs => .ok (.ref s.length) (s ++ [.lst (cutD xs lo hi)])
    | none => .no
  | _ => .no
def rSls (K : PySem.W.Frag) : V → Option Int → Option Int → Hp → VK → Prop := fun x lo hi H Q => rSlS x lo hi H Q ∨ rSlA K x lo hi H Q ∨ rSlL K x lo hi H Q
theorem sl_all : SlR X (rSls X.K) := sl_str.or (sl_tupA.or sl_list)
theorem VRs.cut {K : PySem.W.Frag} {ρ : Nat → Addr} {n : Nat} {H : Hp} {ds : List D} {vs : List V} {lo hi : Option Int} (r : VRs K ρ n H ds vs) : VRs K ρ n H (cutD ds lo hi) (cutV vs lo hi) := by
  unfold cutD cutV
  rw [r.length]
  exact (r.drop _).take _
theorem ps_sl : PrS X W dSl (rSls X.K) := by
  intro ρ s H σ x vx lo hi Q sr r po
  cases x with
  | str z =>
    obtain rfl : vx = .str z := r
    obtain ⟨hl, po⟩ := Po.ite (c := z.length ≤ sizeLine) po
    exact .inl ⟨z, rfl, hl, po ρ H _ Ext.refl sr rfl⟩
  | tup xs =>
    have r' := r
    rw [VR] at r
    obtain ⟨a, vs, rfl, sq, rr⟩ := r
    refine .inr (.inl ⟨a, vs, rfl, sq, fun hh => ?_, fun _ p hp => ?_⟩)
    · refine po ρ H _ Ext.refl sr ?_
      have e : cutD xs lo hi = xs := by
        unfold cutD
        rw [← rr.length, hh.1, hh.2, List.drop_zero, rr.length, Nat.sub_zero, List.take_length]
      rw [e]
      exact r'
    · obtain ⟨x1, sr1, v1⟩ := new_tup sr hp (rr.cut (lo := lo) (hi := hi))
      exact po ρ _ _ x1 sr1 v1
  | ref n =>
    have po2 : Po X.K X.mg (VR X.K) W σ ρ s.length H (match lstAt s n with
      | some xs => Rs.ok (.ref s.length) (s ++ [.lst (cutD xs lo hi)])
      | none => .no) Q := po
    cases e : lstAt s n with
    | none => rw [e] at po2; exact po2.elim
    | some xs =>
      rw [e] at po2
      rw [VR] at r
      obtain ⟨_, rfl⟩ := r
      obtain ⟨vs, sq, rr⟩ := sr.lst e
      refine .inr (.inr ⟨_, vs, rfl, sq, fun p hp => ?_⟩)
      obtain ⟨x1, sr1, v1⟩ := new_lst sr hp (rr.cut (lo := lo) (hi := hi))
      exact po2 _ _ _ x1 sr1 v1
  | _ => exact po.elim
/-! ### stores to a place, methods of lists -/
def xSetL (o i x : D) (s : Sto) : Option Sto := match o, i with
  | .ref n, .int k => match s[n]? with
    | some (.lst xs) => (ixN xs.length k).map fun j => s.set n (.lst (xs.set j x))
    | _ => none
  | _, _ => none
theorem px_setL : PrSet X xSetL rSetL := by
  intro ρ s s' H o i x vo vi vx Q sr ro ri rx e q
  unfold xSetL at e
  split at e
  · rename_i n k
    split at e
    · rename_i xs h1
      obtain ⟨j, hj, rfl⟩ := Option.map_eq_some_iff.mp e
      rw [VR] at ro
      obtain ⟨_, rfl⟩ := ro
      obtain rfl : vi = .int k := ri
      obtain ⟨vs, hv, rv⟩ := sr.ob _ _ h1
      refine ⟨_, vs, k, j, rfl, rfl, hv, by rw [rv.length]; exact hj, ?_⟩
      have xw : Ext ρ s.length H ρ s.length (upd H (ρ n) (.lst (vs.set j vx))) := Ext.write (sr.ob _ _ h1) rfl
      refine q ρ _ (by rw [List.length_set]; exact xw) ?_
      exact sr.write h1 rfl rfl ⟨_, upd_same, (rv.set j rx).mono xw⟩
    · cases e
  · cases e
/-- a list's method that changes it -/
def mtL (f : List D → List D → Option (List D × D)) (x : D) (ds : List D) (s : Sto) : Rs D := match x with
  | .ref n => match s[n]? with
    | some (.lst xs) => match f xs ds with
      | some (ys, d) => .ok d (s.set n (.lst ys))
      | none => .no
    | _ => .no
  | _ => .no
theorem pm_L {f : List D → List D → Option (List D × D)} {r : V → List V → Hp → VK → Prop}
    (h : ∀ (ρ : Nat → Addr) (n : Nat) (H : Hp) (a : Addr) (xs ds ys : List D) (d : D) (vs us : List V) (Q : VK), H a = some (.lst vs) → VRs X.K ρ n H xs vs → VRs X.K ρ n H ds us → f xs ds = some (ys, d) →
      (∀ ws v, VRs X.K ρ n H ys ws → VR X.K ρ n H d v → Q v (upd H a (.lst ws))) → r (.ref a) us H Q) : PrM X W (mtL f) r := by
  intro ρ s H σ x ds v us Q sr r1 r2 po
  unfold mtL at po
  cases x with
  | ref n =>
    dsimp only at po
    split at po
    · rename_i xs h1
      split at po
      · rename_i ys d h2
        rw [VR] at r1
        obtain ⟨_, rfl⟩ := r1
        obtain ⟨vs, hv, rv⟩ := sr.ob _ _ h1
        refine h ρ s.length H (ρ n) xs ds ys d vs us Q hv rv r2 h2 fun ws v rw1 rd => ?_
        have xw : Ext ρ s.length H ρ s.length (upd H (ρ n) (.lst ws)) := Ext.write (sr.ob _ _ h1) rfl
        refine po ρ _ v (by rw [List.length_set]; exact xw) (sr.write h1 rfl rfl ⟨_, upd_same, rw1.mono xw⟩) (by rw [List.length_set]; exact rd.mono xw)
      · exact po.elim
    · exact po.elim
  | _ => exact po.elim
def lAppend (xs ds : List D) : Option (List D × D) := match ds with
  | [d] => if xs.length < sizeLine then some (xs ++ [d], .non) else none
  | _ => none
theorem pm_append : PrM X W (mtL lAppend) rAppend := pm_L fun ρ n H a xs ds ys d vs us Q hv rv ru e q => by
  unfold lAppend at e
  split at e
  · rename_i x
    split at e
    · rename_i hl
      cases e
      obtain ⟨u, rfl, r1⟩ := ru.one
      exact ⟨a, vs, u, rfl, rfl, hv, by rw [rv.length]; exact hl, q _ _ (rv.append (VRs.cons r1 VRs.nil)) rfl⟩
    · cases e
  · cases e
theorem VRs.eraseIdx {K : PySem.W.Frag} {ρ : Nat → Addr} {n : Nat} {H : Hp} : ∀ {ds : List D} {vs : List V} (i : Nat), VRs K ρ n H ds vs → VRs K ρ n H (ds.eraseIdx i) (vs.eraseIdx i)
  | [], vs, i, r => by
    rw [VRs] at r
    subst r
    exact VRs.nil
  | d :: ds, vs, 0, r => by
    obtain ⟨v, vr, rfl, r1, r2⟩ := r.uncons
    exact r2
  | d :: ds, vs, i + 1, r => by
    obtain ⟨v, vr, rfl, r1, r2⟩ := r.uncons
    exact VRs.cons r1 (VRs.eraseIdx i r2)
def lPopAt (xs ds : List D) : Option (List D × D) := match ds with
  | [.int i] => if -(2 ^ 63) ≤ i ∧ i < 2 ^ 63 then (seqIndex? i xs.length).bind fun k => (xs[k]?).map fun d => (xs.eraseIdx k, d) else none
  | _ => none
theorem pm_popAt : PrM X W (mtL lPopAt) rPopAt := pm_L fun ρ n H a xs ds ys d vs us Q hv rv ru e q => by
  unfold lPopAt at e
  split at e
  · rename_i i
    split at e
    · rename_i hi
      obtain ⟨k, h1, e⟩ := Option.bind_eq_some_iff.mp e
      obtain ⟨z, h2, e⟩ := Option.map_eq_some_iff.mp e
      cases e
      obtain ⟨u, rfl, r1⟩ := ru.one
      obtain rfl : u = .int i := r1
      obtain ⟨v, hk, rk⟩ := rv.get h2
      exact ⟨a, vs, i, k, v, rfl, rfl, hv, hi.1, hi.2, by rw [rv.length]; exact h1, hk, q _ _ (rv.eraseIdx k) rk⟩
    · cases e
  · cases e
def lReverse (xs ds : List D) : Option (List D × D) := match ds with
  | [] => some (xs.reverse, .non)
  | _ => none
theorem pm_reverse : PrM X W (mtL lReverse) rReverse := pm_L fun ρ n H a xs ds ys d vs us Q hv rv ru e q => by
  unfold lReverse at e
  split at e
  · cases e
    rw [VRs] at ru
    subst ru
    exact ⟨a, vs, rfl, rfl, hv, q _ _ rv.reverse rfl⟩
  · cases e
/-! ### texts -/
def strD : D → Option Str
  | .str x => some x
  | _ => none
theorem strs_of {K : PySem.W.Frag} {ρ : Nat → Addr} {n : Nat} {H : Hp} : ∀ {xs : List D} {vs : List V} {bs : List Str}, VRs K ρ n H xs vs → xs.mapM strD = some bs → vs = bs.map V.str
  | [], vs, bs, r, h => by
    rw [VRs] at r
    subst r
    simp at h
    subst h
    rfl
  | x :: xs, vs, bs, r, h => by
    obtain ⟨v, vr, rfl, r1, r2⟩ := r.uncons
    rw [List.mapM_cons] at h
    obtain ⟨b, h1, h⟩ := Option.bind_eq_some_iff.mp h
    obtain ⟨cs, h2, h⟩ := Option.bind_eq_some_iff.mp h
    cases h
    rw [strs_of r2 h2]
    cases x with
    | str b' =>
      cases h1
      obtain rfl : v = .str _ := r1
      rfl
    | _ => cases h1
def fJoin (x : D) (ds : List D) (s : Sto) : Rs D := match x, ds with
  | .str a, [d] => match (seqD s d).bind fun xs => xs.mapM strD with
    | some ys => if (ys.map (·.length)).sum + ys.length * a.length ≤ 16777216 then .ok (.str (Txt.join a ys)) s else .no
    | none => .no
  | _, _ => .no
theorem pm_join : PrM X W fJoin (fun x xs H Q => ∃ a p, ∃ ys : List Str, x = .str a ∧ xs = [.ref p] ∧ (SqL X.K H p (ys.map V.str) ∨ SqT X.K H p (ys.map V.str)) ∧
    (ys.map (·.length)).sum + ys.length * a.length ≤ 16777216 ∧ Q (.str (Txt.join a ys)) H) := by
  intro ρ s H σ x ds v us Q sr r1 r2 po
  unfold fJoin at po
  split at po
  · rename_i a d
    obtain rfl : v = .str a := r1
    obtain ⟨u, rfl, ru⟩ := r2.one
    split at po
    · rename_i ys e
      obtain ⟨hz, po⟩ := Po.ite po
      obtain ⟨xs, h1, h2⟩ := Option.bind_eq_some_iff.mp e
      obtain ⟨p, vs, rfl, sq, rr⟩ := vr_seq sr ru (xs := xs) (by cases d <;> exact h1)
      rw [strs_of rr h2] at sq
      exact ⟨a, p, ys, rfl, rfl, sq, hz, po ρ H _ Ext.refl sr rfl⟩
    · exact po.elim
  · exact po.elim
theorem vrs_strs {K : PySem.W.Frag} {ρ : Nat → Addr} {n : Nat} {H : Hp} : ∀ ys : List Str, VRs K ρ n H (ys.map D.str) (ys.map V.str)
  | [] => VRs.nil
  | _ :: ys => VRs.cons rfl (vrs_strs ys)
def fSplit (x : D) (ds : List D) (s : Sto) : Rs D := match x, ds with
  | .str a, [.str b] => if (b.length == 0) = false ∧ a.length + 2 ≤ sizeLine then .ok (.ref s.length) (s ++ [.lst ((Txt.split a b).map D.str)]) else .no
  | _, _ => .no
theorem pm_split : PrM X W fSplit (fun x xs H Q => ∃ a b, x = .str a ∧ xs = [.str b] ∧ (b.length == 0) = false ∧ a.length + 2 ≤ sizeLine ∧ rNewStrs (Txt.split a b) H Q) := by
  intro ρ s H σ x ds v us Q sr r1 r2 po
  unfold fSplit at po
  split at po
  · rename_i a b
    obtain rfl : v = .str a := r1
    obtain ⟨u, rfl, ru⟩ := r2.one
    obtain rfl : u = .str b := ru
    obtain ⟨⟨h1, h2⟩, po⟩ := Po.ite po
    refine ⟨a, b, rfl, rfl, h1, h2, fun p hp => ?_⟩
    obtain ⟨x1, sr1, v1⟩ := new_lst sr hp (vrs_strs (K := X.K) (ρ := ρ) (n := s.length) (H := H) (Txt.split a b))
    exact po _ _ _ x1 sr1 v1
  · exact po.elim
/-! ### f-strings -/
def fFmt (d : D) (s : Sto) : Rs D := match d with
  | .str y => if y.length ≤ sizeLine then .ok (.str y) s else .no
  | .int i => if i.natAbs.log2 < 1920 then .ok (.str (toString i)) s else .no
  | _ => .no
variable {pos : Pos} {e : Expr} {m : EM D}
theorem je_fmt (he : JE X W e m) : JE X W (.FormattedValue e (-1) none pos) (m1 fFmt m) := PE_imp (pe_fmt he) fun σ H Q ⟨ρ, env, s, sr, er, po⟩ => ⟨ρ, env, s, sr, er, (Po.bind po).imp fun v H1 ⟨ρ1, s1, d1, e1, sr1, r1, po1⟩ => by
  cases d1 with
  | str y =>
    obtain rfl : v = .str y := r1
    obtain ⟨h, po1⟩ := Po.ite (c := y.length ≤ sizeLine) po1
    exact .inl ⟨y, rfl, h, po1 ρ1 H1 _ Ext.refl sr1 rfl⟩
  | int i =>
    obtain rfl : v = .int i := r1
    obtain ⟨h, po1⟩ := Po.ite (c := i.natAbs.log2 < 1920) po1
    exact .inr ⟨i, rfl, h, po1 ρ1 H1 _ Ext.refl sr1 rfl⟩
  | _ => exact po1.elim⟩
def mJs : List (EM D) → Str → Ev → Sto → Rs D
  | [], acc, _, s => .ok (.str acc) s
  | m :: ms, acc, e, s => (m e s).bind fun d s1 => match d with
    | .str y => if (acc ++ y).length ≤ sizeLine then mJs ms (acc ++ y) e s1 else .no
    | _ => .no
inductive JP (X : Cx) (W : WX) : List Expr → List (EM D) → Prop where
  | nil : JP X W [] []
  | cons {e : Expr} {m : EM D} {es : List Expr} {ms : List (EM D)} (h : JE X W e m) (r : JP X W es ms) : JP X W (e :: es) (m :: ms)
theorem JP.pj {es : List Expr} {ms : List (EM D)} (h : JP X W es ms) : PJ X es (ms.map fun m => lE X.K X.mg W m) := by
  induction h with
  | nil => exact .nil
  | cons h _ ih => exact .cons h ih
theorem je_joined {v1 v2 : Expr} {rest : List Expr} {ms : List (EM D)} (h : JP X W (v1 :: v2 :: rest) ms) : JE X W (.JoinedStr (v1 :: v2 :: rest) pos) (mJs ms Str.empty) := by
  refine PE_imp (pe_joined h.pj) fun σ H Q ⟨ρ, env, s, sr, er, po⟩ => ?_
  have all : ∀ (ms : List (EM D)) (acc : Str) (ρ : Nat → Addr) (s : Sto) (H : Hp), SR X.K X.mg ρ s H → EnvR X.K ρ s.length H env σ → Po X.K X.mg (VR X.K) W σ ρ s.length H (mJs ms acc env s) Q → tJs (ms.map fun m => lE X.K X.mg W m) acc σ H fun out H1 => Q (.str out) H1 := by
    intro ms
    induction ms with
    | nil => intro acc ρ s H sr er po; exact po ρ H _ Ext.refl sr rfl
    | cons m ms ih =>
      intro acc ρ s H sr er po
      refine ⟨ρ, env, s, sr, er, (Po.bind (R := VR X.K) po).imp fun v H1 ⟨ρ1, s1, d1, e1, sr1, r1, po1⟩ => ?_⟩
      cases d1 with
      | str y =>
        obtain rfl : v = .str y := r1
        obtain ⟨h, po1⟩ := Po.ite (c := (acc ++ y).length ≤ sizeLine) po1
        exact ⟨y, rfl, h, ih _ ρ1 s1 H1 sr1 (er.mono e1) po1⟩
      | _ => exact po1.elim
  exact all ms Str.empty ρ s H sr er po
end
end Z

set_option Elab.async false
set_option linter.all false
set_option maxRecDepth 100000
set_option maxHeartbeats 4000000
namespace Z
open PySem PySem.Spec PyProof.Rows L2

section
variable {X : Cx} {W : WX} {pos : Pos}
/-! ### further walks -/
def jEn (n : Nat) : Stp := fun i s => (lstAt s n).map fun xs => (xs[i]?).map fun d => .tup [.int i, d]
def jStr (x : Str) : Stp := fun i _ => some ((x.cps[i]?).map fun c => .str ⟨#[c]⟩)
def jZip (n m : Nat) : Stp := fun i s => match lstAt s n, lstAt s m with
  | some xs, some ys => some (match xs[i]?, ys[i]? with
    | some x, some y => some (.tup [x, y])
    | _, _ => none)
  | _, _ => none
def iEn (ms : EM (List D)) : EM (Nat × Stp) := fun e s => (ms e s).bind fun ds s1 => match ds with
  | [.ref n] => match lstAt s1 n with
    | some xs => .ok (xs.length, jEn n) s1
    | none => .no
  | _ => .no
def iSt (m : EM D) : EM (Nat × Stp) := fun e s => (m e s).bind fun d s1 => match d with
  | .str x => .ok (x.cps.size, jStr x) s1
  | _ => .no
def iZp (ms : EM (List D)) : EM (Nat × Stp) := fun e s => (ms e s).bind fun ds s1 => match ds with
  | [.ref n, .ref m] => match lstAt s1 n, lstAt s1 m with
    | some xs, some ys => .ok (xs.length, jZip n m) s1
    | _, _ => .no
  | _ => .no
theorem ri_en {ρ : Nat → Addr} {n m : Nat} {H : Hp} {N : Nat} (hm : m < n) : RI X.K X.mg ρ n H (N, jEn m) (Ite X.K (ρ m)) := by
  intro ρ' s' H' i e sr
  show match (lstAt s' m).map fun xs => (xs[i]?).map fun d => D.tup [.int i, d] with
    | none => True
    | some none => _
    | some (some d) => _
  cases h : lstAt s' m with
  | none => trivial
  | some xs =>
    obtain ⟨vs, sq, r⟩ := sr.lst h
    rw [e.ag m hm] at sq
    cases hx : xs[i]? with
    | none =>
      simp only [Option.map, hx]
      exact ⟨vs, sq, by rw [r.length]; exact List.getElem?_eq_none_iff.mp hx⟩
    | some d =>
      simp only [Option.map, hx]
      obtain ⟨v, hv, rv⟩ := r.get hx
      refine ⟨⟨vs, v, sq, hv⟩, fun x H'' y => ?_⟩
      obtain ⟨T, u, rfl, hT, rfl, y⟩ := y
      have q := y vs sq
      rw [hv] at q
      cases q
      exact new_tup sr hT (VRs.cons rfl (VRs.cons rv VRs.nil))
theorem ri_str {ρ : Nat → Addr} {n : Nat} {H : Hp} {N : Nat} {x : Str} : RI X.K X.mg ρ n H (N, jStr x) (Its x) := by
  intro ρ' s' H' i e sr
  show match some ((x.cps[i]?).map fun c => D.str ⟨#[c]⟩) with
    | none => True
    | some none => _
    | some (some d) => _
  cases hx : x.cps[i]? with
  | none =>
    simp only [Option.map]
    exact Array.getElem?_eq_none_iff.mp hx
  | some c =>
    simp only [Option.map]
    have hi : i < x.cps.size := (Array.getElem?_eq_some_iff.mp hx).1
    refine ⟨hi, fun v H'' y => ?_⟩
    obtain ⟨rfl, c', hc, rfl⟩ := y
    rw [hx] at hc
    cases hc
    exact ⟨Ext.refl, sr, rfl⟩
theorem ri_zip {ρ : Nat → Addr} {n m m2 : Nat} {H : Hp} {N : Nat} (hm : m < n) (hm2 : m2 < n) : RI X.K X.mg ρ n H (N, jZip m m2) (Itz X.K (ρ m) (ρ m2)) := by
  intro ρ' s' H' i e sr
  show match jZip m m2 i s' with
    | none => True
    | some none => _
    | some (some d) => _
  unfold jZip
  cases h : lstAt s' m with
  | none => trivial
  | some xs =>
    cases h2 : lstAt s' m2 with
    | none => trivial
    | some ys =>
      obtain ⟨vs, sq, r⟩ := sr.lst h
      obtain ⟨us, sq2, r2⟩ := sr.lst h2
      rw [e.ag m hm] at sq
      rw [e.ag m2 hm2] at sq2
      dsimp only
      cases hx : xs[i]? with
      | none => exact ⟨vs, us, sq, sq2, .inl (by rw [r.length]; exact List.getElem?_eq_none_iff.mp hx)⟩
      | some d =>
        cases hy : ys[i]? with
        | none => exact ⟨vs, us, sq, sq2, .inr (by rw [r2.length]; exact List.getElem?_eq_none_iff.mp hy)⟩
        | some d2 =>
          obtain ⟨v, hv, rv⟩ := r.get hx
          obtain ⟨u, hu, ru⟩ := r2.get hy
          refine ⟨⟨vs, us, v, u, sq, sq2, hv, hu⟩, fun z H'' y => ?_⟩
          obtain ⟨T, a, b, rfl, hT, rfl, y1, y2⟩ := y
          have q := y1 vs sq
          have q2 := y2 us sq2
          rw [hv] at q
          rw [hu] at q2
          cases q
          cases q2
          exact new_tup sr hT (VRs.cons rv (VRs.cons ru VRs.nil))
variable {tg e e2 : Expr} {ms : EM (List D)} {m : EM D} {p tpos : Pos} {elts : List Expr} {kk : Nat}
theorem ji_en (hg : Gl X "enumerate") (hm : X.mg "enumerate" = none) (ha : JA X W [e] ms) (hs : starEach [e] X.env = [(false, eval e X.env)] := by rfl) : JI X W (.Tuple elts kk tpos) (.Call (.Name "enumerate" p) [e] [] pos) (iEn ms) :=
  PI_imp (pi_enum hg hm ha hs) fun σ H Q ⟨ρ, env, s, sr, er, po⟩ => ⟨ρ, env, s, sr, er, (Po.bind po).imp fun v H1 ⟨ρ1, s1, d1, e1, sr1, r1, po1⟩ => by
    dsimp only at po1
    split at po1
    · rename_i n
      split at po1
      · rename_i xs hx
        obtain ⟨u, rfl, ru⟩ := r1.one
        rw [VR] at ru
        obtain ⟨hn, rfl⟩ := ru
        obtain ⟨vs, sq, rr⟩ := sr1.lst hx
        exact ⟨_, vs, rfl, sq, po1 ρ1 H1 _ Ext.refl sr1 (ri_en hn)⟩
      · exact po1.elim
    · exact po1.elim⟩
theorem ji_str (he : JE X W e m) : JI X W tg e (iSt m) := PI_imp (pi_str he) fun σ H Q ⟨ρ, env, s, sr, er, po⟩ => ⟨ρ, env, s, sr, er, (Po.bind po).imp fun v H1 ⟨ρ1, s1, d1, e1, sr1, r1, po1⟩ => by
  cases d1 with
  | str x =>
    obtain rfl : v = .str x := r1
    exact ⟨x, rfl, po1 ρ1 H1 _ Ext.refl sr1 ri_str⟩
  | _ => exact po1.elim⟩
theorem ji_zip (hg : Gl X "zip") (hm : X.mg "zip" = none) (ha : JA X W [e, e2] ms) (hs : starEach [e, e2] X.env = (false, eval e X.env) :: starEach [e2] X.env := by rfl) (hpl : (backTo pos (starEach [e2] X.env)).any (·.1) = false := by rfl) :
    JI X W (.Tuple elts kk tpos) (.Call (.Name "zip" p) [e, e2] [] pos) (iZp ms) :=
  PI_imp (pi_zip hg hm ha hs hpl) fun σ H Q ⟨ρ, env, s, sr, er, po⟩ => ⟨ρ, env, s, sr, er, (Po.bind po).imp fun v H1 ⟨ρ1, s1, d1, e1, sr1, r1, po1⟩ => by
    dsimp only at po1
    split at po1
    · rename_i n k
      split at po1
      · rename_i xs ys hx hy
        obtain ⟨u, ur, rfl, ru, rr⟩ := r1.uncons
        obtain ⟨u2, rfl, ru2⟩ := rr.one
        rw [VR] at ru ru2
        obtain ⟨hn, rfl⟩ := ru
        obtain ⟨hk, rfl⟩ := ru2
        obtain ⟨vs, sq, _⟩ := sr1.lst hx
        obtain ⟨us, sq2, _⟩ := sr1.lst hy
        exact ⟨_, _, vs, us, rfl, sq, sq2, po1 ρ1 H1 _ Ext.refl sr1 (ri_zip hn hk)⟩
      · exact po1.elim
    · exact po1.elim⟩
/-! ### int * int, list * int -/
def dMul2 (x y : D) (s : Sto) : Rs D := match x, y with
  | .int i, .int j => if cMul i j then .ok (.int (i * j)) s else .no
  | .ref n, .int k => match s[n]? with
    | some (.lst xs) => if (-(2 ^ 63) ≤ k ∧ k < 2 ^ 63) ∧ xs.length * k.toNat ≤ sizeLine then .ok (.ref s.length) (s ++ [.lst (List.replicate k.toNat xs).flatten]) else .no
    | _ => .no
  | _, _ => .no
def rMuls : R2 := fun x y H Q => rI CMul (fun i j => .int (i * j)) x y H Q ∨ rRep x y H Q
theorem op_muls : OpR X (binaryOp .Mult) rMuls := op_mul.or op_rep
theorem VRs.rep {K : PySem.W.Frag} {ρ : Nat → Addr} {n : Nat} {H : Hp} {ds : List D} {vs : List V} (r : VRs K ρ n H ds vs) : ∀ k : Nat, VRs K ρ n H (List.replicate k ds).flatten (List.replicate k vs).flatten
  | 0 => VRs.nil
  | k + 1 => by
    rw [List.replicate_succ, List.flatten_cons, List.replicate_succ, List.flatten_cons]
    exact r.append (VRs.rep r k)
theorem pr_mul2 : Pr2 X W dMul2 rMuls := by
  intro ρ s H σ x y vx vy Q sr r1 r2 po
  unfold dMul2 at po
  split at po
  · rename_i i j
    obtain ⟨hc, po⟩ := Po.ite po
    obtain rfl : vx = .int i := r1
    obtain rfl : vy = .int j := r2
    exact .inl ⟨i, j, rfl, rfl, hc, po ρ H _ Ext.refl sr rfl⟩
  · rename_i n k
    split at po
    · rename_i xs hx
      obtain ⟨⟨h1, h2⟩, po⟩ := Po.ite po
      rw [VR] at r1
      obtain ⟨_, rfl⟩ := r1
      obtain rfl : vy = .int k := r2
      obtain ⟨vs, hv, rv⟩ := sr.ob _ _ hx
      refine .inr ⟨_, k, vs, rfl, rfl, hv, h1.1, h1.2, by rw [rv.length]; exact h2, fun q hq => ?_⟩
      obtain ⟨x1, sr1, v1⟩ := new_lst sr hq (rv.rep k.toNat)
      exact po _ _ _ x1 sr1 v1
    · exact po.elim
  · exact po.elim
/-! ### isinstance with one built-in class -/
def tyN (s : Sto) : D → Option String
  | .non => some "NoneType"
  | .bl _ => some "bool"
  | .int _ => some "int"
  | .str _ => some "str"
  | .tup _ => some "tuple"
  | .ref n => match s[n]? with
    | some (.lst _) => some "list"
    | some (.frz _) => some "list"
    | some (.dict _ _) => some "dict"
    | _ => none
theorem tyN_ok {K : PySem.W.Frag} {mg : Str → Option Value} {ρ : Nat → Addr} {s : Sto} {H : Hp} (sr : SR K mg ρ s H) {d : D} {v : V} {t : String} (r : VR K ρ s.length H d v) (h : tyN s d = some t) : TyX K H v (.type t) := by
  cases d with
  | non =>
    cases h
    obtain rfl : v = .non := r
    exact .base .non
  | bl b =>
    cases h
    obtain rfl : v = .bl b := r
    exact .base (.bl b)
  | int b =>
    cases h
    obtain rfl : v = .int b := r
    exact .base (.int b)
  | str b =>
    cases h
    obtain rfl : v = .str b := r
    exact .base (.str b)
  | tup ds =>
    cases h
    rw [VR] at r
    obtain ⟨a, vs, rfl, sq, _⟩ := r
    rcases sq with (sq | ⟨o, sq⟩) | ⟨o, its, n, hk, hc, _⟩
    · exact .base (.tup sq)
    · exact .fTuple sq
    · exact .kTuple hk hc
  | ref n =>
    rw [VR] at r
    obtain ⟨_, rfl⟩ := r
    have h2 : (match s[n]? with
      | some (.lst _) => some "list"
      | some (.frz _) => some "list"
      | some (.dict _ _) => some "dict"
      | _ => none) = some t := h
    clear h
    split at h2
    · rename_i xs hx
      cases h2
      obtain ⟨vs, q, _⟩ := sr.ob _ _ hx
      exact .base (.lst q)
    · rename_i xs hx
      cases h2
      obtain ⟨vs, q, _⟩ := sr.ob _ _ hx
      rcases q with ⟨o, q⟩ | ⟨o, its, m, hk, hc, _⟩
      · exact .base (.frz q)
      · exact .kList hk hc
    · rename_i t kvs hx
      cases h2
      have ob := sr.ob _ _ hx
      cases t with
      | false =>
        obtain ⟨vs, q, _⟩ := ob
        exact .base (.dK q)
      | true =>
        obtain ⟨vs, q, _⟩ := ob
        exact .base (.dT q)
    · cases h2
def mIsi (T : String) (m : EM D) : EM D := fun e s => (m e s).bind fun d s1 => match tyN s1 d with
  | some a => match kitB a T with
    | some b => .ok (.bl b) s1
    | none => .no
  | none => .no
theorem je_isi {x : Str} {p1 p2 : Pos} {T : String} (hg : Gl X "isinstance") (hm : X.mg "isinstance" = none) (hg2 : Gl X x) (hm2 : X.mg x = none) (hv : bootBuiltins x = some (.type T)) (he : JE X W e m) (hn : x ≠ "__name__" := by decide) (hdb : (x == ("__debug__" : Str)) = false := by decide)
    (hs : starEach [e, .Name x p2] X.env = (false, eval e X.env) :: starEach [.Name x p2] X.env := by rfl) (hpl : (backTo pos (starEach [.Name x p2] X.env)).any (·.1) = false := by rfl) (hs2 : starEach [.Name x p2] X.env = (false, eval (.Name x p2) X.env) :: starEach [] X.env := by rfl) :
    JE X W (.Call (.Name "isinstance" p1) [e, .Name x p2] [] pos) (mIsi T m) := by
  refine PE_imp (pe_callB call_isi hg hm boot_isinstance (pa_cons he (pa_cons (pe_bltn (v := .ty T) hg2 hm2 hv rfl hn hdb) pa_nil hs2) hs) (he := hs) (hpl := hpl)) fun σ H Q ⟨ρ, env, s, sr, er, po⟩ => ⟨ρ, env, s, sr, er, (Po.bind po).imp fun v H1 ⟨ρ1, s1, d1, e1, sr1, r1, po1⟩ => ?_⟩
  dsimp only at po1
  split at po1
  · rename_i a ha
    split at po1
    · rename_i b hb
      exact ⟨v, .ty T, .type a, .type T, b, rfl, .ty T, tyN_ok sr1 r1 ha, kit_ty hb, po1 ρ1 H1 _ Ext.refl sr1 rfl⟩
    · exact po1.elim
  · exact po1.elim
/-! ### repr of data -/
def fRepr (ds : List D) (s : Sto) : Rs D := match ds with
  | [d] => match shp s d with
    | some p => if p.showable = true ∧ p.shown.length ≤ sizeLine then .ok (.str p.shown) s else .no
    | none => .no
  | _ => .no
def rReprD (K : PySem.W.Frag) : List V → Hp → VK → Prop := fun xs H Q => ∃ v p, xs = [v] ∧ Dp K H v p ∧ SeqAt.shaped p = true ∧ p.showable = true ∧ p.shown.length ≤ sizeLine ∧ Q (.str p.shown) H
theorem noDict_lay : (∀ d : PyData, d.canLay0 = true → d.hasDict = false) ∧ ∀ ds : List PyData, PyData.canLayAll0 ds = true → PyData.hasDictAll ds = false := by
  have h : ∀ n, (∀ d : PyData, sizeOf d < n → d.canLay0 = true → d.hasDict = false) ∧ ∀ ds : List PyData, sizeOf ds < n → PyData.canLayAll0 ds = true → PyData.hasDictAll ds = false := by
    intro n
    induction n with
    | zero => exact ⟨fun _ h => absurd h (Nat.not_lt_zero _), fun _ h => absurd h (Nat.not_lt_zero _)⟩
    | succ n ih =>
      refine ⟨fun d hd hl => ?_, fun ds hd hl => ?_⟩
      · cases d with
        | list xs =>
          rw [PyData.canLay0] at hl
          rw [PyData.hasDict]
          exact ih.2 xs (by simp at hd; omega) hl
        | tuple xs =>
          rw [PyData.canLay0] at hl
          rw [PyData.hasDict]
          exact ih.2 xs (by simp at hd; omega) hl
        | dict kvs => simp [PyData.canLay0] at hl
        | _ => rfl
      · cases ds with
        | nil => rfl
        | cons d ds =>
          rw [PyData.canLayAll0, Bool.and_eq_true] at hl
          rw [PyData.hasDictAll, ih.1 d (by simp at hd; omega) hl.1, ih.2 ds (by simp at hd; omega) hl.2]
          rfl
  exact ⟨fun d => (h _).1 d (Nat.lt_succ_self _), fun ds => (h _).2 ds (Nat.lt_succ_self _)⟩
theorem call_reprD (hg : X.A.guards = some []) (hu : X.A.units + 66 < cLine) : CallR X (.builtin "repr") (rReprD X.K) := by
  intro pins s σ H xs us Q I r h
  obtain ⟨v, p, rfl, dp, sh, hs, hz, q⟩ := h
  obtain ⟨u, rfl, ru⟩ := vals1 r
  cases dp with
  | non =>
    cases ru
    exact PySem.P.repr_of_none ⟨.str _, H, I.tok _, ⟨_, rfl⟩, q⟩
  | bl b =>
    cases ru
    refine PySem.P.repr_of_bool ⟨.str _, H, I.tok _, ⟨_, rfl⟩, ?_⟩
    cases b <;> exact q
  | int i =>
    obtain ⟨t, rfl⟩ := ru
    exact PySem.P.repr_of_int (of_decide_eq_true hs) ⟨.str _, H, I.tok _, ⟨_, rfl⟩, q⟩
  | str x =>
    obtain ⟨t, rfl⟩ := ru
    exact PySem.P.repr_of_str ⟨.str _, H, I.tok _, ⟨_, rfl⟩, q⟩ hz
  | lst sq ha =>
    obtain ⟨as, rd⟩ := Dp.reads I _ _ _ (Dp.lst sq ha) ru
    cases ru
    exact repr_of_reads' rd hs (PyData.noDict_hsm (noDict_lay.1 _ (SeqAt.canLay_of_shaped sh))) hg (by have := SeqAt.depth_of_shaped sh; omega) (fun _ _ e => e) (fun h' u tk kk => ⟨.str _, H, I.kept kk, ⟨_, rfl⟩, q⟩) hz
  | tup sq ha =>
    obtain ⟨as, rd⟩ := Dp.reads I _ _ _ (Dp.tup sq ha) ru
    cases ru
    exact repr_of_reads' rd hs (PyData.noDict_hsm (noDict_lay.1 _ (SeqAt.canLay_of_shaped sh))) hg (by have := SeqAt.depth_of_shaped sh; omega) (fun _ _ e => e) (fun h' u tk kk => ⟨.str _, H, I.kept kk, ⟨_, rfl⟩, q⟩) hz
theorem pn_repr : PrN X W fRepr (rReprD X.K) := by
  intro ρ s H σ xs vs Q sr r po
  unfold fRepr at po
  split at po
  · rename_i d
    obtain ⟨v, rfl, rv⟩ := r.one
    split at po
    · rename_i p hp
      obtain ⟨⟨h1, h2⟩, po⟩ := Po.ite po
      obtain ⟨a1, a2⟩ := shp_dp sr hp rv
      exact ⟨v, p, rfl, a1, a2, h1, h2, po ρ H _ Ext.refl sr rfl⟩
    · exact po.elim
  · exact po.elim
end
section
variable {X : Cx} {W : WX} {pos spos : Pos} {elt tg iter : Expr} {ifs : List Expr} {scope : Scope} {own : List (Str × Nat)} {mi : EM (Nat × Stp)} {g : GN} {is : List Nat} {t : EM Bool} {m : EM D} {i : Nat} {y : Str} {py : Pos}
/-- y = [..] on one line -/
theorem js_setLc {g' : TG} (hc : X.calm = true) (hN : X.N.Nodup) (hy : X.N[i]? = some y) (hyl : X.env.scope.names.lookup y = some .local)
    (hsw : swapsWith (.ListComp elt [⟨tg, iter, ifs, 0⟩] scope pos) (some (.Name y py)) spos.line X.env = pure true) (hi : JI X W tg iter mi) (ok : BlkOk X.N X.env.scope scope own) (his : ∀ i ∈ is, i ∈ own.map (·.2))
    (hg' : ∀ (s : Shared) (H : Hp) (C : Addr) (cl : List (Str × Addr)) (fp : List Addr), PG (X.blk s H scope (compEnvC scope cl C X.env) fp) tg g') (gq : GQ X.K g is g')
    (ht : ∀ (s : Shared) (H : Hp) (C : Addr) (cl : List (Str × Addr)) (fp : List Addr), PTs (X.blk s H scope (compEnvC scope cl C X.env) fp) ifs (lT X.K X.mg WF t))
    (he : ∀ (s : Shared) (H : Hp) (C : Addr) (cl : List (Str × Addr)) (fp : List Addr), JE (X.blk s H scope (compEnvC scope cl C X.env) fp) WF elt m) (hs : ∀ x, foldedSetIterable iter X.env x = pure x := by intro _; rfl) :
    JS X W (.Assign [.Name y py] (.ListComp elt [⟨tg, iter, ifs, 0⟩] scope pos) spos) (sA i (mL mi g t m (own.map (·.2)))) := by
  exact PS_imp (ps_setLc hc hN hy hyl hsw hi ok hg' ht he hs) fun σ H D ⟨ρ, env, s, sr, er, po⟩ =>
    llc (Q := fun x H1 => D.nx (σ.set i (some x)) H1) his gq (fun _ _ _ z => z) (fun _ _ _ z => z) ⟨ρ, env, s, sr, er, (PoS.st (R := VR X.K) er po).imp fun v H1 ⟨ρ1, s1, d1, e1, sr1, r1, er1, po1⟩ => po1 ρ1 H1 _ Ext.refl sr1 (er1.set r1)⟩
end
end Z

set_option Elab.async false
set_option linter.all false
set_option maxRecDepth 100000
set_option maxHeartbeats 4000000
namespace Z
open PySem PySem.Spec PyProof.Rows L2

section
variable {X : Cx} {W : WX} {pos : Pos} {e : Expr} {m : EM D}
/-! ### truth -/
def trD (s : Sto) : D → Option Bool
  | .non => some false
  | .bl b => some b
  | .int i => some (i != 0)
  | .str y => if y.length ≤ sizeLine then some ((y.length : Int) != 0) else none
  | .tup xs => some (!xs.isEmpty)
  | .ref n => match s[n]? with
    | some (.lst xs) => some (!xs.isEmpty)
    | some (.frz xs) => some (!xs.isEmpty)
    | _ => none
theorem VRs.isEmpty {K : PySem.W.Frag} {ρ : Nat → Addr} {n : Nat} {H : Hp} {ds : List D} {vs : List V} (r : VRs K ρ n H ds vs) : ds.isEmpty = vs.isEmpty := by
  have := r.length
  cases ds <;> cases vs <;> first | rfl | simp at this
theorem trD_ok {K : PySem.W.Frag} {mg : Str → Option Value} {ρ : Nat → Addr} {s : Sto} {H : Hp} (sr : SR K mg ρ s H) {d : D} {v : V} {b : Bool} (r : VR K ρ s.length H d v) (h : trD s d = some b) : TruV K v H b := by
  cases d with
  | non =>
    cases h
    obtain rfl : v = .non := r
    rfl
  | bl c =>
    cases h
    obtain rfl : v = .bl b := r
    rfl
  | int c =>
    cases h
    obtain rfl : v = .int c := r
    rfl
  | str c =>
    obtain rfl : v = .str c := r
    have h2 : (if c.length ≤ sizeLine then some ((c.length : Int) != 0) else none) = some b := h
    clear h
    split at h2
    · rename_i hl
      cases h2
      exact ⟨hl, rfl⟩
    · cases h2
  | tup ds =>
    cases h
    rw [VR] at r
    obtain ⟨a, vs, rfl, sq, rr⟩ := r
    exact .inr (.inl ⟨vs, sq, by rw [rr.isEmpty]⟩)
  | ref n =>
    rw [VR] at r
    obtain ⟨_, rfl⟩ := r
    have h2 : (match s[n]? with
      | some (.lst xs) => some (!xs.isEmpty)
      | some (.frz xs) => some (!xs.isEmpty)
      | _ => none) = some b := h
    clear h
    split at h2
    · rename_i xs hx
      cases h2
      obtain ⟨vs, sq, rr⟩ := sr.lst (n := n) (xs := xs) (by unfold lstAt; rw [hx])
      exact .inl ⟨vs, sq, by rw [rr.isEmpty]⟩
    · rename_i xs hx
      cases h2
      obtain ⟨vs, sq, rr⟩ := sr.lst (n := n) (xs := xs) (by unfold lstAt; rw [hx])
      exact .inl ⟨vs, sq, by rw [rr.isEmpty]⟩
    · cases h2
def toT (m : EM D) : EM Bool := fun e s => (m e s).bind fun d s1 => match trD s1 d with
  | some b => .ok b s1
  | none => .no
theorem jt_tru (h : JE X W e m) (he : ∀ whole, isTrue e X.env whole = (do let v ← whole; standAt e.pos; holding [v] (truthy v)) := by intro _; rfl) : JT X W e (toT m) :=
  PT_imp (pt_truth h he) fun σ H Q ⟨ρ, env, s, sr, er, po⟩ => ⟨ρ, env, s, sr, er, (Po.bind po).imp fun v H1 ⟨ρ1, s1, d1, e1, sr1, r1, po1⟩ => by
    dsimp only at po1
    split at po1
    · rename_i b hb
      exact ⟨b, trD_ok sr1 r1 hb, po1 ρ1 H1 _ Ext.refl sr1 rfl⟩
    · exact po1.elim⟩
/-- a module's tuple -/
def TupC (K : PySem.W.Frag) (mg : Str → Option Value) (x : Str) (ds : List D) : Prop := ∃ a vs, mg x = some (.ref a) ∧ (∀ H, SqT K H a vs) ∧ ∀ ρ n H, VRs K ρ n H ds vs
theorem je_gt {x : Str} {ds : List D} (hg : Gl X x) (h : TupC X.K X.mg x ds) (hd : (x == ("__debug__" : Str)) = false := by decide) : JE X W (.Name x pos) (mC (.tup ds)) := by
  obtain ⟨a, vs, h1, h2, h3⟩ := h
  exact je_gtup hg h1 h2 h3 hd
end
/-! ### the head's facts: any check of the written part -/
abbrev AlZ : Type := Bool × List He.FnW
def obsZ (chk : PySem.W.Frag → Bool) (fn : List He.DefD) (K : PySem.W.Frag) : AlZ := (chk K && fn.all fun d => d.ok K, fn.map fun d => He.fnW K d.at_)
def valZ (fn : List He.DefD) : AlZ := (true, fn.map He.DefD.val)
def SaysZ (chk : PySem.W.Frag → Bool) (fn : List He.DefD) (K : PySem.W.Frag) : Prop := obsZ chk fn K = valZ fn
def obsZG (n : Nat) (chk : PySem.W.Frag → Bool) (fn : List He.DefD) (g : Addr → Option Obj) : AlZ := obsZ chk fn (He.frG g (He.asD g n))
def hookZ (n : Nat) (chk : PySem.W.Frag → Bool) (fn : List He.DefD) : PySem.W.Hook where
  α := AlZ
  obs := fun s => obsZG n chk fn s.heap.get?
  val := fun _ => valZ fn
  says := fun _ h => ∃ K : PySem.W.Frag, K.In h ∧ SaysZ chk fn K
  of := fun _ _ e => ⟨_, He.frG_in, e⟩
  keeps := fun _ _ _ ⟨K, hK, c⟩ k => ⟨K, PySem.W.Frag.In.keeps hK k, c⟩
theorem obsZG_eq {n : Nat} {chk : PySem.W.Frag → Bool} {fn : List He.DefD} {g : Addr → Option Obj} {s : Shared} (h : ∀ a, g a = s.heap.get? a) : obsZG n chk fn g = (hookZ n chk fn).obs s := by
  have e : g = s.heap.get? := funext h
  rw [e] <;> rfl
section
variable {chk : PySem.W.Frag → Bool} {fn : List He.DefD} {K : PySem.W.Frag}
theorem SaysZ.ok_ (c : SaysZ chk fn K) : chk K = true := (He.ba (show (chk K && fn.all fun d => d.ok K) = true from congrArg (fun z : AlZ => z.1) c)).1
theorem SaysZ.def_ (c : SaysZ chk fn K) (i : Nat) {d : He.DefD} (h : fn[i]? = some d := by rfl) : ∃ fd, FunD K d.name d.qual d.params d.body d.scope (d.dvs K) (d.kws K) (He.fAd K d.at_) fd := by
  have c2 := (He.ba (show (chk K && fn.all fun d => d.ok K) = true from congrArg (fun z : AlZ => z.1) c)).2
  have e : fn.map (fun d => He.fnW K d.at_) = fn.map He.DefD.val := congrArg (fun z : AlZ => z.2) c
  have e2 : (fn.map fun d => He.fnW K d.at_)[i]? = (fn.map He.DefD.val)[i]? := by rw [e]
  rw [List.getElem?_map, List.getElem?_map, h] at e2
  exact He.DefD.funD (Option.some.inj e2) (List.all_eq_true.mp c2 d (List.mem_of_getElem? h))
/-- the checks by number -/
def chkAll (fa : List He.Fa) (ts : List (Str × List He.Dv)) (K : PySem.W.Frag) : Bool := (fa.all fun f => f.ok K) && ts.all fun t => He.tupB K t.1 t.2
theorem chk_fa {fa : List He.Fa} {ts : List (Str × List He.Dv)} (h : chkAll fa ts K = true) (i : Nat) {f : He.Fa} (e : fa[i]? = some f := by rfl) : f.ok K = true := List.all_eq_true.mp (He.ba h).1 f (List.mem_of_getElem? e)
def dvD : He.Dv → D
  | .non => .non
  | .bl b => .bl b
  | .int i => .int i
  | .str x => .str x
  | _ => .non
def plainDv : He.Dv → Bool
  | .non => true
  | .bl _ => true
  | .int _ => true
  | .str _ => true
  | _ => false
theorem vrs_dv {ρ : Nat → Addr} {n : Nat} {H : Hp} : ∀ ds : List He.Dv, ds.all plainDv = true → VRs K ρ n H (ds.map dvD) (ds.map (He.Dv.v K))
  | [], _ => VRs.nil
  | d :: ds, h => by
    rw [List.all_cons, Bool.and_eq_true] at h
    refine VRs.cons ?_ (vrs_dv ds h.2)
    cases d <;> first | rfl | cases h.1
theorem chk_tup {fa : List He.Fa} {ts : List (Str × List He.Dv)} (h : chkAll fa ts K = true) {hp : Heap} {mg : Str → Option Value} (X : K.In hp) (G : hp.Ns mainGlobals mg) (i j : Nat) {x : Str} {ds : List He.Dv} (e : ts[i]? = some (x, ds) := by rfl) (e2 : fa[j]? = some (.glo x) := by rfl) (hd : ds.all plainDv = true := by rfl) :
    TupC K mg x (ds.map dvD) :=
  ⟨He.ga K x, ds.map (He.Dv.v K), He.glo_ok X G (chk_fa h j e2), fun H => He.tupB_ok (List.all_eq_true.mp (He.ba h).2 _ (List.mem_of_getElem? e)) H, fun ρ n H => vrs_dv ds hd⟩
end
end Z

set_option Elab.async false
set_option linter.all false
set_option maxRecDepth 100000
set_option maxHeartbeats 4000000
namespace Z
open PySem PySem.Spec PyProof.Rows L2
theorem hu64 {a c : Nat} (h : a + 100 < c) : a + 64 < c := by omega
theorem hu65 {a c : Nat} (h : a + 100 < c) : a + 65 < c := by omega
theorem hu66 {a c : Nat} (h : a + 100 < c) : a + 66 < c := by omega
section
variable {X : Cx} {W : WX}
theorem jts_nil : PTs X [] (lT X.K X.mg W tY) := ⟨fun _ _ _ H _ I ⟨ρ, env, s, sr, er, po⟩ => wpAny_tests_nil ⟨H, I, po ρ H true Ext.refl sr rfl⟩⟩
def dIsN2 (x y : D) (s : Sto) : Rs D := match y with | .non => dIsN false x s | _ => .no
def dNotN2 (x y : D) (s : Sto) : Rs D := match y with | .non => dIsN true x s | _ => .no
theorem pr_isN2 : Pr2 X W dIsN2 (fun x y H Q => y = .non ∧ Q (.bl (decide (x = .non))) H) := pr_isN
theorem pr_notN2 : Pr2 X W dNotN2 (fun x y H Q => y = .non ∧ Q (.bl (!decide (x = .non))) H) := pr_notN
end
end Z

set_option Elab.async false
set_option linter.all false
set_option maxRecDepth 100000
set_option maxHeartbeats 4000000
namespace Z
open PySem PySem.Spec PyProof.Rows L2
/-! ### what a mirror answers: weakest preconditions -/
/-- an equation that simp takes as a proof, not as a computation -/
theorem nr {α : Sort u} {a b : α} (h : a = b) : a = b := h
def NE : Str → Str → D → Sto → Prop := fun _ _ _ _ => False
def Rs.wp {α : Type} (r : Rs α) (P : α → Sto → Prop) (E : Str → Str → D → Sto → Prop := NE) : Prop := match r with
  | .ok a s => P a s
  | .ex c f v s => E c f v s
  | .no => False
structure En where
  nx : Ev → Sto → Prop
  rt : D → Sto → Prop
  bk : Ev → Sto → Prop := fun _ _ => False
  ct : Ev → Sto → Prop := fun _ _ => False
  ex : Str → Str → D → Ev → Sto → Prop := fun _ _ _ _ _ => False
def RS.wp (r : RS) (Q : En) : Prop := match r with
  | .nx e s => Q.nx e s
  | .rt d s => Q.rt d s
  | .bk e s => Q.bk e s
  | .ct e s => Q.ct e s
  | .ex c f v e s => Q.ex c f v e s
  | .no => False
section
variable {α β : Type} {P : α → Sto → Prop} {P' : β → Sto → Prop} {E : Str → Str → D → Sto → Prop} {Q : En} {e : Ev} {s : Sto} {r : Rs α}
@[simp ↓] theorem z_ok {a : α} : (Rs.ok a s).wp P E = P a s := nr rfl
@[simp ↓] theorem z_ex {c f : Str} {v : D} : (Rs.ex c f v s : Rs α).wp P E = E c f v s := nr rfl
@[simp ↓] theorem z_no : (Rs.no : Rs α).wp P E = False := nr rfl
theorem z_bind {k : α → Sto → Rs β} : (r.bind k).wp P' E = r.wp (fun a s => (k a s).wp P' E) E := by cases r <;> rfl
theorem z_st {k : α → Sto → RS} : (r.st e k).wp Q = r.wp (fun a s => (k a s).wp Q) (fun c f v s => Q.ex c f v e s) := by cases r <;> rfl
theorem z_seq {r : RS} {k : SM} : (r.seq k).wp Q = r.wp { Q with nx := fun e s => (k e s).wp Q } := by cases r <;> rfl
@[simp ↓] theorem z_nx : (RS.nx e s).wp Q = Q.nx e s := nr rfl
@[simp ↓] theorem z_rt {d : D} : (RS.rt d s).wp Q = Q.rt d s := nr rfl
@[simp ↓] theorem z_bk : (RS.bk e s).wp Q = Q.bk e s := nr rfl
@[simp ↓] theorem z_ct : (RS.ct e s).wp Q = Q.ct e s := nr rfl
@[simp ↓] theorem z_rex {c f : Str} {v : D} : (RS.ex c f v e s).wp Q = Q.ex c f v e s := nr rfl
@[simp ↓] theorem z_rno : (RS.no).wp Q = False := nr rfl
theorem z_fin {r : RS} {P : D → Sto → Prop} : (r.fin).wp P E = r.wp { nx := fun _ s => P .non s, rt := P, ex := fun c f v _ s => E c f v s } := by cases r <;> rfl
theorem z_nox {P : α → Sto → Prop} : (r.nox).wp P E = r.wp P NE := by cases r <;> rfl
theorem wp_mono {P2 : α → Sto → Prop} {E2 : Str → Str → D → Sto → Prop} (h : r.wp P E) (hP : ∀ a s, P a s → P2 a s) (hE : ∀ c f v s, E c f v s → E2 c f v s) : r.wp P2 E2 := by
  cases r with
  | ok a s => exact hP a s h
  | ex c f v s => exact hE c f v s h
  | no => exact h
/-- the wish kept apart -/
theorem wp_of {P : α → Sto → Prop} (h : ∀ P2 : α → Sto → Prop, (∀ a s, P a s → P2 a s) → r.wp P2 E) : r.wp P E := h P fun _ _ h => h
/-- no error came: whatever is asked of errors -/
theorem wp_ne {P2 : α → Sto → Prop} (h : r.wp P) (hP : ∀ a s, P a s → P2 a s) : r.wp P2 E := wp_mono h hP fun _ _ _ _ z => z.elim
theorem z_fnM {ps n : Nat} {m : SM} {ds : List D} {P : D → Sto → Prop} (h : ds.length = ps) : (fnM ps n m ds s).wp P E = (m (ds.map some ++ List.replicate (n - ds.length) none) s).wp { nx := fun _ s => P .non s, rt := P, ex := fun c f v _ s => E c f v s } := by
  unfold fnM
  rw [if_pos h, z_fin]
theorem RS.wp_mono {r : RS} {Q Q2 : En} (h : r.wp Q) (h1 : ∀ e s, Q.nx e s → Q2.nx e s) (h2 : ∀ e s, Q.rt e s → Q2.rt e s) (h3 : ∀ e s, Q.bk e s → Q2.bk e s) (h4 : ∀ e s, Q.ct e s → Q2.ct e s) (h5 : ∀ c f v e s, Q.ex c f v e s → Q2.ex c f v e s) : r.wp Q2 := by
  cases r with
  | nx e s => exact h1 e s h
  | rt d s => exact h2 d s h
  | bk e s => exact h3 e s h
  | ct e s => exact h4 e s h
  | ex c f v e s => exact h5 c f v e s h
  | no => exact h
end
theorem ok_of_wp {r : Rs D} {d : D} (h : r.wp fun a _ => a = d) : ∃ s', r = .ok d s' := by
  cases r with
  | ok a s =>
    have h : a = d := h
    exact ⟨s, by rw [h]⟩
  | ex c f v s => exact h.elim
  | no => exact h.elim
/-! ### for, comprehensions by an invariant -/
section
variable {j : Stp} {g : GN} {body : SM} {Q : En} {N : Nat}
/-- one round of a for -/
def ForStep (j : Stp) (g : GN) (body : SM) (Q : En) (I : Nat → Ev → Sto → Prop) (N i : Nat) (e : Ev) (s : Sto) : Prop :=
  (i = N → j i s = some none ∧ Q.nx e s) ∧ (i < N → ∃ d e1, j i s = some (some d) ∧ g d e = some e1 ∧ (body e1 s).wp { nx := I (i + 1), ct := I (i + 1), bk := Q.nx, rt := Q.rt, ex := Q.ex })
theorem forL_wp (I : Nat → Ev → Sto → Prop) (st : ∀ i e s, i ≤ N → I i e s → ForStep j g body Q I N i e s) : ∀ (f i : Nat) (e : Ev) (s : Sto), i + f = N → I i e s → (forL j g body f i e s).wp Q
  | 0, i, e, s, h, hi => by
    obtain ⟨h1, h2⟩ := (st i e s (by omega) hi).1 (by omega)
    unfold forL
    rw [h1]
    exact h2
  | f + 1, i, e, s, h, hi => by
    obtain ⟨d, e1, h1, h2, h3⟩ := (st i e s (by omega) hi).2 (by omega)
    unfold forL
    rw [h1]
    dsimp only
    rw [h2]
    dsimp only
    cases hb : body e1 s with
    | nx e2 s2 =>
      rw [hb] at h3
      exact forL_wp I st f (i + 1) e2 s2 (by omega) h3
    | ct e2 s2 =>
      rw [hb] at h3
      exact forL_wp I st f (i + 1) e2 s2 (by omega) h3
    | bk e2 s2 => rw [hb] at h3; exact h3
    | rt d s2 => rw [hb] at h3; exact h3
    | ex c f v e s => rw [hb] at h3; exact h3
    | no => rw [hb] at h3; exact h3
variable {t : EM Bool} {m : EM D} {P : D → Sto → Prop} {l : Nat}
def LcStep (j : Stp) (g : GN) (t : EM Bool) (m : EM D) (l : Nat) (I : Nat → List D → Sto → Prop) (N i : Nat) (acc : List D) (e : Ev) (s : Sto) : Prop :=
  (i = N → j i s = some none) ∧ (i < N → ∃ d e1, j i s = some (some d) ∧ g d e = some e1 ∧
    (t e1 s).wp fun q s1 => if q then (m e1 s1).wp fun y s2 => s2[l]? = some (.lst acc) ∧ acc.length < sizeLine ∧ I (i + 1) (acc ++ [y]) (s2.set l (.lst (acc ++ [y])))
      else s1[l]? = some (.lst acc) ∧ I (i + 1) acc s1)
theorem lcL_wp (I : Nat → List D → Sto → Prop) {e : Ev} (st : ∀ i acc s, i ≤ N → I i acc s → s[l]? = some (.lst acc) → LcStep j g t m l I N i acc e s) : ∀ (f i : Nat) (acc : List D) (s : Sto), i + f = N → I i acc s → s[l]? = some (.lst acc) →
    (lcL j g t m l f i e s).wp fun d s' => d = .ref l ∧ ∃ ys, s'[l]? = some (.lst ys) ∧ I N ys s'
  | 0, i, acc, s, h, hi, hl => by
    have h1 := (st i acc s (by omega) hi hl).1 (by omega)
    unfold lcL
    rw [h1]
    have e1 : i = N := by omega
    subst e1
    exact ⟨rfl, acc, hl, hi⟩
  | f + 1, i, acc, s, h, hi, hl => by
    obtain ⟨d, e1, h1, h2, h3⟩ := (st i acc s (by omega) hi hl).2 (by omega)
    unfold lcL
    rw [h1]
    dsimp only
    rw [h2]
    dsimp only
    rw [z_bind, z_nox]
    refine wp_mono h3 (fun q s1 h4 => ?_) fun _ _ _ _ z => z.elim
    cases q with
    | true =>
      rw [if_pos rfl] at h4 ⊢
      rw [z_bind, z_nox]
      refine wp_mono h4 (fun y s2 h5 => ?_) fun _ _ _ _ z => z.elim
      obtain ⟨h6, h7, h8⟩ := h5
      rw [h6]
      dsimp only
      rw [if_pos h7]
      have hl2 : l < s2.length := (List.getElem?_eq_some_iff.mp h6).1
      exact lcL_wp I st f (i + 1) _ _ (by omega) h8 (by rw [List.getElem?_set_self hl2])
    | false =>
      simp only [Bool.false_eq_true, ↓reduceIte] at h4 ⊢
      exact lcL_wp I st f (i + 1) _ _ (by omega) h4.2 h4.1
end
/-! ### what a piece of code leaves as it was -/
/-- the bags: lists of two whole numbers -/
def Bag (s : Sto) (k : Nat) : Prop := ∃ a b : Int, s[k]? = some (.lst [.int a, .int b])
/-- from s to t: only the bags ks are changed -/
structure Eff (ks : List Nat) (s t : Sto) : Prop where
  le : s.length ≤ t.length
  eq : ∀ i, i < s.length → i ∉ ks → t[i]? = s[i]?
  bag : ∀ k ∈ ks, Bag s k → Bag t k
theorem Eff.refl {ks : List Nat} {s : Sto} : Eff ks s s := ⟨Nat.le_refl _, fun _ _ _ => rfl, fun _ _ h => h⟩
theorem Bag.lt {s : Sto} {k : Nat} (h : Bag s k) : k < s.length := by
  obtain ⟨a, b, h⟩ := h
  exact (List.getElem?_eq_some_iff.mp h).1
theorem Eff.trans {ks : List Nat} {s t u : Sto} (h : Eff ks s t) (h2 : Eff ks t u) : Eff ks s u :=
  ⟨Nat.le_trans h.le h2.le, fun i hi hk => (h2.eq i (Nat.lt_of_lt_of_le hi h.le) hk).trans (h.eq i hi hk), fun k hk hb => h2.bag k hk (h.bag k hk hb)⟩
theorem Eff.sub {ks js : List Nat} {s t : Sto} (h : Eff ks s t) (hs : ∀ k ∈ ks, k ∈ js) : Eff js s t := ⟨h.le, fun i hi hk => h.eq i hi fun hm => hk (hs i hm), fun k hk hb => by
  by_cases hm : k ∈ ks
  · exact h.bag k hm hb
  · obtain ⟨a, b, e⟩ := hb
    exact ⟨a, b, by rw [h.eq k (List.getElem?_eq_some_iff.mp e).1 hm]; exact e⟩⟩
theorem Eff.nil {js : List Nat} {s t : Sto} (h : Eff [] s t) : Eff js s t := h.sub fun _ h => by simp at h
theorem Eff.push {ks : List Nat} {s : Sto} {o : SO} : Eff ks s (s ++ [o]) := ⟨by simp, fun i hi _ => List.getElem?_append_left hi, fun k _ hb => by
  obtain ⟨a, b, e⟩ := hb
  exact ⟨a, b, by rw [List.getElem?_append_left (List.getElem?_eq_some_iff.mp e).1]; exact e⟩⟩
/-- a place made since is written -/
theorem Eff.set {ks : List Nat} {s t : Sto} (h : Eff ks s t) {n : Nat} {o : SO} (hn : s.length ≤ n) : Eff ks s (t.set n o) :=
  ⟨by simpa using h.le, fun i hi hk => by rw [List.getElem?_set_ne (by omega)]; exact h.eq i hi hk, fun k hk hb => by
    have hlt := hb.lt
    obtain ⟨a, b, e⟩ := h.bag k hk hb
    exact ⟨a, b, by rw [List.getElem?_set_ne (by omega)]; exact e⟩⟩
theorem Eff.get {ks : List Nat} {s t : Sto} (h : Eff ks s t) {i : Nat} {o : SO} (e : s[i]? = some o) (hi : i ∉ ks) : t[i]? = some o := by
  rw [h.eq i (List.getElem?_eq_some_iff.mp e).1 hi]
  exact e
theorem Eff.lst {ks : List Nat} {s t : Sto} (h : Eff ks s t) {i : Nat} {xs : List D} (e : lstAt s i = some xs) (hi : i ∉ ks) : lstAt t i = some xs := by
  have hl : i < s.length := lstAt_lt e
  unfold lstAt at e ⊢
  rw [h.eq i hl hi]
  exact e
theorem Bag.lst {s : Sto} {k : Nat} (h : Bag s k) : ∃ a b : Int, s[k]? = some (.lst [.int a, .int b]) ∧ lstAt s k = some [.int a, .int b] := by
  obtain ⟨a, b, e⟩ := h
  exact ⟨a, b, e, by unfold lstAt; rw [e]⟩
end Z

set_option Elab.async false
set_option linter.all false
set_option maxRecDepth 100000
set_option maxHeartbeats 4000000
namespace Z
open PySem PySem.Spec PyProof.Rows L2
/-! ### the steps of a mirror, for simp: outermost first -/
section
variable {P : D → Sto → Prop} {PL : List D → Sto → Prop} {PB : Bool → Sto → Prop} {PO : Option Int → Sto → Prop} {PI : Nat × Stp → Sto → Prop} {E : Str → Str → D → Sto → Prop} {Q : En} {e : Ev} {s : Sto}
variable {a b c : EM D} {ms : EM (List D)} {t u : EM Bool} {i : Nat} {d x y : D} {f h : D → D → Sto → Rs D} {f1 : D → Sto → Rs D} {fN : List D → Sto → Rs D} {fM : D → List D → Sto → Rs D}
theorem z_ite {c : Prop} [Decidable c] {α : Type} {a b : Rs α} {P : α → Sto → Prop} : (if c then a else b).wp P E = if c then a.wp P E else b.wp P E := by split <;> rfl
theorem z_iteS {c : Prop} [Decidable c] {a b : RS} : (if c then a else b).wp Q = if c then a.wp Q else b.wp Q := by split <;> rfl
theorem z_iteN {c : Prop} [Decidable c] {α : Type} {a : Rs α} {P : α → Sto → Prop} : (if c then a else .no).wp P E = (c ∧ a.wp P E) := by
  by_cases h : c <;> simp [h, Rs.wp]
/-- the value in a slot -/
def slotP (o : Option (Option D)) (P : D → Prop) : Prop := match o with
  | some (some d) => P d
  | _ => False
@[simp ↓] theorem slotP_some {P : D → Prop} : slotP (some (some d)) P = P d := nr rfl
@[simp ↓] theorem slotP_none {P : D → Prop} : slotP (some none) P = False := nr rfl
@[simp ↓] theorem z_mV : (mV i e s).wp P E = slotP e[i]? fun d => P d s := by
  unfold mV slotP
  cases e[i]? with
  | none => rfl
  | some o => cases o <;> rfl
@[simp ↓] theorem z_mC : (mC d e s).wp P E = P d s := nr rfl
@[simp ↓] theorem z_m2 : (m2 f a b e s).wp P E = (a e s).wp (fun x s1 => (b e s1).wp (fun y s2 => (f x y s2).wp P E) E) E := by
  unfold m2; simp only [z_bind]
@[simp ↓] theorem z_m1 : (m1 f1 a e s).wp P E = (a e s).wp (fun x s1 => (f1 x s1).wp P E) E := by
  unfold m1; simp only [z_bind]
@[simp ↓] theorem z_mN : (mN fN ms e s).wp P E = (ms e s).wp (fun xs s1 => (fN xs s1).wp P E) E := by
  unfold mN; simp only [z_bind]
@[simp ↓] theorem z_aN : (aN e s).wp PL E = PL [] s := nr rfl
@[simp ↓] theorem z_aC : (aC a ms e s).wp PL E = (a e s).wp (fun x s1 => (ms e s1).wp (fun xs s2 => PL (x :: xs) s2) E) E := by
  unfold aC; simp only [z_bind, z_ok]
def blP (d : D) (P : Bool → Prop) : Prop := match d with
  | .bl b => P b
  | _ => False
@[simp ↓] theorem blP_bl {b : Bool} {P : Bool → Prop} : blP (.bl b) P = P b := nr rfl
@[simp ↓] theorem z_toB : (toB a e s).wp PB E = (a e s).wp (fun d s1 => blP d fun b => PB b s1) E := by
  unfold toB blP; simp only [z_bind]
  congr 1
  funext d s1
  cases d <;> rfl
@[simp] theorem trD_bl {q : Bool} : trD s (.bl q) = some q := rfl
@[simp] theorem trD_non : trD s .non = some false := rfl
@[simp] theorem trD_int {j : Int} : trD s (.int j) = some (j != 0) := rfl
@[simp] theorem trD_tup {xs : List D} : trD s (.tup xs) = some (!xs.isEmpty) := rfl
theorem trD_str {z : Str} (h : z.length ≤ sizeLine) : trD s (.str z) = some ((z.length : Int) != 0) := if_pos h
@[simp ↓] theorem z_toT : (toT a e s).wp PB E = (a e s).wp (fun d s1 => ∃ b, trD s1 d = some b ∧ PB b s1) E := by
  unfold toT; simp only [z_bind]
  congr 1
  funext d s1
  cases h : trD s1 d <;> simp [Rs.wp]
@[simp ↓] theorem z_bAnd : (bAnd t u e s).wp PB E = (t e s).wp (fun x s1 => if x then (u e s1).wp PB E else PB false s1) E := by
  unfold bAnd; simp only [z_bind, z_ite, z_ok]
@[simp ↓] theorem z_bOr : (bOr t u e s).wp PB E = (t e s).wp (fun x s1 => if x then PB true s1 else (u e s1).wp PB E) E := by
  unfold bOr; simp only [z_bind, z_ite, z_ok]
@[simp ↓] theorem z_bNot : (bNot t e s).wp PB E = (t e s).wp (fun x s1 => PB (!x) s1) E := by
  unfold bNot; simp only [z_bind, z_ok]
@[simp ↓] theorem z_tY : (tY e s).wp PB E = PB true s := nr rfl
@[simp ↓] theorem z_mIf : (mIf t a b e s).wp P E = (t e s).wp (fun x s1 => if x then (a e s1).wp P E else (b e s1).wp P E) E := by
  unfold mIf; simp only [z_bind, z_ite]
@[simp ↓] theorem z_mAnd : (mAnd a b e s).wp P E = (a e s).wp (fun d s1 => blP d fun q => if q then (b e s1).wp P E else P (.bl false) s1) E := by
  unfold mAnd blP; simp only [z_bind]
  congr 1
  funext d s1
  cases d with
  | bl q => cases q <;> rfl
  | _ => rfl
@[simp ↓] theorem z_mOr : (mOr a b e s).wp P E = (a e s).wp (fun d s1 => blP d fun q => if q then P (.bl true) s1 else (b e s1).wp P E) E := by
  unfold mOr blP; simp only [z_bind]
  congr 1
  funext d s1
  cases d with
  | bl q => cases q <;> rfl
  | _ => rfl
@[simp ↓] theorem z_mNot : (mNot a e s).wp P E = (a e s).wp (fun d s1 => blP d fun q => P (.bl (!q)) s1) E := by
  unfold mNot blP; simp only [z_bind]
  congr 1
  funext d s1
  cases d <;> rfl
@[simp ↓] theorem z_mCh : (mCh f h a b c e s).wp P E = (a e s).wp (fun x s1 => (b e s1).wp (fun y s2 => (f x y s2).wp (fun z s3 => blP z fun q => if q then (c e s3).wp (fun w s4 => (h y w s4).wp P E) E else P (.bl false) s3) E) E) E := by
  unfold mCh blP; simp only [z_bind]
  congr 1
  funext d s1
  congr 1
  funext d2 s2
  congr 1
  funext d3 s3
  cases d3 with
  | bl q =>
    cases q with
    | false => rfl
    | true => simp only [z_bind]; rfl
  | _ => rfl
@[simp ↓] theorem z_mBM {T : String} : (mBM T fM a ms e s).wp P E = (a e s).wp (fun x s1 => isTy T s1 x = true ∧ (ms e s1).wp (fun xs s2 => (fM x xs s2).wp P E) E) E := by
  unfold mBM; simp only [z_bind, z_iteN]
@[simp ↓] theorem z_oN : (oN e s).wp PO E = PO none s := nr rfl
def intP (d : D) (P : Int → Prop) : Prop := match d with
  | .int i => P i
  | _ => False
@[simp ↓] theorem intP_int {j : Int} {P : Int → Prop} : intP (.int j) P = P j := nr rfl
@[simp ↓] theorem z_oS : (oS a e s).wp PO E = (a e s).wp (fun d s1 => intP d fun i => PO (some i) s1) E := by
  unfold oS intP; simp only [z_bind]
  congr 1
  funext d s1
  cases d <;> rfl
@[simp ↓] theorem z_mSl {fS : D → Option Int → Option Int → Sto → Rs D} {l k : EM (Option Int)} : (mSl fS a l k e s).wp P E = (a e s).wp (fun x s1 => (l e s1).wp (fun lo s2 => (k e s2).wp (fun hi s3 => (fS x lo hi s3).wp P E) E) E) E := by
  unfold mSl; simp only [z_bind]
@[simp ↓] theorem z_fTup {ds : List D} : (fTup ds s).wp P E = (ds.length ≤ sizeLine ∧ P (.tup ds) s) := by
  unfold fTup; rw [z_iteN, z_ok]
@[simp ↓] theorem z_fLst {ds : List D} : (fLst ds s).wp P E = (ds.length ≤ sizeLine ∧ P (.ref s.length) (s ++ [.lst ds])) := by
  unfold fLst; rw [z_iteN, z_ok]
/-! statements -/
variable {A B : SM} {g : GN} {mi : EM (Nat × Stp)}
@[simp ↓] theorem z_sN : (sN e s).wp Q = Q.nx e s := nr rfl
@[simp ↓] theorem z_sNo : (sNo e s).wp Q = False := nr rfl
@[simp ↓] theorem z_sC : (sC A B e s).wp Q = (A e s).wp { nx := fun e s => (B e s).wp Q, rt := Q.rt, bk := Q.bk, ct := Q.ct, ex := Q.ex } := by
  unfold sC; rw [z_seq]
/-- what comes next, not yet looked at -/
def nxt (B : SM) (Q : En) : Ev → Sto → Prop := fun e s => (B e s).wp Q
theorem z_sCn : (sC A B e s).wp Q = (A e s).wp { nx := nxt B Q, rt := Q.rt, bk := Q.bk, ct := Q.ct, ex := Q.ex } := z_sC
theorem z_nxt : nxt B Q e s = (B e s).wp Q := rfl
theorem z_nxC {B2 : SM} : nxt (sC B B2) Q e s = (B e s).wp { nx := nxt B2 Q, rt := Q.rt, bk := Q.bk, ct := Q.ct, ex := Q.ex } := z_sCn
@[simp ↓] theorem z_sA : (sA i a e s).wp Q = (a e s).wp (fun d s1 => Q.nx (e.set i (some d)) s1) (fun c f v s => Q.ex c f v e s) := by
  unfold sA; rw [z_st]; rfl
@[simp ↓] theorem z_sE : (sE a e s).wp Q = (a e s).wp (fun _ s1 => Q.nx e s1) (fun c f v s => Q.ex c f v e s) := by
  unfold sE; rw [z_st]; rfl
@[simp ↓] theorem z_sR : (sR a e s).wp Q = (a e s).wp (fun d s1 => Q.rt d s1) (fun c f v s => Q.ex c f v e s) := by
  unfold sR; rw [z_st]; rfl
@[simp ↓] theorem z_sR0 : (sR0 e s).wp Q = Q.rt .non s := nr rfl
@[simp ↓] theorem z_sI : (sI t A B e s).wp Q = (t e s).wp (fun q s1 => if q then (A e s1).wp Q else (B e s1).wp Q) (fun c f v s => Q.ex c f v e s) := by
  unfold sI; rw [z_st]; simp only [z_iteS]
def evP (o : Option Ev) (P : Ev → Prop) : Prop := match o with
  | some e => P e
  | none => False
@[simp ↓] theorem evP_some {e : Ev} {P : Ev → Prop} : evP (some e) P = P e := nr rfl
@[simp ↓] theorem z_sG : (sG g a e s).wp Q = (a e s).wp (fun d s1 => evP (g d e) fun e' => Q.nx e' s1) (fun c f v s => Q.ex c f v e s) := by
  unfold sG evP; rw [z_st]
  congr 1
  funext d s1
  cases g d e <;> rfl
def twoP (ds : List D) (P : D → D → Prop) : Prop := match ds with
  | [x, y] => P x y
  | _ => False
@[simp ↓] theorem twoP_two {P : D → D → Prop} : twoP [x, y] P = P x y := nr rfl
@[simp ↓] theorem z_sP {j : Nat} : (sP i j ms e s).wp Q = (ms e s).wp (fun ds s1 => twoP ds fun x y => Q.nx ((e.set i (some x)).set j (some y)) s1) (fun c f v s => Q.ex c f v e s) := by
  unfold sP; rw [z_st]
  congr 1
  funext d s1
  match d with
  | [] => rfl
  | [_] => rfl
  | [_, _] => rfl
  | _ :: _ :: _ :: _ => rfl
def stoP (o : Option Sto) (P : Sto → Prop) : Prop := match o with
  | some e => P e
  | none => False
@[simp ↓] theorem stoP_some {P : Sto → Prop} : stoP (some s) P = P s := nr rfl
@[simp ↓] theorem z_sX {fX : D → D → D → Sto → Option Sto} : (sX fX a b c e s).wp Q = (c e s).wp (fun x s1 => (a e s1).wp (fun o s2 => (b e s2).wp (fun i s3 => stoP (fX o i x s3) fun s4 => Q.nx e s4) (fun c f v s => Q.ex c f v e s)) (fun c f v s => Q.ex c f v e s)) (fun c f v s => Q.ex c f v e s) := by
  unfold sX stoP; simp only [z_st]
  congr 1
  funext d s1
  congr 1
  funext d2 s2
  congr 1
  funext d3 s3
  cases fX d2 d3 d s3 <;> rfl
@[simp ↓] theorem z_sF : (sF mi g A e s).wp Q = (mi e s).wp (fun jt s1 => (forL jt.2 g A jt.1 0 e s1).wp Q) (fun c f v s => Q.ex c f v e s) := by
  unfold sF; rw [z_st]
@[simp ↓] theorem z_mL {vs : List Nat} : (mL mi g t a vs e s).wp P E = (mi e s).wp (fun jt s1 => (lcL jt.2 g t a s1.length jt.1 0 (wipeD e vs) (s1 ++ [.lst []])).wp P E) E := by
  unfold mL; rw [z_bind]
/-- a list's items at a place -/
def lstP (o : Option (List D)) (P : List D → Prop) : Prop := match o with
  | some xs => P xs
  | none => False
@[simp ↓] theorem lstP_some {xs : List D} {P : List D → Prop} : lstP (some xs) P = P xs := nr rfl
/-- a list that may be written -/
def mlAt (s : Sto) (n : Nat) : Option (List D) := match s[n]? with
  | some (.lst xs) => some xs
  | _ => none
@[simp ↓] theorem z_setL {n : Nat} {j : Int} {PS : Sto → Prop} : stoP (xSetL (.ref n) (.int j) x s) PS = lstP (mlAt s n) fun xs => ∃ k, ixN xs.length j = some k ∧ PS (s.set n (.lst (xs.set k x))) := by
  unfold xSetL mlAt
  dsimp only
  cases h : s[n]? with
  | none => rfl
  | some o =>
    cases o with
    | lst xs =>
      dsimp only [lstP]
      cases ixN xs.length j <;> simp [stoP]
    | _ => rfl
/-! targets -/
@[simp ↓] theorem z_gN : gN i d e = some (e.set i (some d)) := nr rfl
@[simp ↓] theorem z_gT {gs : List GN} {ds : List D} : gT gs (.tup ds) e = gTs gs ds e := nr rfl
@[simp ↓] theorem z_gTs0 : gTs [] [] e = some e := nr rfl
@[simp ↓] theorem z_gTsC {gs : List GN} {ds : List D} : gTs (g :: gs) (d :: ds) e = (g d e).bind fun e' => gTs gs ds e' := nr rfl
@[simp ↓] theorem z_wipe0 : wipeD e [] = e := nr rfl
@[simp ↓] theorem z_wipeC {vs : List Nat} : wipeD e (i :: vs) = (wipeD e vs).set i none := nr rfl
/-! iterables -/
@[simp ↓] theorem z_iR1 : (iR1 ms e s).wp PI E = (ms e s).wp (fun ds s1 => ∃ j, ds = [.int j] ∧ (-(2 ^ 62) ≤ j ∧ j < 2 ^ 62) ∧ PI (j.toNat, jRng 0 j.toNat) s1) E := by
  unfold iR1; rw [z_bind]
  congr 1
  funext ds s1
  split
  · rename_i j
    rw [z_iteN, z_ok]
    simp
  · rename_i hn
    simp only [z_no, eq_iff_iff, false_iff, not_exists]
    intro j hj
    exact hn j hj.1
@[simp ↓] theorem z_iR2 : (iR2 ms e s).wp PI E = (ms e s).wp (fun ds s1 => ∃ i j, ds = [.int i, .int j] ∧ (-(2 ^ 62) ≤ i ∧ i < 2 ^ 62 ∧ -(2 ^ 62) ≤ j ∧ j < 2 ^ 62) ∧ PI ((j - i).toNat, jRng i (j - i).toNat) s1) E := by
  unfold iR2; rw [z_bind]
  congr 1
  funext ds s1
  split
  · rename_i i j
    rw [z_iteN, z_ok]
    simp only [eq_iff_iff]
    constructor
    · intro h; exact ⟨i, j, rfl, h⟩
    · rintro ⟨i', j', h1, h2⟩
      cases h1
      exact h2
  · rename_i hn
    simp only [z_no, eq_iff_iff, false_iff, not_exists]
    intro i j hj
    exact hn i j hj.1
@[simp ↓] theorem z_iSq : (iSq a e s).wp PI E = (a e s).wp (fun d s1 => match d with | .tup ds => PI (ds.length, jTup ds) s1 | .ref n => lstP (lstAt s1 n) fun xs => PI (xs.length, jLst n) s1 | _ => False) E := by
  unfold iSq; rw [z_bind]
  congr 1
  funext d s1
  cases d with
  | ref n =>
    dsimp only
    unfold lstAt lstP
    split <;> simp_all [Rs.wp]
  | _ => rfl
@[simp ↓] theorem z_iSt : (iSt a e s).wp PI E = (a e s).wp (fun d s1 => match d with | .str x => PI (x.cps.size, jStr x) s1 | _ => False) E := by
  unfold iSt; rw [z_bind]
  congr 1
  funext d s1
  cases d <;> rfl
@[simp ↓] theorem z_iEn : (iEn ms e s).wp PI E = (ms e s).wp (fun ds s1 => ∃ n, ds = [.ref n] ∧ lstP (lstAt s1 n) fun xs => PI (xs.length, jEn n) s1) E := by
  unfold iEn; rw [z_bind]
  congr 1
  funext ds s1
  split
  · rename_i n
    simp only [List.cons.injEq, D.ref.injEq, and_true, exists_eq_left']
    unfold lstP
    cases lstAt s1 n <;> rfl
  · rename_i hn
    simp only [z_no, eq_iff_iff, false_iff, not_exists]
    intro n hj
    exact hn n hj.1
@[simp ↓] theorem z_iZp : (iZp ms e s).wp PI E = (ms e s).wp (fun ds s1 => ∃ n m, ds = [.ref n, .ref m] ∧ lstP (lstAt s1 n) fun xs => lstP (lstAt s1 m) fun ys => PI (xs.length, jZip n m) s1) E := by
  unfold iZp; rw [z_bind]
  congr 1
  funext ds s1
  split
  · rename_i n m
    simp only [eq_iff_iff]
    constructor
    · intro h
      refine ⟨n, m, rfl, ?_⟩
      unfold lstP
      cases h1 : lstAt s1 n <;> cases h2 : lstAt s1 m <;> rw [h1, h2] at h <;> first | exact h | exact h.elim
    · rintro ⟨n', m', h1, h2⟩
      cases h1
      unfold lstP at h2
      cases h3 : lstAt s1 n <;> rw [h3] at h2 <;> first | exact h2.elim | skip
      cases h4 : lstAt s1 m <;> rw [h4] at h2 <;> first | exact h2.elim | exact h2
  · rename_i hn
    simp only [z_no, eq_iff_iff, false_iff, not_exists]
    intro n m hj
    exact hn n m hj.1
/-! primitives on what is known of them -/
theorem z_int {C : Int → Int → Prop} [∀ i j, Decidable (C i j)] {g : Int → Int → D} {i j : Int} : (dIc C g (.int i) (.int j) s).wp P E = (C i j ∧ P (g i j) s) := by
  show (if C i j then Rs.ok (g i j) s else Rs.no).wp P E = _
  rw [z_iteN, z_ok]
@[simp ↓] theorem z_sub {i j : Int} : (dSub (.int i) (.int j) s).wp P E = P (.int (i - j)) s := nr rfl
@[simp ↓] theorem z_lt {i j : Int} : (dLt (.int i) (.int j) s).wp P E = P (.bl (decide (i < j))) s := nr rfl
@[simp ↓] theorem z_le {i j : Int} : (dLe (.int i) (.int j) s).wp P E = P (.bl (decide (i ≤ j))) s := nr rfl
@[simp ↓] theorem z_gt {i j : Int} : (dGt (.int i) (.int j) s).wp P E = P (.bl (decide (j < i))) s := nr rfl
@[simp ↓] theorem z_ge {i j : Int} : (dGe (.int i) (.int j) s).wp P E = P (.bl (decide (j ≤ i))) s := nr rfl
@[simp ↓] theorem z_mul {i j : Int} : (dMul2 (.int i) (.int j) s).wp P E = (cMul i j ∧ P (.int (i * j)) s) := by
  show (if cMul i j then Rs.ok (D.int (i * j)) s else Rs.no).wp P E = _
  rw [z_iteN, z_ok]
@[simp ↓] theorem z_div {i j : Int} : (dDiv (.int i) (.int j) s).wp P E = ((0 < j ∧ j < 1073741824) ∧ P (.int (i / j)) s) := z_int
@[simp ↓] theorem z_mod {i j : Int} : (dMod (.int i) (.int j) s).wp P E = (0 < j ∧ P (.int (i % j)) s) := z_int
@[simp ↓] theorem z_pow {i j : Int} : (dPow (.int i) (.int j) s).wp P E = (cPow i j ∧ P (.int (i ^ j.toNat)) s) := z_int
@[simp ↓] theorem z_neg {i : Int} : (dNeg (.int i) s).wp P E = P (.int (-i)) s := nr rfl
@[simp ↓] theorem z_addI {i j : Int} : (dAdd (.int i) (.int j) s).wp P E = P (.int (i + j)) s := nr rfl
@[simp ↓] theorem z_addS {i j : Str} : (dAdd (.str i) (.str j) s).wp P E = (i.length + j.length ≤ sizeLine ∧ P (.str (i ++ j)) s) := by
  show (if _ then _ else _ : Rs D).wp P E = _
  rw [z_iteN, z_ok]
@[simp ↓] theorem z_addT {i j : List D} : (dAdd (.tup i) (.tup j) s).wp P E = (i.length + j.length ≤ sizeLine ∧ P (.tup (i ++ j)) s) := by
  show (if _ then _ else _ : Rs D).wp P E = _
  rw [z_iteN, z_ok]
@[simp ↓] theorem z_addL {n m : Nat} : (dAdd (.ref n) (.ref m) s).wp P E = lstP (mlAt s n) fun xs => lstP (mlAt s m) fun ys => xs.length + ys.length ≤ sizeLine ∧ P (.ref s.length) (s ++ [.lst (xs ++ ys)]) := by
  unfold dAdd mlAt lstP
  dsimp only
  cases s[n]? with
  | none => rfl
  | some o =>
    cases o with
    | lst xs =>
      cases s[m]? with
      | none => rfl
      | some o2 =>
        cases o2 with
        | lst ys => exact z_iteN
        | _ => rfl
    | _ => rfl
@[simp ↓] theorem z_fIntI {j : Int} : (fInt [.int j] s).wp P E = P (.int j) s := nr rfl
@[simp ↓] theorem z_fAbs {j : Int} : (fAbs [.int j] s).wp P E = P (.int (if j < 0 then -j else j)) s := nr rfl
@[simp ↓] theorem z_fMax {i j : Int} : (fMax2 [.int i, .int j] s).wp P E = P (.int (if j > i then j else i)) s := nr rfl
@[simp ↓] theorem z_fMin {i j : Int} : (fMin2 [.int i, .int j] s).wp P E = P (.int (if j < i then j else i)) s := nr rfl
@[simp ↓] theorem z_lenS {x : Str} : (fLen [.str x] s).wp P E = (x.length ≤ sizeLine ∧ P (.int x.length) s) := by
  show (if _ then _ else _ : Rs D).wp P E = _
  rw [z_iteN, z_ok]
@[simp ↓] theorem z_lenT {xs : List D} : (fLen [.tup xs] s).wp P E = P (.int xs.length) s := nr rfl
@[simp ↓] theorem z_lenL {n : Nat} : (fLen [.ref n] s).wp P E = lstP (lstAt s n) fun xs => P (.int xs.length) s := by
  unfold fLen seqD lstP
  dsimp only
  cases lstAt s n <;> rfl
@[simp ↓] theorem z_tupT {xs : List D} : (fTuple [.tup xs] s).wp P E = P (.tup xs) s := nr rfl
@[simp ↓] theorem z_tupL {n : Nat} : (fTuple [.ref n] s).wp P E = lstP (lstAt s n) fun xs => P (.tup xs) s := by
  unfold fTuple seqD lstP
  dsimp only
  cases lstAt s n <;> rfl
@[simp ↓] theorem z_listT {xs : List D} : (fList [.tup xs] s).wp P E = (xs.length ≤ sizeLine ∧ P (.ref s.length) (s ++ [.lst xs])) := by
  show (if _ then _ else _ : Rs D).wp P E = _
  rw [z_iteN, z_ok]
@[simp ↓] theorem z_listL {n : Nat} : (fList [.ref n] s).wp P E = lstP (lstAt s n) fun xs => xs.length ≤ sizeLine ∧ P (.ref s.length) (s ++ [.lst xs]) := by
  unfold fList seqD lstP
  dsimp only
  cases lstAt s n with
  | none => rfl
  | some xs => exact z_iteN
def datP (o : Option D) (P : D → Prop) : Prop := match o with
  | some d => P d
  | none => False
@[simp ↓] theorem datP_some {P : D → Prop} : datP (some d) P = P d := nr rfl
@[simp ↓] theorem z_ixT {xs : List D} {j : Int} : (dIx (.tup xs) (.int j) s).wp P E = datP (atI xs j) fun d => P d s := by
  unfold dIx seqD datP
  dsimp only
  cases atI xs j <;> rfl
@[simp ↓] theorem z_ixL {n : Nat} {j : Int} : (dIx (.ref n) (.int j) s).wp P E = lstP (lstAt s n) fun xs => datP (atI xs j) fun d => P d s := by
  unfold dIx seqD datP lstP
  dsimp only
  cases lstAt s n with
  | none => rfl
  | some xs => dsimp only; cases atI xs j <;> rfl
@[simp ↓] theorem z_ixS {x : Str} {j : Int} : (dIx (.str x) (.int j) s).wp P E = (x.length ≤ sizeLine ∧ ∃ c, atI x.cps.toList j = some c ∧ P (.str ⟨#[c]⟩) s) := by
  unfold dIx
  dsimp only
  rw [z_iteN]
  cases atI x.cps.toList j <;> simp [Rs.wp]
@[simp ↓] theorem z_slS {x : Str} {lo hi : Option Int} : (dSl (.str x) lo hi s).wp P E = (x.length ≤ sizeLine ∧ P (.str (cutS x lo hi)) s) := by
  show (if _ then _ else _ : Rs D).wp P E = _
  rw [z_iteN, z_ok]
@[simp ↓] theorem z_slT {xs : List D} {lo hi : Option Int} : (dSl (.tup xs) lo hi s).wp P E = P (.tup (cutD xs lo hi)) s := nr rfl
@[simp ↓] theorem z_slL {n : Nat} {lo hi : Option Int} : (dSl (.ref n) lo hi s).wp P E = lstP (lstAt s n) fun xs => P (.ref s.length) (s ++ [.lst (cutD xs lo hi)]) := by
  unfold dSl lstP
  dsimp only
  cases lstAt s n <;> rfl
@[simp ↓] theorem z_append {n : Nat} : (mtL lAppend (.ref n) [d] s).wp P E = lstP (mlAt s n) fun xs => xs.length < sizeLine ∧ P .non (s.set n (.lst (xs ++ [d]))) := by
  unfold mtL lAppend mlAt lstP
  dsimp only
  cases s[n]? with
  | none => rfl
  | some o =>
    cases o with
    | lst xs =>
      dsimp only
      by_cases q : xs.length < sizeLine <;> simp [q, Rs.wp]
    | _ => rfl
@[simp ↓] theorem z_fmtS {x : Str} : (fFmt (.str x) s).wp P E = (x.length ≤ sizeLine ∧ P (.str x) s) := by
  show (if _ then _ else _ : Rs D).wp P E = _
  rw [z_iteN, z_ok]
@[simp ↓] theorem z_js0 {acc : Str} : (mJs [] acc e s).wp P E = P (.str acc) s := nr rfl
def strP (d : D) (P : Str → Prop) : Prop := match d with
  | .str x => P x
  | _ => False
@[simp ↓] theorem strP_str {x : Str} {P : Str → Prop} : strP (.str x) P = P x := nr rfl
@[simp ↓] theorem z_jsC {r : List (EM D)} {acc : Str} : (mJs (a :: r) acc e s).wp P E = (a e s).wp (fun d s1 => strP d fun y => (acc ++ y).length ≤ sizeLine ∧ (mJs r (acc ++ y) e s1).wp P E) E := by
  rw [mJs]
  unfold strP
  rw [z_bind]
  congr 1
  funext d s1
  cases d with
  | str y => dsimp only; rw [z_iteN]
  | _ => rfl
theorem z_join {x : Str} : (fJoin (.str x) [d] s).wp P E = ∃ xs ys, seqD s d = some xs ∧ xs.mapM strD = some ys ∧ (ys.map (·.length)).sum + ys.length * x.length ≤ 16777216 ∧ P (.str (Txt.join x ys)) s := by
  unfold fJoin
  dsimp only
  cases h : seqD s d with
  | none => simp [Rs.wp]
  | some xs =>
    simp only [Option.bind_some, Option.some.injEq, exists_and_left, exists_eq_left']
    cases h2 : xs.mapM strD with
    | none => simp [Rs.wp]
    | some ys => simp [z_iteN, z_ok]
@[simp ↓] theorem z_split {x y : Str} : (fSplit (.str x) [.str y] s).wp P E = (((y.length == 0) = false ∧ x.length + 2 ≤ sizeLine) ∧ P (.ref s.length) (s ++ [.lst ((Txt.split x y).map D.str)])) := by
  show (if _ then _ else _ : Rs D).wp P E = _
  rw [z_iteN, z_ok]
theorem z_isi {T : String} : (mIsi T a e s).wp P E = (a e s).wp (fun d s1 => ∃ n b, tyN s1 d = some n ∧ kitB n T = some b ∧ P (.bl b) s1) E := by
  unfold mIsi
  rw [z_bind]
  congr 1
  funext d s1
  cases h : tyN s1 d with
  | none => simp [Rs.wp]
  | some n =>
    simp only [Option.some.injEq, exists_and_left, exists_eq_left']
    cases h2 : kitB n T <;> simp [Rs.wp]
theorem z_all {n : Nat} {q : Bool} : (fAllAny q [.ref n] s).wp P E = ∃ xs bs, lstAt s n = some xs ∧ xs.mapM blD = some bs ∧ P (.bl (if q then bs.all id else bs.any id)) s := by
  unfold fAllAny
  dsimp only
  cases h : lstAt s n with
  | none => simp [Rs.wp]
  | some xs =>
    simp only [Option.bind_some, Option.some.injEq, exists_and_left, exists_eq_left']
    cases h2 : xs.mapM blD <;> simp [Rs.wp]
def isNon : D → Bool
  | .non => true
  | _ => false
@[simp ↓] theorem z_isN : (dIsN2 x .non s).wp P E = P (.bl (isNon x)) s := by
  unfold dIsN2 dIsN isNon
  cases x <;> rfl
@[simp ↓] theorem z_notN : (dNotN2 x .non s).wp P E = P (.bl (!isNon x)) s := by
  unfold dNotN2 dIsN isNon
  cases x <;> rfl
@[simp ↓] theorem z_eqS {a b : Str} : (dEq (.str a) (.str b) s).wp P E = P (.bl (decide (a = b))) s := by
  show (Rs.ok (D.bl (false ^^ decide (a = b))) s).wp P E = _
  rw [Bool.false_xor, z_ok]
@[simp ↓] theorem z_neS {a b : Str} : (dNe (.str a) (.str b) s).wp P E = P (.bl (!decide (a = b))) s := by
  show (Rs.ok (D.bl (true ^^ decide (a = b))) s).wp P E = _
  rw [Bool.true_xor, z_ok]
theorem shp_str {a : Str} {p : PyData} (h : shp s (.str a) = some p) : p = .str a := by
  unfold shp at h
  rw [pyd] at h
  dsimp only at h
  split at h
  · cases h; rfl
  · cases h
theorem z_eqG {neg : Bool} {p q : PyData} (h1 : shp s x = some p) (h2 : shp s y = some q) : (dEqB neg x y s).wp P E = P (.bl (neg ^^ PyData.eqv p q)) s := by
  unfold dEqB
  split
  · rename_i a b
    rw [shp_str h1, shp_str h2, z_ok, PyData.eqv]
    rfl
  · rw [h1, h2, z_ok]
theorem z_eq {p q : PyData} (h1 : shp s x = some p) (h2 : shp s y = some q) : (dEq x y s).wp P E = P (.bl (PyData.eqv p q)) s := by
  unfold dEq
  rw [z_eqG h1 h2, Bool.false_xor]
theorem z_ne {p q : PyData} (h1 : shp s x = some p) (h2 : shp s y = some q) : (dNe x y s).wp P E = P (.bl (!PyData.eqv p q)) s := by
  unfold dNe
  rw [z_eqG h1 h2, Bool.true_xor]
@[simp ↓] theorem z_mulL {n : Nat} {j : Int} : (dMul2 (.ref n) (.int j) s).wp P E = lstP (mlAt s n) fun xs => ((-(2 ^ 63) ≤ j ∧ j < 2 ^ 63) ∧ xs.length * j.toNat ≤ sizeLine) ∧ P (.ref s.length) (s ++ [.lst (List.replicate j.toNat xs).flatten]) := by
  unfold dMul2 mlAt lstP
  dsimp only
  cases s[n]? with
  | none => rfl
  | some o =>
    cases o with
    | lst xs => exact z_iteN
    | _ => rfl
@[simp ↓] theorem z_mNk {n m : Nat} {mk : EM (List D)} : (mNk n m fN ms mk e s).wp P E = (ms e s).wp (fun xs s1 => (mk e s1).wp (fun ys s2 => (xs.length = n ∧ ys.length = m) ∧ (fN (xs ++ ys) s2).wp P E) E) E := by
  unfold mNk
  simp only [z_bind, z_iteN]
end
end Z

set_option Elab.async false
set_option linter.all false
set_option maxRecDepth 100000
set_option maxHeartbeats 4000000
namespace Z
open PySem PySem.Spec PyProof.Rows L2
/-! ### places -/
section
variable {s t : Sto} {k n : Nat} {xs ys : List D} {o : SO} {x y z : D}
theorem lstAt_some (h : s[k]? = some (.lst xs)) : lstAt s k = some xs := by unfold lstAt; rw [h]
theorem lstAt_frz (h : s[k]? = some (.frz xs)) : lstAt s k = some xs := by unfold lstAt; rw [h]
theorem mlAt_some (h : s[k]? = some (.lst xs)) : mlAt s k = some xs := by unfold mlAt; rw [h]
theorem lstAt_ml (h : mlAt s k = some xs) : lstAt s k = some xs := by
  unfold mlAt at h
  split at h
  · rename_i ys e
    cases h
    exact lstAt_some e
  · cases h
theorem mlAt_get (h : mlAt s k = some xs) : s[k]? = some (.lst xs) := by
  unfold mlAt at h
  split at h
  · rename_i ys e
    cases h
    exact e
  · cases h
theorem isTy_ml (h : mlAt s k = some xs) : isTy "list" s (.ref k) = true := by
  unfold isTy
  dsimp only
  rw [mlAt_get h]
  exact beq_self_eq_true _
@[simp] theorem mlAt_set_self (h : k < s.length) : mlAt (s.set k (.lst xs)) k = some xs := mlAt_some (List.getElem?_set_self h)
@[simp] theorem mlAt_set_ne (h : k ≠ n) : mlAt (s.set k o) n = mlAt s n := by unfold mlAt; rw [List.getElem?_set_ne h]
@[simp] theorem mlAt_push : mlAt (s ++ [.lst xs]) s.length = some xs := mlAt_some (by simp)
@[simp] theorem mlAt_app (h : n < s.length) : mlAt (s ++ t) n = mlAt s n := by unfold mlAt; rw [List.getElem?_append_left h]
@[simp] theorem lstAt_set_self (h : k < s.length) : lstAt (s.set k (.lst xs)) k = some xs := lstAt_some (List.getElem?_set_self h)
@[simp] theorem lstAt_set_ne (h : k ≠ n) : lstAt (s.set k o) n = lstAt s n := by unfold lstAt; rw [List.getElem?_set_ne h]
@[simp] theorem lstAt_push : lstAt (s ++ [.lst xs]) s.length = some xs := lstAt_some (by simp)
@[simp] theorem lstAt_app (h : n < s.length) : lstAt (s ++ t) n = lstAt s n := by unfold lstAt; rw [List.getElem?_append_left h]
theorem atI_of {α : Type} {xs : List α} {i : Nat} {a : α} (h : xs[i]? = some a) : atI xs (i : Int) = some a := by
  have hl : i < xs.length := (List.getElem?_eq_some_iff.mp h).1
  unfold atI ixN
  rw [if_pos (by omega), if_pos (by omega)]
  exact h
@[simp] theorem atI_0 {α : Type} {x : α} {xs : List α} : atI (x :: xs) 0 = some x := atI_of (i := 0) rfl
@[simp] theorem atI_1 {α : Type} {x y : α} {xs : List α} : atI (x :: y :: xs) 1 = some y := atI_of (i := 1) rfl
@[simp] theorem atI_2 {α : Type} {x y z : α} {xs : List α} : atI (x :: y :: z :: xs) 2 = some z := atI_of (i := 2) rfl
@[simp] theorem atI_3 {α : Type} {x y z w : α} {xs : List α} : atI (x :: y :: z :: w :: xs) 3 = some w := atI_of (i := 3) rfl
theorem atI_nat {α : Type} {xs : List α} {i : Int} (h0 : 0 ≤ i) (h1 : i < xs.length) : ∃ (a : α) (j : Nat), i = j ∧ xs[j]? = some a ∧ atI xs i = some a ∧ a ∈ xs := by
  obtain ⟨j, rfl⟩ := Int.eq_ofNat_of_zero_le h0
  have hj : j < xs.length := by omega
  refine ⟨xs[j], j, rfl, List.getElem?_eq_getElem hj, ?_, List.getElem_mem hj⟩
  unfold atI ixN
  rw [if_pos (by omega), if_pos (by omega)]
  simp [hj]
@[simp] theorem ixN_0 {n : Nat} : (ixN (n + 1) 0) = some 0 := by
  unfold ixN
  rw [if_pos (by omega), if_pos (by omega)]
  rfl
@[simp] theorem ixN_1 {n : Nat} : (ixN (n + 1 + 1) 1) = some 1 := by
  unfold ixN
  rw [if_pos (by omega), if_pos (by omega)]
  rfl
@[simp] theorem ixN_20 : (ixN 2 0) = some 0 := rfl
@[simp] theorem ixN_21 : (ixN 2 1) = some 1 := rfl
theorem mod_lt {i n : Int} (h : 0 < n) : 0 ≤ i % n ∧ i % n < n := ⟨Int.emod_nonneg _ (by omega), Int.emod_lt_of_pos _ h⟩
theorem Eff.bagset {a b : Int} (h : k < s.length) : Eff [k] s (s.set k (.lst [.int a, .int b])) :=
  ⟨by simp, fun i hi hk => by rw [List.getElem?_set_ne (by simp at hk; omega)], fun j hj _ => by
    obtain rfl : j = k := by simpa using hj
    exact ⟨a, b, List.getElem?_set_self h⟩⟩
theorem Bag.ml {s : Sto} {k : Nat} (h : Bag s k) : ∃ a b : Int, mlAt s k = some [.int a, .int b] ∧ lstAt s k = some [.int a, .int b] ∧ k < s.length := by
  obtain ⟨a, b, e, h1⟩ := h.lst
  exact ⟨a, b, mlAt_some e, h1, lstAt_lt h1⟩
theorem Eff.ml {ks : List Nat} {s t : Sto} (h : Eff ks s t) {i : Nat} {xs : List D} (e : mlAt s i = some xs) (hi : i ∉ ks) : mlAt t i = some xs := mlAt_some (h.get (mlAt_get e) hi)
end
end Z

set_option Elab.async false
set_option linter.all false
set_option maxRecDepth 100000
set_option maxHeartbeats 4000000
namespace Z
open PySem PySem.Spec PyProof.Rows L2
/-! ### what is walked -/
/-- the walk j gives the items xs, as long as only ks are changed -/
def ItOk (ks : List Nat) (s0 : Sto) (j : Stp) (N : Nat) (xs : List D) : Prop := N = xs.length ∧ ∀ i s, Eff ks s0 s → j i s = some xs[i]?
section
variable {ks : List Nat} {s0 s t : Sto} {n m : Nat} {xs ys : List D}
def rngD (lo : Int) (n : Nat) : List D := (List.range n).map fun i => .int (lo + (i : Nat))
def strDs (x : Str) : List D := x.cps.toList.map fun c => .str ⟨#[c]⟩
def enD (xs : List D) : List D := xs.mapIdx fun i d => .tup [.int i, d]
theorem it_rng {lo : Int} : ItOk ks s0 (jRng lo n) n (rngD lo n) := ⟨by simp [rngD], fun i s _ => by
  unfold jRng rngD
  by_cases h : i < n
  · simp [h]
  · simp [h]⟩
theorem it_tup {N : Nat} (e : N = xs.length := by simp) : ItOk ks s0 (jTup xs) N xs := ⟨e, fun i s _ => rfl⟩
theorem it_lst {N : Nat} (h : lstAt s0 n = some xs) (hn : n ∉ ks) (e : N = xs.length := by simp) : ItOk ks s0 (jLst n) N xs := ⟨e, fun i s e => by rw [jLst_eq, e.lst h hn]; rfl⟩
theorem it_en {N : Nat} (h : lstAt s0 n = some xs) (hn : n ∉ ks) (e : N = xs.length := by simp) : ItOk ks s0 (jEn n) N (enD xs) := ⟨by simp [enD, e], fun i s e => by
  unfold jEn enD
  rw [e.lst h hn]
  simp⟩
theorem it_str {x : Str} : ItOk ks s0 (jStr x) x.cps.size (strDs x) := ⟨by simp [strDs], fun i s _ => by
  unfold jStr strDs
  simp⟩
theorem it_zip (h : lstAt s0 n = some xs) (h2 : lstAt s0 m = some ys) (hn : n ∉ ks) (hm : m ∉ ks) (hl : xs.length = ys.length) : ItOk ks s0 (jZip n m) xs.length ((xs.zip ys).map fun p => .tup [p.1, p.2]) := ⟨by simp [hl], fun i s e => by
  unfold jZip
  rw [e.lst h hn, e.lst h2 hm, List.getElem?_map]
  dsimp only
  by_cases hi : i < xs.length
  · have hi2 : i < ys.length := by omega
    have hz : (xs.zip ys)[i]? = some (xs[i], ys[i]) := by simp [List.getElem?_zip_eq_some, hi, hi2]
    rw [hz, List.getElem?_eq_getElem hi, List.getElem?_eq_getElem hi2]
    rfl
  · have hz : (xs.zip ys)[i]? = none := List.getElem?_eq_none (by rw [List.length_zip]; omega)
    rw [hz, List.getElem?_eq_none (l := xs) (by omega)]
    rfl⟩
theorem ItOk.later {j : Stp} {N : Nat} (h : ItOk ks s j N xs) (e : Eff ks s t) : ItOk ks t j N xs := ⟨h.1, fun i u f => h.2 i u (e.trans f)⟩
/-! ### comprehensions -/
variable {j : Stp} {g : GN} {tt : EM Bool} {mm : EM D} {N : Nat} {e : Ev}
theorem lc_gen (it : ItOk ks s0 j N xs) (hb : ∀ k ∈ ks, Bag s0 k) (hl : xs.length < sizeLine) (R : Nat → D → Option D → Sto → Prop)
    (st : ∀ i d o s t, R i d o s → s.length ≤ t.length → (∀ n, n < s.length → s0.length < n → t[n]? = s[n]?) → R i d o t)
    (body : ∀ i d s, xs[i]? = some d → Eff ks s0 s → (∀ k ∈ ks, Bag s k) → s0.length < s.length → ∃ e1, g d e = some e1 ∧ (tt e1 s).wp fun q s1 => Eff ks s s1 ∧ if q then (mm e1 s1).wp fun y s2 => Eff ks s1 s2 ∧ R i d (some y) s2 else R i d none s1) :
    (lcL j g tt mm s0.length N 0 e (s0 ++ [.lst []])).wp fun d s' => d = .ref s0.length ∧ Eff ks s0 s' ∧ s0.length < s'.length ∧ ∃ zs : List (Option D), zs.length = xs.length ∧ mlAt s' s0.length = some (zs.filterMap id) ∧ ∀ i d o, xs[i]? = some d → zs[i]? = some o → R i d o s' := by
  have lks : s0.length ∉ ks := fun h => Nat.lt_irrefl _ (hb _ h).lt
  refine wp_ne (lcL_wp (N := N) (fun i acc s => Eff ks s0 s ∧ s0.length < s.length ∧ ∃ zs : List (Option D), zs.length = i ∧ acc = zs.filterMap id ∧ ∀ i d o, xs[i]? = some d → zs[i]? = some o → R i d o s) ?_ N 0 [] _ (by simp) ⟨Eff.push, by simp, [], rfl, rfl, by simp⟩ (by simp)) ?_
  · rintro i acc s hi ⟨ef, hlt, zs, hz, rfl, hR⟩ hs
    refine ⟨fun h => ?_, fun h => ?_⟩
    · rw [it.2 i s ef, List.getElem?_eq_none (by rw [← it.1]; omega)]
    · have hi2 : i < xs.length := by rw [← it.1]; exact h
      obtain ⟨e1, h1, h2⟩ := body i xs[i] s (List.getElem?_eq_getElem hi2) ef (fun k hk => ef.bag k hk (hb k hk)) hlt
      refine ⟨xs[i], e1, by rw [it.2 i s ef, List.getElem?_eq_getElem hi2], h1, wp_ne h2 fun q s1 ⟨ef1, h3⟩ => ?_⟩
      have hs1 : s1[s0.length]? = some (SO.lst (zs.filterMap id)) := ef1.get hs lks
      have Rm : ∀ {s2 : Sto}, s.length ≤ s2.length → (∀ n, n < s.length → s0.length < n → s2[n]? = s[n]?) → ∀ o', R i xs[i] o' s2 → ∀ i' d o, xs[i']? = some d → (zs ++ [o'])[i']? = some o → R i' d o s2 := by
        intro s2 hle heq o' hR' i' d o hx ho
        by_cases hi' : i' < zs.length
        · rw [List.getElem?_append_left hi'] at ho
          exact st _ _ _ _ _ (hR i' d o hx ho) hle heq
        · have : i' = i := by
            have := (List.getElem?_eq_some_iff.mp ho).1
            simp at this
            omega
          subst this
          rw [List.getElem?_append_right (by omega), hz, Nat.sub_self] at ho
          cases ho
          rw [List.getElem?_eq_getElem hi2] at hx
          cases hx
          exact hR'
      have fl : (zs.filterMap id).length ≤ zs.length := List.length_filterMap_le _ _
      cases q with
      | true =>
        rw [if_pos rfl] at h3 ⊢
        refine wp_ne h3 fun y s2 ⟨ef2, h4⟩ => ?_
        have hs2 := ef2.get hs1 lks
        refine ⟨hs2, by omega, ((ef.trans ef1).trans ef2).set (Nat.le_refl _), by rw [List.length_set]; have := ef1.le; have := ef2.le; omega, zs ++ [some y], by simp [hz], by simp, ?_⟩
        refine Rm (by rw [List.length_set]; exact Nat.le_trans ef1.le ef2.le) (fun n hn hn2 => ?_) (some y) (st _ _ _ _ _ h4 (by simp) fun n hn hn2 => by rw [List.getElem?_set_ne (by omega)])
        rw [List.getElem?_set_ne (by omega)]
        have nk : n ∉ ks := fun hk => by have := (hb n hk).lt; omega
        rw [ef2.eq n (Nat.lt_of_lt_of_le hn ef1.le) nk, ef1.eq n hn nk]
      | false =>
        simp only [Bool.false_eq_true, ↓reduceIte] at h3 ⊢
        refine ⟨hs1, ef.trans ef1, Nat.lt_of_lt_of_le hlt ef1.le, zs ++ [none], by simp [hz], by simp, ?_⟩
        exact Rm ef1.le (fun n hn hn2 => ef1.eq n hn fun hk => by have := (hb n hk).lt; omega) none h3
  · rintro d s' ⟨rfl, ys, h1, ef, hlt, zs, hz, rfl, hR⟩
    exact ⟨rfl, ef, hlt, zs, by rw [hz]; exact it.1, mlAt_some h1, hR⟩
/-- every item gives a value that keeps R -/
theorem lc_all (it : ItOk ks s0 j N xs) (hb : ∀ k ∈ ks, Bag s0 k) (hl : xs.length < sizeLine) (R : Nat → D → D → Prop)
    (body : ∀ i d s, xs[i]? = some d → Eff ks s0 s → (∀ k ∈ ks, Bag s k) → ∃ e1, g d e = some e1 ∧ (mm e1 s).wp fun y s2 => Eff ks s s2 ∧ R i d y) :
    (lcL j g tY mm s0.length N 0 e (s0 ++ [.lst []])).wp fun d s' => d = .ref s0.length ∧ Eff ks s0 s' ∧ s0.length < s'.length ∧ ∃ ys : List D, ys.length = xs.length ∧ mlAt s' s0.length = some ys ∧ ∀ i d y, xs[i]? = some d → ys[i]? = some y → R i d y := by
  refine wp_ne (lc_gen it hb hl (fun i d o _ => ∃ y, o = some y ∧ R i d y) (fun _ _ _ _ _ h _ _ => h) fun i d s hx ef hbs _ => ?_) ?_
  · obtain ⟨e1, h1, h2⟩ := body i d s hx ef hbs
    refine ⟨e1, h1, ?_⟩
    rw [z_tY, if_pos rfl]
    exact ⟨Eff.refl, wp_ne h2 fun y s2 ⟨h3, h4⟩ => ⟨h3, y, rfl, h4⟩⟩
  · rintro d s' ⟨rfl, ef, hlt, zs, hz, hm, hR⟩
    refine ⟨rfl, ef, hlt, _, ?_, hm, ?_⟩
    · have : ∀ (zs : List (Option D)), (∀ o ∈ zs, ∃ y, o = some y) → (zs.filterMap id).length = zs.length := by
        intro zs
        induction zs with
        | nil => intro _; rfl
        | cons z zs ih =>
          intro h
          obtain ⟨y, rfl⟩ := h z (by simp)
          simp [ih fun o ho => h o (by simp [ho])]
      rw [← hz]
      refine this zs fun o ho => ?_
      obtain ⟨i, hi, rfl⟩ := List.getElem_of_mem ho
      obtain ⟨y, h, _⟩ := hR i (xs[i]'(by omega)) _ (List.getElem?_eq_getElem (by omega)) (List.getElem?_eq_getElem hi)
      exact ⟨y, h⟩
    · have : ∀ (zs : List (Option D)), (∀ o ∈ zs, ∃ y, o = some y) → ∀ (i : Nat) (y : D), (zs.filterMap id)[i]? = some y → zs[i]? = some (some y) := by
        intro zs
        induction zs with
        | nil => intro _ i y h; simp at h
        | cons z zs ih =>
          intro h i y hy
          obtain ⟨y', rfl⟩ := h z (by simp)
          cases i with
          | zero => simpa using hy
          | succ i => simpa using ih (fun o ho => h o (by simp [ho])) i y (by simpa using hy)
      intro i d y hx hy
      have h5 := this zs (fun o ho => by
        obtain ⟨i, hi, rfl⟩ := List.getElem_of_mem ho
        obtain ⟨y, h, _⟩ := hR i (xs[i]'(by omega)) _ (List.getElem?_eq_getElem (by omega)) (List.getElem?_eq_getElem hi)
        exact ⟨y, h⟩) i y hy
      obtain ⟨y', h, h6⟩ := hR i d _ hx h5
      cases h
      exact h6
/-- a pure map -/
theorem lc_map (f : D → D) (it : ItOk ks s0 j N xs) (hb : ∀ k ∈ ks, Bag s0 k) (hl : xs.length < sizeLine)
    (body : ∀ d s, d ∈ xs → Eff ks s0 s → (∀ k ∈ ks, Bag s k) → ∃ e1, g d e = some e1 ∧ (mm e1 s).wp fun y s2 => Eff ks s s2 ∧ y = f d) :
    (lcL j g tY mm s0.length N 0 e (s0 ++ [.lst []])).wp fun d s' => d = .ref s0.length ∧ Eff ks s0 s' ∧ s0.length < s'.length ∧ mlAt s' s0.length = some (xs.map f) := by
  refine wp_ne (lc_all it hb hl (fun i d y => y = f d) fun i d s hx ef hbs => body d s (List.mem_of_getElem? hx) ef hbs) ?_
  rintro d s' ⟨rfl, ef, hlt, ys, h1, h2, h3⟩
  refine ⟨rfl, ef, hlt, ?_⟩
  rw [h2]
  congr 1
  refine List.ext_getElem (by simp [h1]) fun i hi hi2 => ?_
  rw [List.getElem_map]
  exact h3 i _ _ (List.getElem?_eq_getElem (by omega)) (List.getElem?_eq_getElem hi)
/-- a pure filter and map -/
theorem lc_filt (f : D → D) (p : D → Bool) (it : ItOk ks s0 j N xs) (hb : ∀ k ∈ ks, Bag s0 k) (hl : xs.length < sizeLine)
    (body : ∀ d s, d ∈ xs → Eff ks s0 s → (∀ k ∈ ks, Bag s k) → ∃ e1, g d e = some e1 ∧ (tt e1 s).wp fun q s1 => Eff ks s s1 ∧ q = p d ∧ (q = true → (mm e1 s1).wp fun y s2 => Eff ks s1 s2 ∧ y = f d)) :
    (lcL j g tt mm s0.length N 0 e (s0 ++ [.lst []])).wp fun d s' => d = .ref s0.length ∧ Eff ks s0 s' ∧ s0.length < s'.length ∧ mlAt s' s0.length = some ((xs.filter p).map f) := by
  refine wp_ne (lc_gen it hb hl (fun i d o _ => o = if p d then some (f d) else none) (fun _ _ _ _ _ h _ _ => h) fun i d s hx ef hbs _ => ?_) ?_
  · obtain ⟨e1, h1, h2⟩ := body d s (List.mem_of_getElem? hx) ef hbs
    refine ⟨e1, h1, wp_ne h2 fun q s1 ⟨h3, h4, h5⟩ => ⟨h3, ?_⟩⟩
    subst h4
    cases hp : p d with
    | true =>
      rw [if_pos rfl]
      exact wp_ne (h5 hp) fun y s2 ⟨h6, h7⟩ => ⟨h6, by rw [h7, if_pos rfl]⟩
    | false => simp
  · rintro d s' ⟨rfl, ef, hlt, zs, hz, hm, hR⟩
    refine ⟨rfl, ef, hlt, ?_⟩
    rw [hm]
    congr 1
    have : zs = xs.map fun d => if p d then some (f d) else none := by
      refine List.ext_getElem (by simp [hz]) fun i hi hi2 => ?_
      rw [List.getElem_map]
      exact hR i _ _ (List.getElem?_eq_getElem (by omega)) (List.getElem?_eq_getElem hi)
    rw [this, List.filterMap_map]
    have : ∀ xs : List D, List.filterMap (id ∘ fun d => if p d = true then some (f d) else none) xs = (xs.filter p).map f := by
      intro xs
      induction xs with
      | nil => rfl
      | cons x xs ih =>
        cases hp : p x <;> simp [hp] <;> simpa using ih
    exact this xs
/-- lc_map, lc_filt, lc_all over a store told apart -/
theorem lc_map2 (s0 : Sto) {l : Nat} {t : Sto} (f : D → D) (hs : l = s0.length) (ht : t = s0 ++ [SO.lst []]) (it : ItOk ks s0 j N xs) (hb : ∀ k ∈ ks, Bag s0 k) (hl : xs.length < sizeLine)
    (body : ∀ d s, d ∈ xs → Eff ks s0 s → (∀ k ∈ ks, Bag s k) → ∃ e1, g d e = some e1 ∧ (mm e1 s).wp fun y s2 => Eff ks s s2 ∧ y = f d) :
    (lcL j g tY mm l N 0 e t).wp fun d s' => d = .ref s0.length ∧ Eff ks s0 s' ∧ s0.length < s'.length ∧ mlAt s' s0.length = some (xs.map f) := by
  subst hs ht
  exact lc_map f it hb hl body
theorem lc_filt2 (s0 : Sto) {l : Nat} {t : Sto} (f : D → D) (p : D → Bool) (hs : l = s0.length) (ht : t = s0 ++ [SO.lst []]) (it : ItOk ks s0 j N xs) (hb : ∀ k ∈ ks, Bag s0 k) (hl : xs.length < sizeLine)
    (body : ∀ d s, d ∈ xs → Eff ks s0 s → (∀ k ∈ ks, Bag s k) → ∃ e1, g d e = some e1 ∧ (tt e1 s).wp fun q s1 => Eff ks s s1 ∧ q = p d ∧ (q = true → (mm e1 s1).wp fun y s2 => Eff ks s1 s2 ∧ y = f d)) :
    (lcL j g tt mm l N 0 e t).wp fun d s' => d = .ref s0.length ∧ Eff ks s0 s' ∧ s0.length < s'.length ∧ mlAt s' s0.length = some ((xs.filter p).map f) := by
  subst hs ht
  exact lc_filt f p it hb hl body
theorem lc_all2 (s0 : Sto) {l : Nat} {t : Sto} (hs : l = s0.length) (ht : t = s0 ++ [SO.lst []]) (it : ItOk ks s0 j N xs) (hb : ∀ k ∈ ks, Bag s0 k) (hl : xs.length < sizeLine) (R : Nat → D → D → Prop)
    (body : ∀ i d s, xs[i]? = some d → Eff ks s0 s → (∀ k ∈ ks, Bag s k) → ∃ e1, g d e = some e1 ∧ (mm e1 s).wp fun y s2 => Eff ks s s2 ∧ R i d y) :
    (lcL j g tY mm l N 0 e t).wp fun d s' => d = .ref s0.length ∧ Eff ks s0 s' ∧ s0.length < s'.length ∧ ∃ ys : List D, ys.length = xs.length ∧ mlAt s' s0.length = some ys ∧ ∀ i d y, xs[i]? = some d → ys[i]? = some y → R i d y := by
  subst hs ht
  exact lc_all it hb hl R body
end
end Z

set_option Elab.async false
set_option linter.all false
set_option maxRecDepth 100000
set_option maxHeartbeats 4000000
namespace Z
open PySem PySem.Spec PyProof.Rows L2
/-! ### draws: bag, take, of -/
def bagG (c0 c1 z : Int) (upd : EM D) (M p : Int) : SM :=
  sC (sA 2 (mIf (toB (m2 dLt (mV 1) (mN fLen (aC (mV 0) aN)))) (m2 dIx (mV 0) (mV 1)) (mC (.int 0))))
  (sC (sA 3 (m2 dAdd (m2 dMul2 (mC (.int c0)) (mV 1)) (mC (.int c1))))
  (sC (sF (iEn (aC (mSl dSl (mV 0) oN (oS (mC (.int z)))) aN)) (gT [gN 4, gN 5]) (sA 3 (m2 dMod (mN fInt (aC upd aN)) (mC (.int M)))))
  (sR (mN fLst (aC (mIf (toB (m2 dGe (mN fAbs (aC (mV 2) aN)) (m2 dPow (mC (.int 10)) (mC (.int p))))) (mN fAbs (aC (mV 2) aN)) (mC (.int 0))) (aC (mV 3) aN))))))
def updA (a b c : Int) : EM D := m2 dAdd (m2 dAdd (m2 dMul2 (mV 3) (mC (.int a))) (m2 dMod (mN fInt (aC (mV 5) aN)) (mC (.int b)))) (m2 dMul2 (mC (.int c)) (mV 4))
def updB (a b c d : Int) : EM D := m2 dAdd (updA a b c) (mC (.int d))
def smallI (i : Int) : Prop := -(2 ^ 64) < i ∧ i < 2 ^ 64
instance (i : Int) : Decidable (smallI i) := by unfold smallI; infer_instance
theorem two_le_line : 2 ≤ sizeLine := by decide
theorem bag_gen {c0 c1 z M p : Int} {upd : EM D} (h0 : smallI c0) (hM : 0 < M) (hp : cPow 10 p)
    (hu : ∀ (o0 o1 o2 : Option D) (m k j : Int) (s : Sto), (upd [o0, o1, o2, some (.int m), some (.int k), some (.int j)] s).wp fun d s' => s' = s ∧ ∃ i, d = .int i)
    {s : Sto} {n : Nat} {ns : List Int} {a : Nat} (hx : lstAt s n = some (ns.map D.int)) : (fnM 2 6 (bagG c0 c1 z upd M p) [.ref n, .int a] s).wp fun d s' => ∃ k, d = .ref k ∧ s.length ≤ k ∧ Bag s' k ∧ Eff [] s s' := by
  unfold bagG
  rw [z_fnM (by rfl)]
  have hn : n < s.length := lstAt_lt hx
  have hc : ∀ d, d ∈ cutD (ns.map D.int) none (some z) → ∃ i, d = .int i := fun d hd => by
    have := List.mem_of_mem_drop (List.mem_of_mem_take hd)
    obtain ⟨i, -, rfl⟩ := List.mem_map.mp this
    exact ⟨i, rfl⟩
  have first : ∀ Q : En, (∀ A : Int, Q.nx [some (.ref n), some (.int a), some (.int A), none, none, none] s) → (sA 2 (mIf (toB (m2 dLt (mV 1) (mN fLen (aC (mV 0) aN)))) (m2 dIx (mV 0) (mV 1)) (mC (.int 0))) [some (.ref n), some (.int a), none, none, none, none] s).wp Q := by
    intro Q hQ
    simp [hx]
    split
    · rename_i h
      obtain ⟨i, e⟩ : ∃ i, atI (ns.map D.int) (a : Int) = some (.int i) := ⟨_, atI_of (by rw [List.getElem?_map, List.getElem?_eq_getElem h]; rfl)⟩
      rw [e]
      exact hQ _
    · exact hQ _
  rw [z_sC]
  refine first _ fun A => ?_
  have loop : ∀ (j0 : Stp) (Q : En) (m : Int) (s1 : Sto), lstAt s1 s.length = some (cutD (ns.map D.int) none (some z)) → (∀ m o4 o5, Q.nx [some (.ref n), some (.int a), some (.int A), some (.int m), o4, o5] s1) →
      (forL (jEn s.length) (gT [gN 4, gN 5]) (sA 3 (m2 dMod (mN fInt (aC upd aN)) (mC (.int M)))) (cutD (ns.map D.int) none (some z)).length 0 [some (.ref n), some (.int a), some (.int A), some (.int m), none, none] s1).wp Q := by
    intro j0 Q m s1 hs1 hQ
    refine forL_wp (fun i e s2 => s2 = s1 ∧ ∃ m o4 o5, e = [some (.ref n), some (.int a), some (.int A), some (.int m), o4, o5]) ?_ _ 0 _ _ (Nat.zero_add _) ⟨rfl, m, none, none, rfl⟩
    rintro i e s2 hi ⟨rfl, m, o4, o5, rfl⟩
    refine ⟨fun h => ⟨by subst h; simp [jEn, hs1], hQ m o4 o5⟩, fun h => ?_⟩
    obtain ⟨j, hj⟩ := hc _ (List.getElem_mem h)
    refine ⟨.tup [.int i, .int j], _, by simp [jEn, hs1, h, hj], rfl, ?_⟩
    have := hu (some (.ref n)) (some (.int a)) (some (.int A)) m i j s2
    simp
    refine wp_ne this fun d s3 ⟨e1, i2, e2⟩ => ?_
    subst e1 e2
    simp [hM]
  simp [hx, cMul]
  refine ⟨.inl h0, loop (fun _ _ => none) _ _ _ (by simp) fun m o4 o5 => ?_⟩
  have fin : ∀ B : Int, 2 ≤ sizeLine ∧ s.length ≤ s.length + 1 ∧ Bag (s ++ [SO.lst (cutD (List.map D.int ns) none (some z)), SO.lst [D.int B, D.int m]]) (s.length + 1) ∧ Eff [] s (s ++ [SO.lst (cutD (List.map D.int ns) none (some z)), SO.lst [D.int B, D.int m]]) := fun B =>
    ⟨two_le_line, by omega, ⟨B, m, by rw [List.getElem?_append_right (by omega)]; simp⟩, by
      have := (Eff.push (ks := []) (s := s) (o := SO.lst (cutD (List.map D.int ns) none (some z)))).trans (Eff.push (o := SO.lst [D.int B, D.int m]))
      simpa using this⟩
  have f1 := fun B => (fin B).1
  have f3 := fun B => (fin B).2.2
  simp [hp]
  split <;> (try split) <;> first | exact ⟨two_le_line, f3 _⟩ | exact f3 _
theorem updA_ok {a b c : Int} (ha : smallI a) (hb : 0 < b) (hc : smallI c) (o0 o1 o2 : Option D) (m k j : Int) (s : Sto) : (updA a b c [o0, o1, o2, some (.int m), some (.int k), some (.int j)] s).wp fun d s' => s' = s ∧ ∃ i, d = .int i := by
  unfold updA
  simp [cMul, hb]
  exact ⟨.inr ha, .inl hc⟩
theorem updB_ok {a b c d : Int} (ha : smallI a) (hb : 0 < b) (hc : smallI c) (o0 o1 o2 : Option D) (m k j : Int) (s : Sto) : (updB a b c d [o0, o1, o2, some (.int m), some (.int k), some (.int j)] s).wp fun d s' => s' = s ∧ ∃ i, d = .int i := by
  unfold updB updA
  simp [cMul, hb]
  exact ⟨.inr ha, .inl hc⟩
/-- a draw: a whole number below n -/
def TakeOk (F : List D → Sto → Rs D) : Prop := ∀ {s : Sto} {k : Nat} {n : Int}, Bag s k → 0 < n → n < 1073741824 → (F [.ref k, .int n] s).wp fun d s' => ∃ i : Nat, d = .int i ∧ (i : Int) < n ∧ Eff [k] s s'
def takeG (c1 c2 M d1 c3 M2 d2 : Int) : SM := (sC (sI (toB (m2 dGt (m2 dIx (mV 0) (mC (.int 0))) (mC (.int 0)))) (sC (sA 2 (m2 dMod (mN fInt (aC (m2 dIx (mV 0) (mC (.int 0))) aN)) (mV 1))) (sC (sX xSetL (mV 0) (mC (.int 0)) (m2 dDiv (m2 dIx (mV 0) (mC (.int 0))) (mV 1))) (sR (mV 2)))) sN) (sC (sX xSetL (mV 0) (mC (.int 1)) (m2 dMod (mN fInt (aC (m2 dAdd (m2 dMul2 (m2 dIx (mV 0) (mC (.int 1))) (mC (.int c1))) (mC (.int c2))) aN)) (mC (.int M)))) (sR (m2 dMod (m2 dDiv (m2 dMod (mN fInt (aC (m2 dMul2 (m2 dDiv (m2 dIx (mV 0) (mC (.int 1))) (mC (.int d1))) (mC (.int c3))) aN)) (mC (.int M2))) (mC (.int d2))) (mV 1)))))
theorem take_gen {c1 c2 M d1 c3 M2 d2 : Int} (h1 : smallI c1) (h2 : smallI c3) (hM : 0 < M) (hM2 : 0 < M2) (hd1 : 0 < d1 ∧ d1 < 1073741824) (hd2 : 0 < d2 ∧ d2 < 1073741824) : TakeOk (fnM 2 3 (takeG c1 c2 M d1 c3 M2 d2)) := by
  intro s k n hb hn hn2
  obtain ⟨a, b, h, hl, hk⟩ := hb.ml
  unfold takeG
  rw [z_fnM (by rfl)]
  have h4 := fun i => mod_lt (i := i) hn
  have nat : ∀ i : Int, ∃ j : Nat, D.int (i % n) = D.int j ∧ (j : Int) < n := fun i => by
    obtain ⟨j, hj⟩ := Int.eq_ofNat_of_zero_le (h4 i).1
    exact ⟨j, by rw [hj], by rw [← hj]; exact (h4 i).2⟩
  have key : ∀ (i : Int) {t : Sto}, Eff [k] s t → ∃ j : Nat, i % n = j ∧ (j : Int) < n ∧ Eff [k] s t := fun i t e => by
    obtain ⟨j, hj⟩ := Int.eq_ofNat_of_zero_le (h4 i).1
    exact ⟨j, hj, by rw [← hj]; exact (h4 i).2, e⟩
  simp [hl, h, hk, hn, hn2, hM, hM2, hd1.1, hd1.2, hd2.1, hd2.2, cMul]
  split
  · exact key _ (Eff.bagset hk)
  · exact ⟨.inr h1, .inr h2, key _ (Eff.bagset hk)⟩
/-- one of a list's or a tuple's items -/
def OfOk (F : List D → Sto → Rs D) : Prop := ∀ {s : Sto} {k : Nat} {x : D} {xs : List D}, Bag s k → seqD s x = some xs → x ≠ .ref k → xs ≠ [] → xs.length < 1073741824 → (F [.ref k, x] s).wp fun d s' => d ∈ xs ∧ Eff [k] s s'
def ofG (take : List D → Sto → Rs D) : SM := (sR (m2 dIx (mV 1) (mN take (aC (mV 0) (aC (mN fLen (aC (mV 1) aN)) aN)))))
theorem of_gen {take : List D → Sto → Rs D} (T : TakeOk take) : OfOk (fnM 2 2 (ofG take)) := by
  intro s k x xs hb hx hk h0 hl
  have hp : 0 < xs.length := List.length_pos_iff.mpr h0
  unfold ofG
  rw [z_fnM (by rfl)]
  cases x with
  | ref n =>
    have hx : lstAt s n = some xs := hx
    have hn : n ≠ k := fun e => hk (by rw [e])
    simp [hx]
    refine wp_ne (T hb (by omega) (by omega)) fun d s' ⟨i, e, h1, ef⟩ => ?_
    subst e
    obtain ⟨c, j, -, -, h4, h5⟩ := atI_nat (xs := xs) (i := i) (by omega) h1
    simp [ef.lst hx (by simpa using hn), h4, h5, ef]
  | tup ys =>
    cases hx
    simp
    refine wp_ne (T hb (by omega) (by omega)) fun d s' ⟨i, e, h1, ef⟩ => ?_
    subst e
    obtain ⟨c, j, -, -, h4, h5⟩ := atI_nat (xs := xs) (i := i) (by omega) h1
    simp [h4, h5, ef]
  | _ => cases hx
end Z

set_option Elab.async false
set_option linter.all false
set_option maxRecDepth 100000
set_option maxHeartbeats 4000000
namespace Z
open PySem PySem.Spec PyProof.Rows L2 TL
/-! ### names -/
def abc : Str := "abcdefghijklmnopqrstuvwxyz"
def one (c : Nat) : Str := ⟨#[c]⟩
def isLow (c : Nat) : Prop := 97 ≤ c ∧ c ≤ 122
instance (c : Nat) : Decidable (isLow c) := by unfold isLow; infer_instance
structure IsName (x : Str) : Prop where
  pos : 1 ≤ (tl x).length
  len : (tl x).length ≤ 8
  low : ∀ c ∈ tl x, isLow c
theorem abc_tl : tl abc = (List.range 26).map (97 + ·) := by decide +kernel
theorem abc_len : abc.length = 26 := by decide +kernel
theorem abc_le : abc.length ≤ sizeLine := by decide +kernel
theorem abc_at {i : Nat} (h : i < 26) : atI (tl abc) (i : Int) = some (97 + i) := atI_of (by rw [abc_tl]; simp [h])
theorem tl_one (c : Nat) : tl (one c) = [c] := rfl
theorem tl_join0 : ∀ ys : List Str, tl (Txt.join "" ys) = (ys.map tl).flatten := by
  intro ys
  rw [join_eq, tl_join]
  have e : tl ("" : Str) = [] := by decide +kernel
  rw [e]
  have : ∀ l : List (List Nat), joinL [] l = l.flatten := by
    intro l
    induction l with
    | nil => rfl
    | cons a l ih =>
      cases l with
      | nil => simp [joinL]
      | cons b l =>
        show a ++ ([] ++ joinL [] (b :: l)) = _
        rw [ih]
        simp
  exact this _
theorem mapM_strD : ∀ ys : List Str, (ys.map D.str).mapM strD = some ys
  | [] => rfl
  | y :: ys => by
    rw [List.map_cons, List.mapM_cons, mapM_strD ys]
    rfl
theorem tl_ofl (l : List Nat) : tl ⟨l.toArray⟩ = l := rfl
/-- distinct names, n of them, in a new list -/
def NamesOk (F : List D → Sto → Rs D) : Prop := ∀ {s : Sto} {k n : Nat}, Bag s k → n ≤ 26 → (F [.ref k, .int n] s).wp fun d s' => ∃ (l : Nat) (ms : List Str), d = .ref l ∧ s.length ≤ l ∧ mlAt s' l = some (ms.map D.str) ∧ ms.length = n ∧ ms.Nodup ∧ (∀ x ∈ ms, IsName x) ∧ Eff [k] s s'
def namesB (take of_ : List D → Sto → Rs D) : SM := (sC (sA 2 (mC (.str "abcdefghijklmnopqrstuvwxyz"))) (sC (sA 3 (mBM "str" fJoin (mC (.str "")) (aC (mL (iR1 (aC (mN of_ (aC (mV 0) (aC (mN fLst (aC (mC (.int 0)) (aC (mC (.int 0)) (aC (mC (.int 1)) (aC (mC (.int 3)) (aC (mC (.int 7)) aN)))))) aN))) aN)) (gN 7) tY (m2 dIx (mV 2) (mN take (aC (mV 0) (aC (mC (.int 26)) aN)))) [7]) aN))) (sC (sG (gT [(gN 5), (gN 6)]) (mN fTup (aC (mN take (aC (mV 0) (aC (mC (.int 26)) aN))) (aC (mN take (aC (mV 0) (aC (mC (.int 2)) aN))) aN)))) (sC (sA 4 (mL (iR1 (aC (mV 1) aN)) (gN 7) tY (m2 dIx (mV 2) (m2 dMod (m2 dAdd (mV 5) (m2 dMul2 (mC (.int 5)) (mV 7))) (mC (.int 26)))) [7])) (sR (mL (iSq (mV 4)) (gN 8) tY (mIf (toT (mV 6)) (m2 dAdd (mV 3) (mV 8)) (m2 dAdd (mV 8) (mV 3))) [8]))))))
theorem rngD_mem {lo : Int} {n : Nat} {d : D} (h : d ∈ rngD lo n) : ∃ i : Nat, i < n ∧ d = .int (lo + i) := by
  unfold rngD at h
  obtain ⟨i, hi, rfl⟩ := List.mem_map.mp h
  exact ⟨i, by simpa using hi, rfl⟩
theorem rngD_get {lo : Int} {n i : Nat} {d : D} (h : (rngD lo n)[i]? = some d) : i < n ∧ d = .int (lo + i) := by
  unfold rngD at h
  rw [List.getElem?_map] at h
  by_cases hi : i < n
  · rw [List.getElem?_range hi] at h
    cases h
    exact ⟨hi, rfl⟩
  · rw [List.getElem?_eq_none (by simpa using hi)] at h
    cases h
theorem rngD_len {lo : Int} {n : Nat} : (rngD lo n).length = n := by simp [rngD]
theorem line_26 : 26 < sizeLine := by decide
theorem line_8 : 100 ≤ sizeLine := by decide
/-- texts of one letter each -/
theorem letters_of {ys : List D} (h : ∀ y ∈ ys, ∃ c, isLow c ∧ y = .str (one c)) : ∃ cs : List Nat, (∀ c ∈ cs, isLow c) ∧ ys = (cs.map one).map D.str := by
  induction ys with
  | nil => exact ⟨[], by simp, rfl⟩
  | cons y ys ih =>
    obtain ⟨c, hc, rfl⟩ := h y (by simp)
    obtain ⟨cs, h1, rfl⟩ := ih fun y hy => h y (by simp [hy])
    exact ⟨c :: cs, by simpa using ⟨hc, h1⟩, rfl⟩
theorem join_ones (cs : List Nat) : Txt.join "" (cs.map one) = ⟨cs.toArray⟩ := ext_tl (by
  rw [tl_join0, List.map_map]
  have : (tl ∘ one) = fun c => [c] := rfl
  rw [this, tl_ofl]
  induction cs with
  | nil => rfl
  | cons c cs ih => simpa using ih)
theorem sum_ones {α : Type} : ∀ l : List α, (l.map fun _ => 1).sum = l.length
  | [] => rfl
  | a :: l => by rw [List.map_cons, List.sum_cons, sum_ones l, List.length_cons]; omega
theorem isTy_str {s : Sto} {x : Str} : isTy "str" s (.str x) = true := by
  show ("str" == "str") = true
  exact beq_self_eq_true _
theorem five_inj {st i j : Int} (hi : 0 ≤ i ∧ i < 26) (hj : 0 ≤ j ∧ j < 26) (h : (st + 5 * i) % 26 = (st + 5 * j) % 26) : i = j := by omega
theorem names_genB {take of_ : List D → Sto → Rs D} (T : TakeOk take) (O : OfOk of_) : NamesOk (fnM 2 9 (namesB take of_)) := by
  intro s k n hb hn
  have hk := hb.lt
  have ea : (("abcdefghijklmnopqrstuvwxyz" : String) : Str) = abc := rfl
  refine wp_of fun P hP => ?_
  unfold namesB
  rw [z_fnM (by rfl), ea]
  -- the base
  simp
  refine ⟨isTy_str, Nat.le_trans (by decide) line_8, ?_⟩
  refine wp_ne (O (s := s ++ [SO.lst [D.int 0, D.int 0, D.int 1, D.int 3, D.int 7]]) (k := k) (x := .ref s.length) (Eff.push (ks := [k]) |>.bag k (by simp) hb) lstAt_push (by simp; omega) (by simp) (by simp)) fun d s1 ⟨hd, ef1⟩ => ?_
  have ef1 := (Eff.push (ks := [k])).trans ef1
  obtain ⟨q, rfl, hq⟩ : ∃ q : Nat, d = .int q ∧ q ≤ 7 := by
    simp at hd
    rcases hd with rfl | rfl | rfl | rfl
    · exact ⟨0, rfl, by decide⟩
    · exact ⟨1, rfl, by decide⟩
    · exact ⟨3, rfl, by decide⟩
    · exact ⟨7, rfl, by decide⟩
  simp
  refine ⟨by omega, ?_⟩
  have hb1 := ef1.bag k (by simp) hb
  refine wp_ne (lc_all (ks := [k]) it_rng (by simpa using hb1) (by rw [rngD_len]; exact Nat.lt_of_le_of_lt (Nat.le_trans hq (by decide)) line_26) (fun i d y => ∃ c, isLow c ∧ y = .str (one c)) fun i d s2 hx ef hbs => ⟨_, rfl, ?_⟩) ?_
  · simp
    refine wp_ne (T (hbs k (by simp)) (by omega) (by omega)) fun d s' ⟨j, e, h1, ef⟩ => ?_
    subst e
    have h2 : j < 26 := by omega
    simp [abc_le, abc_at h2, ef, one, isLow]
    omega
  rintro d s2 ⟨rfl, ef2, hlt2, ys, hy1, hy2, hy3⟩
  obtain ⟨cs, hcs, rfl⟩ := letters_of (ys := ys) fun y hy => by
    obtain ⟨i, hi, rfl⟩ := List.getElem_of_mem hy
    exact hy3 i _ _ (List.getElem?_eq_getElem (by omega)) (List.getElem?_eq_getElem hi)
  have hcl : cs.length = q := by
    rw [rngD_len] at hy1
    simpa using hy1
  have hs2 : lstAt s2 s1.length = some ((cs.map one).map D.str) := lstAt_ml hy2
  rw [z_join]
  refine ⟨_, _, hs2, mapM_strD _, ?_, ?_⟩
  · have e0 : ("" : Str).length = 0 := by decide +kernel
    have e1 : (List.map (fun x => x.length) (cs.map one)).sum = cs.length := by
      rw [List.map_map]
      have : ((fun x : Str => x.length) ∘ one) = fun _ => 1 := rfl
      rw [this, sum_ones]
    rw [e0, e1]
    omega
  rw [join_ones]
  have hb2 := ef2.bag k (by simp) hb1
  refine wp_ne (T hb2 (by omega) (by omega)) fun d s3 ⟨st, e, h1, ef3⟩ => ?_
  subst e
  have hb3 := ef3.bag k (by simp) hb2
  refine wp_ne (T hb3 (by omega) (by omega)) fun d s4 ⟨be, e, hbe, ef4⟩ => ?_
  subst e
  have hb4 := ef4.bag k (by simp) hb3
  refine ⟨two_le_line, ?_⟩
  refine ⟨by omega, ?_⟩
  refine wp_ne (lc_map (ks := []) (fun d => match d with | .int i => .str (one (97 + ((st + 5 * i) % 26).toNat)) | _ => .non) it_rng (by simp) (by rw [rngD_len]; exact Nat.lt_of_le_of_lt hn line_26) fun d s5 hd ef _ => ⟨_, rfl, ?_⟩) ?_
  · obtain ⟨i, hi, rfl⟩ := rngD_mem hd
    simp [cMul]
    obtain ⟨j, hj⟩ := Int.eq_ofNat_of_zero_le (Int.emod_nonneg ((st : Int) + 5 * i) (show (26 : Int) ≠ 0 by decide))
    have hj2 : j < 26 := by
      have := Int.emod_lt_of_pos ((st : Int) + 5 * i) (show (0 : Int) < 26 by decide)
      omega
    rw [hj]
    simp [abc_le, abc_at hj2, Eff.refl, one]
  rintro d s5 ⟨rfl, ef5, hlt5, hm5⟩
  generalize hx5 : List.map _ (rngD 0 n) = xs5 at hm5
  have hx5l : xs5.length = n := by rw [← hx5, List.length_map, rngD_len]
  simp [lstAt_ml hm5]
  refine wp_ne (lc_map (ks := []) (fun d => match d with | .str x => .str (if be = 0 then x ++ ⟨cs.toArray⟩ else ⟨cs.toArray⟩ ++ x) | _ => .non) (it_lst (lstAt_ml hm5) (by simp)) (by simp) (by rw [hx5l]; exact Nat.lt_of_le_of_lt hn line_26) fun d s6 hd ef _ => ⟨_, rfl, ?_⟩) ?_
  · rw [← hx5] at hd
    obtain ⟨d0, hd0, rfl⟩ := List.mem_map.mp hd
    obtain ⟨i, hi, rfl⟩ := rngD_mem hd0
    simp [z_toT, trD]
    have l1 : (⟨cs.toArray⟩ : Str).length = cs.length := rfl
    have l2 : ∀ c, (one c).length = 1 := fun _ => rfl
    have l3 : cs.length + 1 ≤ sizeLine := Nat.le_trans (by omega) line_8
    have l4 : 1 + cs.length ≤ sizeLine := Nat.le_trans (by omega) line_8
    by_cases h0 : be = 0
    · simp [h0, Eff.refl, l1, l2, l3, l4]
    · simp [h0, Eff.refl, l1, l2, l3, l4]
  rintro d s6 ⟨rfl, ef6, hlt6, hm6⟩
  refine hP _ _ ⟨_, (List.range n).map fun i : Nat => if be = 0 then one (97 + (((st : Int) + 5 * i) % 26).toNat) ++ ⟨cs.toArray⟩ else ⟨cs.toArray⟩ ++ one (97 + (((st : Int) + 5 * i) % 26).toNat), rfl, ?_, ?_, by simp, ?_, ?_, ?_⟩
  · have := ef1.le; have := ef2.le; have := ef3.le; have := ef4.le; have := ef5.le
    omega
  · rw [hm6, ← hx5]
    simp [rngD]
  · have nd : (List.range n).Nodup := List.nodup_range
    refine (List.pairwise_map).mpr (List.Pairwise.imp_of_mem ?_ nd)
    intro a b ha hb hab heq
    apply hab
    have ha : a < n := by simpa using ha
    have hb : b < n := by simpa using hb
    have e2 : (97 + (((st : Int) + 5 * a) % 26).toNat) = (97 + (((st : Int) + 5 * b) % 26).toNat) := by
      have := congrArg tl heq
      by_cases h0 : be = 0
      · simpa [h0, tl_append, tl_one] using this
      · simpa [h0, tl_append, tl_one] using this
    have := five_inj (st := st) (i := a) (j := b) (by omega) (by omega) (by omega)
    omega
  · intro x hx
    obtain ⟨i, hi, rfl⟩ := List.mem_map.mp hx
    have hlow : isLow (97 + (((st : Int) + 5 * i) % 26).toNat) := by unfold isLow; omega
    have h7 : (tl (⟨cs.toArray⟩ : Str)) = cs := rfl
    by_cases h0 : be = 0
    · refine ⟨?_, ?_, ?_⟩ <;> simp only [h0, if_true, tl_append, tl_one, h7]
      · simp
      · simp; omega
      · intro c hc
        rcases List.mem_append.mp hc with hc | hc
        · simp at hc; rw [hc]; exact hlow
        · exact hcs c hc
    · refine ⟨?_, ?_, ?_⟩ <;> simp only [h0, if_false, tl_append, tl_one, h7]
      · simp
      · simp; omega
      · intro c hc
        rcases List.mem_append.mp hc with hc | hc
        · exact hcs c hc
        · simp at hc; rw [hc]; exact hlow
  · exact ((((ef1.trans ef2).trans ef3).trans ef4).trans ef5.nil).trans ef6.nil
end Z

set_option Elab.async false
set_option linter.all false
set_option maxRecDepth 100000
set_option maxHeartbeats 4000000
namespace Z
open PySem PySem.Spec PyProof.Rows L2 TL
open PySem.PyData (strOk)
/-! ### data without places: none, ints, texts, tuples of these -/
mutual
def enc : D → PyData
  | .non => .none
  | .bl b => .bool b
  | .int i => .int i
  | .str x => .str x
  | .tup xs => .tuple (encs xs)
  | .ref _ => .none
def encs : List D → List PyData
  | [] => []
  | x :: xs => enc x :: encs xs
end
mutual
/-- plain, of depth below n -/
def plain : Nat → D → Bool
  | _, .non => true
  | _, .bl _ => false
  | _, .int _ => true
  | _, .str x => strOk x
  | 0, .tup _ => false
  | n + 1, .tup xs => plains n xs
  | _, .ref _ => false
def plains : Nat → List D → Bool
  | _, [] => true
  | n, x :: xs => plain n x && plains n xs
end
theorem encs_map : ∀ xs : List D, encs xs = xs.map enc
  | [] => rfl
  | x :: xs => by rw [encs, encs_map xs]; rfl
theorem plains_iff {n : Nat} : ∀ {xs : List D}, plains n xs = true ↔ ∀ x ∈ xs, plain n x = true
  | [] => by simp [plains]
  | x :: xs => by simp [plains, plains_iff (xs := xs)]
theorem mapM_some' {α β : Type} {f : α → Option β} {g : α → β} : ∀ {xs : List α}, (∀ x ∈ xs, f x = some (g x)) → xs.mapM f = some (xs.map g)
  | [], _ => rfl
  | x :: xs, h => by
    rw [List.mapM_cons, h x (by simp), mapM_some' fun y hy => h y (by simp [hy])]
    rfl
mutual
theorem pyd_plain (s : Sto) : ∀ (n : Nat) (d : D), plain n d = true → pyd (n + 1) s d = some (enc d)
  | n, .non, _ => by rw [pyd]; rfl
  | n, .bl _, h => by rw [plain] at h; cases h
  | n, .int _, _ => by rw [pyd]; rfl
  | n, .str _, _ => by rw [pyd]; rfl
  | 0, .tup _, h => by rw [plain] at h; cases h
  | n + 1, .tup xs, h => by
    rw [plain] at h
    rw [pyd, pyds_plain s n xs h]
    rfl
  | n, .ref _, h => by cases n <;> (rw [plain] at h; cases h)
theorem pyds_plain (s : Sto) : ∀ (n : Nat) (xs : List D), plains n xs = true → xs.mapM (pyd (n + 1) s) = some (encs xs)
  | _, [], _ => rfl
  | n, x :: xs, h => by
    rw [plains, Bool.and_eq_true] at h
    rw [List.mapM_cons, pyd_plain s n x h.1, pyds_plain s n xs h.2]
    rfl
end
theorem pyd_mono (s : Sto) : ∀ (n : Nat) (d : D) (p : PyData), pyd n s d = some p → pyd (n + 1) s d = some p
  | 0, d, p, h => by rw [pyd] at h; cases h
  | n + 1, .non, p, h => by rw [pyd] at h ⊢; exact h
  | n + 1, .bl _, p, h => by rw [pyd] at h ⊢; exact h
  | n + 1, .int _, p, h => by rw [pyd] at h ⊢; exact h
  | n + 1, .str _, p, h => by rw [pyd] at h ⊢; exact h
  | n + 1, .tup xs, p, h => by
    rw [pyd] at h ⊢
    obtain ⟨ps, h1, rfl⟩ := Option.map_eq_some_iff.mp h
    have : ∀ (xs : List D) (ps : List PyData), xs.mapM (pyd n s) = some ps → xs.mapM (pyd (n + 1) s) = some ps := by
      intro xs
      induction xs with
      | nil => intro ps h; exact h
      | cons x xs ih =>
        intro ps h
        rw [List.mapM_cons] at h ⊢
        obtain ⟨a, h1, h⟩ := Option.bind_eq_some_iff.mp h
        obtain ⟨b, h2, h⟩ := Option.bind_eq_some_iff.mp h
        cases h
        rw [pyd_mono s n x a h1, ih b h2]
        rfl
    rw [this xs ps h1]
    rfl
  | n + 1, .ref k, p, h => by
    rw [pyd] at h ⊢
    obtain ⟨xs, h0, h⟩ := Option.bind_eq_some_iff.mp h
    obtain ⟨ps, h1, rfl⟩ := Option.map_eq_some_iff.mp h
    have : ∀ (xs : List D) (ps : List PyData), xs.mapM (pyd n s) = some ps → xs.mapM (pyd (n + 1) s) = some ps := by
      intro xs
      induction xs with
      | nil => intro ps h; exact h
      | cons x xs ih =>
        intro ps h
        rw [List.mapM_cons] at h ⊢
        obtain ⟨a, h1, h⟩ := Option.bind_eq_some_iff.mp h
        obtain ⟨b, h2, h⟩ := Option.bind_eq_some_iff.mp h
        cases h
        rw [pyd_mono s n x a h1, ih b h2]
        rfl
    rw [h0, Option.bind_some, this xs ps h1]
    rfl
theorem pyd_le {s : Sto} {d : D} {p : PyData} {n m : Nat} (h : pyd n s d = some p) (hm : n ≤ m) : pyd m s d = some p := by
  induction hm with
  | refl => exact h
  | step _ ih => exact pyd_mono s _ d p ih
mutual
theorem canLay_plain : ∀ (n : Nat) (d : D), plain n d = true → (enc d).canLay0 = true ∧ (enc d).depth ≤ n
  | n, .non, _ => by simp [enc, PyData.canLay0, PyData.depth]
  | n, .bl _, h => by rw [plain] at h; cases h
  | n, .int _, _ => by simp [enc, PyData.canLay0, PyData.depth]
  | n, .str _, h => by
    rw [plain] at h
    simp [enc, PyData.canLay0, PyData.depth, h]
  | 0, .tup _, h => by rw [plain] at h; cases h
  | n + 1, .tup xs, h => by
    rw [plain] at h
    obtain ⟨h1, h2⟩ := canLays_plain n xs h
    rw [enc, PyData.canLay0, PyData.depth]
    exact ⟨h1, by omega⟩
  | n, .ref _, h => by cases n <;> (rw [plain] at h; cases h)
theorem canLays_plain : ∀ (n : Nat) (xs : List D), plains n xs = true → PyData.canLayAll0 (encs xs) = true ∧ PyData.depthAll (encs xs) ≤ n
  | _, [], _ => by simp [encs, PyData.canLayAll0, PyData.depthAll]
  | n, x :: xs, h => by
    rw [plains, Bool.and_eq_true] at h
    obtain ⟨h1, h2⟩ := canLay_plain n x h.1
    obtain ⟨h3, h4⟩ := canLays_plain n xs h.2
    rw [encs, PyData.canLayAll0, PyData.depthAll, h1, h3]
    exact ⟨rfl, Nat.max_le.mpr ⟨h2, h4⟩⟩
end
theorem plain_mono : ∀ (n : Nat) (d : D), plain n d = true → plain (n + 1) d = true
  | n, .non, _ => by rw [plain]
  | n, .bl _, h => by rw [plain] at h; cases h
  | n, .int _, _ => by rw [plain]
  | n, .str _, h => by rw [plain] at h ⊢; exact h
  | 0, .tup _, h => by rw [plain] at h; cases h
  | n + 1, .tup xs, h => by
    rw [plain] at h ⊢
    rw [plains_iff] at h ⊢
    exact fun x hx => plain_mono n x (h x hx)
  | n, .ref _, h => by cases n <;> (rw [plain] at h; cases h)
theorem plain_le {n m : Nat} {d : D} (h : plain n d = true) (hm : n ≤ m) : plain m d = true := by
  induction hm with
  | refl => exact h
  | step _ ih => exact plain_mono _ d ih
theorem shp_of {s : Sto} {d : D} {p : PyData} (h : pyd 30 s d = some p) (hs : SeqAt.shaped p = true) : shp s d = some p := by
  unfold shp
  rw [h]
  simp [hs]
theorem shaped_of {p : PyData} (h1 : p.canLay0 = true) (h2 : p.depth ≤ 64) : SeqAt.shaped p = true := by
  unfold SeqAt.shaped
  rw [h1]
  simpa using h2
theorem shp_plain {s : Sto} {d : D} (h : plain 20 d = true) : shp s d = some (enc d) := by
  obtain ⟨h1, h2⟩ := canLay_plain 20 d h
  exact shp_of (pyd_le (pyd_plain s 20 d h) (by omega)) (shaped_of h1 (by omega))
theorem shp_lst {s : Sto} {n : Nat} {xs : List D} (hx : lstAt s n = some xs) (h : plains 20 xs = true) : shp s (.ref n) = some (.list (encs xs)) := by
  obtain ⟨h1, h2⟩ := canLays_plain 20 xs h
  refine shp_of ?_ (shaped_of (by rw [PyData.canLay0]; exact h1) (by rw [PyData.depth]; omega))
  have : pyd 22 s (.ref n) = some (.list (encs xs)) := by
    rw [pyd, hx, Option.bind_some, pyds_plain s 20 xs h]
    rfl
  exact pyd_le this (by omega)
/-! ### == of plain data -/
mutual
theorem eqv_enc : ∀ (n : Nat) (a b : D), plain n a = true → plain n b = true → (PyData.eqv (enc a) (enc b) = true ↔ a = b)
  | n, .bl _, _, h, _ => by rw [plain] at h; cases h
  | n, .ref _, _, h, _ => by cases n <;> (rw [plain] at h; cases h)
  | n, .non, b, _, h => by
    cases b with
    | bl _ => rw [plain] at h; cases h
    | ref _ => cases n <;> (rw [plain] at h; cases h)
    | _ => simp [enc, PyData.eqv]
  | n, .int i, b, _, h => by
    cases b with
    | bl _ => rw [plain] at h; cases h
    | ref _ => cases n <;> (rw [plain] at h; cases h)
    | _ => simp [enc, PyData.eqv]
  | n, .str i, b, _, h => by
    cases b with
    | bl _ => rw [plain] at h; cases h
    | ref _ => cases n <;> (rw [plain] at h; cases h)
    | _ => simp [enc, PyData.eqv]
  | 0, .tup _, _, h, _ => by rw [plain] at h; cases h
  | n + 1, .tup xs, b, h1, h => by
    cases b with
    | bl _ => rw [plain] at h; cases h
    | ref _ => rw [plain] at h; cases h
    | tup ys =>
      rw [plain] at h1 h
      rw [enc, enc, PyData.eqv, eqvs_enc n xs ys h1 h]
      simp
    | _ => simp [enc, PyData.eqv]
theorem eqvs_enc : ∀ (n : Nat) (xs ys : List D), plains n xs = true → plains n ys = true → (PyData.eqvAll (encs xs) (encs ys) = true ↔ xs = ys)
  | _, [], [], _, _ => by simp [encs, PyData.eqvAll]
  | _, [], _ :: _, _, _ => by simp [encs, PyData.eqvAll]
  | _, _ :: _, [], _, _ => by simp [encs, PyData.eqvAll]
  | n, x :: xs, y :: ys, h1, h2 => by
    rw [plains, Bool.and_eq_true] at h1 h2
    rw [encs, encs, PyData.eqvAll, Bool.and_eq_true, eqv_enc n x y h1.1 h2.1, eqvs_enc n xs ys h1.2 h2.2]
    simp
end
section
variable {P : D → Sto → Prop} {E : Str → Str → D → Sto → Prop} {s : Sto} {a b : D} {xs ys : List D} {n m : Nat}
/-- the answer of == as a proposition -/
theorem z_eqP [Decidable (a = b)] (ha : plain 20 a = true) (hb : plain 20 b = true) : (dEq a b s).wp P E = P (.bl (decide (a = b))) s := by
  rw [z_eq (shp_plain ha) (shp_plain hb)]
  have := eqv_enc 20 a b ha hb
  have e : PyData.eqv (enc a) (enc b) = decide (a = b) := by
    by_cases h : a = b
    · rw [decide_eq_true h, this.mpr h]
    · rw [decide_eq_false h]
      exact Bool.eq_false_iff.mpr fun q => h (this.mp q)
  rw [e]
theorem z_neP [Decidable (a = b)] (ha : plain 20 a = true) (hb : plain 20 b = true) : (dNe a b s).wp P E = P (.bl (!decide (a = b))) s := by
  rw [z_ne (shp_plain ha) (shp_plain hb)]
  have := eqv_enc 20 a b ha hb
  have e : PyData.eqv (enc a) (enc b) = decide (a = b) := by
    by_cases h : a = b
    · rw [decide_eq_true h, this.mpr h]
    · rw [decide_eq_false h]
      exact Bool.eq_false_iff.mpr fun q => h (this.mp q)
  rw [e]
theorem eqv_lst [Decidable (xs = ys)] (h1 : plains 20 xs = true) (h2 : plains 20 ys = true) : PyData.eqv (.list (encs xs)) (.list (encs ys)) = decide (xs = ys) := by
  rw [PyData.eqv]
  have := eqvs_enc 20 xs ys h1 h2
  by_cases h : xs = ys
  · rw [decide_eq_true h, this.mpr h]
  · rw [decide_eq_false h]
    exact Bool.eq_false_iff.mpr fun q => h (this.mp q)
theorem z_eqL [Decidable (xs = ys)] (hx : lstAt s n = some xs) (hy : lstAt s m = some ys) (h1 : plains 20 xs = true) (h2 : plains 20 ys = true) : (dEq (.ref n) (.ref m) s).wp P E = P (.bl (decide (xs = ys))) s := by
  rw [z_eq (shp_lst hx h1) (shp_lst hy h2), eqv_lst h1 h2]
theorem z_neL [Decidable (xs = ys)] (hx : lstAt s n = some xs) (hy : lstAt s m = some ys) (h1 : plains 20 xs = true) (h2 : plains 20 ys = true) : (dNe (.ref n) (.ref m) s).wp P E = P (.bl (!decide (xs = ys))) s := by
  rw [z_ne (shp_lst hx h1) (shp_lst hy h2), eqv_lst h1 h2]
@[simp] theorem z_eqI {i j : Int} : (dEq (.int i) (.int j) s).wp P E = P (.bl (decide (i = j))) s := by
  rw [z_eq (shp_plain (s := s) (d := .int i) (by rw [plain])) (shp_plain (s := s) (d := .int j) (by rw [plain]))]
  rfl
@[simp] theorem z_neI {i j : Int} : (dNe (.int i) (.int j) s).wp P E = P (.bl (!decide (i = j))) s := by
  rw [z_ne (shp_plain (s := s) (d := .int i) (by rw [plain])) (shp_plain (s := s) (d := .int j) (by rw [plain]))]
  rfl
/-! ### in -/
theorem any_enc [Decidable (a ∈ xs)] (ha : plain 20 a = true) (hx : plains 20 xs = true) : ((encs xs).any fun z => PyData.eqv z (enc a)) = decide (a ∈ xs) := by
  rw [encs_map, List.any_map]
  rw [plains_iff] at hx
  by_cases h : a ∈ xs
  · rw [decide_eq_true h, List.any_eq_true]
    exact ⟨a, h, (eqv_enc 20 a a ha ha).mpr rfl⟩
  · rw [decide_eq_false h, List.any_eq_false]
    intro x hxm hq
    exact h (by rw [← (eqv_enc 20 x a (hx x hxm) ha).mp hq]; exact hxm)
theorem z_inT {neg : Bool} [Decidable (a ∈ xs)] (ha : plain 20 a = true) (hx : plains 19 xs = true) : (dInB neg a (.tup xs) s).wp P E = P (.bl (neg ^^ decide (a ∈ xs))) s := by
  have h2 : plain 20 (.tup xs) = true := by rw [plain]; exact hx
  have hx' : plains 20 xs = true := plains_iff.mpr fun x h => plain_mono _ _ (plains_iff.mp hx x h)
  unfold dInB
  dsimp only
  rw [shp_plain ha, shp_plain h2, enc]
  dsimp only
  rw [any_enc ha hx', z_ok]
theorem z_inL {neg : Bool} [Decidable (a ∈ xs)] (ha : plain 20 a = true) (hl : lstAt s n = some xs) (hx : plains 20 xs = true) : (dInB neg a (.ref n) s).wp P E = P (.bl (neg ^^ decide (a ∈ xs))) s := by
  unfold dInB
  dsimp only
  rw [shp_plain ha, shp_lst hl hx]
  dsimp only
  rw [any_enc ha hx, z_ok]
theorem z_inS {neg : Bool} {c : Nat} {y : Str} : (dInB neg (.str (one c)) (.str y) s).wp P E = P (.bl (neg ^^ decide (c ∈ tl y))) s := by
  unfold dInB
  dsimp only
  rw [if_pos (show (one c).length = 1 from rfl), z_ok]
  rfl
theorem z_eq_yes (ha : plain 20 a = true) : (dEq a a s).wp P E = P (.bl true) s := by
  classical
  rw [z_eqP ha ha, decide_eq_true rfl]
theorem z_eq_no (ha : plain 20 a = true) (hb : plain 20 b = true) (h : a ≠ b) : (dEq a b s).wp P E = P (.bl false) s := by
  classical
  rw [z_eqP ha hb, decide_eq_false h]
theorem z_ne_yes (ha : plain 20 a = true) (hb : plain 20 b = true) (h : a ≠ b) : (dNe a b s).wp P E = P (.bl true) s := by
  classical
  rw [z_neP ha hb, decide_eq_false h]
  rfl
theorem z_ne_no (ha : plain 20 a = true) : (dNe a a s).wp P E = P (.bl false) s := by
  classical
  rw [z_neP ha ha, decide_eq_true rfl]
  rfl
theorem z_inT_no {neg : Bool} (ha : plain 20 a = true) (hx : plains 19 xs = true) (h : a ∉ xs) : (dInB neg a (.tup xs) s).wp P E = P (.bl neg) s := by
  classical
  rw [z_inT ha hx, decide_eq_false h, Bool.xor_false]
theorem z_inT_yes {neg : Bool} (ha : plain 20 a = true) (hx : plains 19 xs = true) (h : a ∈ xs) : (dInB neg a (.tup xs) s).wp P E = P (.bl !neg) s := by
  classical
  rw [z_inT ha hx, decide_eq_true h, Bool.xor_true]
theorem z_inL_no {neg : Bool} (ha : plain 20 a = true) (hl : lstAt s n = some xs) (hx : plains 20 xs = true) (h : a ∉ xs) : (dInB neg a (.ref n) s).wp P E = P (.bl neg) s := by
  classical
  rw [z_inL ha hl hx, decide_eq_false h, Bool.xor_false]
theorem z_inL_yes {neg : Bool} (ha : plain 20 a = true) (hl : lstAt s n = some xs) (hx : plains 20 xs = true) (h : a ∈ xs) : (dInB neg a (.ref n) s).wp P E = P (.bl !neg) s := by
  classical
  rw [z_inL ha hl hx, decide_eq_true h, Bool.xor_true]
theorem z_eqL_yes (hx : lstAt s n = some xs) (hy : lstAt s m = some xs) (h1 : plains 20 xs = true) : (dEq (.ref n) (.ref m) s).wp P E = P (.bl true) s := by
  classical
  rw [z_eqL hx hy h1 h1, decide_eq_true rfl]
theorem z_neL_no (hx : lstAt s n = some xs) (hy : lstAt s m = some xs) (h1 : plains 20 xs = true) : (dNe (.ref n) (.ref m) s).wp P E = P (.bl false) s := by
  classical
  rw [z_neL hx hy h1 h1, decide_eq_true rfl]
  rfl
/-! ### sorted texts -/
def leS (a b : Str) : Bool := decide (tl a ≤ tl b)
def sortS (xs : List Str) : List Str := xs.mergeSort leS
theorem leS_trans (a b c : Str) (h1 : leS a b = true) (h2 : leS b c = true) : leS a c = true := by
  unfold leS at *
  simp only [decide_eq_true_eq] at *
  exact List.le_trans h1 h2
theorem leS_total (a b : Str) : (leS a b || leS b a) = true := by
  unfold leS
  simp only [Bool.or_eq_true, decide_eq_true_eq]
  exact List.le_total _ _
theorem plains_strs {ms : List Str} (h : ∀ x ∈ ms, strOk x = true) : plains n (ms.map D.str) = true := plains_iff.mpr fun d hd => by
  obtain ⟨x, hx, rfl⟩ := List.mem_map.mp hd
  rw [plain]
  exact h x hx
theorem encD_str {x : Str} : encD s (.str x) = .str x := by
  unfold encD
  rw [pyd]
  rfl
theorem z_sortS {ms : List Str} (hx : lstAt s n = some (ms.map D.str)) (h : ∀ x ∈ ms, strOk x = true) : (fSorted [.ref n] s).wp P E = P (.ref s.length) (s ++ [.lst ((sortS ms).map D.str)]) := by
  have hc : canSort s (ms.map D.str) = true := by
    unfold canSort
    simp only [List.all_map, Bool.and_eq_true, Bool.or_eq_true, List.all_eq_true, Function.comp_apply]
    refine ⟨⟨fun x hx => ?_, fun x hx y hy => ?_⟩, .inr fun x hx => ?_⟩
    · rw [shp_plain (by rw [plain]; exact h x hx)]
      rfl
    · rw [encD_str, encD_str]
      simp [PySem.W.alike]
    · rw [encD_str]
      rfl
  have hs : sortD s (ms.map D.str) = (sortS ms).map D.str := by
    unfold sortD sortS
    refine (List.map_mergeSort fun a _ b _ => ?_).symm
    rw [PySem.W.dataLe_eq]
    have := congrFun (congrFun (PySem.W.dataLe_str (fun x : Str => x)) a) b
    rw [PySem.W.dataLe_eq] at this
    simp only [encD_str, cond_false] at this ⊢
    rw [this]
    rfl
  unfold fSorted
  dsimp only
  rw [hx]
  dsimp only
  rw [if_pos hc, hs, z_ok]
theorem sortS_perm (ms : List Str) : (sortS ms).Perm ms := List.mergeSort_perm _ _
theorem sortS_sorted (ms : List Str) : (sortS ms).Pairwise fun a b => leS a b = true := List.pairwise_mergeSort leS_trans leS_total ms
theorem sortS_of {ms : List Str} (h : ms.Pairwise fun a b => leS a b = true) : sortS ms = ms := List.mergeSort_of_pairwise h
/-! ### repr -/
theorem z_repr : (fRepr [a] s).wp P E = ∃ p, shp s a = some p ∧ (p.showable = true ∧ p.shown.length ≤ sizeLine) ∧ P (.str p.shown) s := by
  unfold fRepr
  dsimp only
  cases h : shp s a with
  | none => simp [Rs.wp]
  | some p => simp [z_iteN, z_ok]
end
end Z

namespace Z
open PySem PySem.Spec PyProof.Rows L2
def c_WORDS : D := .tup [.str "wanted", .str "weak", .str "common", .str "strong"]
def s__law_bag : SM := (sC (sA 2 (mIf (toB (m2 dLt (mV 1) (mN fLen (aC (mV 0) aN)))) (m2 dIx (mV 0) (mV 1)) (mC (.int 0)))) (sC (sA 3 (m2 dAdd (m2 dMul2 (mC (.int 1146)) (mV 1)) (mC (.int 167)))) (sC (sF (iEn (aC (mSl dSl (mV 0) oN (oS (mC (.int 60)))) aN)) (gT [(gN 4), (gN 5)]) (sA 3 (m2 dMod (mN fInt (aC (m2 dAdd (m2 dAdd (m2 dAdd (m2 dMul2 (mV 3) (mC (.int 62131))) (m2 dMod (mN fInt (aC (mV 5) aN)) (mC (.int 2147483587)))) (m2 dMul2 (mC (.int 117)) (mV 4))) (mC (.int 13))) aN)) (mC (.int 2147483549))))) (sR (mN fLst (aC (mIf (toB (m2 dGe (mN fAbs (aC (mV 2) aN)) (m2 dPow (mC (.int 10)) (mC (.int 18))))) (mN fAbs (aC (mV 2) aN)) (mC (.int 0))) (aC (mV 3) aN)))))))
def m__law_bag : List D → Sto → Rs D := fnM 2 6 s__law_bag
def s__law_take : SM := (sC (sI (toB (m2 dGt (m2 dIx (mV 0) (mC (.int 0))) (mC (.int 0)))) (sC (sA 2 (m2 dMod (mN fInt (aC (m2 dIx (mV 0) (mC (.int 0))) aN)) (mV 1))) (sC (sX xSetL (mV 0) (mC (.int 0)) (m2 dDiv (m2 dIx (mV 0) (mC (.int 0))) (mV 1))) (sR (mV 2)))) sN) (sC (sX xSetL (mV 0) (mC (.int 1)) (m2 dMod (mN fInt (aC (m2 dAdd (m2 dMul2 (m2 dIx (mV 0) (mC (.int 1))) (mC (.int 38569))) (mC (.int 6315))) aN)) (mC (.int 2147483629)))) (sR (m2 dMod (m2 dDiv (m2 dMod (mN fInt (aC (m2 dMul2 (m2 dDiv (m2 dIx (mV 0) (mC (.int 1))) (mC (.int 19))) (mC (.int 41177))) aN)) (mC (.int 2147483563))) (mC (.int 64))) (mV 1)))))
def m__law_take : List D → Sto → Rs D := fnM 2 3 s__law_take
def s__law_of : SM := (sR (m2 dIx (mV 1) (mN m__law_take (aC (mV 0) (aC (mN fLen (aC (mV 1) aN)) aN)))))
def m__law_of : List D → Sto → Rs D := fnM 2 2 s__law_of
def s__law_names : SM := (sC (sA 2 (mC (.str "abcdefghijklmnopqrstuvwxyz"))) (sC (sA 3 (mBM "str" fJoin (mC (.str "")) (aC (mL (iR1 (aC (mN m__law_of (aC (mV 0) (aC (mN fLst (aC (mC (.int 0)) (aC (mC (.int 0)) (aC (mC (.int 1)) (aC (mC (.int 3)) (aC (mC (.int 7)) aN)))))) aN))) aN)) (gN 7) tY (m2 dIx (mV 2) (mN m__law_take (aC (mV 0) (aC (mC (.int 26)) aN)))) [7]) aN))) (sC (sG (gT [(gN 5), (gN 6)]) (mN fTup (aC (mN m__law_take (aC (mV 0) (aC (mC (.int 26)) aN))) (aC (mN m__law_take (aC (mV 0) (aC (mC (.int 2)) aN))) aN)))) (sC (sA 4 (mL (iR1 (aC (mV 1) aN)) (gN 7) tY (m2 dIx (mV 2) (m2 dMod (m2 dAdd (mV 5) (m2 dMul2 (mC (.int 5)) (mV 7))) (mC (.int 26)))) [7])) (sR (mL (iSq (mV 4)) (gN 8) tY (mIf (toT (mV 6)) (m2 dAdd (mV 3) (mV 8)) (m2 dAdd (mV 8) (mV 3))) [8]))))))
def m__law_names : List D → Sto → Rs D := fnM 2 9 s__law_names
def s__law_drawn : SM := (sC (sA 2 (mN fLst aN)) (sC (sF (iSq (mN fSorted (aC (mV 1) aN))) (gN 3) (sC (sA 4 (mN m__law_of (aC (mV 0) (aC (mN fLst (aC (mC (.str "")) (aC (mC (.str "")) (aC (mC (.str "wanted")) (aC (mC (.str "wanted")) (aC (mC (.str "weak")) (aC (mC (.str "common")) (aC (mC (.str "strong")) aN)))))))) aN)))) (sI (toB (m2 dNe (mV 4) (mC (.str "")))) (sE (mBM "list" (mtL lAppend) (mV 2) (aC (mN fTup (aC (mV 3) (aC (mV 4) aN))) aN))) sN))) (sR (mN fTuple (aC (mV 2) aN)))))
def m__law_drawn : List D → Sto → Rs D := fnM 2 5 s__law_drawn
def s_show_face : SM := (sR (mIf (toB (m2 dNe (mV 0) (mN fTup aN))) (mBM "str" fJoin (mC (.str ", ")) (aC (mL (iSq (mV 0)) (gT [(gN 1), (gN 2)]) tY (mJs [m1 fFmt (mV 1), mC (.str " "), m1 fFmt (mV 2)] Str.empty) [1, 2]) aN)) (mC (.str "-"))))
def m_show_face : List D → Sto → Rs D := fnM 1 3 s_show_face
def km_show_face_0_face : List D → Sto → Rs D := callF 0 (fun ds es => es) m_show_face
def s_look_text : SM := (sI (bNot (toT (mIsi "str" (mV 0)))) sNo sN)
def m_look_text : List D → Sto → Rs D := fnM 1 1 s_look_text
def s_is_name : SM := (sC (sI (bOr (bNot (toT (mIsi "str" (mV 0)))) (bNot (toB (mCh dLe dLe (mC (.int 1)) (mN fLen (aC (mV 0) aN)) (mC (.int 8)))))) (sR (mC (.bl false))) sN) (sR (mN (fAllAny true) (aC (mL (iSt (mV 0)) (gN 1) tY (m2 (dInB false) (mV 1) (mC (.str "abcdefghijklmnopqrstuvwxyz"))) [1]) aN))))
def m_is_name : List D → Sto → Rs D := fnM 1 2 s_is_name
def s_read_item : SM := (sC (sA 1 (mAnd (m2 dEq (mSl dSl (mV 0) oN (oS (mC (.int 1)))) (mC (.str "("))) (m2 dEq (mSl dSl (mV 0) (oS (m1 dNeg (mC (.int 1)))) oN) (mC (.str ")"))))) (sC (sA 2 (mIf (toT (mV 1)) (mN fTuple (aC (mBM "str" fSplit (mSl dSl (mV 0) (oS (mC (.int 1))) (oS (m1 dNeg (mC (.int 1))))) (aC (mC (.str "+")) aN)) aN)) (mV 0))) (sC (sI (bNot (toT (mN (fAllAny true) (aC (mL (iSq (mIf (toT (mV 1)) (mV 2) (mN fLst (aC (mV 2) aN)))) (gN 3) tY (mN m_is_name (aC (mV 3) aN)) [3]) aN)))) sNo sN) (sR (mV 2)))))
def m_read_item : List D → Sto → Rs D := fnM 1 4 s_read_item
def s_read_line : SM := (sC (sE (mN m_look_text (aC (mV 0) aN))) (sR (mIf (toB (m2 dNe (mV 0) (mC (.str "-")))) (mN fTuple (aC (mL (iSq (mBM "str" fSplit (mV 0) (aC (mC (.str " ")) aN))) (gN 1) tY (mN m_read_item (aC (mV 1) aN)) [1]) aN)) (mN fTup aN))))
def m_read_line : List D → Sto → Rs D := fnM 1 2 s_read_line
def km_read_line_0_text : List D → Sto → Rs D := callF 0 (fun ds es => es) m_read_line
def s_twice_in : SM := (sC (sA 1 (mN fLst aN)) (sC (sF (iSq (mV 0)) (gN 2) (sC (sI (toB (m2 (dInB false) (mV 2) (mV 1))) (sR (mV 2)) sN) (sE (mBM "list" (mtL lAppend) (mV 1) (aC (mV 2) aN))))) (sR (mC .non))))
def m_twice_in : List D → Sto → Rs D := fnM 1 3 s_twice_in
def s_is_face : SM := (sC (sI (bOr (bNot (toT (mIsi "tuple" (mV 0)))) (bNot (toT (mN (fAllAny true) (aC (mL (iSq (mV 0)) (gN 2) tY (mAnd (mIsi "tuple" (mV 2)) (m2 dEq (mN fLen (aC (mV 2) aN)) (mC (.int 2)))) [2]) aN))))) (sR (mC (.bl false))) sN) (sC (sI (bNot (toT (mN (fAllAny true) (aC (mL (iSq (mV 0)) (gT [(gN 3), (gN 4)]) tY (mAnd (mN m_is_name (aC (mV 3) aN)) (mAnd (mIsi "str" (mV 4)) (m2 (dInB false) (mV 4) (mC c_WORDS)))) [3, 4]) aN)))) (sR (mC (.bl false))) sN) (sC (sA 1 (mL (iSq (mV 0)) (gN 2) tY (m2 dIx (mV 2) (mC (.int 0))) [2])) (sR (mAnd (m2 dEq (mV 1) (mN fSorted (aC (mV 1) aN))) (m2 dIsN2 (mN m_twice_in (aC (mV 1) aN)) (mC .non)))))))
def m_is_face : List D → Sto → Rs D := fnM 1 5 s_is_face
def s_read_face : SM := (sC (sE (mN m_look_text (aC (mV 0) aN))) (sC (sI (toB (m2 dEq (mV 0) (mC (.str "-")))) (sR (mN fTup aN)) sN) (sC (sA 1 (mN fTuple (aC (mL (iSq (mBM "str" fSplit (mV 0) (aC (mC (.str ", ")) aN))) (gN 2) tY (mN fTuple (aC (mBM "str" fSplit (mV 2) (aC (mC (.str " ")) aN)) aN)) [2]) aN))) (sC (sI (bNot (toT (mN m_is_face (aC (mV 1) aN)))) sNo sN) (sR (mV 1))))))
def m_read_face : List D → Sto → Rs D := fnM 1 3 s_read_face
def km_read_face_0_text : List D → Sto → Rs D := callF 0 (fun ds es => es) m_read_face
def s_show_item : SM := (sR (mIf (toT (mIsi "tuple" (mV 0))) (m2 dAdd (m2 dAdd (mC (.str "(")) (mBM "str" fJoin (mC (.str "+")) (aC (mV 0) aN))) (mC (.str ")"))) (mV 0)))
def m_show_item : List D → Sto → Rs D := fnM 1 1 s_show_item
def s_show_line : SM := (sR (mIf (toB (m2 dNe (mV 0) (mN fTup aN))) (mBM "str" fJoin (mC (.str " ")) (aC (mL (iSq (mV 0)) (gN 1) tY (mN m_show_item (aC (mV 1) aN)) [1]) aN)) (mC (.str "-"))))
def m_show_line : List D → Sto → Rs D := fnM 1 2 s_show_line
def km_show_line_0_line : List D → Sto → Rs D := callF 0 (fun ds es => es) m_show_line
def s__law_item_text : SM := (sR (mIf (toT (mIsi "tuple" (mV 0))) (m2 dAdd (m2 dAdd (mC (.str "(")) (mBM "str" fJoin (mC (.str "+")) (aC (mV 0) aN))) (mC (.str ")"))) (mV 0)))
def m__law_item_text : List D → Sto → Rs D := fnM 1 1 s__law_item_text
def s_law : SM := (sC (sF (iR1 (aC (mN fMax2 (aC (mC (.int 2)) (aC (mN fMin2 (aC (mC (.int 5)) (aC (mN fLen (aC (mV 0) aN)) aN))) aN))) aN)) (gN 1) (sC (sA 2 (mN m__law_bag (aC (mV 0) (aC (mV 1) aN)))) (sF (iR1 (aC (mC (.int 40)) aN)) (gN 3) (sC (sA 4 (mN m__law_names (aC (mV 2) (aC (m2 dAdd (mC (.int 1)) (mN m__law_take (aC (mV 2) (aC (mC (.int 6)) aN)))) aN)))) (sC (sA 5 (mN m__law_drawn (aC (mV 2) (aC (mV 4) aN)))) (sC (sA 6 (m2 dAdd (mV 4) (mL (iR1 (aC (mC (.int 3)) aN)) (gN 11) tY (mN fTuple (aC (mL (iR1 (aC (m2 dAdd (mC (.int 1)) (mN m__law_take (aC (mV 2) (aC (mC (.int 4)) aN)))) aN)) (gN 12) tY (mN m__law_of (aC (mV 2) (aC (mV 4) aN))) [12]) aN)) [11]))) (sC (sA 7 (mN fTuple (aC (mL (iR1 (aC (mN m__law_take (aC (mV 2) (aC (mC (.int 7)) aN))) aN)) (gN 12) tY (mN m__law_of (aC (mV 2) (aC (mV 6) aN))) [12]) aN))) (sC (sA 8 (mIf (toB (m2 dNe (mV 5) (mN fTup aN))) (mBM "str" fJoin (mC (.str ", ")) (aC (mL (iSq (mV 5)) (gT [(gN 14), (gN 15)]) tY (m2 dAdd (m2 dAdd (mV 14) (mC (.str " "))) (mV 15)) [14, 15]) aN)) (mC (.str "-")))) (sC (sA 9 (mIf (toB (m2 dNe (mV 7) (mN fTup aN))) (mBM "str" fJoin (mC (.str " ")) (aC (mL (iSq (mV 7)) (gN 13) tY (mN m__law_item_text (aC (mV 13) aN)) [13]) aN)) (mC (.str "-")))) (sC (sI (toB (m2 dNe (mN fLst (aC (mN m_show_face (aC (mV 5) aN)) (aC (mNk 0 1 km_show_face_0_face aN (aC (mV 5) aN)) aN))) (m2 dMul2 (mN fLst (aC (mV 8) aN)) (mC (.int 2))))) (sR (mC (.bl false))) sN) (sC (sI (toB (m2 dNe (mN fLst (aC (mN m_show_line (aC (mV 7) aN)) (aC (mNk 0 1 km_show_line_0_line aN (aC (mV 7) aN)) aN))) (m2 dMul2 (mN fLst (aC (mV 9) aN)) (mC (.int 2))))) (sR (mC (.bl false))) sN) (sC (sA 10 (mN fLst (aC (mN m_read_face (aC (mV 8) aN)) (aC (mNk 0 1 km_read_face_0_text aN (aC (mV 8) aN)) (aC (mN m_read_line (aC (mV 9) aN)) (aC (mNk 0 1 km_read_line_0_text aN (aC (mV 9) aN)) aN)))))) (sI (toB (m2 dNe (mN fRepr (aC (mV 10) aN)) (mN fRepr (aC (mN fLst (aC (mV 5) (aC (mV 5) (aC (mV 7) (aC (mV 7) aN))))) aN)))) (sR (mC (.bl false))) sN))))))))))))) (sR (mAnd (m2 dEq (mN m_show_face (aC (mN fTup aN) aN)) (mC (.str "-"))) (m2 dEq (mN m_read_line (aC (mC (.str "-")) aN)) (mN fTup aN)))))
def m_law : List D → Sto → Rs D := fnM 1 16 s_law
end Z
set_option Elab.async false
set_option linter.all false
set_option maxRecDepth 100000
set_option maxHeartbeats 4000000
namespace Z
open PySem PySem.Spec PyProof.Rows L2 TL
open PySem.PyData (strOk)
theorem take_ok : TakeOk m__law_take := take_gen (c1 := 38569) (c2 := 6315) (M := 2147483629) (d1 := 19) (c3 := 41177) (M2 := 2147483563) (d2 := 64) (by decide) (by decide) (by decide) (by decide) (by decide) (by decide)
theorem of_ok : OfOk m__law_of := of_gen take_ok
theorem names_ok : NamesOk m__law_names := names_genB take_ok of_ok
theorem bag_ok {s : Sto} {n : Nat} {ns : List Int} {a : Nat} (hx : lstAt s n = some (ns.map D.int)) : (m__law_bag [.ref n, .int a] s).wp fun d s' => ∃ k, d = .ref k ∧ s.length ≤ k ∧ Bag s' k ∧ Eff [] s s' :=
  bag_gen (c0 := 1146) (c1 := 167) (z := 60) (upd := updB 62131 2147483587 117 13) (M := 2147483549) (p := 18) (by decide) (by decide) (by unfold cPow; decide) (updB_ok (by decide) (by decide) (by decide)) hx
/-! ### texts -/
theorem IsName.ok {x : Str} (h : IsName x) : strOk x = true := by
  unfold PyData.strOk
  rw [Array.all_eq_true']
  intro c hc
  have := h.low c (by simpa using hc)
  unfold isLow at this
  simp
  omega
theorem IsName.l8 {x : Str} (h : IsName x) : x.length ≤ 8 := by rw [len_tl]; exact h.len
theorem sum_le {B : Nat} : ∀ {ys : List Str}, (∀ y ∈ ys, y.length ≤ B) → (ys.map (·.length)).sum ≤ ys.length * B
  | [], _ => by simp
  | y :: ys, h => by
    have h1 := h y (by simp)
    have h2 := sum_le (ys := ys) fun z hz => h z (by simp [hz])
    simp only [List.map_cons, List.sum_cons, List.length_cons, Nat.add_mul, Nat.one_mul]
    omega
theorem join_le {a : Str} {B : Nat} {ys : List Str} (h : ∀ y ∈ ys, y.length ≤ B) : (Txt.join a ys).length ≤ ys.length * B + ys.length * a.length := by
  rw [join_eq]
  have := StrLaws.join_length_le a ys
  have := sum_le h
  omega
theorem size_line : sizeLine = 16777216 := by decide
/-- a text joined: what z_join asks -/
theorem join_wp {P : D → Sto → Prop} {E : Str → Str → D → Sto → Prop} {s : Sto} {d : D} {a : Str} {ys : List Str} {B : Nat} (hs : seqD s d = some (ys.map D.str)) (hB : ∀ y ∈ ys, y.length ≤ B) (hl : ys.length * B + ys.length * a.length ≤ 16777216) (h : P (.str (Txt.join a ys)) s) : (fJoin (.str a) [d] s).wp P E := by
  rw [z_join]
  exact ⟨_, ys, hs, mapM_strD ys, Nat.le_trans (Nat.add_le_add_right (sum_le hB) _) hl, h⟩
structure W4 (w : Str) : Prop where
  mem : w ∈ (["wanted", "weak", "common", "strong"] : List Str)
theorem W4.low {w : Str} (h : W4 w) : IsName w := by
  have := h.mem
  have key : ∀ w ∈ (["wanted", "weak", "common", "strong"] : List Str), 1 ≤ (tl w).length ∧ (tl w).length ≤ 8 ∧ ∀ c ∈ tl w, isLow c := by decide +kernel
  exact ⟨(key w this).1, (key w this).2.1, (key w this).2.2⟩
abbrev Face := List (Str × Str)
def rowD (p : Str × Str) : D := .tup [.str p.1, .str p.2]
def faceD (fs : Face) : D := .tup (fs.map rowD)
structure RowOk (p : Str × Str) : Prop where
  nm : IsName p.1
  wd : W4 p.2
def rowT (p : Str × Str) : Str := p.1 ++ " " ++ p.2
def faceT (fs : Face) : Str := if fs = [] then "-" else Txt.join ", " (fs.map rowT)
theorem sp_ok : ("-" : Str).length ≤ 100 ∧ (" " : Str).length = 1 ∧ (", " : Str).length = 2 ∧ ("+" : Str).length = 1 ∧ ("(" : Str).length = 1 ∧ (")" : Str).length = 1 := by decide +kernel
theorem len_app (a b : Str) : (a ++ b).length = a.length + b.length := Str.length_append a b
theorem empty_app (x : Str) : Str.empty ++ x = x := ext_tl (by rw [tl_append]; rfl)
theorem rowD_plain {n : Nat} {p : Str × Str} (h : RowOk p) : plain (n + 1) (rowD p) = true := by
  unfold rowD
  rw [plain, plains, plains, plains, plain, plain, h.nm.ok, h.wd.low.ok]
  rfl
theorem faceD_plain {n : Nat} {fs : Face} (h : ∀ p ∈ fs, RowOk p) : plain (n + 2) (faceD fs) = true := by
  unfold faceD
  rw [plain, plains_iff]
  intro d hd
  obtain ⟨p, hp, rfl⟩ := List.mem_map.mp hd
  exact rowD_plain (h p hp)
theorem rowT_len {p : Str × Str} (h : RowOk p) : (rowT p).length ≤ 17 := by
  have := h.nm.l8
  have := h.wd.low.l8
  unfold rowT
  rw [len_app, len_app, sp_ok.2.1]
  omega
theorem show_face_wp {s : Sto} {fs : Face} (h : ∀ p ∈ fs, RowOk p) (hn : fs.length ≤ 100) : (m_show_face [faceD fs] s).wp fun d s' => d = .str (faceT fs) ∧ Eff [] s s' := by
  refine wp_of fun P hP => ?_
  unfold m_show_face s_show_face
  rw [z_fnM (by rfl)]
  classical
  simp
  rw [z_neP (faceD_plain h) (by rfl)]
  by_cases h0 : fs = []
  · subst h0
    simp [faceD]
    exact hP _ _ ⟨rfl, Eff.refl⟩
  · have e : ¬ faceD fs = .tup [] := by simpa [faceD] using h0
    simp [e]
    refine ⟨isTy_str, ?_⟩
    rw [faceD]
    simp
    refine wp_ne (lc_map (ks := []) (xs := fs.map rowD) (fun d => match d with | .tup [.str x, .str y] => .str (x ++ " " ++ y) | _ => .non) it_tup (by simp) (by rw [List.length_map, size_line]; omega) fun d s1 hd ef _ => ?_) ?_
    · obtain ⟨p, hp, rfl⟩ := List.mem_map.mp hd
      have := (h p hp).nm.l8
      have := (h p hp).wd.low.l8
      refine ⟨_, rfl, ?_⟩
      simp [len_app, sp_ok.2.1, size_line, Eff.refl, empty_app, rowD]
      omega
    rintro d s1 ⟨rfl, ef, hlt, hm⟩
    refine join_wp (ys := fs.map rowT) (B := 17) (by
      show lstAt s1 s.length = _
      rw [lstAt_ml hm, List.map_map, List.map_map]
      rfl) (fun y hy => ?_) ?_ ?_
    · obtain ⟨p, hp, rfl⟩ := List.mem_map.mp hy
      exact rowT_len (h p hp)
    · rw [List.length_map, sp_ok.2.2.1]
      omega
    · have : faceT fs = Txt.join ", " (fs.map rowT) := by unfold faceT; rw [if_neg h0]
      rw [← this]
      exact hP _ _ ⟨rfl, ef⟩
end Z

set_option Elab.async false
set_option linter.all false
set_option maxRecDepth 100000
set_option maxHeartbeats 4000000
namespace Z
open PySem PySem.Spec PyProof.Rows L2 TL
open PySem.PyData (strOk)
theorem kit_str : kitB "str" "str" = some true := by rfl
theorem kit_tup : kitB "tuple" "tuple" = some true := by rfl
theorem kit_st : kitB "str" "tuple" = some false := by decide +kernel
theorem isiStr {P : D → Sto → Prop} {E : Str → Str → D → Sto → Prop} {s : Sto} {e : Ev} {i : Nat} {x : Str} (h : e[i]? = some (some (.str x))) (hP : P (.bl true) s) : (mIsi "str" (mV i) e s).wp P E := by
  rw [z_isi, z_mV, h, slotP_some]
  exact ⟨"str", true, rfl, kit_str, hP⟩
theorem isiTup {P : D → Sto → Prop} {E : Str → Str → D → Sto → Prop} {s : Sto} {e : Ev} {i : Nat} {x : List D} (h : e[i]? = some (some (.tup x))) (hP : P (.bl true) s) : (mIsi "tuple" (mV i) e s).wp P E := by
  rw [z_isi, z_mV, h, slotP_some]
  exact ⟨"tuple", true, rfl, kit_tup, hP⟩
theorem isiST {P : D → Sto → Prop} {E : Str → Str → D → Sto → Prop} {s : Sto} {e : Ev} {i : Nat} {x : Str} (h : e[i]? = some (some (.str x))) (hP : P (.bl false) s) : (mIsi "tuple" (mV i) e s).wp P E := by
  rw [z_isi, z_mV, h, slotP_some]
  exact ⟨"str", false, rfl, kit_st, hP⟩
theorem mapM_blD : ∀ bs : List Bool, (bs.map D.bl).mapM blD = some bs
  | [] => rfl
  | b :: bs => by
    rw [List.map_cons, List.mapM_cons, mapM_blD bs]
    rfl
theorem bls_true {n : Nat} : ((List.replicate n true).map D.bl).mapM blD = some (List.replicate n true) := mapM_blD _
theorem all_rep (n : Nat) : (List.replicate n true).all id = true := by simp
theorem map_true {xs : List D} : xs.map (fun _ => D.bl true) = (List.replicate xs.length true).map D.bl := by simp [List.map_const', List.map_replicate]
theorem look_text_wp {s : Sto} {x : Str} : (m_look_text [.str x] s).wp fun d s' => d = .non ∧ Eff [] s s' := by
  unfold m_look_text s_look_text
  rw [z_fnM (by rfl)]
  simp
  refine isiStr rfl ?_
  simp [z_toT, trD, Eff.refl]
theorem is_name_wp {s : Sto} {x : Str} (h : IsName x) : (m_is_name [.str x] s).wp fun d s' => d = .bl true ∧ Eff [] s s' := by
  refine wp_of fun P hP => ?_
  unfold m_is_name s_is_name
  rw [z_fnM (by rfl)]
  have h8 := h.l8
  have h1 : 1 ≤ x.length := by rw [len_tl]; exact h.pos
  have hl : x.length ≤ sizeLine := by rw [size_line]; omega
  simp
  refine isiStr rfl ?_
  simp [trD, hl]
  have e1 : (1 : Int) ≤ x.length := by omega
  have e2 : (x.length : Int) ≤ 8 := by omega
  simp [e1, e2]
  refine wp_ne (lc_map (ks := []) (xs := strDs x) (fun d => .bl true) it_str (by simp) (by unfold strDs; rw [List.length_map, size_line]; have := len_tl x; unfold tl at this; omega) fun d s1 hd ef _ => ?_) ?_
  · obtain ⟨c, hc, rfl⟩ := List.mem_map.mp hd
    refine ⟨_, rfl, ?_⟩
    have hlow := h.low c hc
    have hin : c ∈ tl abc := by
      rw [abc_tl]
      unfold isLow at hlow
      exact List.mem_map.mpr ⟨c - 97, by simp; omega, by omega⟩
    simp
    show (dInB false (.str (one c)) (.str abc) s1).wp _ _
    rw [z_inS]
    simp [hin, Eff.refl]
  rintro d s1 ⟨rfl, ef, hlt, hm⟩
  rw [z_all]
  rw [map_true] at hm
  refine ⟨_, _, lstAt_ml hm, bls_true, ?_⟩
  rw [if_pos rfl, all_rep]
  exact hP _ _ ⟨rfl, ef⟩
theorem twice_in_wp {s : Sto} {n : Nat} {ms : List Str} (hx : lstAt s n = some (ms.map D.str)) (hd : ms.Nodup) (hok : ∀ x ∈ ms, strOk x = true) (hl : ms.length ≤ 1000) : (m_twice_in [.ref n] s).wp fun d s' => d = .non ∧ Eff [] s s' := by
  refine wp_of fun P hP => ?_
  unfold m_twice_in s_twice_in
  rw [z_fnM (by rfl)]
  have hn := lstAt_lt hx
  simp [lstAt_app hn, hx]
  refine forL_wp (N := ms.length) (fun i e s1 => Eff [] s s1 ∧ mlAt s1 s.length = some ((ms.take i).map D.str) ∧ ∃ o, e = [some (.ref n), some (.ref s.length), o]) ?_ _ 0 _ _ (Nat.zero_add _) ⟨Eff.push, by simp, none, rfl⟩
  rintro i e s1 hi ⟨ef, hm, o, rfl⟩
  have hj : jLst n i s1 = some ((ms.map D.str)[i]?) := by rw [jLst_eq, ef.lst hx (by simp)]; rfl
  refine ⟨fun h => ?_, fun h => ?_⟩
  · subst h
    rw [hj]
    simp
    exact hP _ _ ⟨rfl, ef⟩
  · refine ⟨.str ms[i], _, by rw [hj]; simp [h], rfl, ?_⟩
    have hs := plains_strs (n := 20) (ms := ms.take i) fun x hx => hok x (List.mem_of_mem_take hx)
    have ni : ms[i] ∉ ms.take i := fun hmem => by
      obtain ⟨j, hj2, e⟩ := List.getElem_of_mem hmem
      rw [List.length_take] at hj2
      rw [List.getElem_take] at e
      exact (List.pairwise_iff_getElem.mp hd) j i (by omega) h (by omega) e
    have ni2 : ¬ (D.str ms[i]) ∈ (ms.take i).map D.str := fun hmem => by
      obtain ⟨y, hy, e⟩ := List.mem_map.mp hmem
      cases e
      exact ni hy
    simp
    rw [z_inL_no (by rw [plain]; exact hok _ (List.getElem_mem h)) (lstAt_ml hm) hs ni2]
    have hlt : s.length < s1.length := lstAt_lt (lstAt_ml hm)
    simp [hm, hlt]
    refine ⟨isTy_ml hm, by rw [size_line]; omega, ef.set (Nat.le_refl _), ?_⟩
    have := List.take_append_getElem (l := ms.map D.str) (i := i) (by simpa using h)
    simpa using this
end Z

set_option Elab.async false
set_option linter.all false
set_option maxRecDepth 100000
set_option maxHeartbeats 4000000
namespace Z
open PySem PySem.Spec PyProof.Rows L2 TL
open PySem.PyData (strOk)
structure FaceOk (fs : Face) : Prop where
  row : ∀ p ∈ fs, RowOk p
  srt : (fs.map (·.1)).Pairwise fun a b => leS a b = true
  nd : (fs.map (·.1)).Nodup
  len : fs.length ≤ 100
theorem c_WORDS_plain : plain 20 c_WORDS = true ∧ plains 19 [D.str "wanted", .str "weak", .str "common", .str "strong"] = true := by decide +kernel
theorem is_face_wp {s : Sto} {fs : Face} (h : FaceOk fs) : (m_is_face [faceD fs] s).wp fun d s' => d = .bl true ∧ Eff [] s s' := by
  refine wp_of fun P hP => ?_
  have hlen := h.len
  have hsz : (fs.map rowD).length < sizeLine := by rw [List.length_map, size_line]; omega
  unfold m_is_face s_is_face
  rw [z_fnM (by rfl), faceD]
  simp
  refine isiTup rfl ?_
  simp [trD]
  refine wp_ne (lc_map (ks := []) (xs := fs.map rowD) (fun d => .bl true) it_tup (by simp) hsz fun d s1 hd ef _ => ?_) ?_
  · obtain ⟨p, hp, rfl⟩ := List.mem_map.mp hd
    refine ⟨_, rfl, ?_⟩
    simp
    refine isiTup rfl ?_
    simp [rowD, Eff.refl]
  rintro d s1 ⟨rfl, ef1, hlt1, hm1⟩
  rw [map_true] at hm1
  rw [z_all]
  refine ⟨_, _, lstAt_ml hm1, bls_true, ?_⟩
  simp [trD]
  refine wp_ne (lc_map (ks := []) (xs := fs.map rowD) (fun d => .bl true) it_tup (by simp) hsz fun d s2 hd ef _ => ?_) ?_
  · obtain ⟨p, hp, rfl⟩ := List.mem_map.mp hd
    refine ⟨[some (.tup (fs.map rowD)), none, none, some (.str p.1), some (.str p.2)], rfl, ?_⟩
    simp
    refine wp_ne (is_name_wp (h.row p hp).nm) fun d s3 ⟨e3, ef3⟩ => ?_
    subst e3
    simp
    refine isiStr rfl ?_
    simp
    unfold c_WORDS
    rw [z_inT_yes (by rw [plain]; exact (h.row p hp).wd.low.ok) c_WORDS_plain.2 (by
      have := (h.row p hp).wd.mem
      simp at this
      rcases this with e | e | e | e <;> rw [e] <;> simp)]
    exact ⟨ef3, rfl⟩
  rintro d s2 ⟨rfl, ef2, hlt2, hm2⟩
  rw [map_true] at hm2
  rw [z_all]
  refine ⟨_, _, lstAt_ml hm2, bls_true, ?_⟩
  simp [trD]
  refine wp_ne (lc_map (ks := []) (xs := fs.map rowD) (fun d => match d with | .tup [x, _] => x | _ => .non) it_tup (by simp) hsz fun d s3 hd ef _ => ?_) ?_
  · obtain ⟨p, hp, rfl⟩ := List.mem_map.mp hd
    refine ⟨_, rfl, ?_⟩
    simp [rowD, Eff.refl]
  rintro d s3 ⟨rfl, ef3, hlt3, hm3⟩
  have hm3 : mlAt s3 s2.length = some ((fs.map (·.1)).map D.str) := by
    rw [hm3, List.map_map, List.map_map]
    rfl
  have hok : ∀ x ∈ fs.map (·.1), strOk x = true := fun x hx => by
    obtain ⟨p, hp, rfl⟩ := List.mem_map.mp hx
    exact (h.row p hp).nm.ok
  rw [z_sortS (lstAt_ml hm3) hok, sortS_of h.srt, z_eqL_yes (by rw [lstAt_app hlt3]; exact lstAt_ml hm3) lstAt_push (plains_strs hok)]
  simp
  refine wp_ne (twice_in_wp (by rw [lstAt_app hlt3]; exact lstAt_ml hm3) h.nd hok (by rw [List.length_map]; omega)) fun d s4 ⟨e4, ef4⟩ => ?_
  subst e4
  simp [isNon]
  exact hP _ _ ⟨rfl, (((ef1.trans ef2).trans ef3).trans Eff.push).trans ef4⟩
theorem notin_name {x : Str} (h : IsName x) {c : Nat} (hc : ¬ isLow c) : c ∉ tl x := fun hm => hc (h.low c hm)
theorem tl_sp : tl ", " = [44, 32] ∧ tl " " = [32] ∧ tl "+" = [43] ∧ tl "-" = [45] ∧ tl "(" = [40] ∧ tl ")" = [41] := by decide +kernel
theorem rowT_split {p : Str × Str} (h : RowOk p) : Txt.split (rowT p) " " = [p.1, p.2] := by
  have e : rowT p = Txt.join " " [p.1, p.2] := by rw [join_eq]; rfl
  rw [e]
  refine split_join (y := " ") (s := 32) (S := []) tl_sp.2.1 (by decide +kernel) (by simp) fun q hq => ?_
  simp at hq
  rcases hq with rfl | rfl
  · exact notin_name h.nm (by decide)
  · exact notin_name h.wd.low (by decide)
theorem faceT_split {fs : Face} (h0 : fs ≠ []) (h : ∀ p ∈ fs, RowOk p) : Txt.split (Txt.join ", " (fs.map rowT)) ", " = fs.map rowT := by
  refine split_join (y := ", ") (s := 44) (S := [32]) tl_sp.1 (by decide +kernel) (by simpa using h0) fun q hq => ?_
  obtain ⟨p, hp, rfl⟩ := List.mem_map.mp hq
  unfold rowT
  rw [tl_append, tl_append, tl_sp.2.1]
  intro hm
  rcases List.mem_append.mp hm with hm | hm
  · rcases List.mem_append.mp hm with hm | hm
    · exact notin_name (h p hp).nm (by decide) hm
    · simp at hm
  · exact notin_name (h p hp).wd.low (by decide) hm
theorem faceT_ne {fs : Face} (h0 : fs ≠ []) (h : ∀ p ∈ fs, RowOk p) : faceT fs ≠ "-" := by
  unfold faceT
  rw [if_neg h0]
  intro e
  have := faceT_split h0 h
  rw [e] at this
  have h2 : Txt.split "-" ", " = [("-" : Str)] := by
    have := split_join (y := ", ") (s := 44) (S := [32]) tl_sp.1 (by decide +kernel) (parts := [("-" : Str)]) (by simp) (by decide +kernel)
    rw [join_eq] at this
    exact this
  rw [h2] at this
  cases fs with
  | nil => exact h0 rfl
  | cons p fs =>
    simp at this
    have h3 := congrArg tl this.1
    unfold rowT at h3
    rw [tl_append, tl_append, tl_sp.2.1] at h3
    have h4 : (32 : Nat) ∈ tl "-" := by rw [h3]; simp
    rw [tl_sp.2.2.2.1] at h4
    simp at h4
theorem strOk_app {a b : Str} (ha : strOk a = true) (hb : strOk b = true) : strOk (a ++ b) = true := by
  unfold PyData.strOk at *
  rw [Array.all_eq_true'] at *
  intro c hc
  have : c ∈ tl (a ++ b) := by simpa using hc
  rw [tl_append] at this
  rcases List.mem_append.mp this with h | h
  · exact ha c (by simpa using h)
  · exact hb c (by simpa using h)
theorem strOk_iff {a : Str} : strOk a = true ↔ ∀ c ∈ tl a, c < 1114112 := by
  unfold PyData.strOk
  rw [Array.all_eq_true']
  simp
theorem strOk_join {a : Str} {ys : List Str} (ha : strOk a = true) (h : ∀ y ∈ ys, strOk y = true) : strOk (Txt.join a ys) = true := by
  rw [strOk_iff, join_eq, tl_join]
  have : ∀ ls : List (List Nat), (∀ l ∈ ls, ∀ c ∈ l, c < 1114112) → ∀ c ∈ joinL (tl a) ls, c < 1114112 := by
    intro ls
    induction ls with
    | nil => intro _ c hc; simp [joinL] at hc
    | cons l ls ih =>
      intro hl c hc
      cases ls with
      | nil => exact hl l (by simp) c (by simpa [joinL] using hc)
      | cons m ls =>
        rw [joinL] at hc
        rcases List.mem_append.mp hc with hc | hc
        · exact hl l (by simp) c hc
        · rcases List.mem_append.mp hc with hc | hc
          · exact strOk_iff.mp ha c hc
          · exact ih (fun l' hl' => hl l' (by simp [hl'])) c hc
  refine this _ fun l hl c hc => ?_
  obtain ⟨y, hy, rfl⟩ := List.mem_map.mp hl
  exact strOk_iff.mp (h y hy) c hc
theorem sep_ok : strOk ", " = true ∧ strOk " " = true ∧ strOk "+" = true ∧ strOk "-" = true ∧ strOk "(" = true ∧ strOk ")" = true := by decide +kernel
theorem rowT_ok {p : Str × Str} (h : RowOk p) : strOk (rowT p) = true := strOk_app (strOk_app h.nm.ok sep_ok.2.1) h.wd.low.ok
theorem faceT_ok {fs : Face} (h : ∀ p ∈ fs, RowOk p) : strOk (faceT fs) = true := by
  unfold faceT
  split
  · exact sep_ok.2.2.2.1
  · exact strOk_join sep_ok.1 fun y hy => by
      obtain ⟨p, hp, rfl⟩ := List.mem_map.mp hy
      exact rowT_ok (h p hp)
theorem faceT_len {fs : Face} (h : FaceOk fs) : (faceT fs).length ≤ 2000 := by
  unfold faceT
  split
  · decide +kernel
  · have := join_le (a := ", ") (B := 17) (ys := fs.map rowT) fun y hy => by
      obtain ⟨p, hp, rfl⟩ := List.mem_map.mp hy
      exact rowT_len (h.row p hp)
    rw [List.length_map, sp_ok.2.2.1] at this
    have := h.len
    omega
theorem strP_plain {n : Nat} {x : Str} (h : strOk x = true) : plain n (.str x) = true := by rw [plain]; exact h
theorem read_face_wp {s : Sto} {fs : Face} (h : FaceOk fs) : (m_read_face [.str (faceT fs)] s).wp fun d s' => d = faceD fs ∧ Eff [] s s' := by
  refine wp_of fun P hP => ?_
  have hlen := h.len
  unfold m_read_face s_read_face
  rw [z_fnM (by rfl)]
  simp
  refine wp_ne look_text_wp fun d s1 ⟨e1, ef1⟩ => ?_
  by_cases h0 : fs = []
  · subst h0
    rw [faceT, if_pos rfl, if_pos rfl]
    exact hP _ _ ⟨rfl, ef1⟩
  rw [if_neg (faceT_ne h0 h.row)]
  have hT : faceT fs = Txt.join ", " (fs.map rowT) := by unfold faceT; rw [if_neg h0]
  have hTl := faceT_len h
  refine ⟨isTy_str, ⟨by decide +kernel, by rw [size_line]; omega⟩, ?_⟩
  rw [hT, faceT_split h0 h.row]
  simp
  refine wp_ne (lc_map2 (s1 ++ [SO.lst ((fs.map rowT).map D.str)]) (ks := []) (xs := (fs.map rowT).map D.str) (fun d => match d with | .str x => .tup ((Txt.split x " ").map D.str) | _ => .non) (by simp) (by simp) (it_lst (N := fs.length) lstAt_push (by simp)) (by simp) (by rw [List.length_map, List.length_map, size_line]; omega) fun d s2 hd ef _ => ?_) ?_
  · obtain ⟨x, hx, rfl⟩ := List.mem_map.mp hd
    obtain ⟨p, hp, rfl⟩ := List.mem_map.mp hx
    have := rowT_len (h.row p hp)
    refine ⟨_, rfl, ?_⟩
    simp
    refine ⟨isTy_str, ⟨by decide +kernel, by rw [size_line]; omega⟩, ?_⟩
    exact Eff.push
  rintro d s2 ⟨rfl, ef2, hlt2, hm2⟩
  simp at hlt2 hm2 ⊢
  rw [lstAt_ml hm2]
  simp
  have e : List.map ((fun d => match d with | .str x => D.tup ((Txt.split x " ").map D.str) | _ => .non) ∘ D.str ∘ rowT) fs = fs.map rowD := by
    refine List.map_congr_left fun p hp => ?_
    show D.tup ((Txt.split (rowT p) " ").map D.str) = rowD p
    rw [rowT_split (h.row p hp)]
    rfl
  rw [e]
  have hf := is_face_wp (s := s2) h
  unfold faceD at hf
  refine wp_ne hf fun d s3 ⟨e3, ef3⟩ => ?_
  subst e3
  simp [trD]
  exact hP _ _ ⟨rfl, ((ef1.trans Eff.push).trans ef2).trans ef3⟩
end Z

set_option Elab.async false
set_option linter.all false
set_option maxRecDepth 100000
set_option maxHeartbeats 4000000
namespace Z
open PySem PySem.Spec PyProof.Rows L2 TL
open PySem.PyData (strOk)
inductive It where
  | nm (x : Str)
  | gr (xs : List Str)
def itD : It → D
  | .nm x => .str x
  | .gr xs => .tup (xs.map D.str)
def itT : It → Str
  | .nm x => x
  | .gr xs => "(" ++ Txt.join "+" xs ++ ")"
def ItemOk : It → Prop
  | .nm x => IsName x
  | .gr xs => xs ≠ [] ∧ xs.length ≤ 100 ∧ ∀ x ∈ xs, IsName x
def lineD (is : List It) : D := .tup (is.map itD)
def lineT (is : List It) : Str := if is = [] then "-" else Txt.join " " (is.map itT)
theorem names_join_len {xs : List Str} (h : ∀ x ∈ xs, IsName x) (hl : xs.length ≤ 100) : (Txt.join "+" xs).length ≤ 900 := by
  have := join_le (a := "+") (B := 8) (ys := xs) fun y hy => (h y hy).l8
  rw [sp_ok.2.2.2.1] at this
  omega
theorem itT_len {i : It} (h : ItemOk i) : (itT i).length ≤ 902 := by
  cases i with
  | nm x =>
    have : IsName x := h
    have := this.l8
    show x.length ≤ 902
    omega
  | gr xs =>
    obtain ⟨h0, h1, h2⟩ := h
    have := names_join_len h2 h1
    show (("(" : Str) ++ Txt.join "+" xs ++ ")").length ≤ 902
    rw [len_app, len_app, sp_ok.2.2.2.2.1, sp_ok.2.2.2.2.2]
    omega
theorem itT_ok {i : It} (h : ItemOk i) : strOk (itT i) = true := by
  cases i with
  | nm x => exact IsName.ok h
  | gr xs => exact strOk_app (strOk_app sep_ok.2.2.2.2.1 (strOk_join sep_ok.2.2.1 fun y hy => (h.2.2 y hy).ok)) sep_ok.2.2.2.2.2
theorem show_item_wp {s : Sto} {i : It} (h : ItemOk i) : (m_show_item [itD i] s).wp fun d s' => d = .str (itT i) ∧ Eff [] s s' := by
  unfold m_show_item s_show_item
  rw [z_fnM (by rfl)]
  cases i with
  | nm x =>
    simp [itD]
    refine isiST rfl ?_
    simp [trD, itT, Eff.refl]
  | gr xs =>
    obtain ⟨h0, h1, h2⟩ := h
    have := names_join_len h2 h1
    simp [itD]
    refine isiTup rfl ?_
    simp [trD]
    refine ⟨isTy_str, ?_⟩
    refine join_wp (ys := xs) (B := 8) rfl (fun y hy => (h2 y hy).l8) (by rw [sp_ok.2.2.2.1]; omega) ?_
    simp [len_app, sp_ok.2.2.2.2.1, sp_ok.2.2.2.2.2, size_line, itT, Eff.refl]
    omega
theorem item_text_wp {s : Sto} {i : It} (h : ItemOk i) : (m__law_item_text [itD i] s).wp fun d s' => d = .str (itT i) ∧ Eff [] s s' := show_item_wp h
theorem itD_plain {n : Nat} {i : It} (h : ItemOk i) : plain (n + 1) (itD i) = true := by
  cases i with
  | nm x => exact strP_plain (IsName.ok h)
  | gr xs =>
    show plain (n + 1) (.tup (xs.map D.str)) = true
    rw [plain]
    exact plains_strs fun x hx => (h.2.2 x hx).ok
theorem lineD_plain {n : Nat} {is : List It} (h : ∀ i ∈ is, ItemOk i) : plain (n + 2) (lineD is) = true := by
  unfold lineD
  rw [plain, plains_iff]
  intro d hd
  obtain ⟨i, hi, rfl⟩ := List.mem_map.mp hd
  exact itD_plain (h i hi)
theorem lineT_len {is : List It} (h : ∀ i ∈ is, ItemOk i) (hl : is.length ≤ 100) : (lineT is).length ≤ 90300 := by
  unfold lineT
  split
  · decide +kernel
  · have := join_le (a := " ") (B := 902) (ys := is.map itT) fun y hy => by
      obtain ⟨i, hi, rfl⟩ := List.mem_map.mp hy
      exact itT_len (h i hi)
    rw [List.length_map, sp_ok.2.1] at this
    omega
theorem lineT_ok {is : List It} (h : ∀ i ∈ is, ItemOk i) : strOk (lineT is) = true := by
  unfold lineT
  split
  · exact sep_ok.2.2.2.1
  · exact strOk_join sep_ok.2.1 fun y hy => by
      obtain ⟨i, hi, rfl⟩ := List.mem_map.mp hy
      exact itT_ok (h i hi)
/-- the texts of a row of items, by a def that shows one -/
theorem texts_wp {F : List D → Sto → Rs D} (hF : ∀ {s : Sto} {i : It}, ItemOk i → (F [itD i] s).wp fun d s' => d = .str (itT i) ∧ Eff [] s s') {s0 : Sto} {is : List It} (h : ∀ i ∈ is, ItemOk i) (hl : is.length ≤ 100) {e : Ev} {k : Nat} (hk : ∀ d, (e.set k (some d))[k]? = some (some d)) :
    (lcL (jTup (is.map itD)) (gN k) tY (mN F (aC (mV k) aN)) s0.length is.length 0 e (s0 ++ [.lst []])).wp fun d s' => d = .ref s0.length ∧ Eff [] s0 s' ∧ s0.length < s'.length ∧ mlAt s' s0.length = some ((is.map itT).map D.str) := by
  have key : ∀ i ∈ is, ∀ s, (F [itD i] s).wp fun d s' => d = .str (itT i) ∧ Eff [] s s' := fun i hi s => hF (h i hi)
  refine wp_ne (lc_all (ks := []) (xs := is.map itD) it_tup (by simp) (by rw [List.length_map, size_line]; omega) (fun i d y => ∃ j, is[i]? = some j ∧ y = .str (itT j)) fun i d s hx ef _ => ?_) ?_
  · rw [List.getElem?_map] at hx
    obtain ⟨j, hj, rfl⟩ := Option.map_eq_some_iff.mp hx
    refine ⟨_, rfl, ?_⟩
    simp [hk]
    refine wp_ne (key j (List.mem_of_getElem? hj) s) fun d s' ⟨e1, ef1⟩ => ?_
    exact ⟨ef1, j, hj, e1⟩
  · rintro d s' ⟨rfl, ef, hlt, ys, h1, h2, h3⟩
    refine ⟨rfl, ef, hlt, ?_⟩
    rw [h2]
    congr 1
    rw [List.length_map] at h1
    refine List.ext_getElem (by simpa using h1) fun i hi hi2 => ?_
    obtain ⟨j, hj, e⟩ := h3 i _ _ (by rw [List.getElem?_map, List.getElem?_eq_getElem (by omega)]; rfl) (List.getElem?_eq_getElem hi)
    rw [List.getElem?_eq_getElem (by omega)] at hj
    cases hj
    simpa using e
theorem show_line_wp {s : Sto} {is : List It} (h : ∀ i ∈ is, ItemOk i) (hl : is.length ≤ 100) : (m_show_line [lineD is] s).wp fun d s' => d = .str (lineT is) ∧ Eff [] s s' := by
  refine wp_of fun P hP => ?_
  unfold m_show_line s_show_line
  rw [z_fnM (by rfl)]
  simp
  by_cases h0 : is = []
  · subst h0
    have : lineD [] = .tup [] := rfl
    rw [this, z_ne_no (by rfl)]
    simp
    exact hP _ _ ⟨rfl, Eff.refl⟩
  · rw [z_ne_yes (lineD_plain h) (by rfl) (by simpa [lineD] using h0), lineD]
    simp
    refine ⟨isTy_str, ?_⟩
    refine wp_ne (texts_wp show_item_wp h hl fun d => rfl) ?_
    rintro d s1 ⟨rfl, ef, hlt, hm⟩
    refine join_wp (ys := is.map itT) (B := 902) (lstAt_ml hm) (fun y hy => ?_) ?_ ?_
    · obtain ⟨i, hi, rfl⟩ := List.mem_map.mp hy
      exact itT_len (h i hi)
    · rw [List.length_map, sp_ok.2.1]
      omega
    · have : lineT is = Txt.join " " (is.map itT) := by unfold lineT; rw [if_neg h0]
      rw [← this]
      exact hP _ _ ⟨rfl, ef⟩
theorem tl_cut1 (x : Str) : tl (cutS x none (some 1)) = (tl x).take 1 := by
  show ((tl x).drop 0).take (HT.sIx x.length x.length (some 1) - 0) = _
  rw [show HT.sIx x.length x.length (some 1) = min 1 x.length from HT.sIx_nat _ _ 1, List.drop_zero, Nat.sub_zero, len_tl]
  cases tl x <;> simp
theorem cut1_name {x : Str} (h : IsName x) : cutS x none (some 1) ≠ "(" := fun e => by
  have := congrArg tl e
  rw [tl_cut1, tl_sp.2.2.2.2.1] at this
  have hm : (40 : Nat) ∈ (tl x).take 1 := by rw [this]; simp
  exact notin_name h (by decide) (List.mem_of_mem_take hm)
theorem grp_tl {xs : List Str} : tl (itT (.gr xs)) = 40 :: (tl (Txt.join "+" xs) ++ [41]) := by
  show tl (("(" : Str) ++ Txt.join "+" xs ++ ")") = _
  rw [tl_append, tl_append, tl_sp.2.2.2.2.1, tl_sp.2.2.2.2.2]
  rfl
theorem cut1_grp {xs : List Str} : cutS (itT (.gr xs)) none (some 1) = "(" := ext_tl (by rw [tl_cut1, grp_tl, tl_sp.2.2.2.2.1]; rfl)
theorem cutm_grp {xs : List Str} : cutS (itT (.gr xs)) (some (-1)) none = ")" := ext_tl (by
  show ((tl (itT (.gr xs))).drop (HT.sIx (itT (.gr xs)).length 0 (some (-1)))).take (HT.sIx (itT (.gr xs)).length (itT (.gr xs)).length none - HT.sIx (itT (.gr xs)).length 0 (some (-1))) = _
  have e : HT.sIx (itT (.gr xs)).length 0 (some (-1)) = (tl (Txt.join "+" xs)).length + 1 := by
    unfold HT.sIx
    dsimp only
    rw [if_pos (by decide), len_tl, grp_tl]
    simp
    omega
  rw [e, HT.sIx_none, len_tl, grp_tl, tl_sp.2.2.2.2.2]
  simp)
theorem cuti_grp {xs : List Str} : cutS (itT (.gr xs)) (some 1) (some (-1)) = Txt.join "+" xs := ext_tl (by
  show ((tl (itT (.gr xs))).drop (HT.sIx (itT (.gr xs)).length 0 (some 1))).take (HT.sIx (itT (.gr xs)).length (itT (.gr xs)).length (some (-1)) - HT.sIx (itT (.gr xs)).length 0 (some 1)) = _
  have e : HT.sIx (itT (.gr xs)).length (itT (.gr xs)).length (some (-1)) = (tl (Txt.join "+" xs)).length + 1 := by
    unfold HT.sIx
    dsimp only
    rw [if_pos (by decide), len_tl, grp_tl]
    simp
    omega
  have e2 : HT.sIx (itT (.gr xs)).length 0 (some 1) = 1 := by
    rw [show HT.sIx (itT (.gr xs)).length 0 (some 1) = min 1 (itT (.gr xs)).length from HT.sIx_nat _ _ 1, len_tl, grp_tl]
    simp
  rw [e, e2, grp_tl]
  simp)
theorem names_split {xs : List Str} (h0 : xs ≠ []) (h : ∀ x ∈ xs, IsName x) : Txt.split (Txt.join "+" xs) "+" = xs :=
  split_join (y := "+") (s := 43) (S := []) tl_sp.2.2.1 (by decide +kernel) h0 fun q hq => notin_name (h q hq) (by decide)
/-- all the names of a row are names -/
theorem all_names_wp {P : D → Sto → Prop} {s0 : Sto} {j : Stp} {N : Nat} {ms : List Str} (it : ItOk [] s0 j N (ms.map D.str)) (h : ∀ x ∈ ms, IsName x) (hl : ms.length ≤ 100) {e : Ev} {k : Nat} (hk : ∀ d, (e.set k (some d))[k]? = some (some d)) (hP : ∀ s', Eff [] s0 s' → P (.bl true) s') :
    (lcL j (gN k) tY (mN m_is_name (aC (mV k) aN)) s0.length N 0 e (s0 ++ [.lst []])).wp fun d s' => (fAllAny true [d] s').wp P := by
  refine wp_ne (lc_map (ks := []) (xs := ms.map D.str) (fun d => .bl true) it (by simp) (by rw [List.length_map, size_line]; omega) fun d s1 hd ef _ => ?_) ?_
  · obtain ⟨x, hx, rfl⟩ := List.mem_map.mp hd
    refine ⟨_, rfl, ?_⟩
    simp [hk]
    exact wp_ne (is_name_wp (h x hx)) fun d s3 ⟨e3, ef3⟩ => ⟨ef3, e3⟩
  rintro d s1 ⟨rfl, ef1, hlt1, hm1⟩
  rw [map_true] at hm1
  rw [z_all]
  refine ⟨_, _, lstAt_ml hm1, bls_true, ?_⟩
  rw [if_pos rfl, all_rep]
  exact hP _ ef1
theorem read_item_wp {s : Sto} {i : It} (h : ItemOk i) : (m_read_item [.str (itT i)] s).wp fun d s' => d = itD i ∧ Eff [] s s' := by
  refine wp_of fun P hP => ?_
  have hlen := itT_len h
  have hok := itT_ok h
  have cok : ∀ {x : Str} (lo hi : Option Int), strOk x = true → strOk (cutS x lo hi) = true := fun lo hi hx => by
    rw [strOk_iff] at hx ⊢
    intro c hc
    exact hx c (List.mem_of_mem_drop (List.mem_of_mem_take hc))
  unfold m_read_item s_read_item
  rw [z_fnM (by rfl)]
  cases i with
  | nm x =>
    have hx : IsName x := h
    have h8 := hx.l8
    have e : itT (.nm x) = x := rfl
    rw [e] at hok ⊢
    simp
    refine ⟨by rw [size_line]; omega, ?_⟩
    simp [cut1_name hx]
    refine ⟨by rw [size_line]; omega, ?_⟩
    refine wp_ne (r := lcL _ _ _ _ _ _ _ _ _) (P := fun d s' => (fAllAny true [d] s').wp fun d s' => d = .bl true ∧ Eff [] s s') ?_ fun d s1 hw => wp_ne hw fun d s2 ⟨e2, ef2⟩ => ?_
    · have := all_names_wp (P := fun d s' => d = .bl true ∧ Eff [] s s') (s0 := s ++ [SO.lst [.str x]]) (ms := [x]) (N := 1) (it_lst (lstAt_push) (by simp)) (by simpa using hx) (by simp) (e := [some (D.str x), some (D.bl false), some (D.str x), none]) (k := 3) (fun d => rfl) fun s' ef => ⟨rfl, Eff.push.trans ef⟩
      simpa using this
    · subst e2
      simp
      exact hP _ _ ⟨rfl, ef2⟩
  | gr xs =>
    obtain ⟨h0, h1, h2⟩ := h
    have hj := names_join_len h2 h1
    have hl : (itT (.gr xs)).length ≤ sizeLine := by rw [size_line]; omega
    simp [hl]
    simp [cut1_grp, cutm_grp, hl]
    rw [cuti_grp, names_split h0 h2]
    refine ⟨isTy_str, ⟨by decide +kernel, by rw [size_line]; omega⟩, ?_⟩
    refine wp_ne (r := lcL _ _ _ _ _ _ _ _ _) (P := fun d s' => (fAllAny true [d] s').wp fun d s' => d = .bl true ∧ Eff [] s s') ?_ fun d s1 hw => wp_ne hw fun d s2 ⟨e2, ef2⟩ => ?_
    · have := all_names_wp (P := fun d s' => d = .bl true ∧ Eff [] s s') (s0 := s ++ [SO.lst (xs.map D.str)]) (ms := xs) (N := xs.length) (it_tup) h2 h1 (e := [some (D.str (itT (It.gr xs))), some (D.bl true), some (D.tup (xs.map D.str)), none]) (k := 3) (fun d => rfl) fun s' ef => ⟨rfl, Eff.push.trans ef⟩
      simpa using this
    · subst e2
      simp
      exact hP _ _ ⟨rfl, ef2⟩
end Z

set_option Elab.async false
set_option linter.all false
set_option maxRecDepth 100000
set_option maxHeartbeats 4000000
namespace Z
open PySem PySem.Spec PyProof.Rows L2 TL
open PySem.PyData (strOk)
theorem itT_free {i : It} (h : ItemOk i) : (32 : Nat) ∉ tl (itT i) := by
  cases i with
  | nm x => exact notin_name h (by decide)
  | gr xs =>
    rw [grp_tl, join_eq, tl_join, tl_sp.2.2.1]
    have : ∀ ls : List (List Nat), (∀ l ∈ ls, (32 : Nat) ∉ l) → (32 : Nat) ∉ joinL [43] ls := by
      intro ls
      induction ls with
      | nil => intro _ hc; simp [joinL] at hc
      | cons l ls ih =>
        intro hl hc
        cases ls with
        | nil => exact hl l (by simp) (by simpa [joinL] using hc)
        | cons m ls =>
          rw [joinL] at hc
          rcases List.mem_append.mp hc with hc | hc
          · exact hl l (by simp) hc
          · rcases List.mem_append.mp hc with hc | hc
            · simp at hc
            · exact ih (fun l' hl' => hl l' (by simp [hl'])) hc
    have h2 := this (xs.map tl) fun l hl => by
      obtain ⟨y, hy, rfl⟩ := List.mem_map.mp hl
      exact notin_name (h.2.2 y hy) (by decide)
    simp [h2]
theorem lineT_split {is : List It} (h0 : is ≠ []) (h : ∀ i ∈ is, ItemOk i) : Txt.split (Txt.join " " (is.map itT)) " " = is.map itT :=
  split_join (y := " ") (s := 32) (S := []) tl_sp.2.1 (by decide +kernel) (by simpa using h0) fun q hq => by
    obtain ⟨i, hi, rfl⟩ := List.mem_map.mp hq
    exact itT_free (h i hi)
theorem itT_ne {i : It} (h : ItemOk i) : itT i ≠ "-" := fun e => by
  cases i with
  | nm x =>
    have e : x = "-" := e
    have h1 : (45 : Nat) ∈ tl x := by rw [e, tl_sp.2.2.2.1]; simp
    exact notin_name h (by decide) h1
  | gr xs =>
    have := congrArg tl e
    rw [grp_tl, tl_sp.2.2.2.1] at this
    simp at this
theorem lineT_ne {is : List It} (h0 : is ≠ []) (h : ∀ i ∈ is, ItemOk i) : lineT is ≠ "-" := by
  unfold lineT
  rw [if_neg h0]
  intro e
  have := lineT_split h0 h
  rw [e] at this
  have h2 : Txt.split "-" " " = [("-" : Str)] := by
    have := split_join (y := " ") (s := 32) (S := []) tl_sp.2.1 (by decide +kernel) (parts := [("-" : Str)]) (by simp) (by decide +kernel)
    rw [join_eq] at this
    exact this
  rw [h2] at this
  cases is with
  | nil => exact h0 rfl
  | cons i is =>
    simp at this
    exact itT_ne (h i (by simp)) this.1.symm
theorem read_line_wp {s : Sto} {is : List It} (h : ∀ i ∈ is, ItemOk i) (hl : is.length ≤ 100) : (m_read_line [.str (lineT is)] s).wp fun d s' => d = lineD is ∧ Eff [] s s' := by
  refine wp_of fun P hP => ?_
  have hlen := lineT_len h hl
  unfold m_read_line s_read_line
  rw [z_fnM (by rfl)]
  simp
  refine wp_ne look_text_wp fun d s1 ⟨e1, ef1⟩ => ?_
  by_cases h0 : is = []
  · subst h0
    have : lineT [] = "-" := rfl
    rw [this, if_pos rfl]
    exact hP _ _ ⟨rfl, ef1⟩
  rw [if_neg (lineT_ne h0 h)]
  have hT : lineT is = Txt.join " " (is.map itT) := by unfold lineT; rw [if_neg h0]
  refine ⟨isTy_str, ⟨by decide +kernel, by rw [size_line]; omega⟩, ?_⟩
  rw [hT, lineT_split h0 h]
  generalize hms : (is.map itT).map D.str = ms
  have hml : ms.length = is.length := by rw [← hms]; simp
  refine wp_ne (r := lcL _ _ _ _ _ _ _ _ _) (lc_all2 (s1 ++ [SO.lst ms]) (l := s1.length + 1) (t := s1 ++ [SO.lst ms, SO.lst []]) (ks := []) (xs := ms) (by simp) (by simp) (it_lst (N := (is.map itT).length) lstAt_push (by simp) (by rw [← hms]; simp)) (by simp) (by rw [hml, size_line]; omega) (fun i d y => ∃ j, is[i]? = some j ∧ y = itD j) fun i d s2 hx ef _ => ?_) ?_
  · rw [← hms, List.getElem?_map, List.getElem?_map] at hx
    obtain ⟨x, hx2, rfl⟩ := Option.map_eq_some_iff.mp hx
    obtain ⟨j, hj, rfl⟩ := Option.map_eq_some_iff.mp hx2
    refine ⟨_, rfl, ?_⟩
    simp
    exact wp_ne (read_item_wp (h j (List.mem_of_getElem? hj))) fun d s3 ⟨e3, ef3⟩ => ⟨ef3, j, hj, e3⟩
  rintro d s2 ⟨rfl, ef2, hlt2, ys, h1, h2, h3⟩
  have hy : ys = is.map itD := by
    refine List.ext_getElem (by simp [h1, hml]) fun i hi hi2 => ?_
    obtain ⟨j, hj, e⟩ := h3 i _ _ (List.getElem?_eq_getElem (by omega)) (List.getElem?_eq_getElem hi)
    rw [List.getElem?_eq_getElem (by omega)] at hj
    cases hj
    simpa using e
  subst hy
  simp at h2 ⊢
  rw [lstAt_ml h2]
  simp
  exact hP _ _ ⟨rfl, (ef1.trans Eff.push).trans ef2⟩
/-- a drawn face -/
theorem drawn_wp {s : Sto} {k n : Nat} {ms : List Str} (hb : Bag s k) (hx : lstAt s n = some (ms.map D.str)) (hk : n ≠ k) (hn : ∀ x ∈ ms, IsName x) (hd : ms.Nodup) (hl : ms.length ≤ 100) :
    (m__law_drawn [.ref k, .ref n] s).wp fun d s' => ∃ fs, d = faceD fs ∧ FaceOk fs ∧ Eff [k] s s' := by
  refine wp_of fun P hP => ?_
  have hkl := hb.lt
  have hnl := lstAt_lt hx
  have hsp := sortS_perm ms
  have hsl : (sortS ms).length = ms.length := hsp.length_eq
  have hsn : ∀ x ∈ sortS ms, IsName x := fun x hx => hn x (hsp.mem_iff.mp hx)
  unfold m__law_drawn s__law_drawn
  rw [z_fnM (by rfl)]
  simp
  rw [z_sortS (by rw [lstAt_app hnl]; exact hx) fun x hx => (hn x hx).ok]
  have hs0 : lstAt (s ++ [SO.lst []] ++ [SO.lst ((sortS ms).map D.str)]) (s ++ [SO.lst []]).length = some ((sortS ms).map D.str) := lstAt_push
  generalize hs1 : s ++ [SO.lst []] ++ [SO.lst ((sortS ms).map D.str)] = s1 at hs0 ⊢
  have ef1 : Eff [k] s s1 := by rw [← hs1]; exact Eff.push.trans Eff.push
  have hm1 : mlAt s1 s.length = some [] := by rw [← hs1, mlAt_app (by simp)]; exact mlAt_push
  have hq : (s ++ [SO.lst []]).length = s.length + 1 := by simp
  rw [hq] at hs0 ⊢
  simp [hs0]
  refine forL_wp (N := ms.length) (fun i e s2 => Eff [k] s s2 ∧ lstAt s2 (s.length + 1) = some ((sortS ms).map D.str) ∧ (∃ o3 o4, e = [some (.ref k), some (.ref n), some (.ref s.length), o3, o4]) ∧ ∃ fs : Face, mlAt s2 s.length = some (fs.map rowD) ∧ (fs.map (·.1)).Sublist ((sortS ms).take i) ∧ ∀ p ∈ fs, W4 p.2) ?_ _ 0 _ _ (by simp [hsl]) ⟨ef1, hs0, ⟨none, none, rfl⟩, [], hm1, by simp, by simp⟩
  rintro i e s2 hi ⟨ef2, hl2, ⟨o3, o4, rfl⟩, fs, hm2, hsub, hw⟩
  have hj : jLst (s.length + 1) i s2 = some (((sortS ms).map D.str)[i]?) := by rw [jLst_eq, hl2]; rfl
  refine ⟨fun h => ?_, fun h => ?_⟩
  · rw [hj]
    refine ⟨by rw [List.getElem?_eq_none (by simp [hsl, h])], ?_⟩
    simp [lstAt_ml hm2]
    have hsub2 : (fs.map (·.1)).Sublist (sortS ms) := hsub.trans (List.take_sublist _ _)
    refine hP _ _ ⟨fs, rfl, ⟨fun p hp => ⟨hsn _ (hsub2.subset (List.mem_map_of_mem hp)), hw p hp⟩, (sortS_sorted ms).sublist hsub2, (hsp.nodup_iff.mpr hd).sublist hsub2, ?_⟩, ef2⟩
    have := hsub2.length_le
    rw [List.length_map] at this
    omega
  · have hi2 : i < (sortS ms).length := by omega
    refine ⟨.str (sortS ms)[i], _, by rw [hj]; simp [hi2], rfl, ?_⟩
    simp
    refine ⟨Nat.le_trans (by decide) line_8, ?_⟩
    have hb2 := ef2.bag k (by simp) hb
    have hlt2 : s.length + 1 < s2.length := lstAt_lt hl2
    refine wp_ne (of_ok (s := s2 ++ [SO.lst [.str "", .str "", .str "wanted", .str "wanted", .str "weak", .str "common", .str "strong"]]) (k := k) (x := .ref s2.length) ((Eff.push (ks := [k])).bag k (by simp) hb2) lstAt_push (by simp; omega) (by simp) (by simp)) fun d s3 ⟨hd3, ef3⟩ => ?_
    have ef23 : Eff [k] s2 s3 := Eff.push.trans ef3
    have ef3' := ef2.trans ef23
    have hl3 := ef23.lst hl2 (by simp; omega)
    have hm3 := ef23.ml hm2 (by simp; omega)
    have hlt3 := ef23.le
    have hfl : fs.length < sizeLine := by
      have := hsub.length_le
      rw [List.length_map, List.length_take] at this
      rw [size_line]
      omega
    have hcase : d = .str "" ∨ ∃ w, d = .str w ∧ W4 w := by
      simp at hd3
      rcases hd3 with e | e | e | e | e
      · exact .inl e
      · exact .inr ⟨_, e, ⟨by simp⟩⟩
      · exact .inr ⟨_, e, ⟨by simp⟩⟩
      · exact .inr ⟨_, e, ⟨by simp⟩⟩
      · exact .inr ⟨_, e, ⟨by simp⟩⟩
    have hsub' : (fs.map (·.1)).Sublist ((sortS ms).take (i + 1)) := hsub.trans (List.take_sublist_take_left (by omega))
    rcases hcase with rfl | ⟨w, rfl, hw4⟩
    · simp
      exact ⟨ef3', hl3, fs, hm3, hsub', fun a b hp => hw (a, b) hp⟩
    · have hne : (D.str w) ≠ .str "" := by
        intro e
        have := hw4.low.pos
        cases e
        revert this
        decide +kernel
      have hne2 : ¬ w = "" := fun e => hne (by rw [e])
      simp [hne2, hm3, two_le_line]
      have hs3 : s.length < s3.length := by omega
      refine ⟨isTy_ml hm3, hfl, ef3'.set (Nat.le_refl _), ?_, fs ++ [((sortS ms)[i], w)], ?_, ?_, ?_⟩
      · exact hl3
      · simp [rowD, hs3]
      · rw [List.map_append, ← List.take_append_getElem hi2]
        exact List.Sublist.append hsub (List.Sublist.refl _)
      · intro a b hp
        simp at hp
        rcases hp with hp | ⟨-, rfl⟩
        · exact hw (a, b) hp
        · exact hw4
end Z

set_option Elab.async false
set_option linter.all false
set_option maxRecDepth 100000
set_option maxHeartbeats 4000000
namespace Z
open PySem PySem.Spec PyProof.Rows L2 TL
open PySem.PyData (strOk)
theorem jRng_end {n i : Nat} {s : Sto} (h : n ≤ i) : jRng 0 n i s = some none := by
  unfold jRng
  rw [if_neg (by omega)]
theorem jRng_at {n i : Nat} {s : Sto} (h : i < n) : jRng 0 n i s = some (some (.int i)) := by
  unfold jRng
  rw [if_pos h, Int.zero_add]
theorem cmp2 {P : D → Sto → Prop} {E : Str → Str → D → Sto → Prop} {s : Sto} {x : Str} (hx : strOk x = true) (hP : ∀ s', Eff [] s s' → P (.bl false) s') :
    lstP (mlAt (s ++ [SO.lst [.str x, .str x], SO.lst [.str x]]) (s.length + 1)) fun xs => xs.length * 2 ≤ sizeLine ∧ (dNe (.ref s.length) (.ref (s.length + 2)) (s ++ [SO.lst [.str x, .str x], SO.lst [.str x], SO.lst (xs ++ xs)])).wp P E := by
  have m1 : mlAt (s ++ [SO.lst [.str x, .str x], SO.lst [.str x]]) (s.length + 1) = some [.str x] := mlAt_some (by rw [List.getElem?_append_right (by omega)]; simp)
  have m0 : mlAt (s ++ [SO.lst [.str x, .str x], SO.lst [.str x], SO.lst [.str x, .str x]]) s.length = some [.str x, .str x] := mlAt_some (by rw [List.getElem?_append_right (by omega)]; simp)
  have m2 : mlAt (s ++ [SO.lst [.str x, .str x], SO.lst [.str x], SO.lst [.str x, .str x]]) (s.length + 2) = some [.str x, .str x] := mlAt_some (by rw [List.getElem?_append_right (by omega)]; simp)
  have ef : Eff [] s (s ++ [SO.lst [.str x, .str x], SO.lst [.str x], SO.lst [.str x, .str x]]) := by
    have := ((Eff.push (ks := []) (s := s) (o := SO.lst [.str x, .str x])).trans (Eff.push (o := SO.lst [.str x]))).trans (Eff.push (o := SO.lst [.str x, .str x]))
    simpa using this
  rw [m1, lstP_some]
  refine ⟨two_le_line, ?_⟩
  have e : [D.str x] ++ [D.str x] = [.str x, .str x] := rfl
  rw [e, z_neL_no (xs := [.str x, .str x]) (lstAt_ml m0) (lstAt_ml m2) (plains_strs (ms := [x, x]) (by simpa using hx))]
  exact hP _ ef
mutual
def onlyT : D → Bool
  | .str _ => true
  | .tup xs => onlyTs xs
  | _ => false
def onlyTs : List D → Bool
  | [] => true
  | x :: xs => onlyT x && onlyTs xs
end
theorem onlyTs_iff : ∀ {xs : List D}, onlyTs xs = true ↔ ∀ x ∈ xs, onlyT x = true
  | [] => by simp [onlyTs]
  | x :: xs => by simp [onlyTs, onlyTs_iff (xs := xs)]
mutual
theorem only_show : ∀ d : D, onlyT d = true → (enc d).showable = true ∧ (enc d).intsShort 13 = true
  | .str x, _ => by simp [enc, PyData.showable, PyData.intsShort]
  | .tup xs, h => by
    rw [onlyT] at h
    have := onlys_show xs h
    rw [enc, PyData.showable, PyData.intsShort]
    exact this
  | .non, h => absurd h (by simp [onlyT])
  | .bl _, h => absurd h (by simp [onlyT])
  | .int _, h => absurd h (by simp [onlyT])
  | .ref _, h => absurd h (by simp [onlyT])
theorem onlys_show : ∀ xs : List D, onlyTs xs = true → PyData.showableAll (encs xs) = true ∧ PyData.intsShortAll 13 (encs xs) = true
  | [], _ => by simp [encs, PyData.showableAll, PyData.intsShortAll]
  | x :: xs, h => by
    rw [onlyTs, Bool.and_eq_true] at h
    obtain ⟨h1, h2⟩ := only_show x h.1
    obtain ⟨h3, h4⟩ := onlys_show xs h.2
    rw [encs, PyData.showableAll, PyData.intsShortAll, h1, h2, h3, h4]
    exact ⟨rfl, rfl⟩
end
theorem weights_le {B : Nat} : ∀ {xs : List D}, (∀ x ∈ xs, (enc x).weight ≤ B) → PyData.weightAll (encs xs) ≤ xs.length * (B + 1)
  | [], _ => by simp [encs, PyData.weightAll]
  | x :: xs, h => by
    have h1 := h x (by simp)
    have h2 := weights_le (xs := xs) fun y hy => h y (by simp [hy])
    rw [encs, PyData.weightAll, List.length_cons, Nat.add_mul, Nat.one_mul]
    omega
theorem repr_wp {P : D → Sto → Prop} {E : Str → Str → D → Sto → Prop} {s : Sto} {n : Nat} {xs : List D} (hx : lstAt s n = some xs) (h : plains 20 xs = true) (ho : onlyTs xs = true) (hw : PyData.weightAll (encs xs) ≤ 2 ^ 20) (hP : P (.str (PyData.list (encs xs)).shown) s) : (fRepr [.ref n] s).wp P E := by
  rw [z_repr]
  obtain ⟨h1, h2⟩ := onlys_show xs ho
  obtain ⟨h3, h4⟩ := canLays_plain 20 xs h
  refine ⟨_, shp_lst hx h, ⟨by rw [PyData.showable]; exact h1, ?_⟩, hP⟩
  have := PyProof.Rows.shown_le13 (d := .list (encs xs)) (by
    unfold PyData.layable0
    rw [PyData.canLay0, h3, PyData.depth, PyData.weight]
    simp only [Bool.true_and, Bool.and_eq_true, decide_eq_true_eq]
    exact ⟨by omega, hw⟩) (by rw [PyData.intsShort]; exact h2)
  rw [size_line]
  omega
theorem rowD_only (p : Str × Str) : onlyT (rowD p) = true := rfl
theorem faceD_only (fs : Face) : onlyT (faceD fs) = true := by
  unfold faceD
  rw [onlyT, onlyTs_iff]
  intro d hd
  obtain ⟨p, -, rfl⟩ := List.mem_map.mp hd
  exact rowD_only p
theorem strs_only (xs : List Str) : onlyTs (xs.map D.str) = true := onlyTs_iff.mpr fun d hd => by
  obtain ⟨x, -, rfl⟩ := List.mem_map.mp hd
  rfl
theorem lineD_only (is : List It) : onlyT (lineD is) = true := by
  unfold lineD
  rw [onlyT, onlyTs_iff]
  intro d hd
  obtain ⟨i, -, rfl⟩ := List.mem_map.mp hd
  cases i with
  | nm x => rfl
  | gr xs =>
    show onlyT (.tup (xs.map D.str)) = true
    rw [onlyT]
    exact strs_only xs
theorem w_str (x : Str) : (enc (.str x)).weight = x.length := by rw [enc, PyData.weight]; rfl
theorem w_tup {xs : List D} {B n : Nat} (h : ∀ x ∈ xs, (enc x).weight ≤ B) (hl : xs.length * (B + 1) ≤ n) : (enc (.tup xs)).weight ≤ n := by
  rw [enc, PyData.weight]
  exact Nat.le_trans (weights_le h) hl
theorem w_face {fs : Face} (h : FaceOk fs) : (enc (faceD fs)).weight ≤ 2000 := by
  have := h.len
  refine w_tup (B := 18) (fun d hd => ?_) (by rw [List.length_map]; omega)
  obtain ⟨p, hp, rfl⟩ := List.mem_map.mp hd
  have h1 := (h.row p hp).nm.l8
  have h2 := (h.row p hp).wd.low.l8
  refine w_tup (B := 8) (fun d hd => ?_) (by simp)
  simp at hd
  rcases hd with rfl | rfl <;> rw [w_str] <;> omega
theorem w_line {is : List It} (h : ∀ i ∈ is, ItemOk i) (hl : is.length ≤ 100) : (enc (lineD is)).weight ≤ 91000 := by
  refine w_tup (B := 900) (fun d hd => ?_) (by rw [List.length_map]; omega)
  obtain ⟨i, hi, rfl⟩ := List.mem_map.mp hd
  cases i with
  | nm x =>
    have hx : IsName x := h _ hi
    have := hx.l8
    show (enc (.str x)).weight ≤ 900
    rw [w_str]
    omega
  | gr xs =>
    obtain ⟨-, h1, h2⟩ := h _ hi
    refine w_tup (B := 8) (fun d hd => ?_) (by rw [List.length_map]; omega)
    obtain ⟨x, hx, rfl⟩ := List.mem_map.mp hd
    rw [w_str]
    exact (h2 x hx).l8
theorem plain_law (ns : List Int) (h : ns.length ≤ 63) : ∃ s', m_law [.ref 0] [.frz (ns.map D.int)] = .ok (.bl true) s' := by
  refine ok_of_wp ?_
  have hx0 : lstAt ([.frz (ns.map D.int)] : Sto) 0 = some (ns.map D.int) := rfl
  generalize hs0 : ([.frz (ns.map D.int)] : Sto) = s0 at hx0
  unfold m_law s_law
  rw [z_fnM (by rfl)]
  simp [hx0]
  refine ⟨by split <;> (try split) <;> omega, ?_⟩
  refine forL_wp (fun i e s => Eff [] s0 s ∧ ∃ o1 o2 o3 o4 o5 o6 o7 o8 o9 o10 o11 o12 o13 o14 o15, e = [some (.ref 0), o1, o2, o3, o4, o5, o6, o7, o8, o9, o10, o11, o12, o13, o14, o15]) ?_ _ 0 _ _ (Nat.zero_add _) ⟨Eff.refl, _, _, _, _, _, _, _, _, _, _, _, _, _, _, _, rfl⟩
  rintro i e s hi ⟨ef, o1, o2, o3, o4, o5, o6, o7, o8, o9, o10, o11, o12, o13, o14, o15, rfl⟩
  refine ⟨fun hh => ⟨jRng_end (Nat.le_of_eq hh.symm), ?_⟩, fun hh => ⟨.int i, _, jRng_at hh, rfl, ?_⟩⟩
  · simp
    have h1 := show_face_wp (s := s) (fs := []) (by simp) (by simp)
    have e1 : faceD [] = .tup [] := rfl
    rw [e1] at h1
    refine wp_ne h1 fun d s1 ⟨hd, ef1⟩ => ?_
    subst hd
    have e2 : faceT [] = "-" := rfl
    simp [e2]
    have h2 := read_line_wp (s := s1) (is := []) (by simp) (by simp)
    have e3 : lineT [] = "-" := rfl
    rw [e3] at h2
    refine wp_ne h2 fun d s2 ⟨hd, ef2⟩ => ?_
    subst hd
    have e4 : lineD [] = .tup [] := rfl
    rw [e4, z_eq_yes (by rfl)]
  · simp
    refine wp_ne (bag_ok (ef.lst hx0 (by simp))) fun d s1 ⟨k, hd, hk, hb, ef1⟩ => ?_
    subst hd
    refine forL_wp (N := 40) (fun i2 e s2 => Eff [k] s1 s2 ∧ ∃ o3 o4 o5 o6 o7 o8 o9 o10 o11 o12 o13 o14 o15, e = [some (.ref 0), some (.int i), some (.ref k), o3, o4, o5, o6, o7, o8, o9, o10, o11, o12, o13, o14, o15]) ?_ _ 0 _ _ (by simp) ⟨Eff.refl, _, _, _, _, _, _, _, _, _, _, _, _, _, rfl⟩
    rintro i2 e s2 hi2 ⟨ef2, o3, o4, o5, o6, o7, o8, o9, o10, o11, o12, o13, o14, o15, rfl⟩
    have hb2 := ef2.bag k (by simp) hb
    refine ⟨fun hh => ⟨by simp [jRng, hh], ?_⟩, fun hh => ⟨.int i2, _, by simp [jRng, hh], rfl, ?_⟩⟩
    · refine ⟨?_, _, _, _, _, _, _, _, _, _, _, _, _, _, _, _, rfl⟩
      have : Eff [] s s2 := ⟨Nat.le_trans ef1.le ef2.le, fun j hj _ => by rw [ef2.eq j (Nat.lt_of_lt_of_le hj ef1.le) (by simp; omega), ef1.eq j hj (by simp)], by simp⟩
      exact ef.trans this
    · rw [z_sCn]
      simp
      refine wp_ne (take_ok hb2 (by omega) (by omega)) fun d s3 ⟨q, hd, hq, ef3⟩ => ?_
      subst hd
      have hb3 := ef3.bag k (by simp) hb2
      simp
      have hcast : (1 + (q : Int)) = ((1 + q : Nat) : Int) := by omega
      rw [hcast]
      refine wp_ne (names_ok (n := 1 + q) hb3 (by omega)) fun d s4 ⟨l, ms, hd, hl, hml, hmn, hnd, hnm, ef4⟩ => ?_
      subst hd
      have hb4 := ef4.bag k (by simp) hb3
      have hkl : l ≠ k := by
        have := hb3.lt
        omega
      rw [z_nxC]
      simp
      refine wp_ne (drawn_wp hb4 (lstAt_ml hml) hkl hnm hnd (by omega)) fun d s5 ⟨fs, hd, hfs, ef5⟩ => ?_
      subst hd
      have hb5 := ef5.bag k (by simp) hb4
      have hm5 := ef5.ml hml (by simpa using hkl)
      have hll : l < s5.length := lstAt_lt (lstAt_ml hm5)
      rw [z_nxC]
      simp
      -- groups
      have msne : ms ≠ [] := by intro e; rw [e] at hmn; simp at hmn; omega
      refine wp_ne (lc_all (ks := [k]) (xs := rngD 0 3) it_rng (by simpa using hb5) (by rw [rngD_len]; decide) (fun i d y => ∃ xs : List Str, y = .tup (xs.map D.str) ∧ ItemOk (.gr xs)) fun j d s6 hx ef hbs => ⟨_, rfl, ?_⟩) ?_
      · have hb6 := hbs k (by simp)
        simp
        refine wp_ne (take_ok hb6 (by omega) (by omega)) fun d s7 ⟨q2, hd, hq2, ef7⟩ => ?_
        subst hd
        have hb7 := ef7.bag k (by simp) hb6
        have hm7 := (ef.trans ef7).ml hm5 (by simpa using hkl)
        simp
        refine ⟨by omega, ?_⟩
        have hcast : (1 + (q2 : Int)).toNat = 1 + q2 := by omega
        rw [hcast]
        refine wp_ne (lc_all (ks := [k]) (xs := rngD 0 (1 + q2)) it_rng (by simpa using hb7) (by rw [rngD_len, size_line]; omega) (fun i d y => ∃ x, x ∈ ms ∧ y = .str x) fun j d s8 hx ef8 hbs => ⟨_, rfl, ?_⟩) ?_
        · simp
          refine wp_ne (of_ok (hbs k (by simp)) (show seqD s8 (.ref l) = _ from lstAt_ml (ef8.ml hm7 (by simpa using hkl))) (by simpa using hkl) (by simpa using msne) (by rw [List.length_map]; omega)) fun d s9 ⟨hd, ef9⟩ => ?_
          obtain ⟨x, hx, rfl⟩ := List.mem_map.mp hd
          exact ⟨ef9, x, hx, rfl⟩
        rintro d s8 ⟨rfl, ef8, hlt8, ys, h1, h2, h3⟩
        simp [lstAt_ml h2]
        refine ⟨ef7.trans ef8, ?_⟩
        obtain ⟨xs, rfl, hxs⟩ : ∃ xs : List Str, ys = xs.map D.str ∧ ∀ x ∈ xs, x ∈ ms := by
          have : ∀ ys : List D, (∀ y ∈ ys, ∃ x, x ∈ ms ∧ y = .str x) → ∃ xs : List Str, ys = xs.map D.str ∧ ∀ x ∈ xs, x ∈ ms := by
            intro ys
            induction ys with
            | nil => intro _; exact ⟨[], rfl, by simp⟩
            | cons y ys ih =>
              intro h
              obtain ⟨x, hx, rfl⟩ := h y (by simp)
              obtain ⟨xs, rfl, h2⟩ := ih fun y hy => h y (by simp [hy])
              exact ⟨x :: xs, rfl, by simpa using ⟨hx, h2⟩⟩
          refine this ys fun y hy => ?_
          obtain ⟨i, hi, rfl⟩ := List.getElem_of_mem hy
          exact h3 i _ _ (List.getElem?_eq_getElem (by omega)) (List.getElem?_eq_getElem hi)
        rw [List.length_map, rngD_len] at h1
        exact ⟨xs, rfl, by intro e; rw [e] at h1; simp at h1; omega, by omega, fun x hx => hnm x (hxs x hx)⟩
      rintro d s6 ⟨rfl, ef6, hlt6, gs, hg1, hg2, hg3⟩
      rw [rngD_len] at hg1
      have hb6 := ef6.bag k (by simp) hb5
      have hm6 := ef6.ml hm5 (by simpa using hkl)
      simp [hm6, hg2]
      refine ⟨by rw [size_line]; omega, ?_⟩
      have hits : ∀ d ∈ ms.map D.str ++ gs, ∃ i, d = itD i ∧ ItemOk i := by
        intro d hd
        rcases List.mem_append.mp hd with hd | hd
        · obtain ⟨x, hx, rfl⟩ := List.mem_map.mp hd
          exact ⟨.nm x, rfl, hnm x hx⟩
        · obtain ⟨i, hi, rfl⟩ := List.getElem_of_mem hd
          obtain ⟨xs, e, h⟩ := hg3 i _ _ (List.getElem?_eq_getElem (by rw [rngD_len]; omega)) (List.getElem?_eq_getElem hi)
          exact ⟨.gr xs, e, h⟩
      have hitl : (ms.map D.str ++ gs).length = ms.length + 3 := by simp [hg1]
      generalize hits' : ms.map D.str ++ gs = its at hits hitl
      have hm7 : mlAt (s6 ++ [SO.lst its]) s6.length = some its := mlAt_push
      have ef7 : Eff [k] s6 (s6 ++ [SO.lst its]) := Eff.push
      generalize hs7 : s6 ++ [SO.lst its] = s7 at hm7 ef7
      have hb7 := ef7.bag k (by simp) hb6
      have hkn : s6.length ≠ k := by have := hb6.lt; omega
      rw [z_nxC]
      simp
      refine wp_ne (take_ok hb7 (by omega) (by omega)) fun d s8 ⟨q3, hd, hq3, ef8⟩ => ?_
      subst hd
      have hb8 := ef8.bag k (by simp) hb7
      have hm8 := ef8.ml hm7 (by simpa using hkn)
      simp
      refine ⟨by omega, ?_⟩
      refine wp_ne (lc_all (ks := [k]) (xs := rngD 0 q3) it_rng (by simpa using hb8) (by rw [rngD_len, size_line]; omega) (fun i d y => ∃ i, y = itD i ∧ ItemOk i) fun j d s9 hx ef9 hbs => ⟨_, rfl, ?_⟩) ?_
      · simp
        refine wp_ne (of_ok (hbs k (by simp)) (show seqD s9 (.ref s6.length) = _ from lstAt_ml (ef9.ml hm8 (by simpa using hkn))) (by simpa using hkn) (by intro e; rw [e] at hitl; simp at hitl) (by omega)) fun d s10 ⟨hd, ef10⟩ => ?_
        exact ⟨ef10, hits d hd⟩
      rintro d s9 ⟨rfl, ef9, hlt9, ys, h1, h2, h3⟩
      rw [rngD_len] at h1
      obtain ⟨is, rfl, hiok⟩ : ∃ is : List It, ys = is.map itD ∧ ∀ i ∈ is, ItemOk i := by
        have : ∀ ys : List D, (∀ y ∈ ys, ∃ i, y = itD i ∧ ItemOk i) → ∃ is : List It, ys = is.map itD ∧ ∀ i ∈ is, ItemOk i := by
          intro ys
          induction ys with
          | nil => intro _; exact ⟨[], rfl, by simp⟩
          | cons y ys ih =>
            intro h
            obtain ⟨x, rfl, hx⟩ := h y (by simp)
            obtain ⟨xs, rfl, h2⟩ := ih fun y hy => h y (by simp [hy])
            exact ⟨x :: xs, rfl, by simpa using ⟨hx, h2⟩⟩
        refine this ys fun y hy => ?_
        obtain ⟨i, hi, rfl⟩ := List.getElem_of_mem hy
        exact h3 i _ _ (List.getElem?_eq_getElem (by rw [rngD_len]; omega)) (List.getElem?_eq_getElem hi)
      rw [List.length_map] at h1
      simp [lstAt_ml h2]
      have ef09 : Eff [k] s2 s9 := (((((ef3.trans ef4).trans ef5).trans ef6).trans ef7).trans ef8).trans ef9
      have hline : D.tup (is.map itD) = lineD is := rfl
      rw [z_nxC, z_sA]
      refine wp_ne (P := fun d s' => d = .str (faceT fs) ∧ Eff [] s9 s') ?_ fun d s10 ⟨hd, ef10⟩ => ?_
      · simp
        by_cases h0 : fs = []
        · subst h0
          have e : faceD [] = .tup [] := rfl
          rw [e, z_ne_no (by rfl)]
          simp [faceT, Eff.refl]
        · rw [z_ne_yes (faceD_plain hfs.row) (by rfl) (by simpa [faceD] using h0)]
          simp
          refine ⟨isTy_str, ?_⟩
          have hlen := hfs.len
          rw [faceD]
          simp
          refine wp_ne (lc_map (ks := []) (xs := fs.map rowD) (fun d => match d with | .tup [.str x, .str y] => .str (x ++ " " ++ y) | _ => .non) it_tup (by simp) (by rw [List.length_map, size_line]; omega) fun d s1 hd ef _ => ?_) ?_
          · obtain ⟨p, hp, rfl⟩ := List.mem_map.mp hd
            have := (hfs.row p hp).nm.l8
            have := (hfs.row p hp).wd.low.l8
            refine ⟨[some (.ref 0), some (.int i), some (.ref k), some (.int i2), some (.ref l), some (faceD fs), some (.ref s6.length), some (.tup (is.map itD)), o8, o9, o10, o11, o12, o13, some (.str p.1), some (.str p.2)], rfl, ?_⟩
            simp [len_app, sp_ok.2.1, size_line, Eff.refl, rowD]
            omega
          rintro d s1 ⟨rfl, ef, hlt, hm⟩
          refine join_wp (ys := fs.map rowT) (B := 17) (by
            show lstAt s1 s9.length = _
            rw [lstAt_ml hm, List.map_map, List.map_map]
            rfl) (fun y hy => ?_) ?_ ?_
          · obtain ⟨p, hp, rfl⟩ := List.mem_map.mp hy
            exact rowT_len (hfs.row p hp)
          · rw [List.length_map, sp_ok.2.2.1]
            omega
          · have : faceT fs = Txt.join ", " (fs.map rowT) := by unfold faceT; rw [if_neg h0]
            rw [← this]
            exact ⟨rfl, ef⟩
      subst hd
      simp
      have hil : is.length ≤ 100 := by omega
      rw [z_nxC, z_sA]
      refine wp_ne (P := fun d s' => d = .str (lineT is) ∧ Eff [] s10 s') ?_ fun d s11 ⟨hd, ef11⟩ => ?_
      · simp
        by_cases h0 : is = []
        · subst h0
          rw [List.map_nil, z_ne_no (by rfl)]
          simp [lineT, Eff.refl]
        · rw [z_ne_yes (a := .tup (is.map itD)) (b := .tup []) (lineD_plain hiok) (by rfl) (by simpa using h0)]
          simp
          refine ⟨isTy_str, ?_⟩
          refine wp_ne (texts_wp item_text_wp hiok hil fun d => rfl) ?_
          rintro d s1 ⟨rfl, ef, hlt, hm⟩
          refine join_wp (ys := is.map itT) (B := 902) (lstAt_ml hm) (fun y hy => ?_) ?_ ?_
          · obtain ⟨i, hi, rfl⟩ := List.mem_map.mp hy
            exact itT_len (hiok i hi)
          · rw [List.length_map, sp_ok.2.1]
            omega
          · have : lineT is = Txt.join " " (is.map itT) := by unfold lineT; rw [if_neg h0]
            rw [← this]
            exact ⟨rfl, ef⟩
      subst hd
      rw [hline]
      simp
      rw [z_nxC]
      simp [km_show_face_0_face, callF]
      have sf := fun s => show_face_wp (s := s) hfs.row hfs.len
      have sl := fun s => show_line_wp (s := s) hiok hil
      have rf := fun s => read_face_wp (s := s) hfs
      have rl := fun s => read_line_wp (s := s) hiok hil
      have one_le_line : 1 ≤ sizeLine := Nat.le_trans (by decide) two_le_line
      refine wp_ne (sf _) fun d s12 ⟨hd, ef12⟩ => ?_
      subst hd
      refine wp_ne (sf _) fun d s13 ⟨hd, ef13⟩ => ?_
      subst hd
      refine ⟨two_le_line, one_le_line, cmp2 (faceT_ok hfs.row) fun s14 ef14 => ?_⟩
      simp
      rw [z_nxC]
      simp [km_show_line_0_line, callF]
      refine wp_ne (sl _) fun d s15 ⟨hd, ef15⟩ => ?_
      subst hd
      refine wp_ne (sl _) fun d s16 ⟨hd, ef16⟩ => ?_
      subst hd
      refine ⟨two_le_line, one_le_line, cmp2 (lineT_ok hiok) fun s17 ef17 => ?_⟩
      simp
      rw [z_nxC]
      simp [km_read_face_0_text, km_read_line_0_text, callF]
      refine wp_ne (rf _) fun d s18 ⟨hd, ef18⟩ => ?_
      subst hd
      refine wp_ne (rf _) fun d s19 ⟨hd, ef19⟩ => ?_
      subst hd
      refine wp_ne (rl _) fun d s20 ⟨hd, ef20⟩ => ?_
      subst hd
      refine wp_ne (rl _) fun d s21 ⟨hd, ef21⟩ => ?_
      subst hd
      refine ⟨Nat.le_trans (by decide) line_8, ?_⟩
      rw [z_nxt]
      simp
      have q1 : plains 20 [faceD fs, faceD fs, lineD is, lineD is] = true := plains_iff.mpr fun d hd => by
        simp at hd
        rcases hd with rfl | rfl
        · exact faceD_plain hfs.row
        · exact lineD_plain hiok
      have q2 : onlyTs [faceD fs, faceD fs, lineD is, lineD is] = true := onlyTs_iff.mpr fun d hd => by
        simp at hd
        rcases hd with rfl | rfl
        · exact faceD_only fs
        · exact lineD_only is
      have q3 : PyData.weightAll (encs [faceD fs, faceD fs, lineD is, lineD is]) ≤ 2 ^ 20 := Nat.le_trans (weights_le (B := 91000) fun d hd => by
        simp at hd
        rcases hd with rfl | rfl
        · exact Nat.le_trans (w_face hfs) (by omega)
        · exact w_line hiok hil) (by show 4 * (91000 + 1) ≤ 2 ^ 20; omega)
      have hp : lstAt (s21 ++ [SO.lst [faceD fs, faceD fs, lineD is, lineD is]]) s21.length = some [faceD fs, faceD fs, lineD is, lineD is] := lstAt_push
      have ef22 : Eff [] s21 (s21 ++ [SO.lst [faceD fs, faceD fs, lineD is, lineD is]]) := Eff.push
      generalize s21 ++ [SO.lst [faceD fs, faceD fs, lineD is, lineD is]] = s22 at hp ef22
      refine repr_wp hp q1 q2 q3 ⟨Nat.le_trans (by decide) line_8, ?_⟩
      refine repr_wp lstAt_push q1 q2 q3 ?_
      simp
      have late : Eff [] s9 s22 := (((((((((((ef10.trans ef11).trans ef12).trans ef13).trans ef14).trans ef15).trans ef16).trans ef17).trans ef18).trans ef19).trans ef20).trans ef21).trans ef22
      exact (ef2.trans (ef09.trans late.nil)).trans Eff.push
end Z

namespace Z
open PySem PySem.Spec PyProof.Rows L2
def top (i : Nat) : Stmt := PySem.Challenge.pw_lineoflibraries_k76_texts_of_faces_and_l.main.body.getD i (.Pass ⟨0, 0, 0, 0⟩)
def fn0 : List He.DefD := [⟨("_law_bag", none), "_law_bag", "_law_bag", defArgs (top 20), defBody (top 20), defScope (top 20), [], []⟩,
  ⟨("_law_take", none), "_law_take", "_law_take", defArgs (top 21), defBody (top 21), defScope (top 21), [], []⟩,
  ⟨("_law_of", none), "_law_of", "_law_of", defArgs (top 22), defBody (top 22), defScope (top 22), [], []⟩,
  ⟨("_law_names", none), "_law_names", "_law_names", defArgs (top 23), defBody (top 23), defScope (top 23), [], []⟩,
  ⟨("_law_drawn", none), "_law_drawn", "_law_drawn", defArgs (top 24), defBody (top 24), defScope (top 24), [], []⟩,
  ⟨("show_face", none), "show_face", "show_face", defArgs (top 13), defBody (top 13), defScope (top 13), [], []⟩,
  ⟨("look_text", none), "look_text", "look_text", defArgs (top 12), defBody (top 12), defScope (top 12), [], []⟩,
  ⟨("is_name", none), "is_name", "is_name", defArgs (top 5), defBody (top 5), defScope (top 5), [], []⟩,
  ⟨("read_item", none), "read_item", "read_item", defArgs (top 17), defBody (top 17), defScope (top 17), [], []⟩,
  ⟨("read_line", none), "read_line", "read_line", defArgs (top 18), defBody (top 18), defScope (top 18), [], []⟩,
  ⟨("twice_in", none), "twice_in", "twice_in", defArgs (top 6), defBody (top 6), defScope (top 6), [], []⟩,
  ⟨("is_face", none), "is_face", "is_face", defArgs (top 9), defBody (top 9), defScope (top 9), [], []⟩,
  ⟨("read_face", none), "read_face", "read_face", defArgs (top 14), defBody (top 14), defScope (top 14), [], []⟩,
  ⟨("show_item", none), "show_item", "show_item", defArgs (top 15), defBody (top 15), defScope (top 15), [], []⟩,
  ⟨("show_line", none), "show_line", "show_line", defArgs (top 16), defBody (top 16), defScope (top 16), [], []⟩]
def fn1 : List He.DefD := [⟨("_law_item_text", none), "_law_item_text", "_law_item_text", defArgs (top 25), defBody (top 25), defScope (top 25), [], []⟩,
  ⟨("law", none), "law", "law", defArgs (top 26), defBody (top 26), defScope (top 26), [], []⟩]
def fn : List He.DefD := fn0 ++ fn1
def fa0 : List He.Fa := [.glo "_law_bag", .keep "_law_bag", .glo "_law_take", .keep "_law_take", .glo "_law_of", .keep "_law_of", .glo "_law_names", .keep "_law_names", .glo "_law_drawn", .keep "_law_drawn", .glo "show_face", .keep "show_face", .glo "look_text", .keep "look_text", .glo "is_name", .keep "is_name", .glo "read_item", .keep "read_item", .glo "read_line", .keep "read_line", .glo "twice_in", .keep "twice_in", .glo "is_face", .keep "is_face", .glo "read_face", .keep "read_face", .glo "show_item", .keep "show_item", .glo "show_line", .keep "show_line"]
def fa1 : List He.Fa := [.glo "_law_item_text", .keep "_law_item_text", .glo "law", .free "abs", .free "all", .free "enumerate", .free "int", .free "isinstance", .free "len", .free "max", .free "min", .free "range", .free "repr", .free "sorted", .free "str", .free "tuple", .str "LETTERS" "abcdefghijklmnopqrstuvwxyz", .int "MOST_LETTERS" (8), .str "NOTHING" "-", .glo "WORDS"]
def fa : List He.Fa := fa0 ++ fa1
def tb : List (Str × List He.Dv) := [("WORDS", [.str "wanted", .str "weak", .str "common", .str "strong"])]
abbrev ck : PySem.W.Frag → Bool := chkAll fa tb
structure Txt (K : PySem.W.Frag) (mg : Str → Option Value) : Prop where
  g__law_bag : mg "_law_bag" = some (.ref (He.ga K "_law_bag"))
  k__law_bag : PySem.W.keepIn K (.ref (He.ga K "_law_bag")) = true
  g__law_take : mg "_law_take" = some (.ref (He.ga K "_law_take"))
  k__law_take : PySem.W.keepIn K (.ref (He.ga K "_law_take")) = true
  g__law_of : mg "_law_of" = some (.ref (He.ga K "_law_of"))
  k__law_of : PySem.W.keepIn K (.ref (He.ga K "_law_of")) = true
  g__law_names : mg "_law_names" = some (.ref (He.ga K "_law_names"))
  k__law_names : PySem.W.keepIn K (.ref (He.ga K "_law_names")) = true
  g__law_drawn : mg "_law_drawn" = some (.ref (He.ga K "_law_drawn"))
  k__law_drawn : PySem.W.keepIn K (.ref (He.ga K "_law_drawn")) = true
  g_show_face : mg "show_face" = some (.ref (He.ga K "show_face"))
  k_show_face : PySem.W.keepIn K (.ref (He.ga K "show_face")) = true
  g_look_text : mg "look_text" = some (.ref (He.ga K "look_text"))
  k_look_text : PySem.W.keepIn K (.ref (He.ga K "look_text")) = true
  g_is_name : mg "is_name" = some (.ref (He.ga K "is_name"))
  k_is_name : PySem.W.keepIn K (.ref (He.ga K "is_name")) = true
  g_read_item : mg "read_item" = some (.ref (He.ga K "read_item"))
  k_read_item : PySem.W.keepIn K (.ref (He.ga K "read_item")) = true
  g_read_line : mg "read_line" = some (.ref (He.ga K "read_line"))
  k_read_line : PySem.W.keepIn K (.ref (He.ga K "read_line")) = true
  g_twice_in : mg "twice_in" = some (.ref (He.ga K "twice_in"))
  k_twice_in : PySem.W.keepIn K (.ref (He.ga K "twice_in")) = true
  g_is_face : mg "is_face" = some (.ref (He.ga K "is_face"))
  k_is_face : PySem.W.keepIn K (.ref (He.ga K "is_face")) = true
  g_read_face : mg "read_face" = some (.ref (He.ga K "read_face"))
  k_read_face : PySem.W.keepIn K (.ref (He.ga K "read_face")) = true
  g_show_item : mg "show_item" = some (.ref (He.ga K "show_item"))
  k_show_item : PySem.W.keepIn K (.ref (He.ga K "show_item")) = true
  g_show_line : mg "show_line" = some (.ref (He.ga K "show_line"))
  k_show_line : PySem.W.keepIn K (.ref (He.ga K "show_line")) = true
  g__law_item_text : mg "_law_item_text" = some (.ref (He.ga K "_law_item_text"))
  k__law_item_text : PySem.W.keepIn K (.ref (He.ga K "_law_item_text")) = true
  n_abs : mg "abs" = none
  n_all : mg "all" = none
  n_enumerate : mg "enumerate" = none
  n_int : mg "int" = none
  n_isinstance : mg "isinstance" = none
  n_len : mg "len" = none
  n_max : mg "max" = none
  n_min : mg "min" = none
  n_range : mg "range" = none
  n_repr : mg "repr" = none
  n_sorted : mg "sorted" = none
  n_str : mg "str" = none
  n_tuple : mg "tuple" = none
  c_LETTERS : ∃ t, mg "LETTERS" = some (.str "abcdefghijklmnopqrstuvwxyz" t)
  c_MOST_LETTERS : ∃ t, mg "MOST_LETTERS" = some (.int 8 t)
  c_NOTHING : ∃ t, mg "NOTHING" = some (.str "-" t)
  c_WORDS : TupC K mg "WORDS" [.str "wanted", .str "weak", .str "common", .str "strong"]
theorem txt {K : PySem.W.Frag} {hp : Heap} {mg : Str → Option Value} (X : K.In hp) (G : hp.Ns mainGlobals mg) (h : ck K = true) : Txt K mg :=
  ⟨He.glo_ok X G (chk_fa h 0),
   He.keep_ok (chk_fa h 1),
   He.glo_ok X G (chk_fa h 2),
   He.keep_ok (chk_fa h 3),
   He.glo_ok X G (chk_fa h 4),
   He.keep_ok (chk_fa h 5),
   He.glo_ok X G (chk_fa h 6),
   He.keep_ok (chk_fa h 7),
   He.glo_ok X G (chk_fa h 8),
   He.keep_ok (chk_fa h 9),
   He.glo_ok X G (chk_fa h 10),
   He.keep_ok (chk_fa h 11),
   He.glo_ok X G (chk_fa h 12),
   He.keep_ok (chk_fa h 13),
   He.glo_ok X G (chk_fa h 14),
   He.keep_ok (chk_fa h 15),
   He.glo_ok X G (chk_fa h 16),
   He.keep_ok (chk_fa h 17),
   He.glo_ok X G (chk_fa h 18),
   He.keep_ok (chk_fa h 19),
   He.glo_ok X G (chk_fa h 20),
   He.keep_ok (chk_fa h 21),
   He.glo_ok X G (chk_fa h 22),
   He.keep_ok (chk_fa h 23),
   He.glo_ok X G (chk_fa h 24),
   He.keep_ok (chk_fa h 25),
   He.glo_ok X G (chk_fa h 26),
   He.keep_ok (chk_fa h 27),
   He.glo_ok X G (chk_fa h 28),
   He.keep_ok (chk_fa h 29),
   He.glo_ok X G (chk_fa h 30),
   He.keep_ok (chk_fa h 31),
   He.free_ok X G (chk_fa h 33),
   He.free_ok X G (chk_fa h 34),
   He.free_ok X G (chk_fa h 35),
   He.free_ok X G (chk_fa h 36),
   He.free_ok X G (chk_fa h 37),
   He.free_ok X G (chk_fa h 38),
   He.free_ok X G (chk_fa h 39),
   He.free_ok X G (chk_fa h 40),
   He.free_ok X G (chk_fa h 41),
   He.free_ok X G (chk_fa h 42),
   He.free_ok X G (chk_fa h 43),
   He.free_ok X G (chk_fa h 44),
   He.free_ok X G (chk_fa h 45),
   He.str_ok X G (chk_fa h 46),
   He.int_ok X G (chk_fa h 47),
   He.str_ok X G (chk_fa h 48),
   chk_tup h X G 0 49⟩
section
variable {P : Program} {w : World} {K : PySem.W.Frag} {mg : Str → Option Value} {base : Heap}
abbrev N__law_bag : List Str := ["_law_script", "_law_at", "_law_number", "_law_mixed", "_law_spot", "_law_each"]
theorem sc__law_bag : FnScope N__law_bag ["_law_script", "_law_at"] (defScope (top 20)) := ⟨rfl, rfl, rfl, by decide +kernel, rfl, by decide +kernel, by decide +kernel⟩
theorem b__law_bag (c : SaysZ ck fn K) (T : Txt K mg) : Body P w K mg base 0 N__law_bag "_law_bag" (defScope (top 20)) (He.ga K "_law_bag") (defBody (top 20)) s__law_bag := by
  intro cdv A outer s H E hr
  exact (js_cons (js_set (i := 2) sc__law_bag.nd rfl (Or.inl rfl) (je_if (jt_cmp op_lt pr_lt (je_v 1) (je_cb call_lens pn_len rfl T.n_len boot_len (ja_cons (je_v 0) ja_nil)) (nomark _)) (je_ix ix_seq pr_ix (je_v 0) (je_v 1)) je_int))
 (js_cons (js_set (i := 3) sc__law_bag.nd rfl (Or.inl rfl) (je_op op_adds pr_add (je_op op_muls pr_mul2 je_int (je_v 1)) je_int))
 (js_cons (js_for (passes_of rfl) rfl (ji_en rfl T.n_enumerate (ja_cons (je_sl sl_all ps_sl (je_v 0) jo_none (jo_some je_int)) ja_nil)) (pg_tup (n := 2) rfl (pgs_cons (pg_name (i := 4) sc__law_bag.nd rfl (by first | exact Or.inl rfl | exact Or.inr rfl)) (pgs_cons (pg_name (i := 5) sc__law_bag.nd rfl (by first | exact Or.inl rfl | exact Or.inr rfl)) pgs_nil))) (gq_t (gqs_cons gq_n (gqs_cons gq_n gqs_nil))) (js_one (js_set (i := 3) sc__law_bag.nd rfl (Or.inl rfl) (je_op op_mod pr_mod (je_ct call_int1 pn_int rfl T.n_int boot_int (ja_cons (je_op op_adds pr_add (je_op op_adds pr_add (je_op op_adds pr_add (je_op op_muls pr_mul2 (je_v 3) je_int) (je_op op_mod pr_mod (je_ct call_int1 pn_int rfl T.n_int boot_int (ja_cons (je_v 5) ja_nil)) je_int)) (je_op op_muls pr_mul2 je_int (je_v 4))) je_int) ja_nil)) je_int))))
 (js_one (js_ret (je_lst (ja_cons (je_if (jt_cmp op_ge pr_ge (je_cb call_abs pn_abs rfl T.n_abs boot_abs (ja_cons (je_v 2) ja_nil)) (je_op op_pow pr_pow je_int je_int) (nomark _)) (je_cb call_abs pn_abs rfl T.n_abs boot_abs (ja_cons (je_v 2) ja_nil)) je_int) (ja_cons (je_v 3) ja_nil))))))))
theorem p__law_bag (c : SaysZ ck fn K) (T : Txt K mg) : FS P w K mg base 1 (He.ga K "_law_bag") m__law_bag := by
  obtain ⟨fd, F⟩ := c.def_ 0
  exact fs_pos F sc__law_bag (b__law_bag c T) (fun _ _ _ _ _ _ us hl => match us, hl with | [_, _], _ => rfl)
abbrev N__law_take : List Str := ["_law_bag_here", "_law_many", "_law_digit"]
theorem sc__law_take : FnScope N__law_take ["_law_bag_here", "_law_many"] (defScope (top 21)) := ⟨rfl, rfl, rfl, by decide +kernel, rfl, by decide +kernel, by decide +kernel⟩
theorem b__law_take (c : SaysZ ck fn K) (T : Txt K mg) : Body P w K mg base 0 N__law_take "_law_take" (defScope (top 21)) (He.ga K "_law_take") (defBody (top 21)) s__law_take := by
  intro cdv A outer s H E hr
  exact (js_cons (js_if (jt_cmp op_gt pr_gt (je_ix ix_seq pr_ix (je_v 0) je_int) je_int (nomark _)) (js_cons (js_set (i := 2) sc__law_take.nd rfl (Or.inl rfl) (je_op op_mod pr_mod (je_ct call_int1 pn_int rfl T.n_int boot_int (ja_cons (je_ix ix_seq pr_ix (je_v 0) je_int) ja_nil)) (je_v 1)))
 (js_cons (js_sub set_list px_setL (je_op op_fdiv pr_div (je_ix ix_seq pr_ix (je_v 0) je_int) (je_v 1)) (je_v 0) je_int)
 (js_one (js_ret (je_v 2))))) js_nil)
 (js_cons (js_sub set_list px_setL (je_op op_mod pr_mod (je_ct call_int1 pn_int rfl T.n_int boot_int (ja_cons (je_op op_adds pr_add (je_op op_muls pr_mul2 (je_ix ix_seq pr_ix (je_v 0) je_int) je_int) je_int) ja_nil)) je_int) (je_v 0) je_int)
 (js_one (js_ret (je_op op_mod pr_mod (je_op op_fdiv pr_div (je_op op_mod pr_mod (je_ct call_int1 pn_int rfl T.n_int boot_int (ja_cons (je_op op_muls pr_mul2 (je_op op_fdiv pr_div (je_ix ix_seq pr_ix (je_v 0) je_int) je_int) je_int) ja_nil)) je_int) je_int) (je_v 1))))))
theorem p__law_take (c : SaysZ ck fn K) (T : Txt K mg) : FS P w K mg base 1 (He.ga K "_law_take") m__law_take := by
  obtain ⟨fd, F⟩ := c.def_ 1
  exact fs_pos F sc__law_take (b__law_take c T) (fun _ _ _ _ _ _ us hl => match us, hl with | [_, _], _ => rfl)
abbrev N__law_of : List Str := ["_law_bag_here", "_law_some"]
theorem sc__law_of : FnScope N__law_of ["_law_bag_here", "_law_some"] (defScope (top 22)) := ⟨rfl, rfl, rfl, by decide +kernel, rfl, by decide +kernel, by decide +kernel⟩
theorem b__law_of (c : SaysZ ck fn K) (T : Txt K mg) : Body P w K mg base 1 N__law_of "_law_of" (defScope (top 22)) (He.ga K "_law_of") (defBody (top 22)) s__law_of := by
  intro cdv A outer s H E hr
  exact (js_one (js_ret (je_ix ix_seq pr_ix (je_v 1) (je_call (p__law_take c T) (hr.mono (by decide)) (takes_of rfl rfl rfl rfl) rfl T.g__law_take T.k__law_take (ja_cons (je_v 0) (ja_cons (je_cb call_lens pn_len rfl T.n_len boot_len (ja_cons (je_v 1) ja_nil)) ja_nil))))))
theorem p__law_of (c : SaysZ ck fn K) (T : Txt K mg) : FS P w K mg base 2 (He.ga K "_law_of") m__law_of := by
  obtain ⟨fd, F⟩ := c.def_ 2
  exact fs_pos F sc__law_of (b__law_of c T) (fun _ _ _ _ _ _ us hl => match us, hl with | [_, _], _ => rfl)
abbrev N__law_names : List Str := ["_law_bag_here", "_law_many", "_law_letters", "_law_base", "_law_some", "_law_start", "_law_is_behind", "_law_k", "_law_one"]
theorem sc__law_names : FnScope N__law_names ["_law_bag_here", "_law_many"] (defScope (top 23)) := ⟨rfl, rfl, rfl, by decide +kernel, rfl, by decide +kernel, by decide +kernel⟩
theorem b__law_names (c : SaysZ ck fn K) (T : Txt K mg) : Body P w K mg base 2 N__law_names "_law_names" (defScope (top 23)) (He.ga K "_law_names") (defBody (top 23)) s__law_names := by
  intro cdv A outer s H E hr
  exact (js_cons (js_set (i := 2) sc__law_names.nd rfl (Or.inr rfl) je_str)
 (js_cons (js_set (i := 3) sc__law_names.nd rfl (Or.inr rfl) (je_bm PySem.F.plainAttrs_str PySem.F.slot_str_join PySem.F.type_str_join mt_join pm_join je_str (ja_cons (je_lc rfl sc__law_names.nd (ji_range1 rfl T.n_range (ja_cons (je_call (p__law_of c T) (hr.mono (by decide)) (takes_of rfl rfl rfl rfl) rfl T.g__law_of T.k__law_of (ja_cons (je_v 0) (ja_cons (je_lst (ja_cons je_int (ja_cons je_int (ja_cons je_int (ja_cons je_int (ja_cons je_int ja_nil)))))) ja_nil))) ja_nil)) (ok := (show BlkOk N__law_names (defScope (top 23)) _ _ from ⟨rfl, by decide +kernel, by decide +kernel, by decide +kernel, by decide +kernel⟩)) (own := [("_law_k", 7)]) (by decide) (fun _ _ _ _ _ => (pg_name (i := 7) sc__law_names.nd rfl (by first | exact Or.inl rfl | exact Or.inr rfl))) gq_n (fun _ _ _ _ _ => jts_nil) (fun _ _ _ _ _ => (je_ix ix_seq pr_ix (je_v 2) (je_call (p__law_take c T) (hr.mono (by decide)) (takes0) rfl T.g__law_take T.k__law_take (ja_cons (je_v 0) (ja_cons je_int ja_nil)))))) ja_nil)))
 (js_cons (js_asg (je_tup (ja_cons (je_call (p__law_take c T) (hr.mono (by decide)) (takes_of rfl rfl rfl rfl) rfl T.g__law_take T.k__law_take (ja_cons (je_v 0) (ja_cons je_int ja_nil))) (ja_cons (je_call (p__law_take c T) (hr.mono (by decide)) (takes_of rfl rfl rfl rfl) rfl T.g__law_take T.k__law_take (ja_cons (je_v 0) (ja_cons je_int ja_nil))) ja_nil))) (pg_tup (n := 2) rfl (pgs_cons (pg_name (i := 5) sc__law_names.nd rfl (by first | exact Or.inl rfl | exact Or.inr rfl)) (pgs_cons (pg_name (i := 6) sc__law_names.nd rfl (by first | exact Or.inl rfl | exact Or.inr rfl)) pgs_nil))) (gq_t (gqs_cons gq_n (gqs_cons gq_n gqs_nil))))
 (js_cons (js_setLc (i := 4) rfl sc__law_names.nd rfl rfl (by rfl) (ji_range1 rfl T.n_range (ja_cons (je_v 1) ja_nil)) (ok := (show BlkOk N__law_names (defScope (top 23)) _ _ from ⟨rfl, by decide +kernel, by decide +kernel, by decide +kernel, by decide +kernel⟩)) (own := [("_law_k", 7)]) (by decide) (fun _ _ _ _ _ => (pg_name (i := 7) sc__law_names.nd rfl (by first | exact Or.inl rfl | exact Or.inr rfl))) gq_n (fun _ _ _ _ _ => jts_nil) (fun _ _ _ _ _ => (je_ix ix_seq pr_ix (je_v 2) (je_op op_mod pr_mod (je_op op_adds pr_add (je_v 5) (je_op op_muls pr_mul2 je_int (je_v 7))) je_int))))
 (js_one (js_ret (je_lc rfl sc__law_names.nd (ji_sq (je_v 4)) (ok := (show BlkOk N__law_names (defScope (top 23)) _ _ from ⟨rfl, by decide +kernel, by decide +kernel, by decide +kernel, by decide +kernel⟩)) (own := [("_law_one", 8)]) (by decide) (fun _ _ _ _ _ => (pg_name (i := 8) sc__law_names.nd rfl (by first | exact Or.inl rfl | exact Or.inr rfl))) gq_n (fun _ _ _ _ _ => jts_nil) (fun _ _ _ _ _ => (je_if (jt_tru (je_v 6)) (je_op op_adds pr_add (je_v 3) (je_v 8)) (je_op op_adds pr_add (je_v 8) (je_v 3)))))))))))
theorem p__law_names (c : SaysZ ck fn K) (T : Txt K mg) : FS P w K mg base 3 (He.ga K "_law_names") m__law_names := by
  obtain ⟨fd, F⟩ := c.def_ 3
  exact fs_pos F sc__law_names (b__law_names c T) (fun _ _ _ _ _ _ us hl => match us, hl with | [_, _], _ => rfl)
abbrev N__law_drawn : List Str := ["_law_bag_here", "_law_names_here", "_law_look", "_law_one", "_law_word"]
theorem sc__law_drawn : FnScope N__law_drawn ["_law_bag_here", "_law_names_here"] (defScope (top 24)) := ⟨rfl, rfl, rfl, by decide +kernel, rfl, by decide +kernel, by decide +kernel⟩
theorem b__law_drawn (c : SaysZ ck fn K) (T : Txt K mg) : Body P w K mg base 2 N__law_drawn "_law_drawn" (defScope (top 24)) (He.ga K "_law_drawn") (defBody (top 24)) s__law_drawn := by
  intro cdv A outer s H E hr
  exact (js_cons (js_set (i := 2) sc__law_drawn.nd rfl (Or.inl rfl) (je_lst ja_nil))
 (js_cons (js_for (passes_of rfl) rfl (ji_sq (je_cb call_srt (pn_sorted (hu66 hr.units)) rfl T.n_sorted boot_sorted (ja_cons (je_v 1) ja_nil))) (pg_name (i := 3) sc__law_drawn.nd rfl (by first | exact Or.inl rfl | exact Or.inr rfl)) gq_n (js_cons (js_set (i := 4) sc__law_drawn.nd rfl (Or.inl rfl) (je_call (p__law_of c T) (hr.mono (by decide)) (takes_of rfl rfl rfl rfl) rfl T.g__law_of T.k__law_of (ja_cons (je_v 0) (ja_cons (je_lst (ja_cons je_str (ja_cons je_str (ja_cons je_str (ja_cons je_str (ja_cons je_str (ja_cons je_str (ja_cons je_str ja_nil)))))))) ja_nil))))
 (js_one (js_if (jt_cmp (op_nes (hu64 hr.units)) pr_ne (je_v 4) je_str (nomark _)) (js_one (js_expr (je_bm PySem.F.plainAttrs_list PySem.F.slot_list_append PySem.F.type_list_append (mt_append) pm_append (je_v 2) (ja_cons (je_tup (ja_cons (je_v 3) (ja_cons (je_v 4) ja_nil))) ja_nil)))) js_nil))))
 (js_one (js_ret (je_ct call_tuple_of pn_tuple rfl T.n_tuple boot_tuple (ja_cons (je_v 2) ja_nil))))))
theorem p__law_drawn (c : SaysZ ck fn K) (T : Txt K mg) : FS P w K mg base 3 (He.ga K "_law_drawn") m__law_drawn := by
  obtain ⟨fd, F⟩ := c.def_ 4
  exact fs_pos F sc__law_drawn (b__law_drawn c T) (fun _ _ _ _ _ _ us hl => match us, hl with | [_, _], _ => rfl)
abbrev N_show_face : List Str := ["face", "name", "word"]
theorem sc_show_face : FnScope N_show_face ["face"] (defScope (top 13)) := ⟨rfl, rfl, rfl, by decide +kernel, rfl, by decide +kernel, by decide +kernel⟩
theorem b_show_face (c : SaysZ ck fn K) (T : Txt K mg) : Body P w K mg base 0 N_show_face "show_face" (defScope (top 13)) (He.ga K "show_face") (defBody (top 13)) s_show_face := by
  intro cdv A outer s H E hr
  exact (js_one (js_ret (je_if (jt_cmp (op_nes (hu64 hr.units)) pr_ne (je_v 0) (je_tup ja_nil) (nomark _)) (je_bm PySem.F.plainAttrs_str PySem.F.slot_str_join PySem.F.type_str_join mt_join pm_join je_str (ja_cons (je_lc rfl sc_show_face.nd (ji_sq (je_v 0)) (ok := (show BlkOk N_show_face (defScope (top 13)) _ _ from ⟨rfl, by decide +kernel, by decide +kernel, by decide +kernel, by decide +kernel⟩)) (own := [("name", 1), ("word", 2)]) (by decide) (fun _ _ _ _ _ => (pg_tup (n := 2) rfl (pgs_cons (pg_name (i := 1) sc_show_face.nd rfl (by first | exact Or.inl rfl | exact Or.inr rfl)) (pgs_cons (pg_name (i := 2) sc_show_face.nd rfl (by first | exact Or.inl rfl | exact Or.inr rfl)) pgs_nil)))) (gq_t (gqs_cons gq_n (gqs_cons gq_n gqs_nil))) (fun _ _ _ _ _ => jts_nil) (fun _ _ _ _ _ => (je_joined (.cons (je_fmt (je_v 1)) (.cons je_str (.cons (je_fmt (je_v 2)) .nil)))))) ja_nil)) (je_gstr rfl T.c_NOTHING))))
theorem p_show_face (c : SaysZ ck fn K) (T : Txt K mg) : FS P w K mg base 1 (He.ga K "show_face") m_show_face := by
  obtain ⟨fd, F⟩ := c.def_ 5
  exact fs_pos F sc_show_face (b_show_face c T) (fun _ _ _ _ _ _ us hl => match us, hl with | [_], _ => rfl)
theorem k_show_face_0_face (c : SaysZ ck fn K) (T : Txt K mg) : FSk P w K mg base 1 (He.ga K "show_face") 0 ["face"] km_show_face_0_face := by
  obtain ⟨fd, F⟩ := c.def_ 5
  exact fs_key (n := 0) F sc_show_face (b_show_face c T) (fun ds es => es) (fun _ _ _ _ _ _ us ws h1 h2 => match us, h1, ws, h2 with | [], _, [_], _ => rfl) (fun us ws _ h => h) (fun _ h => h) (fun _ h => h)
abbrev N_look_text : List Str := ["text"]
theorem sc_look_text : FnScope N_look_text ["text"] (defScope (top 12)) := ⟨rfl, rfl, rfl, by decide +kernel, rfl, by decide +kernel, by decide +kernel⟩
theorem b_look_text (c : SaysZ ck fn K) (T : Txt K mg) : Body P w K mg base 0 N_look_text "look_text" (defScope (top 12)) (He.ga K "look_text") (defBody (top 12)) s_look_text := by
  intro cdv A outer s H E hr
  exact (js_one (js_if (jt_not (jt_tru (je_isi rfl T.n_isinstance rfl T.n_str boot_str (je_v 0)))) (js_one js_no) js_nil))
theorem p_look_text (c : SaysZ ck fn K) (T : Txt K mg) : FS P w K mg base 1 (He.ga K "look_text") m_look_text := by
  obtain ⟨fd, F⟩ := c.def_ 6
  exact fs_pos F sc_look_text (b_look_text c T) (fun _ _ _ _ _ _ us hl => match us, hl with | [_], _ => rfl)
abbrev N_is_name : List Str := ["thing", "sign"]
theorem sc_is_name : FnScope N_is_name ["thing"] (defScope (top 5)) := ⟨rfl, rfl, rfl, by decide +kernel, rfl, by decide +kernel, by decide +kernel⟩
theorem b_is_name (c : SaysZ ck fn K) (T : Txt K mg) : Body P w K mg base 0 N_is_name "is_name" (defScope (top 5)) (He.ga K "is_name") (defBody (top 5)) s_is_name := by
  intro cdv A outer s H E hr
  exact (js_cons (js_if (JW_t (jw_or (jt_not (jt_tru (je_isi rfl T.n_isinstance rfl T.n_str boot_str (je_v 0)))) (jw_or1 (jt_not (jt_ch op_le op_le pr_le pr_le je_int (je_cb call_lens pn_len rfl T.n_len boot_len (ja_cons (je_v 0) ja_nil)) (je_gint rfl T.c_MOST_LETTERS)))))) (js_one (js_ret je_bl)) js_nil)
 (js_one (js_ret (je_cb (cr_all rfl) pn_all rfl T.n_all boot_all (ja_cons (je_lc rfl sc_is_name.nd (ji_str (je_v 0)) (ok := (show BlkOk N_is_name (defScope (top 5)) _ _ from ⟨rfl, by decide +kernel, by decide +kernel, by decide +kernel, by decide +kernel⟩)) (own := [("sign", 1)]) (by decide) (fun _ _ _ _ _ => (pg_name (i := 1) sc_is_name.nd rfl (by first | exact Or.inl rfl | exact Or.inr rfl))) gq_n (fun _ _ _ _ _ => jts_nil) (fun _ _ _ _ _ => (je_cmp (op_ins (hu65 hr.units)) pr_in (je_v 1) (je_gstr rfl T.c_LETTERS) (by rfl)))) ja_nil)))))
theorem p_is_name (c : SaysZ ck fn K) (T : Txt K mg) : FS P w K mg base 1 (He.ga K "is_name") m_is_name := by
  obtain ⟨fd, F⟩ := c.def_ 7
  exact fs_pos F sc_is_name (b_is_name c T) (fun _ _ _ _ _ _ us hl => match us, hl with | [_], _ => rfl)
abbrev N_read_item : List Str := ["text", "is_group", "item", "name"]
theorem sc_read_item : FnScope N_read_item ["text"] (defScope (top 17)) := ⟨rfl, rfl, rfl, by decide +kernel, rfl, by decide +kernel, by decide +kernel⟩
theorem b_read_item (c : SaysZ ck fn K) (T : Txt K mg) : Body P w K mg base 1 N_read_item "read_item" (defScope (top 17)) (He.ga K "read_item") (defBody (top 17)) s_read_item := by
  intro cdv A outer s H E hr
  exact (js_cons (js_set (i := 1) sc_read_item.nd rfl (Or.inl rfl) (je_and (je_cmp (op_eqs (hu64 hr.units)) pr_eq (je_sl sl_all ps_sl (je_v 0) jo_none (jo_some je_int)) je_str (nomark _)) (je_one (je_cmp (op_eqs (hu64 hr.units)) pr_eq (je_sl sl_all ps_sl (je_v 0) (jo_some (je_un un_neg pr_neg je_int)) jo_none) je_str (nomark _)))))
 (js_cons (js_set (i := 2) sc_read_item.nd rfl (Or.inl rfl) (je_if (jt_tru (je_v 1)) (je_ct call_tuple_of pn_tuple rfl T.n_tuple boot_tuple (ja_cons (je_bm PySem.F.plainAttrs_str PySem.F.slot_str_split PySem.F.type_str_split mt_split pm_split (je_sl sl_all ps_sl (je_v 0) (jo_some je_int) (jo_some (je_un un_neg pr_neg je_int))) (ja_cons je_str ja_nil)) ja_nil)) (je_v 0)))
 (js_cons (js_if (jt_not (jt_tru (je_cb (cr_all rfl) pn_all rfl T.n_all boot_all (ja_cons (je_lc rfl sc_read_item.nd (ji_sq (je_if (jt_tru (je_v 1)) (je_v 2) (je_lst (ja_cons (je_v 2) ja_nil)))) (ok := (show BlkOk N_read_item (defScope (top 17)) _ _ from ⟨rfl, by decide +kernel, by decide +kernel, by decide +kernel, by decide +kernel⟩)) (own := [("name", 3)]) (by decide) (fun _ _ _ _ _ => (pg_name (i := 3) sc_read_item.nd rfl (by first | exact Or.inl rfl | exact Or.inr rfl))) gq_n (fun _ _ _ _ _ => jts_nil) (fun _ _ _ _ _ => (je_call (p_is_name c T) (hr.mono (by decide)) (takes0) rfl T.g_is_name T.k_is_name (ja_cons (je_v 3) ja_nil)))) ja_nil)))) (js_one js_no) js_nil)
 (js_one (js_ret (je_v 2))))))
theorem p_read_item (c : SaysZ ck fn K) (T : Txt K mg) : FS P w K mg base 2 (He.ga K "read_item") m_read_item := by
  obtain ⟨fd, F⟩ := c.def_ 8
  exact fs_pos F sc_read_item (b_read_item c T) (fun _ _ _ _ _ _ us hl => match us, hl with | [_], _ => rfl)
abbrev N_read_line : List Str := ["text", "word"]
theorem sc_read_line : FnScope N_read_line ["text"] (defScope (top 18)) := ⟨rfl, rfl, rfl, by decide +kernel, rfl, by decide +kernel, by decide +kernel⟩
theorem b_read_line (c : SaysZ ck fn K) (T : Txt K mg) : Body P w K mg base 2 N_read_line "read_line" (defScope (top 18)) (He.ga K "read_line") (defBody (top 18)) s_read_line := by
  intro cdv A outer s H E hr
  exact (js_cons (js_expr (je_call (p_look_text c T) (hr.mono (by decide)) (takes_of rfl rfl rfl rfl) rfl T.g_look_text T.k_look_text (ja_cons (je_v 0) ja_nil)))
 (js_one (js_ret (je_if (jt_cmp (op_nes (hu64 hr.units)) pr_ne (je_v 0) (je_gstr rfl T.c_NOTHING) (nomark _)) (je_ct call_tuple_of pn_tuple rfl T.n_tuple boot_tuple (ja_cons (je_lc rfl sc_read_line.nd (ji_sq (je_bm PySem.F.plainAttrs_str PySem.F.slot_str_split PySem.F.type_str_split mt_split pm_split (je_v 0) (ja_cons je_str ja_nil))) (ok := (show BlkOk N_read_line (defScope (top 18)) _ _ from ⟨rfl, by decide +kernel, by decide +kernel, by decide +kernel, by decide +kernel⟩)) (own := [("word", 1)]) (by decide) (fun _ _ _ _ _ => (pg_name (i := 1) sc_read_line.nd rfl (by first | exact Or.inl rfl | exact Or.inr rfl))) gq_n (fun _ _ _ _ _ => jts_nil) (fun _ _ _ _ _ => (je_call (p_read_item c T) (hr.mono (by decide)) (takes0) rfl T.g_read_item T.k_read_item (ja_cons (je_v 1) ja_nil)))) ja_nil)) (je_tup ja_nil)))))
theorem p_read_line (c : SaysZ ck fn K) (T : Txt K mg) : FS P w K mg base 3 (He.ga K "read_line") m_read_line := by
  obtain ⟨fd, F⟩ := c.def_ 9
  exact fs_pos F sc_read_line (b_read_line c T) (fun _ _ _ _ _ _ us hl => match us, hl with | [_], _ => rfl)
theorem k_read_line_0_text (c : SaysZ ck fn K) (T : Txt K mg) : FSk P w K mg base 3 (He.ga K "read_line") 0 ["text"] km_read_line_0_text := by
  obtain ⟨fd, F⟩ := c.def_ 9
  exact fs_key (n := 0) F sc_read_line (b_read_line c T) (fun ds es => es) (fun _ _ _ _ _ _ us ws h1 h2 => match us, h1, ws, h2 with | [], _, [_], _ => rfl) (fun us ws _ h => h) (fun _ h => h) (fun _ h => h)
abbrev N_twice_in : List Str := ["names", "seen", "name"]
theorem sc_twice_in : FnScope N_twice_in ["names"] (defScope (top 6)) := ⟨rfl, rfl, rfl, by decide +kernel, rfl, by decide +kernel, by decide +kernel⟩
theorem b_twice_in (c : SaysZ ck fn K) (T : Txt K mg) : Body P w K mg base 0 N_twice_in "twice_in" (defScope (top 6)) (He.ga K "twice_in") (defBody (top 6)) s_twice_in := by
  intro cdv A outer s H E hr
  exact (js_cons (js_set (i := 1) sc_twice_in.nd rfl (Or.inl rfl) (je_lst ja_nil))
 (js_cons (js_for (passes_of rfl) rfl (ji_sq (je_v 0)) (pg_name (i := 2) sc_twice_in.nd rfl (by first | exact Or.inl rfl | exact Or.inr rfl)) gq_n (js_cons (js_if (jt_cmp (op_ins (hu65 hr.units)) pr_in (je_v 2) (je_v 1) (by rfl)) (js_one (js_ret (je_v 2))) js_nil)
 (js_one (js_expr (je_bm PySem.F.plainAttrs_list PySem.F.slot_list_append PySem.F.type_list_append (mt_append) pm_append (je_v 1) (ja_cons (je_v 2) ja_nil))))))
 (js_one (js_ret je_non))))
theorem p_twice_in (c : SaysZ ck fn K) (T : Txt K mg) : FS P w K mg base 1 (He.ga K "twice_in") m_twice_in := by
  obtain ⟨fd, F⟩ := c.def_ 10
  exact fs_pos F sc_twice_in (b_twice_in c T) (fun _ _ _ _ _ _ us hl => match us, hl with | [_], _ => rfl)
abbrev N_is_face : List Str := ["thing", "names", "row", "name", "word"]
theorem sc_is_face : FnScope N_is_face ["thing"] (defScope (top 9)) := ⟨rfl, rfl, rfl, by decide +kernel, rfl, by decide +kernel, by decide +kernel⟩
theorem b_is_face (c : SaysZ ck fn K) (T : Txt K mg) : Body P w K mg base 1 N_is_face "is_face" (defScope (top 9)) (He.ga K "is_face") (defBody (top 9)) s_is_face := by
  intro cdv A outer s H E hr
  exact (js_cons (js_if (JW_t (jw_or (jt_not (jt_tru (je_isi rfl T.n_isinstance rfl T.n_tuple boot_tuple (je_v 0)))) (jw_or1 (jt_not (jt_tru (je_cb (cr_all rfl) pn_all rfl T.n_all boot_all (ja_cons (je_lc rfl sc_is_face.nd (ji_sq (je_v 0)) (ok := (show BlkOk N_is_face (defScope (top 9)) _ _ from ⟨rfl, by decide +kernel, by decide +kernel, by decide +kernel, by decide +kernel⟩)) (own := [("row", 2)]) (by decide) (fun _ _ _ _ _ => (pg_name (i := 2) sc_is_face.nd rfl (by first | exact Or.inl rfl | exact Or.inr rfl))) gq_n (fun _ _ _ _ _ => jts_nil) (fun _ _ _ _ _ => (je_and (je_isi rfl T.n_isinstance rfl T.n_tuple boot_tuple (je_v 2)) (je_one (je_cmp (op_eqs (hu64 hr.units)) pr_eq (je_cb call_lens pn_len rfl T.n_len boot_len (ja_cons (je_v 2) ja_nil)) je_int (nomark _)))))) ja_nil))))))) (js_one (js_ret je_bl)) js_nil)
 (js_cons (js_if (jt_not (jt_tru (je_cb (cr_all rfl) pn_all rfl T.n_all boot_all (ja_cons (je_lc rfl sc_is_face.nd (ji_sq (je_v 0)) (ok := (show BlkOk N_is_face (defScope (top 9)) _ _ from ⟨rfl, by decide +kernel, by decide +kernel, by decide +kernel, by decide +kernel⟩)) (own := [("name", 3), ("word", 4)]) (by decide) (fun _ _ _ _ _ => (pg_tup (n := 2) rfl (pgs_cons (pg_name (i := 3) sc_is_face.nd rfl (by first | exact Or.inl rfl | exact Or.inr rfl)) (pgs_cons (pg_name (i := 4) sc_is_face.nd rfl (by first | exact Or.inl rfl | exact Or.inr rfl)) pgs_nil)))) (gq_t (gqs_cons gq_n (gqs_cons gq_n gqs_nil))) (fun _ _ _ _ _ => jts_nil) (fun _ _ _ _ _ => (je_and (je_call (p_is_name c T) (hr.mono (by decide)) (takes0) rfl T.g_is_name T.k_is_name (ja_cons (je_v 3) ja_nil)) (je_and (je_isi rfl T.n_isinstance rfl T.n_str boot_str (je_v 4)) (je_one (je_cmp (op_ins (hu65 hr.units)) pr_in (je_v 4) (je_gt rfl T.c_WORDS) (by rfl))))))) ja_nil)))) (js_one (js_ret je_bl)) js_nil)
 (js_cons (js_setLc (i := 1) rfl sc_is_face.nd rfl rfl (by rfl) (ji_sq (je_v 0)) (ok := (show BlkOk N_is_face (defScope (top 9)) _ _ from ⟨rfl, by decide +kernel, by decide +kernel, by decide +kernel, by decide +kernel⟩)) (own := [("row", 2)]) (by decide) (fun _ _ _ _ _ => (pg_name (i := 2) sc_is_face.nd rfl (by first | exact Or.inl rfl | exact Or.inr rfl))) gq_n (fun _ _ _ _ _ => jts_nil) (fun _ _ _ _ _ => (je_ix ix_seq pr_ix (je_v 2) je_int)))
 (js_one (js_ret (je_and (je_cmp (op_eqs (hu64 hr.units)) pr_eq (je_v 1) (je_cb call_srt (pn_sorted (hu66 hr.units)) rfl T.n_sorted boot_sorted (ja_cons (je_v 1) ja_nil)) (nomark _)) (je_one (je_cmp op_isN pr_isN2 (je_call (p_twice_in c T) (hr.mono (by decide)) (takes_of rfl rfl rfl rfl) rfl T.g_twice_in T.k_twice_in (ja_cons (je_v 1) ja_nil)) je_non (nomark _)))))))))
theorem p_is_face (c : SaysZ ck fn K) (T : Txt K mg) : FS P w K mg base 2 (He.ga K "is_face") m_is_face := by
  obtain ⟨fd, F⟩ := c.def_ 11
  exact fs_pos F sc_is_face (b_is_face c T) (fun _ _ _ _ _ _ us hl => match us, hl with | [_], _ => rfl)
abbrev N_read_face : List Str := ["text", "face", "pair"]
theorem sc_read_face : FnScope N_read_face ["text"] (defScope (top 14)) := ⟨rfl, rfl, rfl, by decide +kernel, rfl, by decide +kernel, by decide +kernel⟩
theorem b_read_face (c : SaysZ ck fn K) (T : Txt K mg) : Body P w K mg base 2 N_read_face "read_face" (defScope (top 14)) (He.ga K "read_face") (defBody (top 14)) s_read_face := by
  intro cdv A outer s H E hr
  exact (js_cons (js_expr (je_call (p_look_text c T) (hr.mono (by decide)) (takes_of rfl rfl rfl rfl) rfl T.g_look_text T.k_look_text (ja_cons (je_v 0) ja_nil)))
 (js_cons (js_if (jt_cmp (op_eqs (hu64 hr.units)) pr_eq (je_v 0) (je_gstr rfl T.c_NOTHING) (nomark _)) (js_one (js_ret (je_tup ja_nil))) js_nil)
 (js_cons (js_set (i := 1) sc_read_face.nd rfl (Or.inl rfl) (je_ct call_tuple_of pn_tuple rfl T.n_tuple boot_tuple (ja_cons (je_lc rfl sc_read_face.nd (ji_sq (je_bm PySem.F.plainAttrs_str PySem.F.slot_str_split PySem.F.type_str_split mt_split pm_split (je_v 0) (ja_cons je_str ja_nil))) (ok := (show BlkOk N_read_face (defScope (top 14)) _ _ from ⟨rfl, by decide +kernel, by decide +kernel, by decide +kernel, by decide +kernel⟩)) (own := [("pair", 2)]) (by decide) (fun _ _ _ _ _ => (pg_name (i := 2) sc_read_face.nd rfl (by first | exact Or.inl rfl | exact Or.inr rfl))) gq_n (fun _ _ _ _ _ => jts_nil) (fun _ _ _ _ _ => (je_ct call_tuple_of pn_tuple rfl T.n_tuple boot_tuple (ja_cons (je_bm PySem.F.plainAttrs_str PySem.F.slot_str_split PySem.F.type_str_split mt_split pm_split (je_v 2) (ja_cons je_str ja_nil)) ja_nil)))) ja_nil)))
 (js_cons (js_if (jt_not (jt_tru (je_call (p_is_face c T) (hr.mono (by decide)) (takes_of rfl rfl rfl rfl) rfl T.g_is_face T.k_is_face (ja_cons (je_v 1) ja_nil)))) (js_one js_no) js_nil)
 (js_one (js_ret (je_v 1)))))))
theorem p_read_face (c : SaysZ ck fn K) (T : Txt K mg) : FS P w K mg base 3 (He.ga K "read_face") m_read_face := by
  obtain ⟨fd, F⟩ := c.def_ 12
  exact fs_pos F sc_read_face (b_read_face c T) (fun _ _ _ _ _ _ us hl => match us, hl with | [_], _ => rfl)
theorem k_read_face_0_text (c : SaysZ ck fn K) (T : Txt K mg) : FSk P w K mg base 3 (He.ga K "read_face") 0 ["text"] km_read_face_0_text := by
  obtain ⟨fd, F⟩ := c.def_ 12
  exact fs_key (n := 0) F sc_read_face (b_read_face c T) (fun ds es => es) (fun _ _ _ _ _ _ us ws h1 h2 => match us, h1, ws, h2 with | [], _, [_], _ => rfl) (fun us ws _ h => h) (fun _ h => h) (fun _ h => h)
abbrev N_show_item : List Str := ["item"]
theorem sc_show_item : FnScope N_show_item ["item"] (defScope (top 15)) := ⟨rfl, rfl, rfl, by decide +kernel, rfl, by decide +kernel, by decide +kernel⟩
theorem b_show_item (c : SaysZ ck fn K) (T : Txt K mg) : Body P w K mg base 0 N_show_item "show_item" (defScope (top 15)) (He.ga K "show_item") (defBody (top 15)) s_show_item := by
  intro cdv A outer s H E hr
  exact (js_one (js_ret (je_if (jt_tru (je_isi rfl T.n_isinstance rfl T.n_tuple boot_tuple (je_v 0))) (je_op op_adds pr_add (je_op op_adds pr_add je_str (je_bm PySem.F.plainAttrs_str PySem.F.slot_str_join PySem.F.type_str_join mt_join pm_join je_str (ja_cons (je_v 0) ja_nil))) je_str) (je_v 0))))
theorem p_show_item (c : SaysZ ck fn K) (T : Txt K mg) : FS P w K mg base 1 (He.ga K "show_item") m_show_item := by
  obtain ⟨fd, F⟩ := c.def_ 13
  exact fs_pos F sc_show_item (b_show_item c T) (fun _ _ _ _ _ _ us hl => match us, hl with | [_], _ => rfl)
abbrev N_show_line : List Str := ["line", "item"]
theorem sc_show_line : FnScope N_show_line ["line"] (defScope (top 16)) := ⟨rfl, rfl, rfl, by decide +kernel, rfl, by decide +kernel, by decide +kernel⟩
theorem b_show_line (c : SaysZ ck fn K) (T : Txt K mg) : Body P w K mg base 1 N_show_line "show_line" (defScope (top 16)) (He.ga K "show_line") (defBody (top 16)) s_show_line := by
  intro cdv A outer s H E hr
  exact (js_one (js_ret (je_if (jt_cmp (op_nes (hu64 hr.units)) pr_ne (je_v 0) (je_tup ja_nil) (nomark _)) (je_bm PySem.F.plainAttrs_str PySem.F.slot_str_join PySem.F.type_str_join mt_join pm_join je_str (ja_cons (je_lc rfl sc_show_line.nd (ji_sq (je_v 0)) (ok := (show BlkOk N_show_line (defScope (top 16)) _ _ from ⟨rfl, by decide +kernel, by decide +kernel, by decide +kernel, by decide +kernel⟩)) (own := [("item", 1)]) (by decide) (fun _ _ _ _ _ => (pg_name (i := 1) sc_show_line.nd rfl (by first | exact Or.inl rfl | exact Or.inr rfl))) gq_n (fun _ _ _ _ _ => jts_nil) (fun _ _ _ _ _ => (je_call (p_show_item c T) (hr.mono (by decide)) (takes0) rfl T.g_show_item T.k_show_item (ja_cons (je_v 1) ja_nil)))) ja_nil)) (je_gstr rfl T.c_NOTHING))))
theorem p_show_line (c : SaysZ ck fn K) (T : Txt K mg) : FS P w K mg base 2 (He.ga K "show_line") m_show_line := by
  obtain ⟨fd, F⟩ := c.def_ 14
  exact fs_pos F sc_show_line (b_show_line c T) (fun _ _ _ _ _ _ us hl => match us, hl with | [_], _ => rfl)
theorem k_show_line_0_line (c : SaysZ ck fn K) (T : Txt K mg) : FSk P w K mg base 2 (He.ga K "show_line") 0 ["line"] km_show_line_0_line := by
  obtain ⟨fd, F⟩ := c.def_ 14
  exact fs_key (n := 0) F sc_show_line (b_show_line c T) (fun ds es => es) (fun _ _ _ _ _ _ us ws h1 h2 => match us, h1, ws, h2 with | [], _, [_], _ => rfl) (fun us ws _ h => h) (fun _ h => h) (fun _ h => h)
abbrev N__law_item_text : List Str := ["_law_item"]
theorem sc__law_item_text : FnScope N__law_item_text ["_law_item"] (defScope (top 25)) := ⟨rfl, rfl, rfl, by decide +kernel, rfl, by decide +kernel, by decide +kernel⟩
theorem b__law_item_text (c : SaysZ ck fn K) (T : Txt K mg) : Body P w K mg base 0 N__law_item_text "_law_item_text" (defScope (top 25)) (He.ga K "_law_item_text") (defBody (top 25)) s__law_item_text := by
  intro cdv A outer s H E hr
  exact (js_one (js_ret (je_if (jt_tru (je_isi rfl T.n_isinstance rfl T.n_tuple boot_tuple (je_v 0))) (je_op op_adds pr_add (je_op op_adds pr_add je_str (je_bm PySem.F.plainAttrs_str PySem.F.slot_str_join PySem.F.type_str_join mt_join pm_join je_str (ja_cons (je_v 0) ja_nil))) je_str) (je_v 0))))
theorem p__law_item_text (c : SaysZ ck fn K) (T : Txt K mg) : FS P w K mg base 1 (He.ga K "_law_item_text") m__law_item_text := by
  obtain ⟨fd, F⟩ := c.def_ 15
  exact fs_pos F sc__law_item_text (b__law_item_text c T) (fun _ _ _ _ _ _ us hl => match us, hl with | [_], _ => rfl)
abbrev N_law : List Str := ["_law_script", "_law_at", "_law_bag_here", "_law_turn", "_law_names_here", "_law_look", "_law_items", "_law_road", "_law_shown", "_law_told", "_law_found", "_law_m", "_law_k", "_law_item", "_law_one", "_law_word"]
theorem sc_law : FnScope N_law ["_law_script"] (defScope (top 26)) := ⟨rfl, rfl, rfl, by decide +kernel, rfl, by decide +kernel, by decide +kernel⟩
theorem b_law (c : SaysZ ck fn K) (T : Txt K mg) : Body P w K mg base 3 N_law "law" (defScope (top 26)) (He.ga K "law") (defBody (top 26)) s_law := by
  intro cdv A outer s H E hr
  exact (js_cons (js_for (passes_of rfl) rfl (ji_range1 rfl T.n_range (ja_cons (je_cb (call_max2 rfl) pn_max2 rfl T.n_max boot_max (ja_cons je_int (ja_cons (je_cb (call_min2 rfl) pn_min2 rfl T.n_min boot_min (ja_cons je_int (ja_cons (je_cb call_lens pn_len rfl T.n_len boot_len (ja_cons (je_v 0) ja_nil)) ja_nil))) ja_nil))) ja_nil)) (pg_name (i := 1) sc_law.nd rfl (by first | exact Or.inl rfl | exact Or.inr rfl)) gq_n (js_cons (js_set (i := 2) sc_law.nd rfl (Or.inr rfl) (je_call (p__law_bag c T) (hr.mono (by decide)) (takes_of rfl rfl rfl rfl) rfl T.g__law_bag T.k__law_bag (ja_cons (je_v 0) (ja_cons (je_v 1) ja_nil))))
 (js_one (js_for (passes_of rfl) rfl (ji_range1 rfl T.n_range (ja_cons je_int ja_nil)) (pg_name (i := 3) sc_law.nd rfl (by first | exact Or.inl rfl | exact Or.inr rfl)) gq_n (js_cons (js_set (i := 4) sc_law.nd rfl (Or.inr rfl) (je_call (p__law_names c T) (hr.mono (by decide)) (takes_of rfl rfl rfl rfl) rfl T.g__law_names T.k__law_names (ja_cons (je_v 2) (ja_cons (je_op op_adds pr_add je_int (je_call (p__law_take c T) (hr.mono (by decide)) (takes_of rfl rfl rfl rfl) rfl T.g__law_take T.k__law_take (ja_cons (je_v 2) (ja_cons je_int ja_nil)))) ja_nil))))
 (js_cons (js_set (i := 5) sc_law.nd rfl (Or.inl rfl) (je_call (p__law_drawn c T) (hr.mono (by decide)) (takes_of rfl rfl rfl rfl) rfl T.g__law_drawn T.k__law_drawn (ja_cons (je_v 2) (ja_cons (je_v 4) ja_nil))))
 (js_cons (js_set (i := 6) sc_law.nd rfl (Or.inr rfl) (je_op op_adds pr_add (je_v 4) (je_lc rfl sc_law.nd (ji_range1 rfl T.n_range (ja_cons je_int ja_nil)) (ok := (show BlkOk N_law (defScope (top 26)) _ _ from ⟨rfl, by decide +kernel, by decide +kernel, by decide +kernel, by decide +kernel⟩)) (own := [("_law_m", 11)]) (by decide) (fun _ _ _ _ _ => (pg_name (i := 11) sc_law.nd rfl (by first | exact Or.inl rfl | exact Or.inr rfl))) gq_n (fun _ _ _ _ _ => jts_nil) (fun _ _ _ _ _ => (je_ct call_tuple_of pn_tuple rfl T.n_tuple boot_tuple (ja_cons (je_lc rfl sc_law.nd (ji_range1 rfl T.n_range (ja_cons (je_op op_adds pr_add je_int (je_call (p__law_take c T) (hr.mono (by decide)) (takes0) rfl T.g__law_take T.k__law_take (ja_cons (je_v 2) (ja_cons je_int ja_nil)))) ja_nil)) (ok := (show BlkOk N_law (relS _ (defScope (top 26))) _ _ from ⟨rfl, by decide +kernel, by decide +kernel, by decide +kernel, by decide +kernel⟩)) (own := [("_law_k", 12)]) (by decide) (fun _ _ _ _ _ => (pg_name (i := 12) sc_law.nd rfl (by first | exact Or.inl rfl | exact Or.inr rfl))) gq_n (fun _ _ _ _ _ => jts_nil) (fun _ _ _ _ _ => (je_call (p__law_of c T) (hr.mono (by decide)) (takes0) rfl T.g__law_of T.k__law_of (ja_cons (je_v 2) (ja_cons (je_v 4) ja_nil))))) ja_nil))))))
 (js_cons (js_set (i := 7) sc_law.nd rfl (Or.inl rfl) (je_ct call_tuple_of pn_tuple rfl T.n_tuple boot_tuple (ja_cons (je_lc rfl sc_law.nd (ji_range1 rfl T.n_range (ja_cons (je_call (p__law_take c T) (hr.mono (by decide)) (takes_of rfl rfl rfl rfl) rfl T.g__law_take T.k__law_take (ja_cons (je_v 2) (ja_cons je_int ja_nil))) ja_nil)) (ok := (show BlkOk N_law (defScope (top 26)) _ _ from ⟨rfl, by decide +kernel, by decide +kernel, by decide +kernel, by decide +kernel⟩)) (own := [("_law_k", 12)]) (by decide) (fun _ _ _ _ _ => (pg_name (i := 12) sc_law.nd rfl (by first | exact Or.inl rfl | exact Or.inr rfl))) gq_n (fun _ _ _ _ _ => jts_nil) (fun _ _ _ _ _ => (je_call (p__law_of c T) (hr.mono (by decide)) (takes0) rfl T.g__law_of T.k__law_of (ja_cons (je_v 2) (ja_cons (je_v 6) ja_nil))))) ja_nil)))
 (js_cons (js_set (i := 8) sc_law.nd rfl (Or.inl rfl) (je_if (jt_cmp (op_nes (hu64 hr.units)) pr_ne (je_v 5) (je_tup ja_nil) (nomark _)) (je_bm PySem.F.plainAttrs_str PySem.F.slot_str_join PySem.F.type_str_join mt_join pm_join je_str (ja_cons (je_lc rfl sc_law.nd (ji_sq (je_v 5)) (ok := (show BlkOk N_law (defScope (top 26)) _ _ from ⟨rfl, by decide +kernel, by decide +kernel, by decide +kernel, by decide +kernel⟩)) (own := [("_law_one", 14), ("_law_word", 15)]) (by decide) (fun _ _ _ _ _ => (pg_tup (n := 2) rfl (pgs_cons (pg_name (i := 14) sc_law.nd rfl (by first | exact Or.inl rfl | exact Or.inr rfl)) (pgs_cons (pg_name (i := 15) sc_law.nd rfl (by first | exact Or.inl rfl | exact Or.inr rfl)) pgs_nil)))) (gq_t (gqs_cons gq_n (gqs_cons gq_n gqs_nil))) (fun _ _ _ _ _ => jts_nil) (fun _ _ _ _ _ => (je_op op_adds pr_add (je_op op_adds pr_add (je_v 14) je_str) (je_v 15)))) ja_nil)) je_str))
 (js_cons (js_set (i := 9) sc_law.nd rfl (Or.inl rfl) (je_if (jt_cmp (op_nes (hu64 hr.units)) pr_ne (je_v 7) (je_tup ja_nil) (nomark _)) (je_bm PySem.F.plainAttrs_str PySem.F.slot_str_join PySem.F.type_str_join mt_join pm_join je_str (ja_cons (je_lc rfl sc_law.nd (ji_sq (je_v 7)) (ok := (show BlkOk N_law (defScope (top 26)) _ _ from ⟨rfl, by decide +kernel, by decide +kernel, by decide +kernel, by decide +kernel⟩)) (own := [("_law_item", 13)]) (by decide) (fun _ _ _ _ _ => (pg_name (i := 13) sc_law.nd rfl (by first | exact Or.inl rfl | exact Or.inr rfl))) gq_n (fun _ _ _ _ _ => jts_nil) (fun _ _ _ _ _ => (je_call (p__law_item_text c T) (hr.mono (by decide)) (takes0) rfl T.g__law_item_text T.k__law_item_text (ja_cons (je_v 13) ja_nil)))) ja_nil)) je_str))
 (js_cons (js_if (jt_cmp (op_nes (hu64 hr.units)) pr_ne (je_lst (ja_cons (je_call (p_show_face c T) (hr.mono (by decide)) (takes_of rfl rfl rfl rfl) rfl T.g_show_face T.k_show_face (ja_cons (je_v 5) ja_nil)) (ja_cons (je_callk0 (k_show_face_0_face c T) (hr.mono (by decide)) (takes_of rfl rfl rfl rfl) rfl T.g_show_face T.k_show_face (jk_cons (je_v 5) jk_nil)) ja_nil))) (je_op op_muls pr_mul2 (je_lst (ja_cons (je_v 8) ja_nil)) je_int) (nomark _)) (js_one (js_ret je_bl)) js_nil)
 (js_cons (js_if (jt_cmp (op_nes (hu64 hr.units)) pr_ne (je_lst (ja_cons (je_call (p_show_line c T) (hr.mono (by decide)) (takes_of rfl rfl rfl rfl) rfl T.g_show_line T.k_show_line (ja_cons (je_v 7) ja_nil)) (ja_cons (je_callk0 (k_show_line_0_line c T) (hr.mono (by decide)) (takes_of rfl rfl rfl rfl) rfl T.g_show_line T.k_show_line (jk_cons (je_v 7) jk_nil)) ja_nil))) (je_op op_muls pr_mul2 (je_lst (ja_cons (je_v 9) ja_nil)) je_int) (nomark _)) (js_one (js_ret je_bl)) js_nil)
 (js_cons (js_set (i := 10) sc_law.nd rfl (Or.inl rfl) (je_lst (ja_cons (je_call (p_read_face c T) (hr.mono (by decide)) (takes_of rfl rfl rfl rfl) rfl T.g_read_face T.k_read_face (ja_cons (je_v 8) ja_nil)) (ja_cons (je_callk0 (k_read_face_0_text c T) (hr.mono (by decide)) (takes_of rfl rfl rfl rfl) rfl T.g_read_face T.k_read_face (jk_cons (je_v 8) jk_nil)) (ja_cons (je_call (p_read_line c T) (hr.mono (by decide)) (takes_of rfl rfl rfl rfl) rfl T.g_read_line T.k_read_line (ja_cons (je_v 9) ja_nil)) (ja_cons (je_callk0 (k_read_line_0_text c T) (hr.mono (by decide)) (takes_of rfl rfl rfl rfl) rfl T.g_read_line T.k_read_line (jk_cons (je_v 9) jk_nil)) ja_nil))))))
 (js_one (js_if (jt_cmp (op_nes (hu64 hr.units)) pr_ne (je_cb (call_reprD hr.gd (hu66 hr.units)) pn_repr rfl T.n_repr boot_repr (ja_cons (je_v 10) ja_nil)) (je_cb (call_reprD hr.gd (hu66 hr.units)) pn_repr rfl T.n_repr boot_repr (ja_cons (je_lst (ja_cons (je_v 5) (ja_cons (je_v 5) (ja_cons (je_v 7) (ja_cons (je_v 7) ja_nil))))) ja_nil)) (nomark _)) (js_one (js_ret je_bl)) js_nil)))))))))))))))
 (js_one (js_ret (je_and (je_cmp (op_eqs (hu64 hr.units)) pr_eq (je_call (p_show_face c T) (hr.mono (by decide)) (takes_of rfl rfl rfl rfl) rfl T.g_show_face T.k_show_face (ja_cons (je_tup ja_nil) ja_nil)) je_str (nomark _)) (je_one (je_cmp (op_eqs (hu64 hr.units)) pr_eq (je_call (p_read_line c T) (hr.mono (by decide)) (takes_of rfl rfl rfl rfl) rfl T.g_read_line T.k_read_line (ja_cons je_str ja_nil)) (je_tup ja_nil) (nomark _)))))))
theorem p_law (c : SaysZ ck fn K) (T : Txt K mg) : FS P w K mg base 4 (He.ga K "law") m_law := by
  obtain ⟨fd, F⟩ := c.def_ 16
  exact fs_pos F sc_law (b_law c T) (fun _ _ _ _ _ _ us hl => match us, hl with | [_], _ => rfl)
end
set_option maxHeartbeats 0
def names0 : List PySem.Str := ["BadText", "LETTERS", "MOST_LETTERS", "is_name", "twice_in", "WORDS", "is_face", "NOTHING", "look_text", "show_face", "read_face", "show_item", "show_line", "read_item", "read_line", "_law_bag", "_law_take", "_law_of", "_law_names", "_law_drawn", "_law_item_text"]
def names : List PySem.Str := names0
abbrev R : PySem.W.OpenRow := PySem.W.OpenLaw.row PySem.Challenge.rw_lineoflibraries_k76_texts_of_faces_and_l
abbrev hk : PySem.W.Hook := hookZ 4 ck fn
def ob (s : PySem.W.SharedT) : AlZ := obsZG 4 ck fn (HandSHeadRun.getT s)
theorem ob_eq (s : PySem.W.SharedT) : ob s = hk.obs s.abs := obsZG_eq (HandSHeadRun.getT_eq s)
theorem run (w : World) : HandSHeadRun.RunEq R (PySem.W.view R.prog [26]) hk ob 40000 names w := by
  intro os
  kernel_rfl
end Z
open PySem PySem.W PySem.Calls PyProof.Rows
theorem PySem.Challenge.cw_lineoflibraries_k76_texts_of_faces_and_l_holds : PySem.Challenge.rw_lineoflibraries_k76_texts_of_faces_and_l.Holds := by
  w_on; o_law
  refine HandSHeadRun.head_any (r := OpenLaw.row PySem.Challenge.rw_lineoflibraries_k76_texts_of_faces_and_l) (q := view (OpenLaw.row PySem.Challenge.rw_lineoflibraries_k76_texts_of_faces_and_l).prog [26]) (H := Z.hk) (ob := Z.ob) (M := 40000) (loose := Z.names) (d := HandSHeadRun.topDef (OpenLaw.row PySem.Challenge.rw_lineoflibraries_k76_texts_of_faces_and_l).prog 26) (kwd := []) Z.ob_eq
    (by kernel_rfl) (fun s => by kernel_rfl) Z.run (by kernel_rfl) (by kernel_rfl) (by kernel_rfl) (by rfl) (by first | assumption | decide +kernel) (by decide +kernel) ⟨rfl, rfl, rfl, rfl, rfl, by decide +kernel⟩ ?hw ?hc
  case hw => w_witness2
  case hc =>
    refine Z.walk_law (l := PySem.Challenge.rw_lineoflibraries_k76_texts_of_faces_and_l) (n := 63) (k := 4) rfl (by decide) (by kernel_rfl) ⟨rfl, by decide, by decide⟩ ?F
    intro w mg fa h Y G hmg0
    obtain ⟨K, KX, c⟩ := Y
    have hmg : mg ("law" : PySem.Str) = some (.ref fa) := by
      have e : (HandSHeadRun.topDef (OpenLaw.row PySem.Challenge.rw_lineoflibraries_k76_texts_of_faces_and_l).prog 26).name = ("law" : PySem.Str) := by kernel_rfl
      rw [← e]
      exact hmg0
    have T := Z.txt KX G c.ok_
    have e := hmg.symm.trans (He.glo_ok KX G (Z.chk_fa c.ok_ (f := .glo "law") 32))
    cases e
    exact ⟨K, Z.m_law, KX, Z.plain_law, fun base _ _ => Z.p_law c T⟩
