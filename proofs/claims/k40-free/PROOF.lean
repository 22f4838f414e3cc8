import PyProof.Rows.All
import Wide.All
import OpenK.AllK
import Wide.FinOn
import HandS.ForMost
import HandS.Exc
import HandS.WordsExc
import HandS.Defaults
import HandS.SetKeys
import HandS.Lambda
import HandS.More
import HandS.Star
import HandS.HeadHook2
import HandS.ExcOwn
import HandS.TupAny
import HandS.Deep
import HandS.IsInst
import HandS.FStr
import HandS.Small
import HandS.RaiseMore
import KE.SortData
import HandS.Sort
import HandS.Iter
import HandS.Zip
import KE.KStateDown
import HandS.Head0
import HandS.Head1
import HandS.Head2
import HandS.HeadEnd
import HandS.Text
import PyProof.Rows.RegFStrParts
import HandS.Property
import HandS.MakeKwOnly
import KE.KOwnIter
import HandS.IterNext
import PyProof.InstNe
import HandS.OwnEq
import PyProof.TupleOfSeq
import HandS.Style
import PySem.Challenge.RW_lineoflibraries_k40_stores_that_are_free
set_option Elab.async false
set_option linter.all false
set_option maxRecDepth 100000
set_option maxHeartbeats 4000000
namespace Z
open PySem PySem.Spec PyProof.Rows L2
/-- what a run is of: the program, the world, the code tables that may grow with the names of what they make -/
class Row where
  prog : Program
  w : World
  tabs : List (Addr × Str)
variable [Row]

/-! ### data, stores, results -/
/-- a value: tuples are values, lists, dicts, instances are places of the store -/
inductive D where
  | non | bl (b : Bool) | int (i : Int) | str (x : Str) | tup (xs : List D) | ref (n : Nat)

/-- what stands at a place -/
inductive SO where
  | lst (xs : List D)
  | frz (xs : List D)
  | dict (t : Bool) (kvs : List (D × D))
  | ins (c : Str) (fs : List (Str × D))
  | lck (t : Bool) (kvs : List (D × D))
  | set (xs : List D)
abbrev Sto := List SO
abbrev Ev := List (Option D)

/-- a result: a value, an exception of the class c with its one field f, or stuck -/
inductive Rs (α : Type) where
  | ok (a : α) (s : Sto)
  | ex (c f : Str) (v : D) (s : Sto)
  | no
def Rs.bind {α β : Type} (r : Rs α) (k : α → Sto → Rs β) : Rs β := match r with
  | .ok a s => k a s
  | .ex c f v s => .ex c f v s
  | .no => .no
abbrev EM (α : Type) := Ev → Sto → Rs α
inductive RS where
  | nx (e : Ev) (s : Sto)
  | rt (d : D) (s : Sto)
  | bk (e : Ev) (s : Sto)
  | ct (e : Ev) (s : Sto)
  | ex (c f : Str) (v : D) (e : Ev) (s : Sto)
  | no
abbrev SM := Ev → Sto → RS
/-- an expression's result goes on as a statement -/
def Rs.st {α : Type} (r : Rs α) (e : Ev) (k : α → Sto → RS) : RS := match r with
  | .ok a s => k a s
  | .ex c f v s => .ex c f v e s
  | .no => .no
def RS.seq (r : RS) (k : SM) : RS := match r with
  | .nx e s => k e s
  | r => r

/-! ### what stands for what -/
mutual
def VR (K : PySem.W.Frag) (ρ : Nat → Addr) (n : Nat) (H : Hp) : D → V → Prop
  | .non, v => v = .non
  | .bl b, v => v = .bl b
  | .int i, v => v = .int i
  | .str x, v => v = .str x
  | .tup xs, v => ∃ a vs, v = .ref a ∧ SqT K H a vs ∧ VRs K ρ n H xs vs
  | .ref k, v => k < n ∧ v = .ref (ρ k)
def VRs (K : PySem.W.Frag) (ρ : Nat → Addr) (n : Nat) (H : Hp) : List D → List V → Prop
  | [], vs => vs = []
  | d :: ds, vs => ∃ v r, vs = v :: r ∧ VR K ρ n H d v ∧ VRs K ρ n H ds r
end
/-- the later world bears the earlier one -/
structure Ext (ρ : Nat → Addr) (n : Nat) (H : Hp) (ρ' : Nat → Addr) (n' : Nat) (H' : Hp) : Prop where
  le : n ≤ n'
  ag : ∀ k, k < n → ρ' k = ρ k
  tp : ∀ a vs, Rd H a (.tup vs) → Rd H' a (.tup vs)
  fz : ∀ a o kvs, H a = some (.frz o (.dK kvs)) → H' a = some (.frz o (.dK kvs))
  fzT : ∀ a o kvs, H a = some (.frz o (.dT kvs)) → H' a = some (.frz o (.dT kvs))
theorem Ext.refl {ρ : Nat → Addr} {n : Nat} {H : Hp} : Ext ρ n H ρ n H := ⟨Nat.le_refl _, fun _ _ => rfl, fun _ _ h => h, fun _ _ _ h => h, fun _ _ _ h => h⟩
theorem Ext.trans {ρ ρ1 ρ2 : Nat → Addr} {n n1 n2 : Nat} {H H1 H2 : Hp} (a : Ext ρ n H ρ1 n1 H1) (b : Ext ρ1 n1 H1 ρ2 n2 H2) : Ext ρ n H ρ2 n2 H2 :=
  ⟨Nat.le_trans a.le b.le, fun k h => (b.ag k (Nat.lt_of_lt_of_le h a.le)).trans (a.ag k h), fun p vs h => b.tp p vs (a.tp p vs h), fun p o k h => b.fz p o k (a.fz p o k h), fun p o k h => b.fzT p o k (a.fzT p o k h)⟩
section
variable {K : PySem.W.Frag} {mg : Str → Option Value} {ρ ρ' : Nat → Addr} {n n' : Nat} {H H' : Hp}
theorem Ext.sqt (e : Ext ρ n H ρ' n' H') {a : Addr} {vs : List V} (h : SqT K H a vs) : SqT K H' a vs := h.elim (fun z => .inl (e.tp a vs z)) .inr
mutual
theorem VR.mono (e : Ext ρ n H ρ' n' H') : ∀ {d : D} {v : V}, VR K ρ n H d v → VR K ρ' n' H' d v
  | .non, _, h => h
  | .bl _, _, h => h
  | .int _, _, h => h
  | .str _, _, h => h
  | .tup xs, _, h => by
    rw [VR] at h ⊢
    obtain ⟨a, vs, e1, q, r⟩ := h
    exact ⟨a, vs, e1, e.sqt q, VRs.mono e r⟩
  | .ref k, _, h => by
    rw [VR] at h ⊢
    exact ⟨Nat.lt_of_lt_of_le h.1 e.le, by rw [e.ag k h.1]; exact h.2⟩
theorem VRs.mono (e : Ext ρ n H ρ' n' H') : ∀ {ds : List D} {vs : List V}, VRs K ρ n H ds vs → VRs K ρ' n' H' ds vs
  | [], _, h => h
  | d :: ds, _, h => by
    rw [VRs] at h ⊢
    obtain ⟨v, r, e1, h1, h2⟩ := h
    exact ⟨v, r, e1, VR.mono e h1, VRs.mono e h2⟩
end
theorem VRs.cons {d : D} {v : V} {ds : List D} {vs : List V} (h : VR K ρ n H d v) (t : VRs K ρ n H ds vs) : VRs K ρ n H (d :: ds) (v :: vs) := by
  rw [VRs]
  exact ⟨v, vs, rfl, h, t⟩
theorem VRs.nil : VRs K ρ n H [] [] := by rw [VRs]
theorem VRs.length : ∀ {ds : List D} {vs : List V}, VRs K ρ n H ds vs → vs.length = ds.length
  | [], _, h => by rw [VRs] at h; rw [h] <;> rfl
  | d :: ds, _, h => by
    rw [VRs] at h
    obtain ⟨v, r, e1, h1, h2⟩ := h
    rw [e1, List.length_cons, List.length_cons, VRs.length h2]
theorem VRs.get : ∀ {ds : List D} {vs : List V} {i : Nat} {d : D}, VRs K ρ n H ds vs → ds[i]? = some d → ∃ v, vs[i]? = some v ∧ VR K ρ n H d v
  | [], _, _, _, _, h => by simp at h
  | d :: ds, _, 0, _, h, q => by
    rw [VRs] at h
    obtain ⟨v, r, e1, h1, h2⟩ := h
    simp at q
    subst q e1
    exact ⟨v, rfl, h1⟩
  | d :: ds, _, i + 1, _, h, q => by
    rw [VRs] at h
    obtain ⟨v, r, e1, h1, h2⟩ := h
    subst e1
    simp at q
    obtain ⟨u, hu, hr⟩ := VRs.get h2 q
    exact ⟨u, by simpa using hu, hr⟩
theorem VRs.get' : ∀ {ds : List D} {vs : List V} {i : Nat} {v : V}, VRs K ρ n H ds vs → vs[i]? = some v → ∃ d, ds[i]? = some d ∧ VR K ρ n H d v := fun {ds vs i v} h q => by
  have hl := h.length
  have hi : i < vs.length := (List.getElem?_eq_some_iff.mp q).1
  have e : ds[i]? = some (ds[i]'(by omega)) := List.getElem?_eq_getElem (by omega)
  obtain ⟨u, hu, hr⟩ := h.get e
  rw [q] at hu
  cases hu
  exact ⟨_, e, hr⟩
theorem VRs.append : ∀ {ds es : List D} {vs us : List V}, VRs K ρ n H ds vs → VRs K ρ n H es us → VRs K ρ n H (ds ++ es) (vs ++ us)
  | [], _, _, _, h, t => by rw [VRs] at h; subst h; exact t
  | d :: ds, _, _, _, h, t => by
    rw [VRs] at h
    obtain ⟨v, r, e1, h1, h2⟩ := h
    subst e1
    exact VRs.cons h1 (VRs.append h2 t)
theorem VRs.set : ∀ {ds : List D} {vs : List V} {d : D} {v : V} (i : Nat), VRs K ρ n H ds vs → VR K ρ n H d v → VRs K ρ n H (ds.set i d) (vs.set i v)
  | [], _, _, _, _, h, _ => by rw [VRs] at h; subst h; exact VRs.nil
  | d :: ds, _, _, _, 0, h, q => by
    rw [VRs] at h
    obtain ⟨v, r, e1, h1, h2⟩ := h
    subst e1
    exact VRs.cons q h2
  | d :: ds, _, _, _, i + 1, h, q => by
    rw [VRs] at h
    obtain ⟨v, r, e1, h1, h2⟩ := h
    subst e1
    exact VRs.cons h1 (VRs.set i h2 q)
theorem VRs.take : ∀ {ds : List D} {vs : List V} (i : Nat), VRs K ρ n H ds vs → VRs K ρ n H (ds.take i) (vs.take i)
  | [], _, _, h => by rw [VRs] at h; subst h; simpa using VRs.nil
  | d :: ds, _, 0, _ => VRs.nil
  | d :: ds, _, i + 1, h => by
    rw [VRs] at h
    obtain ⟨v, r, e1, h1, h2⟩ := h
    subst e1
    exact VRs.cons h1 (VRs.take i h2)
theorem VRs.drop : ∀ {ds : List D} {vs : List V} (i : Nat), VRs K ρ n H ds vs → VRs K ρ n H (ds.drop i) (vs.drop i)
  | [], _, _, h => by rw [VRs] at h; subst h; simpa using VRs.nil
  | d :: ds, _, 0, h => h
  | d :: ds, _, i + 1, h => by
    rw [VRs] at h
    obtain ⟨v, r, e1, h1, h2⟩ := h
    subst e1
    exact VRs.drop i h2
theorem VRs.reverse : ∀ {ds : List D} {vs : List V}, VRs K ρ n H ds vs → VRs K ρ n H ds.reverse vs.reverse
  | [], _, h => by rw [VRs] at h; subst h; exact VRs.nil
  | d :: ds, _, h => by
    rw [VRs] at h
    obtain ⟨v, r, e1, h1, h2⟩ := h
    subst e1
    rw [List.reverse_cons, List.reverse_cons]
    exact VRs.append (VRs.reverse h2) (VRs.cons h1 VRs.nil)
theorem VRs.one {d : D} {vs : List V} (h : VRs K ρ n H [d] vs) : ∃ v, vs = [v] ∧ VR K ρ n H d v := by
  rw [VRs] at h
  obtain ⟨v, r, e1, h1, h2⟩ := h
  rw [VRs] at h2
  subst h2
  exact ⟨v, e1, h1⟩
theorem VRs.uncons {d : D} {ds : List D} {vs : List V} (h : VRs K ρ n H (d :: ds) vs) : ∃ v r, vs = v :: r ∧ VR K ρ n H d v ∧ VRs K ρ n H ds r := by
  rw [VRs] at h
  exact h

/-- attributes, by name and in order -/
def FR (K : PySem.W.Frag) (ρ : Nat → Addr) (n : Nat) (H : Hp) : List (Str × D) → List (Str × V) → Prop
  | [], vs => vs = []
  | p :: ps, vs => ∃ v r, vs = (p.1, v) :: r ∧ VR K ρ n H p.2 v ∧ FR K ρ n H ps r
theorem FR.mono (e : Ext ρ n H ρ' n' H') : ∀ {ds : List (Str × D)} {vs : List (Str × V)}, FR K ρ n H ds vs → FR K ρ' n' H' ds vs
  | [], _, h => h
  | _ :: _, _, ⟨v, r, e1, h1, h2⟩ => ⟨v, r, e1, h1.mono e, FR.mono e h2⟩
theorem FR.lookup : ∀ {ds : List (Str × D)} {vs : List (Str × V)} {f : Str} {d : D}, FR K ρ n H ds vs → ds.lookup f = some d → ∃ v, vs.lookup f = some v ∧ VR K ρ n H d v
  | [], _, _, _, _, h => by cases h
  | (g, x) :: ps, _, f, d, ⟨v, r, e1, h1, h2⟩, h => by
    subst e1
    rw [List.lookup_cons] at h ⊢
    by_cases q : f == g
    · rw [q] at h
      rw [q]
      cases h
      exact ⟨v, rfl, h1⟩
    · simp only [Bool.not_eq_true] at q
      rw [q] at h
      rw [q]
      exact FR.lookup h2 h
theorem FR.lookup_none : ∀ {ds : List (Str × D)} {vs : List (Str × V)} {f : Str}, FR K ρ n H ds vs → ds.lookup f = none → vs.lookup f = none
  | [], _, _, h, _ => by
    have h : _ = ([] : List (Str × V)) := h
    subst h
    rfl
  | (g, x) :: ps, _, f, ⟨v, r, e1, h1, h2⟩, h => by
    subst e1
    rw [List.lookup_cons] at h ⊢
    by_cases q : f == g
    · rw [q] at h
      cases h
    · simp only [Bool.not_eq_true] at q
      rw [q] at h
      rw [q]
      exact FR.lookup_none h2 h
theorem FR.length : ∀ {ds : List (Str × D)} {vs : List (Str × V)}, FR K ρ n H ds vs → vs.length = ds.length
  | [], _, h => by
    have h : _ = ([] : List (Str × V)) := h
    rw [h] <;> rfl
  | _ :: _, _, ⟨v, r, e1, h1, h2⟩ => by rw [e1, List.length_cons, List.length_cons, FR.length h2]
/-- an attribute stored -/
def putD (f : Str) (d : D) : List (Str × D) → List (Str × D)
  | [] => [(f, d)]
  | (g, x) :: r => if g = f then (g, d) :: r else (g, x) :: putD f d r
theorem FR.put {f : Str} {d : D} {v : V} (q : VR K ρ n H d v) : ∀ {ds : List (Str × D)} {vs : List (Str × V)}, FR K ρ n H ds vs → FR K ρ n H (putD f d ds) (putF f v vs)
  | [], _, h => by
    have h : _ = ([] : List (Str × V)) := h
    subst h
    exact ⟨v, [], rfl, q, rfl⟩
  | (g, x) :: ps, _, ⟨u, r, e1, h1, h2⟩ => by
    subst e1
    show FR K ρ n H (if g = f then (g, d) :: ps else (g, x) :: putD f d ps) (if g = f then (g, v) :: r else (g, u) :: putF f v r)
    by_cases e : g = f
    · rw [if_pos e, if_pos e]
      exact ⟨v, r, rfl, q, h2⟩
    · rw [if_neg e, if_neg e]
      exact ⟨u, _, rfl, h1, FR.put q h2⟩

/-- a dict's keys: ints and texts -/
def keyD : D → Option Key
  | .int i => some (.inl i)
  | .str x => some (.inr x)
  | _ => none
def keysD : List D → Option (List Key)
  | [] => some []
  | d :: ds => match keyD d, keysD ds with
    | some k, some ks => some (k :: ks)
    | _, _ => none
def tkeyD : D → Option (List Key)
  | .tup xs => keysD xs
  | _ => none
def KR {κ : Type} (key : D → Option κ) (K : PySem.W.Frag) (ρ : Nat → Addr) (n : Nat) (H : Hp) : List (D × D) → List (κ × V) → Prop
  | [], vs => vs = []
  | p :: ps, vs => ∃ k v r, vs = (k, v) :: r ∧ key p.1 = some k ∧ VR K ρ n H p.2 v ∧ KR key K ρ n H ps r
theorem KR.mono {κ : Type} {key : D → Option κ} (e : Ext ρ n H ρ' n' H') : ∀ {ds : List (D × D)} {vs : List (κ × V)}, KR key K ρ n H ds vs → KR key K ρ' n' H' ds vs
  | [], _, h => h
  | _ :: _, _, ⟨k, v, r, e1, h0, h1, h2⟩ => ⟨k, v, r, e1, h0, h1.mono e, KR.mono e h2⟩

/-- a list known to its object, or of the module: never written -/
def SqF (K : PySem.W.Frag) (H : Hp) (a : Addr) (xs : List V) : Prop :=
  (∃ o, H a = some (.frz o (.lst xs))) ∨
    ∃ (o : Obj) (its : Array Value) (n : Nat), K.lookup a = some o ∧ o.cls = .type "list" ∧ o.dict = none ∧ o.data = .seq its n ∧ its.size ≤ sizeLine ∧ Vals xs its.toList
theorem SqF.sq {a : Addr} {xs : List V} (h : SqF K H a xs) : SqL K H a xs := h.elim (fun z => .inl (.inr z)) .inr
/-- a set of keys: what is in it, by a list -/
def SetRl (xs : List D) (S : Key → Bool) (n : Nat) : Prop := n = xs.length ∧ (∃ ks, keysD xs = some ks ∧ ks.Nodup ∧ ∀ k, S k = true ↔ k ∈ ks)
/-- the object at a place -/
def OR (K : PySem.W.Frag) (mg : Str → Option Value) (ρ : Nat → Addr) (n : Nat) (H : Hp) (a : Addr) : SO → Prop
  | .lst xs => ∃ vs, H a = some (.lst vs) ∧ VRs K ρ n H xs vs
  | .frz xs => ∃ vs, SqF K H a vs ∧ VRs K ρ n H xs vs
  | .dict false kvs => ∃ vs, H a = some (.dK vs) ∧ KR keyD K ρ n H kvs vs
  | .dict true kvs => ∃ vs, H a = some (.dT vs) ∧ KR tkeyD K ρ n H kvs vs
  | .ins c fs => ∃ C dx vs, mg c = some (.ref C) ∧ H a = some (.ins C dx vs) ∧ FR K ρ n H fs vs
  | .lck false kvs => ∃ od vs, H a = some (.frz od (.dK vs)) ∧ KR keyD K ρ n H kvs vs
  | .lck true kvs => ∃ od vs, H a = some (.frz od (.dT vs)) ∧ KR tkeyD K ρ n H kvs vs
  | .set xs => ∃ S m, H a = some (SetK Row.prog Row.w a S m) ∧ SetRl xs S m
/-- may be written -/
def mutS : SO → Bool
  | .frz _ => false
  | _ => true
/-- may be written now -/
def wrS : SO → Bool
  | .frz _ => false
  | .lck _ _ => false
  | _ => true
theorem wrS.mut {o : SO} (h : wrS o = true) : mutS o = true := by cases o <;> first | rfl | cases h
theorem OR.wr {a : Addr} {o : SO} (h : OR K mg ρ n H a o) (m : wrS o = true) : ∃ u, H a = some u ∧ ∀ ob w, u ≠ .frz ob w := by
  cases o with
  | lst xs => obtain ⟨vs, h, _⟩ := h; exact ⟨_, h, fun _ _ z => nomatch z⟩
  | frz xs => cases m
  | dict t kvs => cases t <;> (obtain ⟨vs, h, _⟩ := h; exact ⟨_, h, fun _ _ z => nomatch z⟩)
  | ins c fs => obtain ⟨C, dx, vs, _, h, _⟩ := h; exact ⟨_, h, fun _ _ z => nomatch z⟩
  | lck t kvs => cases m
  | set xs => obtain ⟨S, m, h, _⟩ := h; exact ⟨_, h, fun _ _ z => by cases z⟩
theorem OR.mut {a : Addr} {o : SO} (h : OR K mg ρ n H a o) (m : mutS o = true) : ∃ u, H a = some u ∧ (∀ ob xs, u ≠ .frz ob (.lst xs)) ∧ (∀ ob xs, u ≠ .frz ob (.tup xs)) ∧ (∀ xs, u ≠ .tup xs) ∧ (∀ x, u ≠ .own x) ∧ ∀ ps, u ≠ .tbl ps := by
  have key : ∀ {u : HO}, H a = some u → (match u with | .frz _ (.lst _) => False | .frz _ (.tup _) => False | .tup _ => False | .own _ => False | .tbl _ => False | _ => True) → ∃ u, H a = some u ∧ (∀ ob xs, u ≠ .frz ob (.lst xs)) ∧ (∀ ob xs, u ≠ .frz ob (.tup xs)) ∧ (∀ xs, u ≠ .tup xs) ∧ (∀ x, u ≠ .own x) ∧ ∀ ps, u ≠ .tbl ps := fun {u} h k =>
    ⟨u, h, fun _ _ z => by subst z; exact k, fun _ _ z => by subst z; exact k, fun _ z => by subst z; exact k, fun _ z => by subst z; exact k, fun _ z => by subst z; exact k⟩
  cases o with
  | lst xs => obtain ⟨vs, h, _⟩ := h; exact key h trivial
  | frz xs => cases m
  | dict t kvs => cases t <;> (obtain ⟨vs, h, _⟩ := h; exact key h trivial)
  | ins c fs => obtain ⟨C, dx, vs, _, h, _⟩ := h; exact key h trivial
  | lck t kvs => cases t <;> (obtain ⟨od, vs, h, _⟩ := h; exact key h trivial)
  | set xs => obtain ⟨S, m, h, _⟩ := h; exact key h trivial
/-- the object stands still, the world grows -/
theorem OR.mono (e : Ext ρ n H ρ' n' H') {a : Addr} (ha : ∀ u, H a = some u → H' a = some u) {o : SO} (h : OR K mg ρ n H a o) : OR K mg ρ' n' H' a o := by
  cases o with
  | lst xs => obtain ⟨vs, h, r⟩ := h; exact ⟨vs, ha _ h, r.mono e⟩
  | frz xs =>
    obtain ⟨vs, h, r⟩ := h
    refine ⟨vs, ?_, r.mono e⟩
    rcases h with ⟨o, h⟩ | h
    · exact .inl ⟨o, ha _ h⟩
    · exact .inr h
  | dict t kvs =>
    cases t with
    | false => obtain ⟨vs, h, r⟩ := h; exact ⟨vs, ha _ h, r.mono e⟩
    | true => obtain ⟨vs, h, r⟩ := h; exact ⟨vs, ha _ h, r.mono e⟩
  | ins c fs => obtain ⟨C, dx, vs, g, h, r⟩ := h; exact ⟨C, dx, vs, g, ha _ h, r.mono e⟩
  | lck t kvs =>
    cases t with
    | false => obtain ⟨od, vs, h, r⟩ := h; exact ⟨od, vs, ha _ h, r.mono e⟩
    | true => obtain ⟨od, vs, h, r⟩ := h; exact ⟨od, vs, ha _ h, r.mono e⟩
  | set xs => obtain ⟨S, m, h, r⟩ := h; exact ⟨S, m, ha _ h, r⟩

/-! only the tuples are kept -/
mutual
theorem VR.tp (e : ∀ a vs, SqT K H a vs → SqT K H' a vs) : ∀ {d : D} {v : V}, VR K ρ n H d v → VR K ρ n H' d v
  | .non, _, h => h
  | .bl _, _, h => h
  | .int _, _, h => h
  | .str _, _, h => h
  | .tup xs, _, h => by
    rw [VR] at h ⊢
    obtain ⟨a, vs, e1, q, r⟩ := h
    exact ⟨a, vs, e1, e _ _ q, VRs.tp e r⟩
  | .ref k, _, h => by
    rw [VR] at h ⊢
    exact h
theorem VRs.tp (e : ∀ a vs, SqT K H a vs → SqT K H' a vs) : ∀ {ds : List D} {vs : List V}, VRs K ρ n H ds vs → VRs K ρ n H' ds vs
  | [], _, h => by rw [VRs] at h ⊢; exact h
  | d :: ds, _, h => by
    rw [VRs] at h ⊢
    obtain ⟨v, r, e1, h1, h2⟩ := h
    exact ⟨v, r, e1, VR.tp e h1, VRs.tp e h2⟩
end
theorem FR.tp (e : ∀ a vs, SqT K H a vs → SqT K H' a vs) : ∀ {ds : List (Str × D)} {vs : List (Str × V)}, FR K ρ n H ds vs → FR K ρ n H' ds vs
  | [], _, h => h
  | _ :: _, _, ⟨v, r, e1, h1, h2⟩ => ⟨v, r, e1, h1.tp e, FR.tp e h2⟩
theorem KR.tp {κ : Type} {key : D → Option κ} (e : ∀ a vs, SqT K H a vs → SqT K H' a vs) : ∀ {ds : List (D × D)} {vs : List (κ × V)}, KR key K ρ n H ds vs → KR key K ρ n H' ds vs
  | [], _, h => h
  | _ :: _, _, ⟨k, v, r, e1, h0, h1, h2⟩ => ⟨k, v, r, e1, h0, h1.tp e, KR.tp e h2⟩
theorem OR.tp (e : ∀ a vs, SqT K H a vs → SqT K H' a vs) {a : Addr} (ha : ∀ u, H a = some u → H' a = some u) {o : SO} (h : OR K mg ρ n H a o) : OR K mg ρ n H' a o := by
  cases o with
  | lst xs => obtain ⟨vs, h, r⟩ := h; exact ⟨vs, ha _ h, r.tp e⟩
  | frz xs =>
    obtain ⟨vs, h, r⟩ := h
    exact ⟨vs, h.elim (fun ⟨o, h⟩ => .inl ⟨o, ha _ h⟩) .inr, r.tp e⟩
  | dict t kvs => cases t <;> (obtain ⟨vs, h, r⟩ := h; exact ⟨vs, ha _ h, r.tp e⟩)
  | ins c fs => obtain ⟨C, dx, vs, g, h, r⟩ := h; exact ⟨C, dx, vs, g, ha _ h, r.tp e⟩
  | lck t kvs => cases t <;> (obtain ⟨od, vs, h, r⟩ := h; exact ⟨od, vs, ha _ h, r.tp e⟩)
  | set xs => obtain ⟨S, m, h, r⟩ := h; exact ⟨S, m, ha _ h, r⟩

/-- the store stands for the heap -/
structure SR (K : PySem.W.Frag) (mg : Str → Option Value) (ρ : Nat → Addr) (s : Sto) (H : Hp) : Prop where
  inj : ∀ (i j : Nat) oi oj, s[i]? = some oi → s[j]? = some oj → mutS oi = true → mutS oj = true → ρ i = ρ j → i = j
  ob : ∀ (i : Nat) o, s[i]? = some o → OR K mg ρ s.length H (ρ i) o
  tb : LamX.Tabs Row.tabs H
  tc : ∀ p ∈ Row.tabs, ∀ ps pos c, H p.1 = some (.tbl ps) → codeAmong pos ps.toList = some (.ref c) → ∀ (i : Nat) o, s[i]? = some o → mutS o = true → ρ i ≠ c
theorem Ext.same (st : ∀ b o, H b = some o → H' b = some o) : Ext ρ n H ρ n H' :=
  ⟨Nat.le_refl _, fun _ _ => rfl, fun a vs h => h.elim (fun z => .inl (st _ _ z)) fun ⟨o, z⟩ => .inr ⟨o, st _ _ z⟩, fun _ _ _ h => st _ _ h, fun _ _ _ h => st _ _ h⟩
/-- untracked or new things come -/
theorem SR.grow {s : Sto} (h : SR K mg ρ s H) (st : ∀ b o, H b = some o → H' b = some o) : SR K mg ρ s H' :=
  ⟨h.inj, fun i o e => (h.ob i o e).mono (Ext.same st) fun u z => st _ _ z, h.tb.ext st, fun p hp ps pos c e => by
    obtain ⟨ps', e', _⟩ := h.tb p hp
    have e2 := st _ _ e'
    rw [e] at e2
    cases e2
    exact h.tc p hp ps pos c e'⟩
def ρup (ρ : Nat → Addr) (n : Nat) (p : Addr) : Nat → Addr := fun k => if k = n then p else ρ k
theorem ρup_same {p : Addr} : ρup ρ n p n = p := by unfold ρup; rw [if_pos rfl]
theorem ρup_ne {p : Addr} {k : Nat} (h : k ≠ n) : ρup ρ n p k = ρ k := by unfold ρup; rw [if_neg h]
theorem Ext.alloc {p : Addr} (st : ∀ b o, H b = some o → H' b = some o) : Ext ρ n H (ρup ρ n p) (n + 1) H' :=
  ⟨Nat.le_succ _, fun k h => ρup_ne (Nat.ne_of_lt h), (Ext.same (ρ := ρ) (n := n) st).tp, (Ext.same (ρ := ρ) (n := n) st).fz, (Ext.same (ρ := ρ) (n := n) st).fzT⟩
theorem SR.alloc {s : Sto} {p : Addr} {o : SO} (h : SR K mg ρ s H) (hp : H p = none) (st : ∀ b u, H b = some u → H' b = some u)
    (ho : OR K mg (ρup ρ s.length p) (s.length + 1) H' p o) : SR K mg (ρup ρ s.length p) (s ++ [o]) H' := by
  have ext : Ext ρ s.length H (ρup ρ s.length p) (s.length + 1) H' := Ext.alloc st
  have old : ∀ {i : Nat} {oi : SO}, i < s.length → (s ++ [o])[i]? = some oi → s[i]? = some oi := fun hi e => by rwa [List.getElem?_append_left hi] at e
  have new : ∀ {i : Nat} {oi : SO}, ¬ i < s.length → (s ++ [o])[i]? = some oi → i = s.length ∧ oi = o := fun {i oi} hi e => by
    have hl := (List.getElem?_eq_some_iff.mp e).1
    simp only [List.length_append, List.length_cons, List.length_nil] at hl
    have : i = s.length := by omega
    subst this
    simp at e
    exact ⟨rfl, e.symm⟩
  refine ⟨fun i j oi oj e1 e2 m1 m2 q => ?_, fun i oi e => ?_, h.tb.ext st, fun p' hp' ps pos c e ec i o ei mo => ?_⟩
  · by_cases hi : i < s.length
    · by_cases hj : j < s.length
      · rw [ρup_ne (Nat.ne_of_lt hi), ρup_ne (Nat.ne_of_lt hj)] at q
        exact h.inj i j oi oj (old hi e1) (old hj e2) m1 m2 q
      · obtain ⟨rfl, rfl⟩ := new hj e2
        rw [ρup_ne (Nat.ne_of_lt hi), ρup_same] at q
        obtain ⟨u, hu, _⟩ := (h.ob i oi (old hi e1)).mut m1
        rw [q, hp] at hu
        cases hu
    · obtain ⟨rfl, rfl⟩ := new hi e1
      by_cases hj : j < s.length
      · rw [ρup_ne (Nat.ne_of_lt hj), ρup_same] at q
        obtain ⟨u, hu, _⟩ := (h.ob j oj (old hj e2)).mut m2
        rw [← q, hp] at hu
        cases hu
      · exact (new hj e2).1.symm
  · rw [List.length_append]
    by_cases hi : i < s.length
    · rw [ρup_ne (Nat.ne_of_lt hi)]
      exact (h.ob i oi (old hi e)).mono ext fun u z => st _ _ z
    · obtain ⟨rfl, rfl⟩ := new hi e
      rw [ρup_same]
      exact ho
  · obtain ⟨ps', e', _, h3⟩ := h.tb p' hp'
    have e2 := st _ _ e'
    rw [e] at e2
    cases e2
    by_cases hi : i < s.length
    · rw [ρup_ne (Nat.ne_of_lt hi)]
      exact h.tc p' hp' ps pos c e' ec i o (old hi ei) mo
    · obtain ⟨rfl, rfl⟩ := new hi ei
      rw [ρup_same]
      obtain ⟨c2, q1, q2⟩ := h3 pos _ ec
      cases q1
      intro z
      rw [← z, hp] at q2
      cases q2
theorem Ext.write {i : Nat} {o : SO} {u : HO} (h : OR K mg ρ n H (ρ i) o) (m : wrS o = true) : Ext ρ n H ρ n (upd H (ρ i) u) := by
  obtain ⟨w, hw, _, _, nt, _⟩ := h.mut (wrS.mut m)
  obtain ⟨w', hw', nf⟩ := h.wr m
  rw [hw] at hw'
  cases hw'
  have other : ∀ {a : Addr} {ob : Obj} {v : HO}, H a = some (.frz ob v) → upd H (ρ i) u a = some (.frz ob v) := fun {a ob v} r => by
    rw [upd_ne]
    · exact r
    · intro z
      rw [z, hw] at r
      exact nf _ _ (Option.some.inj r)
  refine ⟨Nat.le_refl _, fun _ _ => rfl, fun a vs r => ?_, fun a o k r => other r, fun a o k r => other r⟩
  rcases r with r | ⟨ob, r⟩
  · refine .inl ?_
    rw [upd_ne]
    · exact r
    · intro z
      rw [z, hw] at r
      exact nt vs (Option.some.inj r)
  · exact .inr ⟨ob, other r⟩
theorem Tabs.write {T : List (Addr × Str)} {a : Addr} {w u : HO} (t : LamX.Tabs T H) (hw : H a = some w) (nt : ∀ ps, w ≠ .tbl ps) (ne : ∀ p ∈ T, ∀ ps pos c, H p.1 = some (.tbl ps) → codeAmong pos ps.toList = some (.ref c) → a ≠ c) : LamX.Tabs T (upd H a u) := fun p hp => by
  obtain ⟨ps, h1, h2, h3⟩ := t p hp
  refine ⟨ps, ?_, h2, fun pos cv hc => ?_⟩
  · rw [upd_ne]
    · exact h1
    · intro z
      rw [z, hw] at h1
      exact nt ps (Option.some.inj h1)
  · obtain ⟨c, e1, e2⟩ := h3 pos cv hc
    subst e1
    refine ⟨c, rfl, ?_⟩
    rw [upd_ne]
    · exact e2
    · exact Ne.symm (ne p hp ps pos c h1 hc)
theorem SR.put {s : Sto} {i : Nat} {o o' : SO} {u : HO} (h : SR K mg ρ s H) (e : s[i]? = some o) (m : mutS o = true) (m' : mutS o' = true)
    (ho : OR K mg ρ s.length (upd H (ρ i) u) (ρ i) o') : SR K mg ρ (s.set i o') (upd H (ρ i) u) := by
  have ext : ∀ a vs, SqT K H a vs → SqT K (upd H (ρ i) u) a vs := fun a vs r => by
    obtain ⟨w, hw, _, nf2, nt, _⟩ := (h.ob i o e).mut m
    refine r.elim (fun r => .inl ?_) .inr
    rcases r with r | ⟨ob, r⟩
    · refine .inl ?_
      rw [upd_ne]
      · exact r
      · intro z
        rw [z, hw] at r
        exact nt vs (Option.some.inj r)
    · refine .inr ⟨ob, ?_⟩
      rw [upd_ne]
      · exact r
      · intro z
        rw [z, hw] at r
        exact nf2 _ _ (Option.some.inj r)
  have hi := (List.getElem?_eq_some_iff.mp e).1
  have back : ∀ {j : Nat} {oj : SO}, (s.set i o')[j]? = some oj → (j = i ∧ oj = o') ∨ (j ≠ i ∧ s[j]? = some oj) := fun {j oj} q => by
    by_cases hj : j = i
    · subst hj
      rw [List.getElem?_set_self hi] at q
      exact .inl ⟨rfl, (Option.some.inj q).symm⟩
    · rw [List.getElem?_set_ne (Ne.symm hj)] at q
      exact .inr ⟨hj, q⟩
  obtain ⟨w0, hw0, _, _, _, _, nt0⟩ := (h.ob i o e).mut m
  have tbs := Tabs.write (u := u) h.tb hw0 nt0 fun p hp ps pos c e1 e2 => h.tc p hp ps pos c e1 e2 i o e m
  refine ⟨fun j k oj ok e1 e2 m1 m2 q => ?_, fun j oj q => ?_, tbs, fun p hp ps pos c e1 ec j oj q mj => ?_⟩
  · have t1 : ∃ o1, s[j]? = some o1 ∧ mutS o1 = true := by
      rcases back e1 with ⟨rfl, rfl⟩ | ⟨_, z⟩
      · exact ⟨o, e, m⟩
      · exact ⟨oj, z, m1⟩
    have t2 : ∃ o1, s[k]? = some o1 ∧ mutS o1 = true := by
      rcases back e2 with ⟨rfl, rfl⟩ | ⟨_, z⟩
      · exact ⟨o, e, m⟩
      · exact ⟨ok, z, m2⟩
    obtain ⟨o1, f1, g1⟩ := t1
    obtain ⟨o2, f2, g2⟩ := t2
    exact h.inj j k o1 o2 f1 f2 g1 g2 q
  · rw [List.length_set]
    obtain ⟨w', hw', nf, nf2, nt, _⟩ := (h.ob i o e).mut m
    rcases back q with ⟨rfl, rfl⟩ | ⟨hj, z⟩
    · exact ho
    · cases mj : mutS oj with
      | true =>
        refine (h.ob j oj z).tp ext fun w hw => ?_
        rw [upd_ne]
        · exact hw
        · intro qq
          exact hj (h.inj j i oj o z e mj m qq)
      | false =>
        cases oj with
        | frz xs =>
          obtain ⟨vs, sq, r⟩ := h.ob j _ z
          refine ⟨vs, ?_, r.tp ext⟩
          rcases sq with ⟨ob, sq⟩ | sq
          · refine .inl ⟨ob, ?_⟩
            rw [upd_ne]
            · exact sq
            · intro qq
              rw [qq, hw'] at sq
              exact nf _ _ (Option.some.inj sq)
          · exact .inr sq
        | _ => cases mj
  · have e3 : H p.1 = some (.tbl ps) := by
      rw [upd_ne] at e1
      · exact e1
      · intro z
        obtain ⟨ps', e', _⟩ := h.tb p hp
        rw [z, hw0] at e'
        exact nt0 _ (Option.some.inj e')
    rcases back q with ⟨rfl, rfl⟩ | ⟨_, z⟩
    · exact h.tc p hp ps pos c e3 ec j o e m
    · exact h.tc p hp ps pos c e3 ec j oj z mj
theorem SR.write {s : Sto} {i : Nat} {o o' : SO} {u : HO} (h : SR K mg ρ s H) (e : s[i]? = some o) (m : wrS o = true) (m' : mutS o' = true)
    (ho : OR K mg ρ s.length (upd H (ρ i) u) (ρ i) o') : SR K mg ρ (s.set i o') (upd H (ρ i) u) := h.put e (wrS.mut m) m' ho
end
end Z

set_option Elab.async false
set_option linter.all false
set_option maxRecDepth 100000
set_option maxHeartbeats 4000000
namespace Z
open PySem PySem.Spec PyProof.Rows L2
variable [Row]

/-- names by slots -/
def EnvR (K : PySem.W.Frag) (ρ : Nat → Addr) (n : Nat) (H : Hp) (env : Ev) (σ : L2.St) : Prop :=
  env.length = σ.length ∧ ∀ (i : Nat) d, env[i]? = some (some d) → ∃ v, σ[i]? = some (some v) ∧ VR K ρ n H d v
section
variable {K : PySem.W.Frag} {mg : Str → Option Value} {ρ ρ' ρ1 : Nat → Addr} {n n' n1 : Nat} {H H' H1 : Hp}
theorem EnvR.mono (e : Ext ρ n H ρ' n' H') {env : Ev} {σ : L2.St} (h : EnvR K ρ n H env σ) : EnvR K ρ' n' H' env σ :=
  ⟨h.1, fun i d q => let ⟨v, e1, r⟩ := h.2 i d q; ⟨v, e1, r.mono e⟩⟩
theorem EnvR.set {env : Ev} {σ : L2.St} (h : EnvR K ρ n H env σ) {i : Nat} {d : D} {v : V} (r : VR K ρ n H d v) : EnvR K ρ n H (env.set i (some d)) (σ.set i (some v)) := by
  refine ⟨by rw [List.length_set, List.length_set]; exact h.1, fun j e q => ?_⟩
  by_cases hj : i = j
  · subst hj
    by_cases hl : i < env.length
    · rw [List.getElem?_set_self hl] at q
      cases q
      exact ⟨v, by rw [List.getElem?_set_self (by rw [← h.1]; exact hl)], r⟩
    · rw [List.getElem?_eq_none (by rw [List.length_set]; omega)] at q
      cases q
  · rw [List.getElem?_set_ne hj] at q
    obtain ⟨u, e1, r1⟩ := h.2 j e q
    exact ⟨u, by rw [List.getElem?_set_ne hj]; exact e1, r1⟩
theorem EnvR.del {env : Ev} {σ : L2.St} (h : EnvR K ρ n H env σ) {i : Nat} : EnvR K ρ n H (env.set i none) (σ.set i none) := by
  refine ⟨by rw [List.length_set, List.length_set]; exact h.1, fun j e q => ?_⟩
  by_cases hj : i = j
  · subst hj
    by_cases hl : i < env.length
    · rw [List.getElem?_set_self hl] at q
      cases q
    · rw [List.getElem?_eq_none (by rw [List.length_set]; omega)] at q
      cases q
  · rw [List.getElem?_set_ne hj] at q
    obtain ⟨u, e1, r1⟩ := h.2 j e q
    exact ⟨u, by rw [List.getElem?_set_ne hj]; exact e1, r1⟩

abbrev Rl (α β : Type) := (Nat → Addr) → Nat → Hp → α → β → Prop
/-- what a result asks -/
def Po {α β : Type} (K : PySem.W.Frag) (mg : Str → Option Value) (R : Rl α β) (W : WX) (σ : L2.St) (ρ : Nat → Addr) (n : Nat) (H : Hp) (r : Rs α) (Q : β → Hp → Prop) : Prop :=
  match r with
  | .ok d s' => ∀ ρ' H' v, Ext ρ n H ρ' s'.length H' → SR K mg ρ' s' H' → R ρ' s'.length H' d v → Q v H'
  | .ex c f d s' => ∀ ρ' H' C dx v, Ext ρ n H ρ' s'.length H' → SR K mg ρ' s' H' → mg c = some (.ref C) → VR K ρ' s'.length H' d v → H' dx = some (.xd [(f, v)]) → W (.ref C) (some dx) σ H'
  | .no => False
theorem Po.rebase {α β : Type} {R : Rl α β} {W : WX} {σ : L2.St} {r : Rs α} {Q : β → Hp → Prop} (h : Po K mg R W σ ρ n H r Q) (e : Ext ρ n H ρ1 n1 H1) : Po K mg R W σ ρ1 n1 H1 r Q := by
  cases r with
  | ok d s => exact fun ρ' H' v e' => h ρ' H' v (e.trans e')
  | ex c f d s => exact fun ρ' H' C dx v e' => h ρ' H' C dx v (e.trans e')
  | no => exact h
/-- behind a part -/
def Mid {α β : Type} (K : PySem.W.Frag) (mg : Str → Option Value) (R : Rl α β) (ρ : Nat → Addr) (n : Nat) (H : Hp) (v : β) (H1 : Hp) (k : (Nat → Addr) → Sto → α → Prop) : Prop :=
  ∃ ρ1 s1 d, Ext ρ n H ρ1 s1.length H1 ∧ SR K mg ρ1 s1 H1 ∧ R ρ1 s1.length H1 d v ∧ k ρ1 s1 d
theorem Po.bind {α β γ δ : Type} {R : Rl α β} {R' : Rl γ δ} {W : WX} {σ : L2.St} {r : Rs α} {k : α → Sto → Rs γ} {Q : δ → Hp → Prop} (h : Po K mg R' W σ ρ n H (r.bind k) Q) :
    Po K mg R W σ ρ n H r (fun v H1 => Mid K mg R ρ n H v H1 fun ρ1 s1 d => Po K mg R' W σ ρ1 s1.length H1 (k d s1) Q) := by
  cases r with
  | ok d s => exact fun ρ' H' v e sr r => ⟨ρ', s, d, e, sr, r, Po.rebase h e⟩
  | ex c f d s => exact h
  | no => exact h
/-- the lifted reading -/
def lG {α β : Type} (K : PySem.W.Frag) (mg : Str → Option Value) (R : Rl α β) (W : WX) (m : EM α) : L2.St → Hp → (β → Hp → Prop) → Prop :=
  fun σ H Q => ∃ ρ env s, SR K mg ρ s H ∧ EnvR K ρ s.length H env σ ∧ Po K mg R W σ ρ s.length H (m env s) Q
abbrev RB : Rl Bool Bool := fun _ _ _ b c => b = c
abbrev lE (K : PySem.W.Frag) (mg : Str → Option Value) : WX → EM D → TE := lG K mg (VR K)
abbrev lA (K : PySem.W.Frag) (mg : Str → Option Value) : WX → EM (List D) → TA := lG K mg (VRs K)
abbrev lT (K : PySem.W.Frag) (mg : Str → Option Value) : WX → EM Bool → TT := lG K mg RB
end

section
variable {X : Cx}
theorem PE_imp {e : Expr} {t t' : TE} (h : PE X e t) (i : ∀ σ H Q, t' σ H Q → t σ H Q) : PE X e t' := ⟨fun p s σ H Q I q => h.run p s σ H Q I (i σ H Q q)⟩
theorem PT_imp {e : Expr} {t t' : TT} (h : PT X e t) (i : ∀ σ H Q, t' σ H Q → t σ H Q) : PT X e t' := ⟨fun p s σ H Q I q => h.run p s σ H Q I (i σ H Q q)⟩
theorem PW_imp {e : Expr} {t t' : TT} (h : PW X e t) (i : ∀ σ H Q, t' σ H Q → t σ H Q) : PW X e t' := ⟨fun w p s σ H Q I q => h.run w p s σ H Q I (i σ H Q q)⟩
theorem PA_imp {e : List Expr} {t t' : TA} (h : PA X e t) (i : ∀ σ H Q, t' σ H Q → t σ H Q) : PA X e t' := ⟨fun p pins s σ H Q I q => h.run p pins s σ H Q I (i σ H Q q)⟩
theorem PS_imp {e : Stmt} {t t' : TS} (h : PS X e t) (i : ∀ σ H Q, t' Q σ H → t Q σ H) : PS X e t' := ⟨fun p s σ H Q I q => h.run p s σ H Q I (i σ H Q q)⟩
theorem PSs_imp {e : List Stmt} {t t' : TS} (h : PSs X e t) (i : ∀ σ H Q, t' Q σ H → t Q σ H) : PSs X e t' := ⟨fun p s σ H Q I q => h.run p s σ H Q I (i σ H Q q)⟩

abbrev JE (X : Cx) (W : WX) (e : Expr) (m : EM D) : Prop := PE X e (lE X.K X.mg W m)
abbrev JT (X : Cx) (W : WX) (e : Expr) (m : EM Bool) : Prop := PT X e (lT X.K X.mg W m)
abbrev JW (X : Cx) (W : WX) (e : Expr) (m : EM Bool) : Prop := PW X e (lT X.K X.mg W m)
abbrev JA (X : Cx) (W : WX) (es : List Expr) (m : EM (List D)) : Prop := PA X es (lA X.K X.mg W m)

variable {W : WX}
/-! ### names, constants -/
def mV (i : Nat) : EM D := fun env s => match env[i]? with
  | some (some d) => .ok d s
  | _ => .no
def mC (d : D) : EM D := fun _ s => .ok d s
theorem je_v (i : Nat) {x : Str} {pos : Pos} (hN : X.N[i]? = some x := by rfl) (hv : Vis X.env.scope x := by first | exact Or.inl rfl | exact Or.inr (Or.inl rfl) | exact Or.inr (Or.inr rfl)) (hd : (x == ("__debug__" : Str)) = false := by decide)
    (hcd : (x == ("__classdict__" : Str)) = false := by decide) : JE X W (.Name x pos) (mV i) := by
  refine PE_imp (pe_var hN hv hd hcd) fun σ H Q ⟨ρ, env, s, sr, er, po⟩ => ?_
  unfold mV at po
  cases h : env[i]? with
  | none => rw [h] at po; exact po.elim
  | some o =>
    rw [h] at po
    cases o with
    | none => exact po.elim
    | some d =>
      obtain ⟨v, e1, r⟩ := er.2 i d h
      exact ⟨v, e1, po ρ H v Ext.refl sr r⟩
/-- a value that the store doesn't matter for -/
def flatD : D → V → Prop
  | .non, v => v = .non
  | .bl b, v => v = .bl b
  | .int i, v => v = .int i
  | .str x, v => v = .str x
  | _, _ => False
theorem flatD.vr {K : PySem.W.Frag} {ρ : Nat → Addr} {n : Nat} {H : Hp} {d : D} {v : V} (h : flatD d v) : VR K ρ n H d v := by
  cases d <;> first | exact h | exact h.elim
theorem je_const {e : Expr} {d : D} {v : V} (h : PE X e (tC v)) (r : flatD d v) : JE X W e (mC d) :=
  PE_imp h fun σ H Q ⟨ρ, env, s, sr, er, po⟩ => po ρ H v Ext.refl sr r.vr
theorem je_int {i j pos} : JE X W (.Constant (.int i) j pos) (mC (.int i)) := je_const pe_int rfl
theorem je_bl {b j pos} : JE X W (.Constant (.bool b) j pos) (mC (.bl b)) := je_const pe_bl rfl
theorem je_non {j pos} : JE X W (.Constant .none j pos) (mC .non) := je_const pe_non rfl
theorem je_str {x j pos} : JE X W (.Constant (.str x) j pos) (mC (.str x)) := je_const pe_str rfl
/-- a module's constant: an int, a text -/
theorem je_gint {x : Str} {i : Int} {pos : Pos} (hg : Gl X x) (hm : ∃ t, X.mg x = some (.int i t)) (hd : (x == ("__debug__" : Str)) = false := by decide) : JE X W (.Name x pos) (mC (.int i)) := by
  obtain ⟨t, hm⟩ := hm
  exact je_const (v := .int i) (pe_glob hg hm ⟨t, rfl⟩ hd) rfl
theorem je_gstr {x z : Str} {pos : Pos} (hg : Gl X x) (hm : ∃ t, X.mg x = some (.str z t)) (hd : (x == ("__debug__" : Str)) = false := by decide) : JE X W (.Name x pos) (mC (.str z)) := by
  obtain ⟨t, hm⟩ := hm
  exact je_const (v := .str z) (pe_glob hg hm ⟨t, rfl⟩ hd) rfl
/-- a module's constant: a tuple of the written part -/
theorem je_gtup {x : Str} {ds : List D} {a : Addr} {vs : List V} {pos : Pos} (hg : Gl X x) (hm : X.mg x = some (.ref a)) (hq : ∀ H, SqT X.K H a vs) (r : ∀ ρ n H, VRs X.K ρ n H ds vs) (hd : (x == ("__debug__" : Str)) = false := by decide) : JE X W (.Name x pos) (mC (.tup ds)) := by
  refine PE_imp (pe_glob hg hm (v := .ref a) rfl hd) fun σ H Q ⟨ρ, env, s, sr, er, po⟩ => po ρ H (.ref a) Ext.refl sr ?_
  rw [VR]
  exact ⟨a, vs, rfl, hq H, r _ _ _⟩

/-! ### operations on values -/
/-- f does what r does -/
def Pr2 (X : Cx) (W : WX) (f : D → D → Sto → Rs D) (r : R2) : Prop :=
  ∀ (ρ : Nat → Addr) (s : Sto) (H : Hp) (σ : L2.St) (x y : D) (vx vy : V) (Q : VK), SR X.K X.mg ρ s H → VR X.K ρ s.length H x vx → VR X.K ρ s.length H y vy → Po X.K X.mg (VR X.K) W σ ρ s.length H (f x y s) Q → r vx vy H Q
def Pr1 (X : Cx) (W : WX) (f : D → Sto → Rs D) (r : V → Hp → VK → Prop) : Prop :=
  ∀ (ρ : Nat → Addr) (s : Sto) (H : Hp) (σ : L2.St) (x : D) (vx : V) (Q : VK), SR X.K X.mg ρ s H → VR X.K ρ s.length H x vx → Po X.K X.mg (VR X.K) W σ ρ s.length H (f x s) Q → r vx H Q
def PrN (X : Cx) (W : WX) (f : List D → Sto → Rs D) (r : List V → Hp → VK → Prop) : Prop :=
  ∀ (ρ : Nat → Addr) (s : Sto) (H : Hp) (σ : L2.St) (xs : List D) (vs : List V) (Q : VK), SR X.K X.mg ρ s H → VRs X.K ρ s.length H xs vs → Po X.K X.mg (VR X.K) W σ ρ s.length H (f xs s) Q → r vs H Q
def PrM (X : Cx) (W : WX) (f : D → List D → Sto → Rs D) (r : V → List V → Hp → VK → Prop) : Prop :=
  ∀ (ρ : Nat → Addr) (s : Sto) (H : Hp) (σ : L2.St) (x : D) (xs : List D) (v : V) (vs : List V) (Q : VK), SR X.K X.mg ρ s H → VR X.K ρ s.length H x v → VRs X.K ρ s.length H xs vs → Po X.K X.mg (VR X.K) W σ ρ s.length H (f x xs s) Q → r v vs H Q
def m2 (f : D → D → Sto → Rs D) (ma mb : EM D) : EM D := fun env s => (ma env s).bind fun x s1 => (mb env s1).bind fun y s2 => f x y s2
def m1 (f : D → Sto → Rs D) (ma : EM D) : EM D := fun env s => (ma env s).bind fun x s1 => f x s1
def mN (f : List D → Sto → Rs D) (ms : EM (List D)) : EM D := fun env s => (ms env s).bind fun xs s1 => f xs s1
def mM (f : D → List D → Sto → Rs D) (ma : EM D) (ms : EM (List D)) : EM D := fun env s => (ma env s).bind fun x s1 => (ms env s1).bind fun xs s2 => f x xs s2
def aN : EM (List D) := fun _ s => .ok [] s
def aC (ma : EM D) (ms : EM (List D)) : EM (List D) := fun env s => (ma env s).bind fun x s1 => (ms env s1).bind fun xs s2 => .ok (x :: xs) s2
theorem Po.imp {α β : Type} {K : PySem.W.Frag} {mg : Str → Option Value} {R : Rl α β} {σ : L2.St} {ρ : Nat → Addr} {n : Nat} {H : Hp} {r : Rs α} {Q Q' : β → Hp → Prop} (h : Po K mg R W σ ρ n H r Q) (i : ∀ v H', Q v H' → Q' v H') : Po K mg R W σ ρ n H r Q' := by
  cases r with
  | ok d s => exact fun ρ' H' v e sr r => i _ _ (h ρ' H' v e sr r)
  | ex c f d s => exact h
  | no => exact h
theorem Po.ite {α β : Type} {K : PySem.W.Frag} {mg : Str → Option Value} {R : Rl α β} {σ : L2.St} {ρ : Nat → Addr} {n : Nat} {H : Hp} {c : Prop} [Decidable c] {r : Rs α} {Q : β → Hp → Prop} (h : Po K mg R W σ ρ n H (if c then r else .no) Q) : c ∧ Po K mg R W σ ρ n H r Q := by
  by_cases hc : c
  · rw [if_pos hc] at h
    exact ⟨hc, h⟩
  · rw [if_neg hc] at h
    exact h.elim
variable {a b c : Expr} {es : List Expr} {ma mb mc : EM D} {ms : EM (List D)} {pos : Pos} {f : D → D → Sto → Rs D} {r : R2}
theorem lop (hp : Pr2 X W f r) {σ : L2.St} {H : Hp} {Q : VK} (h : lE X.K X.mg W (m2 f ma mb) σ H Q) : tOp r (lE X.K X.mg W ma) (lE X.K X.mg W mb) σ H Q :=
  let ⟨ρ, env, s, sr, er, po⟩ := h
  ⟨ρ, env, s, sr, er, (Po.bind po).imp fun _ _ ⟨ρ1, s1, d1, e1, sr1, r1, po1⟩ => ⟨ρ1, env, s1, sr1, er.mono e1, (Po.bind po1).imp fun _ _ ⟨ρ2, s2, d2, e2, sr2, r2, po2⟩ =>
    hp ρ2 s2 _ σ _ _ _ _ Q sr2 (r1.mono e2) r2 po2⟩⟩
theorem lun {f : D → Sto → Rs D} {r : V → Hp → VK → Prop} (hp : Pr1 X W f r) {σ : L2.St} {H : Hp} {Q : VK} (h : lE X.K X.mg W (m1 f ma) σ H Q) : tUn r (lE X.K X.mg W ma) σ H Q :=
  let ⟨ρ, env, s, sr, er, po⟩ := h
  ⟨ρ, env, s, sr, er, (Po.bind po).imp fun _ _ ⟨ρ1, s1, d1, e1, sr1, r1, po1⟩ => hp ρ1 s1 _ σ _ _ Q sr1 r1 po1⟩
theorem lcb {f : List D → Sto → Rs D} {r : List V → Hp → VK → Prop} (hp : PrN X W f r) {σ : L2.St} {H : Hp} {Q : VK} (h : lE X.K X.mg W (mN f ms) σ H Q) : tCB r (lA X.K X.mg W ms) σ H Q :=
  let ⟨ρ, env, s, sr, er, po⟩ := h
  ⟨ρ, env, s, sr, er, (Po.bind po).imp fun _ _ ⟨ρ1, s1, d1, e1, sr1, r1, po1⟩ => hp ρ1 s1 _ σ _ _ Q sr1 r1 po1⟩
theorem ja_nil : JA X W [] aN := PA_imp pa_nil fun σ H Q ⟨ρ, env, s, sr, er, po⟩ => po ρ H [] Ext.refl sr VRs.nil
theorem ja_cons {e : Expr} (h : JE X W e ma) (t : JA X W es ms) (hs : starEach (e :: es) X.env = (false, eval e X.env) :: starEach es X.env := by rfl) : JA X W (e :: es) (aC ma ms) :=
  PA_imp (pa_cons h t hs) fun σ H Q ⟨ρ, env, s, sr, er, po⟩ =>
    ⟨ρ, env, s, sr, er, (Po.bind po).imp fun _ _ ⟨ρ1, s1, d1, e1, sr1, r1, po1⟩ => ⟨ρ1, env, s1, sr1, er.mono e1, (Po.bind po1).imp fun _ _ ⟨ρ2, s2, d2, e2, sr2, r2, po2⟩ =>
      po2 ρ2 _ _ Ext.refl sr2 (VRs.cons (r1.mono e2) r2)⟩⟩
theorem je_op {op : Operator} (ho : OpR X (binaryOp op) r) (hp : Pr2 X W f r) (ha : JE X W a ma) (hb : JE X W b mb) : JE X W (.BinOp a op b pos) (m2 f ma mb) := PE_imp (pe_op ho ha hb) fun _ _ _ => lop hp
theorem je_un {op : UnaryOp} {f : D → Sto → Rs D} {r : V → Hp → VK → Prop} (ho : UnR X (unaryOp op) r) (hp : Pr1 X W f r) (ha : JE X W a ma) : JE X W (.UnaryOp op a pos) (m1 f ma) := PE_imp (pe_un ho ha) fun _ _ _ => lun hp
theorem je_cmp {op : CmpOp} (ho : OpR X (compareOp op) r) (hp : Pr2 X W f r) (ha : JE X W a ma) (hb : JE X W b mb) (hm : behindInMarks op b = false) : JE X W (.Compare a [op] [b] pos) (m2 f ma mb) := PE_imp (pe_cmpR ho ha hb hm) fun _ _ _ => lop hp
/-- a bool as a test -/
def toB (m : EM D) : EM Bool := fun env s => (m env s).bind fun d s1 => match d with
  | .bl b => .ok b s1
  | _ => .no
theorem ltoB {m : EM D} {t : TE} {σ : L2.St} {H : Hp} {Q : Bool → Hp → Prop} (i : ∀ Q, lE X.K X.mg W m σ H Q → t σ H Q) (h : lT X.K X.mg W (toB m) σ H Q) : tTest t σ H Q :=
  let ⟨ρ, env, s, sr, er, po⟩ := h
  i _ ⟨ρ, env, s, sr, er, (Po.bind po).imp fun v H1 ⟨ρ1, s1, d1, e1, sr1, r1, po1⟩ => by
    cases d1 with
    | bl b =>
      have e : v = .bl b := r1
      exact ⟨b, e, po1 ρ1 H1 b Ext.refl sr1 rfl⟩
    | _ => exact po1.elim⟩
theorem jt_cmp {op : CmpOp} (ho : OpR X (compareOp op) r) (hp : Pr2 X W f r) (ha : JE X W a ma) (hb : JE X W b mb) (hm : behindInMarks op b = false) : JT X W (.Compare a [op] [b] pos) (toB (m2 f ma mb)) :=
  PT_imp (pt_cmpR ho ha hb hm) fun _ _ _ h => ltoB (fun _ => lop hp) h
theorem jt_val {e : Expr} {m : EM D} (h : JE X W e m) (he : ∀ whole, isTrue e X.env whole = (do let v ← whole; standAt e.pos; holding [v] (truthy v)) := by intro _; rfl) : JT X W e (toB m) :=
  PT_imp (pt_val h he) fun _ _ _ h => ltoB (fun _ q => q) h
/-! ### and, or, not, if -/
def bAnd (a b : EM Bool) : EM Bool := fun env s => (a env s).bind fun x s1 => if x then b env s1 else .ok false s1
def bOr (a b : EM Bool) : EM Bool := fun env s => (a env s).bind fun x s1 => if x then .ok true s1 else b env s1
def bNot (a : EM Bool) : EM Bool := fun env s => (a env s).bind fun x s1 => .ok (!x) s1
def mIf (t : EM Bool) (a b : EM D) : EM D := fun env s => (t env s).bind fun x s1 => if x then a env s1 else b env s1
/-- a test's value -/
def ofB (t : EM Bool) : EM D := fun env s => (t env s).bind fun x s1 => .ok (.bl x) s1
variable {t u : EM Bool} {rest : List Expr}
theorem jw_and1 (ha : JT X W a t) : JW X W (.BoolOp .And [a] pos) t := pw_and1 ha
theorem jw_or1 (ha : JT X W a t) : JW X W (.BoolOp .Or [a] pos) t := pw_or1 ha
theorem jw_and (ha : JT X W a t) (hb : JW X W (.BoolOp .And (b :: rest) pos) u) : JW X W (.BoolOp .And (a :: b :: rest) pos) (bAnd t u) :=
  PW_imp (pw_and ha hb) fun σ H Q ⟨ρ, env, s, sr, er, po⟩ => ⟨ρ, env, s, sr, er, (Po.bind po).imp fun v H1 ⟨ρ1, s1, d1, e1, sr1, r1, po1⟩ => by
    have e : d1 = v := r1
    subst e
    cases d1 with
    | true => exact ⟨ρ1, env, s1, sr1, er.mono e1, po1⟩
    | false => exact po1 ρ1 H1 false Ext.refl sr1 rfl⟩
theorem jw_or (ha : JT X W a t) (hb : JW X W (.BoolOp .Or (b :: rest) pos) u) : JW X W (.BoolOp .Or (a :: b :: rest) pos) (bOr t u) :=
  PW_imp (pw_or ha hb) fun σ H Q ⟨ρ, env, s, sr, er, po⟩ => ⟨ρ, env, s, sr, er, (Po.bind po).imp fun v H1 ⟨ρ1, s1, d1, e1, sr1, r1, po1⟩ => by
    have e : d1 = v := r1
    subst e
    cases d1 with
    | false => exact ⟨ρ1, env, s1, sr1, er.mono e1, po1⟩
    | true => exact po1 ρ1 H1 true Ext.refl sr1 rfl⟩
theorem JW_t {e : Expr} (h : JW X W e t) : JT X W e t := h.pt
theorem jt_not (ha : JT X W a t) : JT X W (.UnaryOp .Not a pos) (bNot t) :=
  PT_imp (pt_not ha) fun σ H Q ⟨ρ, env, s, sr, er, po⟩ => ⟨ρ, env, s, sr, er, (Po.bind po).imp fun v H1 ⟨ρ1, s1, d1, e1, sr1, r1, po1⟩ => by
    have e : d1 = v := r1
    subst e
    exact po1 ρ1 H1 _ Ext.refl sr1 rfl⟩
theorem je_if (ht : JT X W c t) (ha : JE X W a ma) (hb : JE X W b mb) : JE X W (.IfExp c a b pos) (mIf t ma mb) :=
  PE_imp (pe_ifExp ht ha hb) fun σ H Q ⟨ρ, env, s, sr, er, po⟩ => ⟨ρ, env, s, sr, er, (Po.bind po).imp fun v H1 ⟨ρ1, s1, d1, e1, sr1, r1, po1⟩ => by
    have e : d1 = v := r1
    subst e
    cases d1 with
    | true => exact ⟨ρ1, env, s1, sr1, er.mono e1, po1⟩
    | false => exact ⟨ρ1, env, s1, sr1, er.mono e1, po1⟩⟩
/-- and, or, not as values: the parts are bools -/
def mAnd (a b : EM D) : EM D := fun env s => (a env s).bind fun x s1 => match x with
  | .bl true => b env s1
  | .bl false => .ok (.bl false) s1
  | _ => .no
def mOr (a b : EM D) : EM D := fun env s => (a env s).bind fun x s1 => match x with
  | .bl true => .ok (.bl true) s1
  | .bl false => b env s1
  | _ => .no
def mNot (a : EM D) : EM D := fun env s => (a env s).bind fun x s1 => match x with
  | .bl b => .ok (.bl (!b)) s1
  | _ => .no
theorem je_one {op} (h : JE X W a ma) : JE X W (.BoolOp op [a] pos) ma := pe_one h
theorem je_and (ha : JE X W a ma) (hb : JE X W (.BoolOp .And (b :: rest) pos) mb) : JE X W (.BoolOp .And (a :: b :: rest) pos) (mAnd ma mb) :=
  PE_imp (pe_and ha hb) fun σ H Q ⟨ρ, env, s, sr, er, po⟩ => ⟨ρ, env, s, sr, er, (Po.bind po).imp fun v H1 ⟨ρ1, s1, d1, e1, sr1, r1, po1⟩ => by
    cases d1 with
    | bl q =>
      have e : v = .bl q := r1
      subst e
      cases q with
      | true => exact ⟨true, rfl, ρ1, env, s1, sr1, er.mono e1, po1⟩
      | false => exact ⟨false, rfl, po1 ρ1 H1 _ Ext.refl sr1 rfl⟩
    | _ => exact po1.elim⟩
theorem je_or (ha : JE X W a ma) (hb : JE X W (.BoolOp .Or (b :: rest) pos) mb) : JE X W (.BoolOp .Or (a :: b :: rest) pos) (mOr ma mb) :=
  PE_imp (pe_or ha hb) fun σ H Q ⟨ρ, env, s, sr, er, po⟩ => ⟨ρ, env, s, sr, er, (Po.bind po).imp fun v H1 ⟨ρ1, s1, d1, e1, sr1, r1, po1⟩ => by
    cases d1 with
    | bl q =>
      have e : v = .bl q := r1
      subst e
      cases q with
      | false => exact ⟨false, rfl, ρ1, env, s1, sr1, er.mono e1, po1⟩
      | true => exact ⟨true, rfl, po1 ρ1 H1 _ Ext.refl sr1 rfl⟩
    | _ => exact po1.elim⟩
theorem je_not (ha : JE X W a ma) : JE X W (.UnaryOp .Not a pos) (mNot ma) :=
  PE_imp (pe_not ha) fun σ H Q ⟨ρ, env, s, sr, er, po⟩ => ⟨ρ, env, s, sr, er, (Po.bind po).imp fun v H1 ⟨ρ1, s1, d1, e1, sr1, r1, po1⟩ => by
    cases d1 with
    | bl q =>
      have e : v = .bl q := r1
      subst e
      exact ⟨q, rfl, po1 ρ1 H1 _ Ext.refl sr1 rfl⟩
    | _ => exact po1.elim⟩
/-- a chain of two comparisons -/
def mCh (f g : D → D → Sto → Rs D) (ma mb mc : EM D) : EM D := fun env s => (ma env s).bind fun x s1 => (mb env s1).bind fun y s2 => (f x y s2).bind fun z s3 => match z with
  | .bl true => (mc env s3).bind fun w s4 => g y w s4
  | .bl false => .ok (.bl false) s3
  | _ => .no
theorem lch {f g : D → D → Sto → Rs D} {r r' : R2} (hp : Pr2 X W f r) (hp' : Pr2 X W g r') {σ : L2.St} {H : Hp} {Q : VK} (h : lE X.K X.mg W (mCh f g ma mb mc) σ H Q) :
    tChain r r' (lE X.K X.mg W ma) (lE X.K X.mg W mb) (lE X.K X.mg W mc) σ H Q :=
  let ⟨ρ, env, s, sr, er, po⟩ := h
  ⟨ρ, env, s, sr, er, (Po.bind po).imp fun _ _ ⟨ρ1, s1, d1, e1, sr1, r1, po1⟩ => ⟨ρ1, env, s1, sr1, er.mono e1, (Po.bind po1).imp fun _ _ ⟨ρ2, s2, d2, e2, sr2, r2, po2⟩ =>
    hp ρ2 s2 _ σ _ _ _ _ _ sr2 (r1.mono e2) r2 ((Po.bind po2).imp fun v H3 ⟨ρ3, s3, d3, e3, sr3, r3, po3⟩ => by
      cases d3 with
      | bl q =>
        have e : v = .bl q := r3
        subst e
        cases q with
        | true => exact ⟨true, rfl, ρ3, env, s3, sr3, ((er.mono e1).mono e2).mono e3, (Po.bind po3).imp fun _ _ ⟨ρ4, s4, d4, e4, sr4, r4, po4⟩ => hp' ρ4 s4 _ σ _ _ _ _ _ sr4 ((r2.mono e3).mono e4) r4 po4⟩
        | false => exact ⟨false, rfl, po3 ρ3 H3 _ Ext.refl sr3 rfl⟩
      | _ => exact po3.elim)⟩⟩
theorem je_ch {op op' : CmpOp} {f g : D → D → Sto → Rs D} {r r' : R2} (ho : OpR X (compareOp op) r) (ho' : OpR X (compareOp op') r') (hp : Pr2 X W f r) (hp' : Pr2 X W g r') (ha : JE X W a ma) (hb : JE X W b mb) (hc : JE X W c mc)
    (hm : lastMarks [op, op'] [b, c] = false := by with_unfolding_all rfl) : JE X W (.Compare a [op, op'] [b, c] pos) (mCh f g ma mb mc) := PE_imp (pe_chain ho ho' ha hb hc hm) fun _ _ _ => lch hp hp'
theorem jt_ch {op op' : CmpOp} {f g : D → D → Sto → Rs D} {r r' : R2} (ho : OpR X (compareOp op) r) (ho' : OpR X (compareOp op') r') (hp : Pr2 X W f r) (hp' : Pr2 X W g r') (ha : JE X W a ma) (hb : JE X W b mb) (hc : JE X W c mc)
    (hm : lastMarks [op, op'] [b, c] = false := by with_unfolding_all rfl) : JT X W (.Compare a [op, op'] [b, c] pos) (toB (mCh f g ma mb mc)) := PT_imp (pt_chain ho ho' ha hb hc hm) fun _ _ _ h => ltoB (fun _ => lch hp hp') h
/-! ### built-ins by name, methods, subscripts, displays -/
variable {id T : String} {x : Str} {p apos : Pos} {e : Expr}
theorem je_cb {f : List D → Sto → Rs D} {r : List V → Hp → VK → Prop} (hc : CallR X (.builtin id) r) (hp : PrN X W f r) (hg : Gl X x) (hm : X.mg x = none) (hv : bootBuiltins x = some (.builtin id)) (ha : JA X W (e :: es) ms) (hn : x ≠ "__name__" := by decide) (hdb : (x == ("__debug__" : Str)) = false := by decide)
    (he : starEach (e :: es) X.env = (false, eval e X.env) :: starEach es X.env := by rfl) (hpl : (backTo pos (starEach es X.env)).any (·.1) = false := by rfl) : JE X W (.Call (.Name x p) (e :: es) [] pos) (mN f ms) :=
  PE_imp (pe_callB hc hg hm hv ha hn hdb he hpl) fun _ _ _ => lcb hp
theorem je_ct {f : List D → Sto → Rs D} {r : List V → Hp → VK → Prop} (hc : CallR X (.type T) r) (hp : PrN X W f r) (hg : Gl X x) (hm : X.mg x = none) (hv : bootBuiltins x = some (.type T)) (ha : JA X W (e :: es) ms) (hn : x ≠ "__name__" := by decide) (hdb : (x == ("__debug__" : Str)) = false := by decide)
    (he : starEach (e :: es) X.env = (false, eval e X.env) :: starEach es X.env := by rfl) (hpl : (backTo pos (starEach es X.env)).any (·.1) = false := by rfl) : JE X W (.Call (.Name x p) (e :: es) [] pos) (mN f ms) :=
  PE_imp (pe_callTy hc hg hm hv ha hn hdb he hpl) fun _ _ _ => lcb hp
/-- the receiver of a built-in's method is of its type -/
def isTy (T : String) (s : Sto) : D → Bool
  | .str _ => T == "str"
  | .ref n => match s[n]? with
    | some (.lst _) => T == "list"
    | some (.frz _) => T == "list"
    | some (.dict _ _) => T == "dict"
    | _ => false
  | _ => false
def mBM (T : String) (f : D → List D → Sto → Rs D) (ma : EM D) (ms : EM (List D)) : EM D := fun env s => (ma env s).bind fun x s1 => if isTy T s1 x then (ms env s1).bind fun xs s2 => f x xs s2 else .no
theorem isTy_tyV {K : PySem.W.Frag} {mg : Str → Option Value} {ρ : Nat → Addr} {s : Sto} {H : Hp} {d : D} {v : V} (sr : SR K mg ρ s H) (r : VR K ρ s.length H d v) (h : isTy T s d = true) : tyV K T v H := by
  cases d with
  | str y =>
    have e : v = .str y := r
    subst e
    exact eq_of_beq h
  | ref n =>
    rw [VR] at r
    obtain ⟨hn, rfl⟩ := r
    have h2 : (match s[n]? with
      | some (.lst _) => T == "list"
      | some (.frz _) => T == "list"
      | some (.dict _ _) => T == "dict"
      | _ => false) = true := h
    cases e : s[n]? with
    | none => rw [e] at h2; cases h2
    | some o =>
      rw [e] at h2
      have ob := sr.ob n o e
      cases o with
      | lst xs =>
        obtain ⟨vs, q, _⟩ := ob
        exact .inl ⟨eq_of_beq h2, vs, .of q⟩
      | frz xs =>
        obtain ⟨vs, q, _⟩ := ob
        exact .inl ⟨eq_of_beq h2, vs, q.sq⟩
      | dict t kvs =>
        have e2 : T = "dict" := eq_of_beq h2
        cases t with
        | false =>
          obtain ⟨vs, q, _⟩ := ob
          exact .inr (.inr (.inl ⟨e2, .inl ⟨vs, q⟩⟩))
        | true =>
          obtain ⟨vs, q, _⟩ := ob
          exact .inr (.inr (.inl ⟨e2, .inr ⟨vs, q⟩⟩))
      | ins c fs => cases h2
      | lck t kvs => cases h2
      | set xs => cases h2
  | _ => cases h
variable {o : Expr} {name : Str} {cpos : Pos} {mo : EM D}
theorem lbm {f : D → List D → Sto → Rs D} {r : V → List V → Hp → VK → Prop} (hp : PrM X W f r) {σ : L2.St} {H : Hp} {Q : VK} (h : lE X.K X.mg W (mBM T f mo ms) σ H Q) : tBM X.K T r (lE X.K X.mg W mo) (lA X.K X.mg W ms) σ H Q :=
  let ⟨ρ, env, s, sr, er, po⟩ := h
  ⟨ρ, env, s, sr, er, (Po.bind po).imp fun _ H1 ⟨ρ1, s1, d1, e1, sr1, r1, po1⟩ => by
    dsimp only at po1
    cases hty : isTy T s1 d1 with
    | false =>
      rw [hty, if_neg Bool.false_ne_true] at po1
      exact po1.elim
    | true =>
      rw [hty, if_pos rfl] at po1
      exact ⟨isTy_tyV sr1 r1 hty, ρ1, env, s1, sr1, er.mono e1, (Po.bind po1).imp fun _ _ ⟨ρ2, s2, d2, e2, sr2, r2, po2⟩ => hp ρ2 s2 _ σ _ _ _ _ Q sr2 (r1.mono e2) r2 po2⟩⟩
theorem je_bm {f : D → List D → Sto → Rs D} {r : V → List V → Hp → VK → Prop} (pa : PlainAttrs T) (slot : Slot T name id) (hty : typeOf (.builtin id) = pure (.type "method_descriptor")) (hm : MtR X id r) (hp : PrM X W f r) (ho : JE X W o mo) (ha : JA X W (e :: es) ms)
    (hbase : attributeBase o name X.env (eval o X.env) = eval o X.env := by rfl)
    (hfew : ((backTo cpos (starEach (e :: es) X.env)).all (fun x => !x.1) && (backToKw cpos (keywordEach [] X.env)).all (fun x => x.1.isSome)
      && decide ((e :: es).length + ([] : List Keyword).length + (if ([] : List Keyword).isEmpty then 0 else 1) < 30)) = true := by rfl)
    (hline : (apos.endLine == cpos.line) = true := by rfl) (hs : starEach (e :: es) X.env = (false, eval e X.env) :: starEach es X.env := by rfl) (hplain : (backTo cpos (starEach es X.env)).any (·.1) = false := by rfl) :
    JE X W (.Call (.Attribute o name apos) (e :: es) [] cpos) (mBM T f mo ms) := PE_imp (pe_bm pa slot hty hm ho ha hbase hfew hline hs hplain) fun _ _ _ => lbm hp
theorem je_bm0 {f : D → List D → Sto → Rs D} {r : V → List V → Hp → VK → Prop} (pa : PlainAttrs T) (slot : Slot T name id) (hty : typeOf (.builtin id) = pure (.type "method_descriptor")) (hm : MtR X id r) (hp : PrM X W f r) (ho : JE X W o mo)
    (hbase : attributeBase o name X.env (eval o X.env) = eval o X.env := by rfl) (hline : (apos.endLine == cpos.line) = true := by rfl) : JE X W (.Call (.Attribute o name apos) [] [] cpos) (mBM T f mo aN) :=
  PE_imp (pe_bm0 pa slot hty hm ho hbase hline) fun σ H Q ⟨ρ, env, s, sr, er, po⟩ => ⟨ρ, env, s, sr, er, (Po.bind po).imp fun _ H1 ⟨ρ1, s1, d1, e1, sr1, r1, po1⟩ => by
    dsimp only at po1
    cases hty : isTy T s1 d1 with
    | false =>
      rw [hty, if_neg Bool.false_ne_true] at po1
      exact po1.elim
    | true =>
      rw [hty, if_pos rfl] at po1
      exact ⟨isTy_tyV sr1 r1 hty, hp ρ1 s1 _ σ _ _ _ _ Q sr1 r1 VRs.nil po1⟩⟩
theorem je_ix {f : D → D → Sto → Rs D} {r : R2} (hr : IxR X r) (hp : Pr2 X W f r) (ha : JE X W a ma) (hb : JE X W b mb) (hs : PlainIx b := by exact fun _ _ => rfl) : JE X W (.Subscript a b pos) (m2 f ma mb) := PE_imp (pe_ix hr ha hb hs) fun _ _ _ => lop hp
/-! ### slices -/
abbrev RO : Rl (Option Int) (Option Int) := fun _ _ _ b c => b = c
abbrev JO (X : Cx) (W : WX) (e : Option Expr) (m : EM (Option Int)) : Prop := PO X e (lG X.K X.mg RO W m)
def oN : EM (Option Int) := fun _ s => .ok none s
def oS (m : EM D) : EM (Option Int) := fun env s => (m env s).bind fun d s1 => match d with
  | .int i => .ok (some i) s1
  | _ => .no
theorem PO_imp {e : Option Expr} {t t' : TO} (h : PO X e t) (i : ∀ σ H Q, t' σ H Q → t σ H Q) : PO X e t' := ⟨fun p s σ H Q I q => h.run p s σ H Q I (i σ H Q q)⟩
theorem jo_none : JO X W none oN := PO_imp po_none fun σ H Q ⟨ρ, env, s, sr, er, po⟩ => po ρ H _ Ext.refl sr rfl
theorem jo_some (h : JE X W a ma) : JO X W (some a) (oS ma) := PO_imp (po_some h) fun σ H Q ⟨ρ, env, s, sr, er, po⟩ => ⟨ρ, env, s, sr, er, (Po.bind po).imp fun v H1 ⟨ρ1, s1, d1, e1, sr1, r1, po1⟩ => by
  cases d1 with
  | int i =>
    have e : v = .int i := r1
    exact ⟨i, e, po1 ρ1 H1 _ Ext.refl sr1 rfl⟩
  | _ => exact po1.elim⟩
def PrS (X : Cx) (W : WX) (f : D → Option Int → Option Int → Sto → Rs D) (r : V → Option Int → Option Int → Hp → VK → Prop) : Prop :=
  ∀ (ρ : Nat → Addr) (s : Sto) (H : Hp) (σ : L2.St) (x : D) (vx : V) (lo hi : Option Int) (Q : VK), SR X.K X.mg ρ s H → VR X.K ρ s.length H x vx → Po X.K X.mg (VR X.K) W σ ρ s.length H (f x lo hi s) Q → r vx lo hi H Q
def mSl (f : D → Option Int → Option Int → Sto → Rs D) (ma : EM D) (ml mh : EM (Option Int)) : EM D := fun env s => (ma env s).bind fun x s1 => (ml env s1).bind fun lo s2 => (mh env s2).bind fun hi s3 => f x lo hi s3
theorem je_sl {f : D → Option Int → Option Int → Sto → Rs D} {r : V → Option Int → Option Int → Hp → VK → Prop} {lo hi : Option Expr} {ml mh : EM (Option Int)} {p2 : Pos} (hr : SlR X r) (hp : PrS X W f r) (he : JE X W a ma) (hl : JO X W lo ml) (hu : JO X W hi mh) :
    JE X W (.Subscript a (.Slice lo hi none p2) pos) (mSl f ma ml mh) := PE_imp (pe_slice hr he hl hu) fun σ H Q ⟨ρ, env, s, sr, er, po⟩ =>
  ⟨ρ, env, s, sr, er, (Po.bind po).imp fun _ _ ⟨ρ1, s1, d1, e1, sr1, r1, po1⟩ => ⟨ρ1, env, s1, sr1, er.mono e1, (Po.bind po1).imp fun _ _ ⟨ρ2, s2, d2, e2, sr2, r2, po2⟩ =>
    ⟨ρ2, env, s2, sr2, (er.mono e1).mono e2, (Po.bind po2).imp fun _ _ ⟨ρ3, s3, d3, e3, sr3, r3, po3⟩ => by
      cases r2
      cases r3
      exact hp ρ3 s3 _ σ _ _ _ _ Q sr3 ((r1.mono e2).mono e3) po3⟩⟩⟩
/-! ### displays -/
theorem new_tup {K : PySem.W.Frag} {mg : Str → Option Value} {ρ : Nat → Addr} {s : Sto} {H : Hp} {ds : List D} {vs : List V} {q : Addr} (sr : SR K mg ρ s H) (hq : H q = none) (r : VRs K ρ s.length H ds vs) :
    Ext ρ s.length H ρ s.length (upd H q (.tup vs)) ∧ SR K mg ρ s (upd H q (.tup vs)) ∧ VR K ρ s.length (upd H q (.tup vs)) (.tup ds) (.ref q) := by
  have st : ∀ b o, H b = some o → upd H q (.tup vs) b = some o := fun b o e => by rw [upd_ne (ne_of_none e hq)]; exact e
  refine ⟨Ext.same st, sr.grow st, ?_⟩
  rw [VR]
  exact ⟨q, vs, rfl, .of upd_same, r.mono (Ext.same st)⟩
theorem new_lst {K : PySem.W.Frag} {mg : Str → Option Value} {ρ : Nat → Addr} {s : Sto} {H : Hp} {ds : List D} {vs : List V} {q : Addr} (sr : SR K mg ρ s H) (hq : H q = none) (r : VRs K ρ s.length H ds vs) :
    Ext ρ s.length H (ρup ρ s.length q) (s ++ [SO.lst ds]).length (upd H q (.lst vs)) ∧ SR K mg (ρup ρ s.length q) (s ++ [.lst ds]) (upd H q (.lst vs)) ∧ VR K (ρup ρ s.length q) (s ++ [SO.lst ds]).length (upd H q (.lst vs)) (.ref s.length) (.ref q) := by
  have st : ∀ b o, H b = some o → upd H q (.lst vs) b = some o := fun b o e => by rw [upd_ne (ne_of_none e hq)]; exact e
  rw [List.length_append]
  refine ⟨Ext.alloc st, sr.alloc hq st ⟨vs, upd_same, r.mono (Ext.alloc st)⟩, ?_⟩
  rw [VR]
  exact ⟨by simp, by rw [ρup_same]⟩
def fTup : List D → Sto → Rs D := fun ds s => if ds.length ≤ sizeLine then .ok (.tup ds) s else .no
def fLst : List D → Sto → Rs D := fun ds s => if ds.length ≤ sizeLine then .ok (.ref s.length) (s ++ [.lst ds]) else .no
theorem je_tup {k : Nat} (h : JA X W es ms) : JE X W (.Tuple es k pos) (mN fTup ms) := PE_imp (pe_tup h) fun σ H Q ⟨ρ, env, s, sr, er, po⟩ => ⟨ρ, env, s, sr, er, (Po.bind po).imp fun _ H1 ⟨ρ1, s1, d1, e1, sr1, r1, po1⟩ => by
  obtain ⟨hl, po1⟩ := Po.ite (c := d1.length ≤ sizeLine) po1
  · refine ⟨by rw [r1.length]; exact hl, fun q hq => ?_⟩
    obtain ⟨e2, sr2, r2⟩ := new_tup sr1 hq r1
    exact po1 ρ1 _ _ e2 sr2 r2⟩
theorem je_lst (h : JA X W es ms) : JE X W (.List es pos) (mN fLst ms) := PE_imp (pe_lst h) fun σ H Q ⟨ρ, env, s, sr, er, po⟩ => ⟨ρ, env, s, sr, er, (Po.bind po).imp fun _ H1 ⟨ρ1, s1, d1, e1, sr1, r1, po1⟩ => by
  obtain ⟨hl, po1⟩ := Po.ite (c := d1.length ≤ sizeLine) po1
  · refine ⟨by rw [r1.length]; exact hl, fun q hq => ?_⟩
    obtain ⟨e2, sr2, r2⟩ := new_lst sr1 hq r1
    exact po1 _ _ _ e2 sr2 r2⟩
end
end Z

set_option Elab.async false
set_option linter.all false
set_option maxRecDepth 100000
set_option maxHeartbeats 4000000
namespace Z
open PySem PySem.Spec PyProof.Rows L2
variable [Row]

/-! ### statements -/
def PoS (K : PySem.W.Frag) (mg : Str → Option Value) (W : WX) (D : Ends) (ρ : Nat → Addr) (n : Nat) (H : Hp) (r : RS) : Prop :=
  match r with
  | .nx e s' => ∀ ρ' H' σ', Ext ρ n H ρ' s'.length H' → SR K mg ρ' s' H' → EnvR K ρ' s'.length H' e σ' → D.nx σ' H'
  | .rt d s' => ∀ ρ' H' v, Ext ρ n H ρ' s'.length H' → SR K mg ρ' s' H' → VR K ρ' s'.length H' d v → D.rt v H'
  | .bk e s' => ∀ ρ' H' σ', Ext ρ n H ρ' s'.length H' → SR K mg ρ' s' H' → EnvR K ρ' s'.length H' e σ' → D.bk σ' H'
  | .ct e s' => ∀ ρ' H' σ', Ext ρ n H ρ' s'.length H' → SR K mg ρ' s' H' → EnvR K ρ' s'.length H' e σ' → D.ct σ' H'
  | .ex c f d e s' => ∀ ρ' H' σ' C dx v, Ext ρ n H ρ' s'.length H' → SR K mg ρ' s' H' → EnvR K ρ' s'.length H' e σ' → mg c = some (.ref C) → VR K ρ' s'.length H' d v → H' dx = some (.xd [(f, v)]) → W (.ref C) (some dx) σ' H'
  | .no => False
section
variable {K : PySem.W.Frag} {mg : Str → Option Value} {ρ ρ' ρ1 : Nat → Addr} {n n' n1 : Nat} {H H' H1 : Hp} {W : WX} {D : Ends}
theorem PoS.rebase {r : RS} (h : PoS K mg W D ρ n H r) (e : Ext ρ n H ρ1 n1 H1) : PoS K mg W D ρ1 n1 H1 r := by
  cases r with
  | nx env s => exact fun ρ' H' σ' e' => h ρ' H' σ' (e.trans e')
  | rt d s => exact fun ρ' H' v e' => h ρ' H' v (e.trans e')
  | bk env s => exact fun ρ' H' σ' e' => h ρ' H' σ' (e.trans e')
  | ct env s => exact fun ρ' H' σ' e' => h ρ' H' σ' (e.trans e')
  | ex c f d env s => exact fun ρ' H' σ' C dx v e' => h ρ' H' σ' C dx v (e.trans e')
  | no => exact h
def MidS (K : PySem.W.Frag) (mg : Str → Option Value) (ρ : Nat → Addr) (n : Nat) (H : Hp) (σ : L2.St) (H1 : Hp) (k : (Nat → Addr) → Ev → Sto → Prop) : Prop :=
  ∃ ρ1 env1 s1, Ext ρ n H ρ1 s1.length H1 ∧ SR K mg ρ1 s1 H1 ∧ EnvR K ρ1 s1.length H1 env1 σ ∧ k ρ1 env1 s1
theorem PoS.imp {D' : Ends} {r : RS} (h : PoS K mg W D ρ n H r) (h1 : ∀ σ H, D.nx σ H → D'.nx σ H) (h2 : ∀ v H, D.rt v H → D'.rt v H) (h3 : ∀ σ H, D.bk σ H → D'.bk σ H) (h4 : ∀ σ H, D.ct σ H → D'.ct σ H) : PoS K mg W D' ρ n H r := by
  cases r with
  | nx env s => exact fun ρ' H' σ' e sr er => h1 _ _ (h ρ' H' σ' e sr er)
  | rt d s => exact fun ρ' H' v e sr r => h2 _ _ (h ρ' H' v e sr r)
  | bk env s => exact fun ρ' H' σ' e sr er => h3 _ _ (h ρ' H' σ' e sr er)
  | ct env s => exact fun ρ' H' σ' e sr er => h4 _ _ (h ρ' H' σ' e sr er)
  | ex c f d env s => exact h
  | no => exact h
theorem PoS.seq {r : RS} {k : SM} (h : PoS K mg W D ρ n H (r.seq k)) :
    PoS K mg W { D with nx := fun σ H1 => MidS K mg ρ n H σ H1 fun ρ1 env1 s1 => PoS K mg W D ρ1 s1.length H1 (k env1 s1) } ρ n H r := by
  cases r with
  | nx env s => exact fun ρ' H' σ' e sr er => ⟨ρ', env, s, e, sr, er, PoS.rebase h e⟩
  | _ => exact h
theorem PoS.st {α β : Type} {R : Rl α β} {σ : L2.St} {r : Rs α} {env : Ev} {k : α → Sto → RS} (er : EnvR K ρ n H env σ) (h : PoS K mg W D ρ n H (r.st env k)) :
    Po K mg R W σ ρ n H r (fun v H1 => Mid K mg R ρ n H v H1 fun ρ1 s1 d => EnvR K ρ1 s1.length H1 env σ ∧ PoS K mg W D ρ1 s1.length H1 (k d s1)) := by
  cases r with
  | ok d s => exact fun ρ' H' v e sr r => ⟨ρ', s, d, e, sr, r, er.mono e, PoS.rebase h e⟩
  | ex c f d s => exact fun ρ' H' C dx v e sr => h ρ' H' σ C dx v e sr (er.mono e)
  | no => exact h
end
def lS (K : PySem.W.Frag) (mg : Str → Option Value) (W : WX) (m : SM) : TS :=
  fun D σ H => ∃ ρ env s, SR K mg ρ s H ∧ EnvR K ρ s.length H env σ ∧ PoS K mg W D ρ s.length H (m env s)
abbrev JS (X : Cx) (W : WX) (st : Stmt) (m : SM) : Prop := PS X st (lS X.K X.mg W m)
abbrev JSs (X : Cx) (W : WX) (st : List Stmt) (m : SM) : Prop := PSs X st (lS X.K X.mg W m)
def sN : SM := fun e s => .nx e s
def sC (a b : SM) : SM := fun e s => (a e s).seq b
def sA (i : Nat) (m : EM D) : SM := fun e s => (m e s).st e fun d s1 => .nx (e.set i (some d)) s1
def sE (m : EM D) : SM := fun e s => (m e s).st e fun _ s1 => .nx e s1
def sR (m : EM D) : SM := fun e s => (m e s).st e fun d s1 => .rt d s1
def sR0 : SM := fun _ s => .rt .non s
def sI (t : EM Bool) (a b : SM) : SM := fun e s => (t e s).st e fun q s1 => if q then a e s1 else b e s1
def sNo : SM := fun _ _ => .no
section
variable {X : Cx} {W : WX} {st : Stmt} {rest : List Stmt} {a b : SM} {e : Expr} {m : EM D} {pos : Pos}
theorem js_nil : JSs X W [] sN := PSs_imp pss_nil fun σ H D ⟨ρ, env, s, sr, er, po⟩ => po ρ H σ Ext.refl sr er
theorem js_cons (h1 : JS X W st a) (h2 : JSs X W rest b) : JSs X W (st :: rest) (sC a b) := PSs_imp (pss_cons h1 h2) fun σ H D ⟨ρ, env, s, sr, er, po⟩ =>
  ⟨ρ, env, s, sr, er, (PoS.seq po).imp (fun σ1 H1 ⟨ρ1, env1, s1, e1, sr1, er1, po1⟩ => ⟨ρ1, env1, s1, sr1, er1, po1⟩) (fun _ _ h => h) (fun _ _ h => h) fun _ _ h => h⟩
theorem js_one (h1 : JS X W st a) : JSs X W [st] a := pss_one h1
theorem js_pass : JS X W (.Pass pos) sN := PS_imp ps_pass fun σ H D ⟨ρ, env, s, sr, er, po⟩ => po ρ H σ Ext.refl sr er
theorem js_break : JS X W (.Break pos) (fun e s => .bk e s) := PS_imp ps_break fun σ H D ⟨ρ, env, s, sr, er, po⟩ => po ρ H σ Ext.refl sr er
theorem js_cont : JS X W (.Continue pos) (fun e s => .ct e s) := PS_imp ps_continue fun σ H D ⟨ρ, env, s, sr, er, po⟩ => po ρ H σ Ext.refl sr er
theorem js_no : JS X W st sNo := PS_imp ps_never fun σ H D ⟨ρ, env, s, sr, er, po⟩ => po
theorem jss_no : JSs X W rest sNo := PSs_imp pss_never fun σ H D ⟨ρ, env, s, sr, er, po⟩ => po
theorem js_expr (he : JE X W e m) (hs : swapsWith e none pos.line X.env = pure false := by rfl) : JS X W (.Expr e pos) (sE m) := PS_imp (ps_expr he hs) fun σ H D ⟨ρ, env, s, sr, er, po⟩ =>
  ⟨ρ, env, s, sr, er, (PoS.st (R := VR X.K) er po).imp fun v H1 ⟨ρ1, s1, d1, e1, sr1, r1, er1, po1⟩ => po1 ρ1 H1 σ Ext.refl sr1 er1⟩
theorem js_ret (he : JE X W e m) : JS X W (.Return (some e) pos) (sR m) := PS_imp (ps_ret he) fun σ H D ⟨ρ, env, s, sr, er, po⟩ =>
  ⟨ρ, env, s, sr, er, (PoS.st (R := VR X.K) er po).imp fun v H1 ⟨ρ1, s1, d1, e1, sr1, r1, er1, po1⟩ => po1 ρ1 H1 v Ext.refl sr1 r1⟩
theorem js_ret0 : JS X W (.Return none pos) sR0 := PS_imp ps_retN fun σ H D ⟨ρ, env, s, sr, er, po⟩ => po ρ H .non Ext.refl sr rfl
theorem js_if {c : Expr} {t : EM Bool} {as bs : List Stmt} (ht : JT X W c t) (ha : JSs X W as a) (hb : JSs X W bs b) : JS X W (.If c as bs pos) (sI t a b) := PS_imp (ps_if ht ha hb) fun σ H D ⟨ρ, env, s, sr, er, po⟩ =>
  ⟨ρ, env, s, sr, er, (PoS.st (R := RB) er po).imp fun v H1 ⟨ρ1, s1, d1, e1, sr1, r1, er1, po1⟩ => by
    have q : d1 = v := r1
    subst q
    cases d1 with
    | true => exact ⟨ρ1, env, s1, sr1, er1, po1⟩
    | false => exact ⟨ρ1, env, s1, sr1, er1, po1⟩⟩
/-! ### assignments -/
/-- a target's store -/
abbrev GM := D → Ev → Sto → Option (Ev × Sto)
def PrG (X : Cx) (g : TG) (f : GM) : Prop :=
  ∀ (ρ : Nat → Addr) (s : Sto) (H : Hp) (σ : L2.St) (env : Ev) (x : D) (vx : V) (Q : L2.St → Hp → Prop) (env' : Ev) (s' : Sto), SR X.K X.mg ρ s H → EnvR X.K ρ s.length H env σ → VR X.K ρ s.length H x vx → f x env s = some (env', s') →
    (∀ ρ' H' σ', Ext ρ s.length H ρ' s'.length H' → SR X.K X.mg ρ' s' H' → EnvR X.K ρ' s'.length H' env' σ' → Q σ' H') → g vx σ H Q
/-- targets that keep the store: names, tuples of names -/
abbrev GN := D → Ev → Option Ev
def gN (i : Nat) : GN := fun d e => some (e.set i (some d))
def gTs : List GN → List D → Ev → Option Ev
  | [], [], e => some e
  | g :: gs, d :: ds, e => (g d e).bind fun e' => gTs gs ds e'
  | _, _, _ => none
def gT (gs : List GN) : GN := fun d e => match d with
  | .tup ds => gTs gs ds e
  | _ => none
theorem wipe_set {σ : L2.St} {i : Nat} {v : Option V} : ∀ {vs : List Nat}, i ∈ vs → wipe (σ.set i v) vs = wipe σ vs
  | [], h => by simp at h
  | w :: vs, h => by
    show (wipe (σ.set i v) vs).set w none = (wipe σ vs).set w none
    by_cases hm : i ∈ vs
    · rw [wipe_set hm]
    · have hw : i = w := by
        rcases List.mem_cons.mp h with h | h
        · exact h
        · exact absurd h hm
      subst hw
      have out : ∀ {us : List Nat}, i ∉ us → wipe (σ.set i v) us = (wipe σ us).set i v := by
        intro us
        induction us with
        | nil => intro _; rfl
        | cons u us ih =>
          intro hu
          simp only [List.mem_cons, not_or] at hu
          show (wipe (σ.set i v) us).set u none = ((wipe σ us).set u none).set i v
          rw [ih hu.2, List.set_comm _ _ hu.1]
      rw [out hm, List.set_set]
/-- a target's reading: it sets the slots at is alone -/
def GQ (K : PySem.W.Frag) (f : GN) (is : List Nat) (g : TG) : Prop :=
  ∀ (ρ : Nat → Addr) (s : Sto) (H : Hp) (σ : L2.St) (env env' : Ev) (x : D) (vx : V) (Q : L2.St → Hp → Prop), EnvR K ρ s.length H env σ → VR K ρ s.length H x vx → f x env = some env' →
    (∀ σ', EnvR K ρ s.length H env' σ' → (∀ vs, (∀ i ∈ is, i ∈ vs) → wipe σ' vs = wipe σ vs) → Q σ' H) → g vx σ H Q
def GQs (K : PySem.W.Frag) (fs : List GN) (is : List Nat) (g : TGs) : Prop :=
  ∀ (ρ : Nat → Addr) (s : Sto) (H : Hp) (σ : L2.St) (env env' : Ev) (xs : List D) (vs : List V) (Q : L2.St → Hp → Prop), EnvR K ρ s.length H env σ → VRs K ρ s.length H xs vs → gTs fs xs env = some env' →
    (∀ σ', EnvR K ρ s.length H env' σ' → (∀ vs, (∀ i ∈ is, i ∈ vs) → wipe σ' vs = wipe σ vs) → Q σ' H) → g vs σ H Q
theorem gq_n {K : PySem.W.Frag} {i : Nat} : GQ K (gN i) [i] (gName i) := fun ρ s H σ env env' x vx Q er r e q => by
  cases e
  exact q _ (er.set r) fun vs h => wipe_set (h i (by simp))
theorem gqs_nil {K : PySem.W.Frag} : GQs K [] [] gNil := fun ρ s H σ env env' xs vs Q er r e q => by
  cases xs with
  | nil =>
    rw [VRs] at r
    subst r
    cases e
    exact ⟨rfl, q _ er fun _ _ => rfl⟩
  | cons _ _ => cases e
theorem gqs_cons {K : PySem.W.Frag} {f : GN} {fs : List GN} {is js : List Nat} {g : TG} {gs : TGs} (h : GQ K f is g) (hs : GQs K fs js gs) : GQs K (f :: fs) (is ++ js) (gCons g gs) := fun ρ s H σ env env' xs vs Q er r e k => by
  cases xs with
  | nil => cases e
  | cons x xs =>
    obtain ⟨v, vr, rfl, r1, r2⟩ := r.uncons
    obtain ⟨e1, h1, h2⟩ := Option.bind_eq_some_iff.mp e
    exact ⟨v, vr, rfl, h ρ s H σ env e1 x v _ er r1 h1 fun σ' er' w1 => hs ρ s H σ' e1 env' xs vr Q er' r2 h2 fun σ2 er2 w2 => k σ2 er2 fun vs hv => (w2 vs fun i hi => hv i (List.mem_append_right _ hi)).trans (w1 vs fun i hi => hv i (List.mem_append_left _ hi))⟩
theorem gTs_len : ∀ {fs : List GN} {xs : List D} {e e' : Ev}, gTs fs xs e = some e' → xs.length = fs.length
  | [], [], _, _, _ => rfl
  | [], _ :: _, _, _, h => by cases h
  | _ :: _, [], _, _, h => by cases h
  | f :: fs, x :: xs, e, e', h => by
    obtain ⟨e1, h1, h2⟩ := Option.bind_eq_some_iff.mp h
    rw [List.length_cons, List.length_cons, gTs_len h2]
theorem gq_t {K : PySem.W.Frag} {fs : List GN} {is : List Nat} {gs : TGs} {n : Nat} (h : GQs K fs is gs) (hn : fs.length = n := by rfl) : GQ K (gT fs) is (gTup K n gs) := fun ρ s H σ env env' x vx Q er r e k => by
  cases x with
  | tup ds =>
    rw [VR] at r
    obtain ⟨a, vs, rfl, sq, r⟩ := r
    exact ⟨a, vs, rfl, sq, by rw [r.length, gTs_len e, hn], h ρ s H σ env env' ds vs Q er r e k⟩
  | _ => cases e
/-- target = e -/
def sG (g : GN) (m : EM D) : SM := fun e s => (m e s).st e fun d s1 => match g d e with
  | some e' => .nx e' s1
  | none => .no
theorem js_asg {tg : Expr} {g : GN} {g' : TG} {is : List Nat} (he : JE X W e m) (hg' : PG X tg g') (q : GQ X.K g is g') (hs : swapsWithSole [tg] e pos.line X.env = pure false := by rfl) (hw : swappedStores [tg] e X.env = pure none := by rfl)
    (h1 : (assignEach [tg] X.env).map (·.2) = [assign tg X.env] := by rfl) : JS X W (.Assign [tg] e pos) (sG g m) := by
  refine PS_imp (ps_asg he hg' hs hw h1) fun σ H D ⟨ρ, env, s, sr, er, po⟩ => ⟨ρ, env, s, sr, er, (PoS.st (R := VR X.K) er po).imp fun v H1 ⟨ρ1, s1, d1, e1, sr1, r1, er1, po1⟩ => ?_⟩
  cases hq : g d1 env with
  | none => rw [hq] at po1; exact po1.elim
  | some env' =>
    rw [hq] at po1
    exact q ρ1 s1 H1 σ env env' d1 v _ er1 r1 hq fun σ' er' _ => po1 ρ1 H1 σ' Ext.refl sr1 er'
theorem js_set {i : Nat} {x : Str} {pos' : Pos} (hN : X.N.Nodup) (hi : X.N[i]? = some x) (hx : Loc X.env.scope x) (he : JE X W e m) (hs : swapsWith e (some (.Name x pos')) pos.line X.env = pure false := by rfl) (hf : X.fn x = true ∨ X.env.scope.names.lookup x = some .local := by first | exact .inl rfl | exact .inr rfl | assumption) :
    JS X W (.Assign [.Name x pos'] e pos) (sA i m) := PS_imp (ps_set hN hi hx he hs hf) fun σ H D ⟨ρ, env, s, sr, er, po⟩ =>
  ⟨ρ, env, s, sr, er, (PoS.st (R := VR X.K) er po).imp fun v H1 ⟨ρ1, s1, d1, e1, sr1, r1, er1, po1⟩ => po1 ρ1 H1 _ Ext.refl sr1 (er1.set r1)⟩
/-- a, b = x, y -/
def sP (i j : Nat) (ms : EM (List D)) : SM := fun e s => (ms e s).st e fun ds s1 => match ds with
  | [x, y] => .nx ((e.set i (some x)).set j (some y)) s1
  | _ => .no
theorem js_par {i j : Nat} {x y : Str} {ea eb : Expr} {ms : EM (List D)} {px py pt : Pos} {kt k2 pt2} (hc : X.calm = true) (hN : X.N.Nodup) (hi : X.N[i]? = some x) (hj : X.N[j]? = some y) (hij : i ≠ j)
    (hx : X.env.scope.names.lookup x = some .local) (hy : X.env.scope.names.lookup y = some .local) (ha : JA X W [ea, eb] ms)
    (hw : swappedStores [.Tuple [.Name x px, .Name y py] kt pt] (.Tuple [ea, eb] k2 pt2) X.env = pure (some [x, y]))
    (hs : swapsWithSole [.Tuple [.Name x px, .Name y py] kt pt] (.Tuple [ea, eb] k2 pt2) pos.line X.env = pure false := by rfl) :
    JS X W (.Assign [.Tuple [.Name x px, .Name y py] kt pt] (.Tuple [ea, eb] k2 pt2) pos) (sP i j ms) := PS_imp (ps_par hc hN hi hj hij hx hy ha hw hs) fun σ H D ⟨ρ, env, s, sr, er, po⟩ =>
  ⟨ρ, env, s, sr, er, (PoS.st (R := VRs X.K) er po).imp fun v H1 ⟨ρ1, s1, d1, e1, sr1, r1, er1, po1⟩ => by
    split at po1
    · rename_i x y
      obtain ⟨v1, vr, rfl, r2, r3⟩ := r1.uncons
      obtain ⟨v2, rfl, r4⟩ := r3.one
      exact ⟨v1, v2, rfl, po1 ρ1 H1 _ Ext.refl sr1 ((er1.set r2).set r4)⟩
    · exact po1.elim⟩
/-- o[i] = e -/
def PrSet (X : Cx) (f : D → D → D → Sto → Option Sto) (t : TSet) : Prop :=
  ∀ (ρ : Nat → Addr) (s s' : Sto) (H : Hp) (o i x : D) (vo vi vx : V) (Q : Hp → Prop), SR X.K X.mg ρ s H → VR X.K ρ s.length H o vo → VR X.K ρ s.length H i vi → VR X.K ρ s.length H x vx → f o i x s = some s' →
    (∀ ρ' H', Ext ρ s.length H ρ' s'.length H' → SR X.K X.mg ρ' s' H' → Q H') → t vo vi vx H Q
def sX (f : D → D → D → Sto → Option Sto) (mo mi m : EM D) : SM := fun e s => (m e s).st e fun x s1 => (mo e s1).st e fun o s2 => (mi e s2).st e fun i s3 => match f o i x s3 with
  | some s4 => .nx e s4
  | none => .no
theorem js_sub {o i : Expr} {mo mi : EM D} {f : D → D → D → Sto → Option Sto} {t : TSet} {spos : Pos} (ht : PSet X t) (hp : PrSet X f t) (he : JE X W e m) (ho : JE X W o mo) (hi : JE X W i mi)
    (ha : ∀ v, assign (.Subscript o i spos) X.env v = (do
      let ov ← holding [v] (eval o X.env)
      let iv ← holding [v, ov] (eval i X.env)
      standAt spos
      holding [v, ov, iv] (setItem ov iv v)
      release [v, ov, iv] []) := by intro _; rfl)
    (hs : swapsWithSole [.Subscript o i spos] e pos.line X.env = pure false := by rfl) (hw : swappedStores [.Subscript o i spos] e X.env = pure none := by rfl)
    (h1 : (assignEach [.Subscript o i spos] X.env).map (·.2) = [assign (.Subscript o i spos) X.env] := by rfl) : JS X W (.Assign [.Subscript o i spos] e pos) (sX f mo mi m) :=
  PS_imp (ps_asg he (pg_sub ho hi ht ha) hs hw h1) fun σ H D ⟨ρ, env, s, sr, er, po⟩ => ⟨ρ, env, s, sr, er, (PoS.st (R := VR X.K) er po).imp fun v H1 ⟨ρ1, s1, d1, e1, sr1, r1, er1, po1⟩ =>
    ⟨ρ1, env, s1, sr1, er1, (PoS.st (R := VR X.K) er1 po1).imp fun v2 H2 ⟨ρ2, s2, d2, e2, sr2, r2, er2, po2⟩ =>
      ⟨ρ2, env, s2, sr2, er2, (PoS.st (R := VR X.K) er2 po2).imp fun v3 H3 ⟨ρ3, s3, d3, e3, sr3, r3, er3, po3⟩ => by
        cases hq : f d2 d3 d1 s3 with
        | none => rw [hq] at po3; exact po3.elim
        | some s4 =>
          rw [hq] at po3
          exact hp ρ3 s3 s4 H3 d2 d3 d1 v2 v3 v _ sr3 (r2.mono e3) r3 ((r1.mono e2).mono e3) hq fun ρ' H' e4 sr4 => po3 ρ' H' σ e4 sr4 (er3.mono e4)⟩⟩⟩
end
end Z

set_option Elab.async false
set_option linter.all false
set_option maxRecDepth 100000
set_option maxHeartbeats 4000000
namespace Z
open PySem PySem.Spec PyProof.Rows L2
variable [Row]

/-! ### what is walked: at turn i over the store: none: stuck; some none: the end; else the item -/
abbrev Stp := Nat → Sto → Option (Option D)
def RI (K : PySem.W.Frag) (mg : Str → Option Value) : Rl (Nat × Stp) It := fun ρ n H jt J =>
  ∀ (ρ' : Nat → Addr) (s' : Sto) (H' : Hp) (i : Nat), Ext ρ n H ρ' s'.length H' → SR K mg ρ' s' H' → match jt.2 i s' with
    | none => True
    | some none => J.stop i H'
    | some (some d) => J.go i H' ∧ ∀ x H'', J.yld i H' x H'' → Ext ρ' s'.length H' ρ' s'.length H'' ∧ SR K mg ρ' s' H'' ∧ VR K ρ' s'.length H'' d x
abbrev JI (X : Cx) (W : WX) (tg iter : Expr) (mi : EM (Nat × Stp)) : Prop := PI X tg iter (lG X.K X.mg (RI X.K X.mg) W mi)
theorem PI_imp {X : Cx} {tg e : Expr} {t t' : TI} (h : PI X tg e t) (i : ∀ σ H Q, t' σ H Q → t σ H Q) : PI X tg e t' := ⟨fun p s σ H Q I q => h.run p s σ H Q I (i σ H Q q)⟩
def jLst (n : Nat) : Stp := fun i s => match s[n]? with
  | some (.lst xs) => some xs[i]?
  | some (.frz xs) => some xs[i]?
  | _ => none
def jTup (ds : List D) : Stp := fun i _ => some ds[i]?
def jRng (lo : Int) (n : Nat) : Stp := fun i _ => some (if i < n then some (.int (lo + i)) else none)
/-- a list or a tuple -/
def iSq (m : EM D) : EM (Nat × Stp) := fun e s => (m e s).bind fun d s1 => match d with
  | .tup ds => .ok (ds.length, jTup ds) s1
  | .ref n => match s1[n]? with
    | some (.lst xs) => .ok (xs.length, jLst n) s1
    | some (.frz xs) => .ok (xs.length, jLst n) s1
    | _ => .no
  | _ => .no
section
variable {K : PySem.W.Frag} {mg : Str → Option Value} {ρ : Nat → Addr} {s : Sto} {H : Hp}
/-- a place that is a list is read -/
def lstAt (s : Sto) (n : Nat) : Option (List D) := match s[n]? with
  | some (.lst xs) => some xs
  | some (.frz xs) => some xs
  | _ => none
theorem SR.lst (sr : SR K mg ρ s H) {n : Nat} {xs : List D} (h : lstAt s n = some xs) : ∃ vs, SqL K H (ρ n) vs ∧ VRs K ρ s.length H xs vs := by
  unfold lstAt at h
  cases e : s[n]? with
  | none => rw [e] at h; cases h
  | some o =>
    rw [e] at h
    have ob := sr.ob n o e
    cases o with
    | lst ys =>
      cases h
      obtain ⟨vs, q, r⟩ := ob
      exact ⟨vs, .of q, r⟩
    | frz ys =>
      cases h
      obtain ⟨vs, q, r⟩ := ob
      exact ⟨vs, q.sq, r⟩
    | _ => cases h
omit [Row] in
theorem lstAt_lt {n : Nat} {xs : List D} (h : lstAt s n = some xs) : n < s.length := by
  unfold lstAt at h
  cases e : s[n]? with
  | none => rw [e] at h; cases h
  | some o => exact (List.getElem?_eq_some_iff.mp e).1
omit [Row] in
theorem jLst_eq (n i : Nat) (s : Sto) : jLst n i s = (lstAt s n).map fun xs => xs[i]? := by
  unfold jLst lstAt
  cases s[n]? with
  | none => rfl
  | some o => cases o <;> rfl
end
section
variable {X : Cx} {W : WX} {pos : Pos}
theorem SqL_fun {K : PySem.W.Frag} {H : Hp} {a : Addr} {xs ys : List V} (h : SqL K H a xs) (h' : SqL K H a ys) (nk : (∃ o, H a = some o) → K.lookup a = none ∨ True) : True := trivial
/-- the list walked: what is yielded is its item -/
theorem ri_lst {ρ : Nat → Addr} {n m : Nat} {H : Hp} {N : Nat} (hm : m < n) : RI X.K X.mg ρ n H (N, jLst m) (Itl X.K (ρ m)) := by
  intro ρ' s' H' i e sr
  show match jLst m i s' with
    | none => True
    | some none => _
    | some (some d) => _
  rw [jLst_eq]
  cases h : lstAt s' m with
  | none => trivial
  | some xs =>
    obtain ⟨vs, sq, r⟩ := sr.lst h
    rw [e.ag m hm] at sq
    cases hx : xs[i]? with
    | none =>
      simp only [Option.map, hx]
      exact ⟨vs, sq, by rw [r.length]; exact List.getElem?_eq_none_iff.mp hx⟩
    | some d =>
      simp only [Option.map, hx]
      obtain ⟨v, hv, rv⟩ := r.get hx
      refine ⟨⟨vs, v, sq, hv⟩, fun x H'' y => ?_⟩
      obtain ⟨rfl, y⟩ := y
      have q := y vs sq
      rw [hv] at q
      cases q
      exact ⟨Ext.refl, sr, rv⟩
theorem ri_tup {ρ : Nat → Addr} {n : Nat} {H : Hp} {N : Nat} {ds : List D} {vs : List V} {a : Addr} (sq : SqT X.K H a vs) (r : VRs X.K ρ n H ds vs) : RI X.K X.mg ρ n H (N, jTup ds) (Itt X.K a) := by
  intro ρ' s' H' i e sr
  show match some ds[i]? with
    | none => True
    | some none => _
    | some (some d) => _
  have r' := r.mono e
  have sq' := e.sqt sq
  cases hx : ds[i]? with
  | none => exact ⟨vs, sq', by rw [r'.length]; exact List.getElem?_eq_none_iff.mp hx⟩
  | some d =>
    obtain ⟨v, hv, rv⟩ := r'.get hx
    refine ⟨⟨vs, v, sq', hv⟩, fun x H'' y => ?_⟩
    obtain ⟨rfl, y⟩ := y
    have q := y vs sq'
    rw [hv] at q
    cases q
    exact ⟨Ext.refl, sr, rv⟩
theorem ri_rng {ρ : Nat → Addr} {n : Nat} {H : Hp} {N : Nat} {lo : Int} {k : Nat} : RI X.K X.mg ρ n H (N, jRng lo k) (Itr lo k) := by
  intro ρ' s' H' i e sr
  show match some (if i < k then some (D.int (lo + i)) else none) with
    | none => True
    | some none => _
    | some (some d) => _
  by_cases h : i < k
  · rw [if_pos h]
    refine ⟨h, fun x H'' y => ?_⟩
    obtain ⟨rfl, rfl⟩ := y
    exact ⟨Ext.refl, sr, rfl⟩
  · rw [if_neg h]
    exact Nat.le_of_not_lt h
variable {tg l : Expr} {m : EM D}
/-- the walk's two kinds -/
def iLsT (K : PySem.W.Frag) (tl : TE) : TI := fun σ H R => tl σ H fun x H1 => ∃ a, x = .ref a ∧ ((∃ xs, SqL K H1 a xs) ∧ R (Itl K a) H1 ∨ (∃ xs, SqT K H1 a xs) ∧ R (Itt K a) H1)
theorem pi_sq {tl : TE} (hl : PE X l tl) : PI X tg l (iLsT X.K tl) := by
  refine ⟨fun pins s σ H R I h => ?_⟩
  refine thn (hl.run pins s σ H _ I h) fun v s1 ⟨x, H1, I1, r1, q1⟩ => ?_
  obtain ⟨a, e, q⟩ := q1
  subst e
  cases r1
  rcases q with ⟨⟨xs, hq⟩, q⟩ | ⟨⟨xs, hq⟩, q⟩
  · obtain ⟨its, rv, p, hz⟩ := I1.list hq
    refine wpAny_pyIter_list p.isList ?_
    refine ⟨s1.heap.objs.size, [s1.heap.objs.size], _, _, H1, rfl, I1.kept (t' := s1.toks) fun b o e => Heap.get?_push_of_some _ e, turn_list a _, ⟨_, Heap.get?_push_size _ rfl, rfl, rfl⟩, fun b hb => ?_, q⟩
    have e : b = s1.heap.objs.size := by simpa using hb
    subst e
    exact I1.fpOk (Nat.le_refl _) (I1.hok.fresh (Nat.le_refl _))
  · obtain ⟨its, rv, p, hz⟩ := I1.tuple hq
    refine wpAny_pyIter_tuple (show s1.heap.IsTuple a its.toArray from p) ?_
    refine ⟨s1.heap.objs.size, [s1.heap.objs.size], _, _, H1, rfl, I1.kept (t' := s1.toks) fun b o e => Heap.get?_push_of_some _ e, turn_tuple a _, ⟨_, Heap.get?_push_size _ rfl, rfl, rfl⟩, fun b hb => ?_, q⟩
    have e : b = s1.heap.objs.size := by simpa using hb
    subst e
    exact I1.fpOk (Nat.le_refl _) (I1.hok.fresh (Nat.le_refl _))
theorem ji_sq (hl : JE X W l m) : JI X W tg l (iSq m) := PI_imp (pi_sq hl) fun σ H Q ⟨ρ, env, s, sr, er, po⟩ => ⟨ρ, env, s, sr, er, (Po.bind po).imp fun v H1 ⟨ρ1, s1, d1, e1, sr1, r1, po1⟩ => by
  cases d1 with
  | tup ds =>
    rw [VR] at r1
    obtain ⟨a, vs, rfl, sq, r⟩ := r1
    exact ⟨a, rfl, .inr ⟨⟨vs, sq⟩, po1 ρ1 H1 _ Ext.refl sr1 (ri_tup sq r)⟩⟩
  | ref n =>
    rw [VR] at r1
    obtain ⟨hn, rfl⟩ := r1
    have po2 : Po X.K X.mg (RI X.K X.mg) W σ ρ1 s1.length H1 (match s1[n]? with
      | some (.lst xs) => .ok (xs.length, jLst n) s1
      | some (.frz xs) => .ok (xs.length, jLst n) s1
      | _ => .no) Q := po1
    cases e : s1[n]? with
    | none => rw [e] at po2; exact po2.elim
    | some o =>
      rw [e] at po2
      cases o with
      | lst xs =>
        obtain ⟨vs, sq, _⟩ := sr1.lst (n := n) (xs := xs) (by unfold lstAt; rw [e])
        exact ⟨_, rfl, .inl ⟨⟨vs, sq⟩, po2 ρ1 H1 _ Ext.refl sr1 (ri_lst hn)⟩⟩
      | frz xs =>
        obtain ⟨vs, sq, _⟩ := sr1.lst (n := n) (xs := xs) (by unfold lstAt; rw [e])
        exact ⟨_, rfl, .inl ⟨⟨vs, sq⟩, po2 ρ1 H1 _ Ext.refl sr1 (ri_lst hn)⟩⟩
      | _ => exact po2.elim
  | _ => exact po1.elim⟩
/-- range(n), range(a, b) -/
def iR1 (ms : EM (List D)) : EM (Nat × Stp) := fun e s => (ms e s).bind fun ds s1 => match ds with
  | [.int j] => if -(2 ^ 62) ≤ j ∧ j < 2 ^ 62 then .ok (j.toNat, jRng 0 j.toNat) s1 else .no
  | _ => .no
def iR2 (ms : EM (List D)) : EM (Nat × Stp) := fun e s => (ms e s).bind fun ds s1 => match ds with
  | [.int i, .int j] => if -(2 ^ 62) ≤ i ∧ i < 2 ^ 62 ∧ -(2 ^ 62) ≤ j ∧ j < 2 ^ 62 then .ok ((j - i).toNat, jRng i (j - i).toNat) s1 else .no
  | _ => .no
variable {a b : Expr} {ms : EM (List D)} {p : Pos}
theorem ji_range1 (hg : Gl X "range") (hm : X.mg "range" = none) (ha : JA X W [a] ms) (hs : starEach [a] X.env = [(false, eval a X.env)] := by rfl) : JI X W tg (.Call (.Name "range" p) [a] [] pos) (iR1 ms) :=
  PI_imp (pi_range1 hg hm ha hs) fun σ H Q ⟨ρ, env, s, sr, er, po⟩ => ⟨ρ, env, s, sr, er, (Po.bind po).imp fun v H1 ⟨ρ1, s1, d1, e1, sr1, r1, po1⟩ => by
    dsimp only at po1
    split at po1
    · rename_i j
      obtain ⟨u, rfl, ru⟩ := r1.one
      obtain rfl : u = .int j := ru
      obtain ⟨⟨h1, h2⟩, po1⟩ := Po.ite po1
      exact ⟨j, rfl, h1, h2, po1 ρ1 H1 _ Ext.refl sr1 ri_rng⟩
    · exact po1.elim⟩
theorem ji_range2 (hg : Gl X "range") (hm : X.mg "range" = none) (ha : JA X W [a, b] ms) (hs : starEach [a, b] X.env = [(false, eval a X.env), (false, eval b X.env)] := by rfl) (hs2 : starEach [b] X.env = [(false, eval b X.env)] := by rfl) : JI X W tg (.Call (.Name "range" p) [a, b] [] pos) (iR2 ms) :=
  PI_imp (pi_range2 hg hm ha hs hs2) fun σ H Q ⟨ρ, env, s, sr, er, po⟩ => ⟨ρ, env, s, sr, er, (Po.bind po).imp fun v H1 ⟨ρ1, s1, d1, e1, sr1, r1, po1⟩ => by
    dsimp only at po1
    split at po1
    · rename_i i j
      obtain ⟨u, vr, rfl, ru, rr⟩ := r1.uncons
      obtain ⟨u2, rfl, ru2⟩ := rr.one
      obtain rfl : u = .int i := ru
      obtain rfl : u2 = .int j := ru2
      obtain ⟨hb, po1⟩ := Po.ite po1
      exact ⟨i, j, rfl, hb, po1 ρ1 H1 _ Ext.refl sr1 ri_rng⟩
    · exact po1.elim⟩
end

/-! ### for, while -/
def forL (j : Stp) (g : GN) (body : SM) : Nat → Nat → Ev → Sto → RS
  | 0, i, e, s => match j i s with
    | some none => .nx e s
    | _ => .no
  | f + 1, i, e, s => match j i s with
    | none => .no
    | some none => .nx e s
    | some (some d) => match g d e with
      | none => .no
      | some e1 => match body e1 s with
        | .nx e2 s2 => forL j g body f (i + 1) e2 s2
        | .ct e2 s2 => forL j g body f (i + 1) e2 s2
        | .bk e2 s2 => .nx e2 s2
        | r => r
def sF (mi : EM (Nat × Stp)) (g : GN) (body : SM) : SM := fun e s => (mi e s).st e fun jt s1 => forL jt.2 g body jt.1 0 e s1
def whL (t : EM Bool) (body : SM) : Nat → Ev → Sto → RS
  | 0, _, _ => .no
  | f + 1, e, s => (t e s).st e fun q s1 => if q then match body e s1 with
      | .nx e2 s2 => whL t body f e2 s2
      | .ct e2 s2 => whL t body f e2 s2
      | .bk e2 s2 => .nx e2 s2
      | r => r
    else .nx e s1
def sW (f : Nat) (t : EM Bool) (body : SM) : SM := fun e s => whL t body f e s
section
variable {X : Cx} {W : WX} {pos : Pos}
theorem js_for {tg iter : Expr} {body : List Stmt} {mi : EM (Nat × Stp)} {g : GN} {g' : TG} {is : List Nat} {mb : SM} (hp : PassesOwn (model X.prog X.w) X.A X.env X.xe) (hc : X.calm = true) (hi : JI X W tg iter mi) (hg' : PG X tg g') (gq : GQ X.K g is g') (hb : JSs X W body mb)
    (hs : ∀ x, foldedSetIterable iter X.env x = pure x := by intro _; rfl) : JS X W (.For tg iter body [] pos) (sF mi g mb) := by
  refine PS_imp (ps_for hp hc hi hg' hb hs) fun σ H D ⟨ρ, env, s, sr, er, po⟩ => ⟨ρ, env, s, sr, er, (PoS.st (R := RI X.K X.mg) er po).imp fun J H1 ⟨ρ1, s1, jt, e1, sr1, ri, er1, po1⟩ => ?_⟩
  refine ⟨fun i m σ2 H2 => ∃ ρ2 env2 s2, Ext ρ1 s1.length H1 ρ2 s2.length H2 ∧ SR X.K X.mg ρ2 s2 H2 ∧ EnvR X.K ρ2 s2.length H2 env2 σ2 ∧ PoS X.K X.mg W D ρ2 s2.length H2 (forL jt.2 g mb m i env2 s2), ⟨jt.1, ρ1, env, s1, Ext.refl, sr1, er1, po1⟩, ?_⟩
  rintro i m σ2 H2 ⟨ρ2, env2, s2, x2, sr2, er2, po2⟩
  have hj := ri ρ2 s2 H2 i x2 sr2
  cases m with
  | zero =>
    rw [forL] at po2
    cases e : jt.2 i s2 with
    | none => rw [e] at po2; exact po2.elim
    | some o =>
      rw [e] at po2 hj
      cases o with
      | none => exact .inl ⟨hj, po2 ρ2 H2 σ2 Ext.refl sr2 er2⟩
      | some d => exact po2.elim
  | succ f =>
    rw [forL] at po2
    cases e : jt.2 i s2 with
    | none => rw [e] at po2; exact po2.elim
    | some o =>
      rw [e] at po2 hj
      cases o with
      | none => exact .inl ⟨hj, po2 ρ2 H2 σ2 Ext.refl sr2 er2⟩
      | some d =>
        dsimp only at po2 hj
        obtain ⟨go, yl⟩ := hj
        refine .inr ⟨go, _, fun σ' H' w => ⟨f, Nat.lt_succ_self f, w⟩, fun x H' y => ?_⟩
        obtain ⟨x3, sr3, r3⟩ := yl x H' y
        cases hgd : g d env2 with
        | none => rw [hgd] at po2; exact po2.elim
        | some e4 =>
          rw [hgd] at po2
          dsimp only at po2
          refine gq ρ2 s2 H' σ2 env2 e4 d x _ (er2.mono x3) r3 hgd fun σ4 er4 _ => ⟨ρ2, e4, s2, sr3, er4, ?_⟩
          have po3 := po2.rebase x3
          have x5 := x2.trans x3
          cases hb2 : mb e4 s2 with
          | nx e6 s6 =>
            rw [hb2] at po3
            intro ρ6 H6 σ6 x6 sr6 er6
            exact ⟨ρ6, e6, s6, x5.trans x6, sr6, er6, po3.rebase x6⟩
          | ct e6 s6 =>
            rw [hb2] at po3
            intro ρ6 H6 σ6 x6 sr6 er6
            exact ⟨ρ6, e6, s6, x5.trans x6, sr6, er6, po3.rebase x6⟩
          | bk e6 s6 =>
            rw [hb2] at po3
            exact po3
          | rt d6 s6 =>
            rw [hb2] at po3
            exact po3
          | ex c f d6 e6 s6 =>
            rw [hb2] at po3
            exact po3
          | no =>
            rw [hb2] at po3
            exact po3
theorem js_while (N : Nat) {c : Expr} {body : List Stmt} {t : EM Bool} {mb : SM} (hp : PassesOwn (model X.prog X.w) X.A X.env X.xe) (hc : JT X W c t) (hb : JSs X W body mb) : JS X W (.While c body [] pos) (sW N t mb) := by
  refine PS_imp (ps_while hp hc hb) fun σ H D ⟨ρ, env, s, sr, er, po⟩ => ?_
  refine ⟨fun m σ2 H2 => ∃ ρ2 env2 s2, SR X.K X.mg ρ2 s2 H2 ∧ EnvR X.K ρ2 s2.length H2 env2 σ2 ∧ PoS X.K X.mg W D ρ2 s2.length H2 (whL t mb m env2 s2), ⟨N, ρ, env, s, sr, er, po⟩, ?_⟩
  rintro m σ2 H2 ⟨ρ2, env2, s2, sr2, er2, po2⟩
  cases m with
  | zero => exact po2.elim
  | succ f =>
    rw [whL] at po2
    refine ⟨ρ2, env2, s2, sr2, er2, (PoS.st (R := RB) er2 po2).imp fun q H3 ⟨ρ3, s3, q3, x3, sr3, r3, er3, po3⟩ => ?_⟩
    have e : q3 = q := r3
    subst e
    cases q3 with
    | false => exact po3 ρ3 H3 σ2 Ext.refl sr3 er3
    | true =>
      rw [if_pos rfl] at po3 ⊢
      refine ⟨_, fun σ' H' w => ⟨f, Nat.lt_succ_self f, w⟩, ρ3, env2, s3, sr3, er3, ?_⟩
      cases hb2 : mb env2 s3 with
      | nx e6 s6 =>
        rw [hb2] at po3
        intro ρ6 H6 σ6 x6 sr6 er6
        exact ⟨ρ6, e6, s6, sr6, er6, po3.rebase x6⟩
      | ct e6 s6 =>
        rw [hb2] at po3
        intro ρ6 H6 σ6 x6 sr6 er6
        exact ⟨ρ6, e6, s6, sr6, er6, po3.rebase x6⟩
      | bk e6 s6 =>
        rw [hb2] at po3
        exact po3
      | rt d6 s6 =>
        rw [hb2] at po3
        exact po3
      | ex c f d6 e6 s6 =>
        rw [hb2] at po3
        exact po3
      | no =>
        rw [hb2] at po3
        exact po3
end

/-! ### list comprehensions -/
def Rs.nox {α : Type} (r : Rs α) : Rs α := match r with
  | .ok a s => .ok a s
  | _ => .no
def wipeD (e : Ev) : List Nat → Ev
  | [] => e
  | v :: vs => (wipeD e vs).set v none
def lcL (j : Stp) (g : GN) (t : EM Bool) (m : EM D) (l : Nat) : Nat → Nat → Ev → Sto → Rs D
  | 0, i, e, s => match j i s with
    | some none => .ok (.ref l) s
    | _ => .no
  | f + 1, i, e, s => match j i s with
    | none => .no
    | some none => .ok (.ref l) s
    | some (some d) => match g d e with
      | none => .no
      | some e1 => (t e1 s).nox.bind fun q s1 => if q then (m e1 s1).nox.bind fun y s2 => match s2[l]? with
          | some (.lst acc) => if acc.length < sizeLine then lcL j g t m l f (i + 1) e (s2.set l (.lst (acc ++ [y]))) else .no
          | _ => .no
        else lcL j g t m l f (i + 1) e s1
def mL (mi : EM (Nat × Stp)) (g : GN) (t : EM Bool) (m : EM D) (vs : List Nat) : EM D := fun e s => (mi e s).bind fun jt s1 => lcL jt.2 g t m s1.length jt.1 0 (wipeD e vs) (s1 ++ [.lst []])
def tY : EM Bool := fun _ s => .ok true s
abbrev WF : WX := fun _ _ _ _ => False
section
variable {K : PySem.W.Frag} {mg : Str → Option Value} {ρ : Nat → Addr} {n : Nat} {H : Hp}
theorem EnvR.wipe {env : Ev} {σ : L2.St} (h : EnvR K ρ n H env σ) : ∀ vs, EnvR K ρ n H (wipeD env vs) (L2.wipe σ vs)
  | [] => h
  | v :: vs => EnvR.del (EnvR.wipe h vs)
theorem Po.nox {α β : Type} {R : Rl α β} {W W' : WX} {σ σ' : L2.St} {r : Rs α} {Q : β → Hp → Prop} (h : Po K mg R W σ ρ n H r.nox Q) : Po K mg R W' σ' ρ n H r Q := by
  cases r with
  | ok a s => exact h
  | _ => exact h.elim
theorem Po.bindx {α β γ δ : Type} {R : Rl α β} {R' : Rl γ δ} {W W' : WX} {σ σ' : L2.St} {r : Rs α} {k : α → Sto → Rs γ} {Q : δ → Hp → Prop} (h : Po K mg R' W σ ρ n H (r.nox.bind k) Q) :
    Po K mg R W' σ' ρ n H r (fun v H1 => Mid K mg R ρ n H v H1 fun ρ1 s1 d => Po K mg R' W σ ρ1 s1.length H1 (k d s1) Q) := Po.nox (W := W) (σ := σ) (Po.bind h)
end
section
variable {X : Cx} {W : WX} {pos : Pos} {elt tg iter : Expr} {ifs : List Expr} {scope : Scope} {own : List (Str × Nat)} {mi : EM (Nat × Stp)} {g : GN} {is : List Nat} {t : EM Bool} {m : EM D}
theorem llc {K : PySem.W.Frag} {mg : Str → Option Value} {vs : List Nat} {g' : TG} {tt : TT} {te : TE} (his : ∀ i ∈ is, i ∈ vs)
    (gq : GQ K g is g')
    (ht : ∀ σ H Q, lT K mg WF t σ H Q → tt σ H Q) (he : ∀ σ H Q, lE K mg WF m σ H Q → te σ H Q) {σ : L2.St} {H : Hp} {Q : VK} (h : lE K mg W (mL mi g t m vs) σ H Q) : tLc (lG K mg (RI K mg) W mi) g' tt te vs σ H Q := by
  obtain ⟨ρ, env, s, sr, er, po⟩ := h
  refine ⟨ρ, env, s, sr, er, (Po.bind po).imp fun J H1 ⟨ρ1, s1, jt, e1, sr1, ri, po1⟩ => fun Dl hDl => ?_⟩
  obtain ⟨x2, sr2, r2⟩ := new_lst sr1 hDl (VRs.nil (K := K) (ρ := ρ1) (n := s1.length) (H := H1))
  refine ⟨fun i m2 H2 => ∃ ρ2 s2, Ext (ρup ρ1 s1.length Dl) (s1 ++ [SO.lst []]).length (upd H1 Dl (.lst [])) ρ2 s2.length H2 ∧ SR K mg ρ2 s2 H2 ∧ Po K mg (VR K) W σ ρ2 s2.length H2 (lcL jt.2 g t m s1.length m2 i (wipeD env vs) s2) Q, ⟨jt.1, ρup ρ1 s1.length Dl, _, Ext.refl, sr2, po1.rebase x2⟩, ?_⟩
  rintro i m2 H2 ⟨ρ2, s2, x3, sr3, po2⟩
  have x23 := x2.trans x3
  have hj := ri ρ2 s2 H2 i x23 sr3
  have lt1 : s1.length < (s1 ++ [SO.lst []]).length := by simp
  have rD : VR K ρ2 s2.length H2 (.ref s1.length) (.ref Dl) := r2.mono x3
  have eD : ρ2 s1.length = Dl := by
    rw [x3.ag _ lt1, ρup_same]
  cases m2 with
  | zero =>
    rw [lcL] at po2
    cases e : jt.2 i s2 with
    | none => rw [e] at po2; exact po2.elim
    | some o =>
      rw [e] at po2 hj
      cases o with
      | none => exact .inl ⟨hj, po2 ρ2 H2 _ Ext.refl sr3 rD⟩
      | some d => exact po2.elim
  | succ f =>
    rw [lcL] at po2
    cases e : jt.2 i s2 with
    | none => rw [e] at po2; exact po2.elim
    | some o =>
      rw [e] at po2 hj
      cases o with
      | none => exact .inl ⟨hj, po2 ρ2 H2 _ Ext.refl sr3 rD⟩
      | some d =>
        dsimp only at po2 hj
        obtain ⟨go, yl⟩ := hj
        refine .inr ⟨go, _, fun H' w => ⟨f, Nat.lt_succ_self f, w⟩, fun x H' y => ?_⟩
        obtain ⟨x4, sr4, r4⟩ := yl x H' y
        cases hgd : g d (wipeD env vs) with
        | none => rw [hgd] at po2; exact po2.elim
        | some e4 =>
          rw [hgd] at po2
          dsimp only at po2
          have erw : EnvR K ρ2 s2.length H' (wipeD env vs) (wipe σ vs) := ((er.mono e1).mono (x23.trans x4)).wipe vs
          refine gq ρ2 s2 H' _ _ e4 d x _ erw r4 hgd fun σ4 er4 hw => ⟨?_, ?_⟩
          · rw [hw vs his]
            have ww : ∀ us : List Nat, (∀ u ∈ us, u ∈ vs) → wipe (wipe σ vs) us = wipe σ vs := by
              intro us
              induction us with
              | nil => intro _; rfl
              | cons u us ih =>
                intro hu
                show (wipe (wipe σ vs) us).set u none = wipe σ vs
                rw [ih fun z hz => hu z (List.mem_cons_of_mem _ hz)]
                have key : ∀ ws : List Nat, u ∈ ws → (wipe σ ws).set u none = wipe σ ws := by
                  intro ws
                  induction ws with
                  | nil => intro h; simp at h
                  | cons w ws ihw =>
                    intro h
                    show ((wipe σ ws).set w none).set u none = (wipe σ ws).set w none
                    by_cases q : u = w
                    · subst q
                      rw [List.set_set]
                    · rw [List.set_comm _ _ (Ne.symm q), ihw ((List.mem_cons.mp h).resolve_left q)]
                exact key vs (hu u List.mem_cons_self)
            exact ww vs fun _ h => h
          · refine ht _ _ _ ⟨ρ2, e4, s2, sr4, er4, (Po.bindx (po2.rebase x4)).imp fun q H5 ⟨ρ5, s5, q5, x5, sr5, r5, po5⟩ => ?_⟩
            have eq : q5 = q := r5
            subst eq
            have x35 := (x3.trans x4).trans x5
            cases q5 with
            | false => exact ⟨ρ5, s5, x35, sr5, po5⟩
            | true =>
              rw [if_pos rfl] at po5 ⊢
              refine he _ _ _ ⟨ρ5, e4, s5, sr5, er4.mono x5, (Po.bindx po5).imp fun y6 H6 ⟨ρ6, s6, d6, x6, sr6, r6, po6⟩ => ?_⟩
              have x36 := x35.trans x6
              have eD6 : ρ6 s1.length = Dl := by
                rw [x36.ag _ lt1, ρup_same]
              dsimp only at po6
              cases el : s6[s1.length]? with
              | none => rw [el] at po6; exact po6.elim
              | some o =>
                rw [el] at po6
                cases o with
                | lst acc =>
                  obtain ⟨hl, po7⟩ := Po.ite po6
                  obtain ⟨av, hav, rav⟩ := sr6.ob _ _ el
                  rw [eD6] at hav
                  have ob' := sr6.ob _ _ el
                  have xw : Ext ρ6 s6.length H6 ρ6 s6.length (upd H6 (ρ6 s1.length) (.lst (av ++ [y6]))) := Ext.write (u := .lst (av ++ [y6])) ob' rfl
                  refine ⟨av, hav, by rw [rav.length]; exact hl, ρ6, s6.set s1.length (.lst (acc ++ [d6])), ?_, ?_, ?_⟩
                  · rw [List.length_set]
                    have x7 := x36.trans xw
                    rw [eD6] at x7
                    exact x7
                  · rw [← eD6]
                    exact sr6.write el rfl rfl ⟨av ++ [y6], upd_same, (rav.append (VRs.cons r6 VRs.nil)).mono xw⟩
                  · rw [List.length_set, ← eD6]
                    exact po7.rebase xw
                | _ => exact po6.elim
theorem je_lc {g' : TG} (hc : X.calm = true) (hN : X.N.Nodup) (hi : JI X W tg iter mi) (ok : BlkOk X.N X.env.scope scope own) (his : ∀ i ∈ is, i ∈ own.map (·.2))
    (hg' : ∀ (s : Shared) (H : Hp) (C : Addr) (cl : List (Str × Addr)) (fp : List Addr), PG (X.blk s H scope (compEnvC scope cl C X.env) fp) tg g') (gq : GQ X.K g is g')
    (ht : ∀ (s : Shared) (H : Hp) (C : Addr) (cl : List (Str × Addr)) (fp : List Addr), PTs (X.blk s H scope (compEnvC scope cl C X.env) fp) ifs (lT X.K X.mg WF t))
    (he : ∀ (s : Shared) (H : Hp) (C : Addr) (cl : List (Str × Addr)) (fp : List Addr), JE (X.blk s H scope (compEnvC scope cl C X.env) fp) WF elt m) (hs : ∀ x, foldedSetIterable iter X.env x = pure x := by intro _; rfl) :
    JE X W (.ListComp elt [⟨tg, iter, ifs, 0⟩] scope pos) (mL mi g t m (own.map (·.2))) := by
  exact PE_imp (pe_lc hc hN hi ok hg' ht he hs) fun σ H Q h => llc his gq (fun _ _ _ z => z) (fun _ _ _ z => z) h
end
end Z

set_option Elab.async false
set_option linter.all false
set_option maxRecDepth 100000
set_option maxHeartbeats 4000000
namespace Z
open PySem PySem.Spec PyProof.Rows L2
variable [Row]

/-! ### functions -/
/-- room for a call; no collection is being shown -/
structure Rm (k : Nat) (A : Around) : Prop where
  room : Room k A
  gd : A.guards = some []
theorem Rm.mono {j k : Nat} {A : Around} (r : Rm k A) (h : j ≤ k) : Rm j A := ⟨r.room.mono h, r.gd⟩
theorem Rm.deeper {k : Nat} {A : Around} (r : Rm (k + 1) A) (env : Env) : Rm k (A.deeper env) := ⟨r.room.deeper env, r.gd⟩
theorem Rm.units {k : Nat} {A : Around} (r : Rm k A) : A.units + 100 < cLine := by have := r.room.un; omega
/-- what is called at f keeps the promise sp, for positional values and keywords named ks -/
def FnG (P : Program) (w : World) (K : PySem.W.Frag) (mg : Str → Option Value) (base : Heap) (k : Nat) (f : Addr) (n : Option Nat) (ks : List Str) (sp : Sp) : Prop :=
  ∀ (A : Around) (outer : List Env) (st : Shared) (H : Hp) (us ws : List Value) (vs zs : List V) (Q : VK) (E : XK), Rm k A → Env0 P w K mg base A outer st H → Vals vs us → Vals zs ws → (∀ m, n = some m → us.length = m) → ws.length = ks.length → sp (vs ++ zs) H Q E →
    codeAny (model P w) A (.call (.ref f) ⟨us, ks.zip ws⟩) (CR (L2.CX P w) outer P w H st Q E) st
/-- the promise: what F says -/
def spF (K : PySem.W.Frag) (mg : Str → Option Value) (F : List D → Sto → Rs D) : Sp := fun vs H Q E => ∃ ρ s ds, SR K mg ρ s H ∧ VRs K ρ s.length H ds vs ∧ Po K mg (VR K) (fun c d _ H => E c d H) [] ρ s.length H (F ds s) Q
/-- positional calls; calls of n positional values and keywords ks -/
abbrev FS (P : Program) (w : World) (K : PySem.W.Frag) (mg : Str → Option Value) (base : Heap) (k : Nat) (f : Addr) (F : List D → Sto → Rs D) : Prop := FnG P w K mg base k f none [] (spF K mg F)
abbrev FSk (P : Program) (w : World) (K : PySem.W.Frag) (mg : Str → Option Value) (base : Heap) (k : Nat) (f : Addr) (n : Nat) (ks : List Str) (F : List D → Sto → Rs D) : Prop := FnG P w K mg base k f (some n) ks (spF K mg F)
theorem FnG.mono {P : Program} {w : World} {K : PySem.W.Frag} {mg : Str → Option Value} {base : Heap} {j k : Nat} {f : Addr} {n : Option Nat} {ks : List Str} {sp : Sp} (F : FnG P w K mg base j f n ks sp) (h : j ≤ k) : FnG P w K mg base k f n ks sp :=
  fun A outer st H us ws vs zs Q E hr => F A outer st H us ws vs zs Q E (hr.mono h)
def RS.fin (r : RS) : Rs D := match r with
  | .nx _ s' => .ok .non s'
  | .rt d s' => .ok d s'
  | .ex c f d _ s' => .ex c f d s'
  | _ => .no
def fnM (ps n : Nat) (m : SM) : List D → Sto → Rs D := fun ds s => if ds.length = ps then (m (ds.map some ++ List.replicate (n - ds.length) none) s).fin else .no
section
variable {P : Program} {w : World} {K : PySem.W.Frag} {mg : Str → Option Value} {base : Heap} {k : Nat} {f : Addr} {fd : FuncData} {x qual : Str} {params : Arguments} {body : List Stmt} {scope : Scope} {dvs : List V} {kws : List (Str × V)} {N ps : List Str} {m : SM}
theorem envR_start {ρ : Nat → Addr} {n : Nat} {H : Hp} {N : List Str} {ds : List D} {vs : List V} (r : VRs K ρ n H ds vs) : EnvR K ρ n H (ds.map some ++ List.replicate (N.length - ds.length) none) (L2.start N vs) := by
  unfold L2.start
  have hl := r.length
  refine ⟨by simp [hl], fun i d h => ?_⟩
  by_cases hi : i < ds.length
  · rw [List.getElem?_append_left (by simpa using hi), List.getElem?_map] at h
    cases e : ds[i]? with
    | none => rw [e] at h; cases h
    | some d' =>
      rw [e] at h
      cases h
      obtain ⟨v, hv, rv⟩ := r.get e
      refine ⟨v, ?_, rv⟩
      rw [List.getElem?_append_left (by simp [hl]; exact hi), List.getElem?_map, hv]
      rfl
  · rw [List.getElem?_append_right (by simpa using hi), List.getElem?_replicate] at h
    split at h <;> cases h
theorem PoS.fin {ρ : Nat → Addr} {n : Nat} {H : Hp} {σ : L2.St} {r : RS} {Q : VK} {E : XK} (h : Po K mg (VR K) (fun c d _ H => E c d H) σ ρ n H r.fin Q) : PoS K mg (fun c d _ H => E c d H) { nx := fun _ H' => Q .non H', rt := Q } ρ n H r := by
  cases r with
  | nx e s => exact fun ρ' H' σ' x sr er => h ρ' H' .non x sr rfl
  | rt d s => exact h
  | ex c f d e s => exact fun ρ' H' σ' C dx v x sr er => h ρ' H' C dx v x sr
  | _ => exact h.elim
/-- a body does m -/
abbrev Body (P : Program) (w : World) (K : PySem.W.Frag) (mg : Str → Option Value) (base : Heap) (k : Nat) (N : List Str) (qual : Str) (scope : Scope) (f : Addr) (body : List Stmt) (m : SM) : Prop :=
  ∀ (cdv : Value) (A : Around) (outer : List Env) (s : Shared) (H : Hp) (E : XK), Rm k (A.deeper (envOfC qual scope s.heap.objs.size f cdv)) → JSs (cxOf (L2.CX P w) P w K mg base N qual scope f cdv A outer s H E) (fun c d _ H => E c d H) body m
/-- how the values come to the parameters: positional us, keywords' ws give g us ws -/
structure Bnd (K : PySem.W.Frag) (fd : FuncData) (ps : List Str) (n : Nat) (ks : List Str) (g : List Value → List Value → List Value) (gV : List V → List V → List V) (gD : List D → List D → List D) : Prop where
  to : ∀ (st : Shared) (us ws : List Value), K.In st.heap → us.length = n → ws.length = ks.length → BindsTo st fd ⟨us, ks.zip ws⟩ (ps.zip (g us ws))
  rel : ∀ {vs : List V} {us : List Value} {zs : List V} {ws : List Value}, Vals vs us → Vals zs ws → Vals (gV vs zs) (g us ws)
  len : ∀ us ws : List Value, us.length = n → ws.length = ks.length → (g us ws).length = ps.length
  dat : ∀ {ρ : Nat → Addr} {m : Nat} {H : Hp} {ds es : List D} {vs zs : List V}, VRs K ρ m H ds vs → VRs K ρ m H es zs → VRs K ρ m H (gD ds es) (gV vs zs)
/-- the function of a call by g -/
def callF (n : Nat) (gD : List D → List D → List D) (F : List D → Sto → Rs D) : List D → Sto → Rs D := fun ds s => F (gD (ds.take n) (ds.drop n)) s
/-- THE RULE: a def whose body does m, however it is called -/
theorem fs_ok {n : Nat} {ks : List Str} {g : List Value → List Value → List Value} {gV : List V → List V → List V} {gD : List D → List D → List D} (F : FunD K x qual params body scope dvs kws f fd) (S : FnScope N ps scope) (hb : Body P w K mg base k N qual scope f body m)
    (B : Bnd K fd ps n ks g gV gD) : FSk P w K mg base (k + 1) f n ks (callF n gD (fnM ps.length N.length m)) := by
  obtain ⟨oc, od, dV, kV, doc, pm, an, cdv, ct, osl, rfl, lk, hcd, _, _⟩ := F.ex
  intro A outer st H us ws vs zs Q E hr e0 rv rz hn hks ⟨ρ, s, ds, sr, rd, po⟩
  have hn := hn n rfl
  have r1 : VRs K ρ s.length H (ds.take n) vs := by
    have := rd.take n
    rwa [List.take_left' (by rw [rv.length]; exact hn)] at this
  have r2 : VRs K ρ s.length H (ds.drop n) zs := by
    have := rd.drop n
    rwa [List.drop_left' (by rw [rv.length]; exact hn)] at this
  have rr := B.rel rv rz
  have rD := B.dat r1 r2
  have inK : K.In st.heap := e0.mod.kin.keeps fun b o e => (e0.bs b o e).1
  have noL : st.heap.NoLimit := e0.mod.nolimit.keeps fun b o e => (e0.bs b o e).1
  have kinds : ∀ y ∈ ps.zip (g us ws), scope.names.lookup y.1 = some .local ∨ (scope.names.lookup y.1 = some .cell ∧ ((cellsFrom (st.heap.objs.size + 1) scope.names []).lookup y.1).isSome = true) := by
    rintro ⟨z, u⟩ hz
    rcases S.par z (List.of_mem_zip hz).1 with q | q
    · exact .inl q
    · exact .inr ⟨q, PySem.W.cellsFrom_some _ _ _ (.inl q)⟩
  refine codeAny_call_function hr.room.depth (inK _ _ lk) rfl S.co S.gen rfl (PySem.W.codeRec_of inK hcd) (B.to st us ws inK hn hks _ _ _ _ ?_)
  refine wpAny_newFunctionEnv_cells S.kind kinds fun env he st1 xx => ?_
  subst he
  refine ⟨noL.keeps xx.toInCall.keep, codeAny_func ?_⟩
  have I := inv_start (CX := L2.CX P w) (E := E) S hr.room.hd e0 (by rw [rr.length]; exact B.len us ws hn hks) rr xx
  refine wpAny_mono ((hb cdv A outer st H E (hr.deeper _)).run [] st1 _ H { nx := fun _ H' => Q .non H', rt := Q } I ⟨ρ, _, s, sr, envR_start rD, PoS.fin (σ := []) (Po.ite po).2⟩) (fun fl st2 hs => ?_) fun e st2 hs => hs
  cases fl with
  | ret u =>
    obtain ⟨v, σ', H', J, rv', q⟩ := hs
    exact ⟨v, H', J.os, J.bare, J.base, J.hok, rv', q⟩
  | next =>
    obtain ⟨σ', H', J, q⟩ := hs
    exact ⟨V.non, H', J.os, J.bare, J.base, J.hok, rfl, q⟩
  | brk =>
    obtain ⟨_, _, _, q⟩ := hs
    exact False.elim q
  | cont =>
    obtain ⟨_, _, _, q⟩ := hs
    exact False.elim q
/-- a plain def, called by position -/
theorem fs_pos (F : FunD K x qual params body scope [] [] f fd) (S : FnScope N ps scope) (hb : Body P w K mg base k N qual scope f body m)
    (h : ∀ (kV doc pm : Value) (an : Option Addr) (cdv ct : Value) (us : List Value), us.length = ps.length → bindArgs (PySem.W.fnOf x qual params body scope .none kV doc pm an cdv ct) ⟨us, []⟩ = pure (ps.zip us)) :
    FS P w K mg base (k + 1) f (fnM ps.length N.length m) := by
  have B : Bnd K fd ps ps.length [] (fun us _ => us) (fun vs _ => vs) (fun ds _ => ds) := by
    refine ⟨fun st us ws _ h1 h2 => ?_, fun h _ => h, fun _ _ h _ => h, fun h _ => h⟩
    obtain ⟨oc, od, dV, kV, doc, pm, an, cdv, ct, osl, rfl, lk, hcd, hD, hK⟩ := F.ex
    rcases hD with ⟨_, rfl⟩ | ⟨e, _⟩
    · exact .of_eq (h kV doc pm an cdv ct us h1)
    · exact absurd rfl e
  intro A outer st H us ws vs zs Q E hr e0 rv rz _ hks ⟨ρ, s, ds, sr, rd, po⟩
  have hz : zs = [] := by
    have e1 := rz.length
    rw [hks] at e1
    exact List.eq_nil_of_length_eq_zero e1
  subst hz
  rw [List.append_nil] at rd
  have hl := (Po.ite (c := ds.length = ps.length) po).1
  refine fs_ok F S hb B A outer st H us ws vs [] Q E hr e0 rv rz (fun m hm => ?_) hks ⟨ρ, s, ds, sr, by rw [List.append_nil]; exact rd, ?_⟩
  · cases hm
    rw [← rv.length, rd.length]
    exact hl
  · unfold callF
    have e : ds.take ps.length = ds := by rw [← hl, List.take_length]
    rw [e]
    exact po
/-- a plain def, n values by position and all others by keyword -/
theorem fs_key {n : Nat} {ks : List Str} (F : FunD K x qual params body scope [] [] f fd) (S : FnScope N ps scope) (hb : Body P w K mg base k N qual scope f body m) (g : {α : Type} → List α → List α → List α)
    (h : ∀ (kV doc pm : Value) (an : Option Addr) (cdv ct : Value) (us ws : List Value), us.length = n → ws.length = ks.length → bindArgs (PySem.W.fnOf x qual params body scope .none kV doc pm an cdv ct) ⟨us, ks.zip ws⟩ = pure (ps.zip (g us ws)))
    (hl : ∀ us ws : List Value, us.length = n → ws.length = ks.length → (g us ws).length = ps.length)
    (hg : ∀ {vs : List V} {us : List Value} {zs : List V} {ws : List Value}, Vals vs us → Vals zs ws → Vals (g vs zs) (g us ws))
    (hd : ∀ {ρ : Nat → Addr} {j : Nat} {H : Hp} {ds es : List D} {vs zs : List V}, VRs K ρ j H ds vs → VRs K ρ j H es zs → VRs K ρ j H (g ds es) (g vs zs)) :
    FSk P w K mg base (k + 1) f n ks (callF n g (fnM ps.length N.length m)) := by
  refine fs_ok F S hb (g := g) (gV := g) (gD := g) ⟨fun st us ws _ h1 h2 => ?_, hg, hl, hd⟩
  obtain ⟨oc, od, dV, kV, doc, pm, an, cdv, ct, osl, rfl, lk, hcd, hD, hK⟩ := F.ex
  rcases hD with ⟨_, rfl⟩ | ⟨e, _⟩
  · exact .of_eq (h kV doc pm an cdv ct us ws h1 h2)
  · exact absurd rfl e
theorem Po.congr {α β : Type} {R : Rl α β} {W W' : WX} {σ σ' : L2.St} {ρ : Nat → Addr} {n : Nat} {H : Hp} {r : Rs α} {Q : β → Hp → Prop} (h : Po K mg R W σ ρ n H r Q) (i : ∀ c d H, W c d σ H → W' c d σ' H) : Po K mg R W' σ' ρ n H r Q := by
  cases r with
  | ok a s => exact h
  | ex c f d s => exact fun ρ' H' C dx v e sr hm r hx => i _ _ _ (h ρ' H' C dx v e sr hm r hx)
  | no => exact h
end
section
variable {X : Cx} {W : WX} {k : Nat} {f : Addr} {F : List D → Sto → Rs D} {x : Str} {p pos apos : Pos} {e o : Expr} {es : List Expr} {ms mk : EM (List D)} {sp : Sp} {E : L2.St → XK} {n : Option Nat} {ks : List Str} {kws : List Keyword}
theorem run_at {pins : List (Addr × Obj)} {σ : L2.St} {H : Hp} {s : Shared} {Q : VK} {us ws : List Value} {vs zs : List V} (F : FnG X.prog X.w X.K X.mg X.base k f n ks sp) (hr : Rm k X.A) (hx : PassesAt (L2.CX X.prog X.w) X σ (E σ))
    (I : Inv X pins σ H s) (r : Vals vs us) (rz : Vals zs ws) (hn : ∀ m, n = some m → us.length = m) (hks : ws.length = ks.length) (h : sp (vs ++ zs) H Q (E σ)) : wpAny (model X.prog X.w) X.A (call (.ref f) us (ks.zip ws)) (EP X pins σ Q) X.xe s := by
  refine wpAny_call (codeAny_mono (F X.A X.stack s H us ws vs zs Q (E σ) hr I.env0 r rz hn hks h) fun r s' hq => ?_)
  cases r with
  | error e => exact hx pins H s e s' I hq
  | ok fl =>
    cases fl with
    | ret u => exact I.after hq
    | next => exact False.elim hq
    | brk => exact False.elim hq
    | cont => exact False.elim hq
/-- f(e, ..) -/
theorem je_call (F' : FS X.prog X.w X.K X.mg X.base k f F) (hr : Rm k X.A) (tk : Takes X W) (hg : Gl X x) (hm : X.mg x = some (.ref f)) (hk : PySem.W.keepIn X.K (.ref f) = true)
    (ha : JA X W (e :: es) ms) (hdb : (x == ("__debug__" : Str)) = false := by decide) (he : starEach (e :: es) X.env = (false, eval e X.env) :: starEach es X.env := by rfl) (hpl : (backTo pos (starEach es X.env)).any (·.1) = false := by rfl) :
    JE X W (.Call (.Name x p) (e :: es) [] pos) (mN F ms) := by
  refine ⟨fun pins s σ H Q I ⟨ρ, env, st, sr, er, po⟩ => ?_⟩
  refine wpAny_Call_Name_kw (ld_glob I hg hm ?_ hdb)
  refine PySem.W.callWith_K (h₀ := X.base) I.ok.mod.kin hk (thn (ha.run pos pins s σ H _ I ⟨ρ, env, st, sr, er, Po.bind po⟩) fun us s1 ⟨vs, H1, I1, r, ρ1, s2, ds, e1, sr1, r1, po1⟩ => ⟨I1.kIn, ?_⟩) he hpl
  exact run_at (E := WE W) (ws := []) (zs := []) F' hr (passAt tk σ) I1 r .nil (fun _ h => nomatch h) rfl ⟨ρ1, s2, ds, sr1, by rw [List.append_nil]; exact r1, po1.congr fun _ _ _ z => z⟩
theorem je_call0 (F' : FS X.prog X.w X.K X.mg X.base k f F) (hr : Rm k X.A) (tk : Takes X W) (hg : Gl X x) (hm : X.mg x = some (.ref f)) (hk : PySem.W.keepIn X.K (.ref f) = true) (hdb : (x == ("__debug__" : Str)) = false := by decide) :
    JE X W (.Call (.Name x p) [] [] pos) (mN F aN) := by
  refine ⟨fun pins s σ H Q I ⟨ρ, env, st, sr, er, po⟩ => ?_⟩
  refine wpAny_Call_Name_kw (ld_glob I hg hm ?_ hdb)
  exact PySem.W.callWith_K0 I.kIn hk (run_at (E := WE W) (us := []) (ws := []) (zs := []) F' hr (passAt tk σ) I .nil .nil (fun _ h => nomatch h) rfl ⟨ρ, st, [], sr, VRs.nil, Po.congr po fun _ _ _ z => z⟩)
/-! ### keywords: F takes the positional values, then the keywords' -/
abbrev JK (X : Cx) (W : WX) (kws : List Keyword) (m : EM (List D)) : Prop := PK X kws (lA X.K X.mg W m)
theorem PK_imp {e : List Keyword} {t t' : TA} (h : PK X e t) (i : ∀ σ H Q, t' σ H Q → t σ H Q) : PK X e t' := ⟨fun p pins s σ H Q I q => h.run p pins s σ H Q I (i σ H Q q)⟩
theorem jk_nil : JK X W [] aN := PK_imp pk_nil fun σ H Q ⟨ρ, env, s, sr, er, po⟩ => po ρ H [] Ext.refl sr VRs.nil
theorem jk_cons {ma : EM D} {nm : Option Str} {kpos : Pos} (h : JE X W e ma) (t : JK X W kws mk) : JK X W (⟨nm, e, kpos⟩ :: kws) (aC ma mk) :=
  PK_imp (pk_cons h t) fun σ H Q ⟨ρ, env, s, sr, er, po⟩ =>
    ⟨ρ, env, s, sr, er, (Po.bind po).imp fun _ _ ⟨ρ1, s1, d1, e1, sr1, r1, po1⟩ => ⟨ρ1, env, s1, sr1, er.mono e1, (Po.bind po1).imp fun _ _ ⟨ρ2, s2, d2, e2, sr2, r2, po2⟩ =>
      po2 ρ2 _ _ Ext.refl sr2 (VRs.cons (r1.mono e2) r2)⟩⟩
/-- positional values, then keywords' -/
def mNk (n m : Nat) (F : List D → Sto → Rs D) (ms mk : EM (List D)) : EM D := fun e s => (ms e s).bind fun xs s1 => (mk e s1).bind fun ys s2 => if xs.length = n ∧ ys.length = m then F (xs ++ ys) s2 else .no
/-- f(e, .., k = v, ..) -/
theorem je_callk {n : Nat} (F' : FSk X.prog X.w X.K X.mg X.base k f n ks F) (hr : Rm k X.A) (tk : Takes X W) (hg : Gl X x) (hm : X.mg x = some (.ref f)) (hk : PySem.W.keepIn X.K (.ref f) = true)
    (ha : JA X W (e :: es) ms) (hkw : JK X W kws mk) (hall : (backToKw pos (keywordEach kws X.env)).all (·.1.isSome) = true := by rfl) (hks : (backToKw pos (keywordEach kws X.env)).filterMap (·.1) = ks := by rfl)
    (hdb : (x == ("__debug__" : Str)) = false := by decide) (he : starEach (e :: es) X.env = (false, eval e X.env) :: starEach es X.env := by rfl)
    (hpl : ((backTo pos (starEach (e :: es) X.env)).any (·.1) || (backToKw pos (keywordEach kws X.env)).any (·.1.isNone)) = false := by rfl) :
    JE X W (.Call (.Name x p) (e :: es) kws pos) (mNk n ks.length F ms mk) := by
  refine ⟨fun pins s σ H Q I ⟨ρ, env, st, sr, er, po⟩ => ?_⟩
  refine wpAny_Call_Name_kw (ld_glob I hg hm ?_ hdb)
  refine PySem.W.callWith_KW (h₀ := X.base) I.ok.mod.kin hk hall (thn (ha.run pos pins s σ H _ I ⟨ρ, env, st, sr, er, Po.bind po⟩) fun us s1 ⟨vs, H1, I1, r, ρ1, s2, ds, e1, sr1, r1, po1⟩ => ?_) hpl he
  refine thn (hkw.run pos pins s1 σ H1 _ I1 ⟨ρ1, env, s2, sr1, er.mono e1, Po.bind po1⟩) fun ws s3 ⟨zs, H3, I3, rz, ρ3, s4, ys, e3, sr3, r3, po3⟩ => ⟨I3.kIn, ?_⟩
  rw [hks]
  obtain ⟨⟨h1, h2⟩, po4⟩ := Po.ite po3
  exact run_at (E := WE W) F' hr (passAt tk σ) I3 r rz (fun m hm => by cases hm; show us.length = n; rw [← r.length, r1.length]; exact h1) (by rw [← rz.length, r3.length]; exact h2) ⟨ρ3, s4, ds ++ ys, sr3, (r1.mono e3).append r3, po4.congr fun _ _ _ z => z⟩
/-- f(k = v, ..) -/
theorem je_callk0 (F' : FSk X.prog X.w X.K X.mg X.base k f 0 ks F) (hr : Rm k X.A) (tk : Takes X W) (hg : Gl X x) (hm : X.mg x = some (.ref f)) (hk : PySem.W.keepIn X.K (.ref f) = true)
    (hkw : JK X W kws mk) (hall : (backToKw pos (keywordEach kws X.env)).all (·.1.isSome) = true := by rfl) (hks : (backToKw pos (keywordEach kws X.env)).filterMap (·.1) = ks := by rfl)
    (hdb : (x == ("__debug__" : Str)) = false := by decide)
    (hpl : ((backTo pos (starEach [] X.env)).any (·.1) || (backToKw pos (keywordEach kws X.env)).any (·.1.isNone)) = false := by rfl) :
    JE X W (.Call (.Name x p) [] kws pos) (mNk 0 ks.length F aN mk) := by
  refine ⟨fun pins s σ H Q I ⟨ρ, env, st, sr, er, po⟩ => ?_⟩
  refine wpAny_Call_Name_kw (ld_glob I hg hm ?_ hdb)
  refine PySem.W.callWith_KW0 (h₀ := X.base) I.ok.mod.kin hk hall ?_ hpl
  refine thn (hkw.run pos pins s σ H _ I ⟨ρ, env, st, sr, er, Po.bind po⟩) fun ws s3 ⟨zs, H3, I3, rz, ρ3, s4, ys, e3, sr3, r3, po3⟩ => ⟨I3.kIn, ?_⟩
  rw [hks]
  obtain ⟨⟨h1, h2⟩, po4⟩ := Po.ite po3
  exact run_at (E := WE W) (us := []) (vs := []) F' hr (passAt tk σ) I3 .nil rz (fun m hm => by cases hm; rfl) (by rw [← rz.length, r3.length]; exact h2) ⟨ρ3, s4, ys, sr3, r3, po4.congr fun _ _ _ z => z⟩
end
/-! ### the law's own call -/
section
variable {P : Program} {w : World} {K : PySem.W.Frag} {mg mb : Str → Option Value} {k : Nat} {fa a : Addr} {s₁ : Shared} {vs : List Value} {ns : List Int} {F : List D → Sto → Rs D}
theorem rm_caller {k : Nat} (h : Room k callerA) : Rm k callerA := ⟨h, rfl⟩
/-- the law, over the heap behind the top -/
theorem law_run (KX : K.In s₁.heap) (hns : s₁.heap.Ns mainGlobals mg) (hb : s₁.heap.Ns builtinsNs mb) (hbb : ∀ y : Str, y ≠ "__name__" → mb y = bootBuiltins y) (hlim : s₁.heap.NoLimit) (hg : s₁.gens = #[])
    (ha : s₁.heap.get? a = some { cls := .type "list", data := .seq vs.toArray }) (hi : IntsAre vs ns) (hl : ns.length ≤ sizeLine) (hr : Room k callerA)
    (hT : Row.tabs = []) (hF : ∀ base : Heap, K.In base → base.Ns mainGlobals mg → FS P w K mg base k fa F) (hQ : ∃ s', F [.ref 0] [.frz (ns.map D.int)] = .ok (.bl true) s') :
    codeAny (model P w) callerA (.call (.ref fa) ⟨[.ref a], []⟩) (fun r s' => r = .ok (.ret (.bool true)) ∧ OldK s₁.heap s'.heap ∧ s'.os = s₁.os ∧ AllBare s'.gens) s₁ := by
  obtain ⟨se, hse⟩ := hQ
  have vI := vals_ints hi
  have eL := hi.length
  have vD : ∀ {ρ : Nat → Addr} {n : Nat} {H : Hp} (ms : List Int), VRs K ρ n H (ms.map D.int) (ms.map V.int) := by
    intro ρ n H ms
    induction ms with
    | nil => exact VRs.nil
    | cons m ms ih => exact VRs.cons rfl ih
  have core : ∀ H : Hp, Only H → SqF K H a (ns.map V.int) → HOk P w H s₁.heap → (∀ b, H b ≠ none → b = a) → (H a ≠ none → K.lookup a = none) →
      codeAny (model P w) callerA (.call (.ref fa) ⟨[.ref a], []⟩) (fun r s' => r = .ok (.ret (.bool true)) ∧ OldK s₁.heap s'.heap ∧ s'.os = s₁.os ∧ AllBare s'.gens) s₁ := by
    intro H hO hS hok hA hK
    have only : ∀ {b : Addr} {u : HO}, H b = some u → b = a := fun {b u} q => hA b (by rw [q]; exact nofun)
    have nd : ∀ {b : Addr} {o : Obj} {es : Array DictEntry} {ep : Nat}, s₁.heap.get? b = some o → o.data = .dict es ep → H b = none := fun {b o es ep} e d => by
      cases q : H b with
      | none => rfl
      | some u =>
        have eb := only q
        subst eb
        rw [ha] at e
        cases e
        cases d
    have nsH : ∀ {b : Addr} {m : Str → Option Value}, s₁.heap.Ns b m → (hidT s₁.heap H).Ns b m := fun {b m} ⟨o, es, ep, e, d, r⟩ => ⟨o, es, ep, hidT_get e (nd e d), d, r⟩
    have kH : K.In (hidT s₁.heap H) := fun b o e => hidT_get (KX b o e) (by
      cases q : H b with
      | none => rfl
      | some u =>
        have eb := only q
        subst eb
        rw [hK (by rw [q]; exact nofun)] at e
        cases e)
    have e0 : Env0 P w K mg (hidT s₁.heap H) callerA [] s₁ H := ⟨rfl, ⟨kH, nsH hns, ⟨mb, nsH hb, hbb⟩, let ⟨mc, h1, h2⟩ := hlim; ⟨mc, nsH h1, h2⟩⟩, fun b o e => of_hidT e, Nat.le_of_eq (hidT_size _ _), trivial, fun b hb => absurd hb (by simp [frs]), hok, .of_eq hg⟩
    have sr : SR K mg (fun _ => a) [SO.frz (ns.map D.int)] H := by
      refine ⟨fun i j oi oj e1 e2 _ _ _ => ?_, fun i o e => ?_, by rw [hT]; exact fun p hp => absurd hp (by simp), by rw [hT]; exact fun p hp => absurd hp (by simp)⟩
      · have h1 := (List.getElem?_eq_some_iff.mp e1).1
        have h2 := (List.getElem?_eq_some_iff.mp e2).1
        simp only [List.length_cons, List.length_nil] at h1 h2
        omega
      · have h1 := (List.getElem?_eq_some_iff.mp e).1
        simp only [List.length_cons, List.length_nil] at h1
        have : i = 0 := by omega
        subst this
        cases e
        exact ⟨_, hS, vD ns⟩
    refine codeAny_mono (hF _ kH (nsH hns) callerA [] s₁ H [.ref a] [] [V.ref a] [] (fun v _ => v = .bl true) (fun _ _ _ => False) (rm_caller hr) e0 (.cons rfl .nil) .nil (fun _ h => nomatch h) rfl ⟨_, _, [.ref 0], sr, VRs.cons (by rw [VR]; exact ⟨Nat.zero_lt_succ _, rfl⟩) VRs.nil, ?_⟩) fun r s' h => ?_
    · rw [hse]
      exact fun ρ' H' v _ _ r => r
    · cases r with
      | error e =>
        obtain ⟨_, _, _, _, _, _, _, _, _, _, _, _, z⟩ := h
        exact z.elim
      | ok fl =>
        cases fl with
        | ret u =>
          obtain ⟨v, H', os, bare, un, hok', r', q⟩ := h
          have q' : v = .bl true := q
          subst q'
          obtain rfl : u = Value.bool true := r'
          refine ⟨rfl, OldK.of_keep fun b o e => ?_, os, bare⟩
          cases q : H b with
          | none => exact un.keep b o e q (by simp [frs]) (by simp)
          | some u =>
            rcases hO b with z | ⟨ob, xs, z⟩
            · rw [q] at z
              cases z
            · obtain ⟨e1, _⟩ := hok b _ z
              obtain ⟨e2, _⟩ := hok' b _ (un.frzs b ob _ z)
              rw [e] at e1
              cases e1
              exact e2
        | next => exact False.elim h
        | brk => exact False.elim h
        | cont => exact False.elim h
  cases hk : K.lookup a with
  | some o =>
    have e := KX a o hk
    rw [ha] at e
    cases e
    exact core (fun _ => none) (fun _ => .inl rfl) (.inr ⟨_, vs.toArray, _, hk, rfl, rfl, rfl, by rw [List.size_toArray, eL]; exact hl, by simpa using vI⟩) (fun b u z => nomatch z) (fun b z => absurd rfl z) fun z => absurd rfl z
  | none =>
    refine core (fun b => if b = a then some (.frz { cls := .type "list", data := .seq vs.toArray } (.lst (ns.map V.int))) else none) (fun b => ?_) (.inl ⟨{ cls := .type "list", data := .seq vs.toArray }, if_pos rfl⟩) (fun b u z => ?_) (fun b z => ?_) fun _ => hk
    · by_cases eb : b = a
      · exact .inr ⟨_, _, if_pos eb⟩
      · exact .inl (if_neg eb)
    · by_cases eb : b = a
      · have z' := (if_pos eb).symm.trans z
        cases z'
        subst eb
        exact ⟨ha, by rw [List.length_map]; exact hl, vs, _, vI, ha⟩
      · have z' := (if_neg eb).symm.trans z
        cases z'
    · by_cases eb : b = a
      · exact eb
      · exact absurd (if_neg eb) z
end
/-- the row's own run -/
abbrev rowOf (P : Program) (w : World) : Row := ⟨P, w, []⟩
omit [Row] in
/-- the law's walk: F gives the written part and the law's function -/
theorem walk_law {l : PySem.W.OpenLaw} {n k : Nat} {q : Program} {loose : List Str} {XP : (Str → Option Value) → Heap → Prop} {YP : World → Heap → Prop} {d : DefRec}
    (hn : l.most = some n) (hn2 : n ≤ sizeLine) (hdf : d.params.defaults = []) (hr : Room k callerA)
    (F : ∀ (w : World) (mg : Str → Option Value) (fa : Addr) (h : Heap), YP w h → h.Ns mainGlobals mg → mg d.name = some (.ref fa) →
      ∃ (K : PySem.W.Frag) (F : List D → Sto → Rs D), K.In h ∧ (∀ ns : List Int, ns.length ≤ n → ∃ s', F [.ref 0] [.frz (ns.map D.int)] = .ok (.bl true) s') ∧ ∀ base : Heap, K.In base → base.Ns mainGlobals mg → @FS (rowOf l.prog w) l.prog w K mg base k fa F) :
    PySem.W.WalkO q loose XP YP l.row.toRowW d [] (fun f vs => PySem.call f vs) := by
  refine Att.attach_call hn hdf fun w s₀ s₁ mg mb fa o pm cd doc a vs ns G Y ho hd hcd hmg hobj hints hlen hg => ?_
  obtain ⟨K, F, KX, hsp, hF⟩ := F w mg fa _ Y G.T.g hmg
  exact @law_run (rowOf l.prog w) _ _ _ _ _ _ _ _ _ _ _ _ KX G.T.g G.T.b G.T.builtins G.T.nolimit hg hobj hints (Nat.le_trans hlen hn2) hr rfl hF (hsp ns hlen)
end Z

set_option Elab.async false
set_option linter.all false
set_option maxRecDepth 100000
set_option maxHeartbeats 4000000
namespace Z
open PySem PySem.Spec PyProof.Rows L2
variable [Row]

section
variable {X : Cx} {W : WX}
/-! ### ints -/
def dI (g : Int → Int → D) (x y : D) (s : Sto) : Rs D := match x, y with
  | .int i, .int j => .ok (g i j) s
  | _, _ => .no
def dIc (C : Int → Int → Prop) [∀ i j, Decidable (C i j)] (g : Int → Int → D) (x y : D) (s : Sto) : Rs D := match x, y with
  | .int i, .int j => if C i j then .ok (g i j) s else .no
  | _, _ => .no
theorem pr_I {g : Int → Int → D} {g' : Int → Int → V} (h : ∀ i j, flatD (g i j) (g' i j)) : Pr2 X W (dI g) (rI0 g') := by
  intro ρ s H σ x y vx vy Q sr r1 r2 po
  cases x with
  | int i =>
    cases y with
    | int j =>
      obtain rfl : vx = .int i := r1
      obtain rfl : vy = .int j := r2
      exact ⟨i, j, rfl, rfl, po ρ H _ Ext.refl sr (h i j).vr⟩
    | _ => exact po.elim
  | _ => exact po.elim
theorem pr_Ic {C C' : Int → Int → Prop} [∀ i j, Decidable (C i j)] {g : Int → Int → D} {g' : Int → Int → V} (hc : ∀ i j, C i j → C' i j) (h : ∀ i j, flatD (g i j) (g' i j)) : Pr2 X W (dIc C g) (rI C' g') := by
  intro ρ s H σ x y vx vy Q sr r1 r2 po
  cases x with
  | int i =>
    cases y with
    | int j =>
      obtain rfl : vx = .int i := r1
      obtain rfl : vy = .int j := r2
      obtain ⟨h1, po⟩ := Po.ite (c := C i j) po
      exact ⟨i, j, rfl, rfl, hc i j h1, po ρ H _ Ext.refl sr (h i j).vr⟩
    | _ => exact po.elim
  | _ => exact po.elim
def cDiv (i j : Int) : Prop := 0 < j ∧ j < 1073741824
instance (i j : Int) : Decidable (cDiv i j) := inferInstanceAs (Decidable (_ ∧ _))
def cMul (i j : Int) : Prop := (-(2 ^ 64) < i ∧ i < 2 ^ 64) ∨ (-(2 ^ 64) < j ∧ j < 2 ^ 64)
instance (i j : Int) : Decidable (cMul i j) := inferInstanceAs (Decidable (_ ∨ _))
def cMod (i j : Int) : Prop := 0 < j
instance (i j : Int) : Decidable (cMod i j) := inferInstanceAs (Decidable (0 < j))
def cPow (i j : Int) : Prop := 0 ≤ j ∧ j ≤ 1000000 ∧ i.natAbs < 2 ^ 64
instance (i j : Int) : Decidable (cPow i j) := inferInstanceAs (Decidable (_ ∧ _ ∧ _))
def dSub := dI fun i j => .int (i - j)
def dMul := dIc cMul fun i j => .int (i * j)
def dDiv := dIc cDiv fun i j => .int (i / j)
def dMod := dIc cMod fun i j => .int (i % j)
def dPow := dIc cPow fun i j => .int (i ^ j.toNat)
def dLt := dI fun i j => .bl (decide (i < j))
def dLe := dI fun i j => .bl (decide (i ≤ j))
def dGt := dI fun i j => .bl (decide (j < i))
def dGe := dI fun i j => .bl (decide (j ≤ i))
theorem pr_sub : Pr2 X W dSub (rI0 fun i j => .int (i - j)) := pr_I fun _ _ => rfl
theorem pr_mul : Pr2 X W dMul (rI CMul fun i j => .int (i * j)) := pr_Ic (fun _ _ h => h) fun _ _ => rfl
theorem pr_div : Pr2 X W dDiv (rI CDiv fun i j => .int (i / j)) := pr_Ic (fun _ _ h => h) fun _ _ => rfl
theorem pr_mod : Pr2 X W dMod (rI (fun _ j => 0 < j) fun i j => .int (i % j)) := pr_Ic (fun _ _ h => h) fun _ _ => rfl
theorem pr_pow : Pr2 X W dPow (rI CPow fun i j => .int (i ^ j.toNat)) := pr_Ic (fun _ _ h => h) fun _ _ => rfl
theorem pr_lt : Pr2 X W dLt (rI0 fun i j => .bl (decide (i < j))) := pr_I fun _ _ => rfl
theorem pr_le : Pr2 X W dLe (rI0 fun i j => .bl (decide (i ≤ j))) := pr_I fun _ _ => rfl
theorem pr_gt : Pr2 X W dGt (rI0 fun i j => .bl (decide (j < i))) := pr_I fun _ _ => rfl
theorem pr_ge : Pr2 X W dGe (rI0 fun i j => .bl (decide (j ≤ i))) := pr_I fun _ _ => rfl
def dNeg (x : D) (s : Sto) : Rs D := match x with
  | .int i => .ok (.int (-i)) s
  | _ => .no
theorem pr_neg : Pr1 X W dNeg (rU fun i => .int (-i)) := by
  intro ρ s H σ x vx Q sr r1 po
  cases x with
  | int i =>
    obtain rfl : vx = .int i := r1
    exact ⟨i, rfl, po ρ H _ Ext.refl sr rfl⟩
  | _ => exact po.elim

/-! ### + -/
def dAdd (x y : D) (s : Sto) : Rs D := match x, y with
  | .int i, .int j => .ok (.int (i + j)) s
  | .str a, .str b => if a.length + b.length ≤ sizeLine then .ok (.str (a ++ b)) s else .no
  | .tup a, .tup b => if a.length + b.length ≤ sizeLine then .ok (.tup (a ++ b)) s else .no
  | .ref a, .ref b => match s[a]?, s[b]? with
    | some (.lst xs), some (.lst ys) => if xs.length + ys.length ≤ sizeLine then .ok (.ref s.length) (s ++ [.lst (xs ++ ys)]) else .no
    | _, _ => .no
  | _, _ => .no
def rAdds (K : PySem.W.Frag) : R2 := fun x y H Q => (∃ i j, x = .int i ∧ y = .int j ∧ Q (.int (i + j)) H) ∨ (∃ i j, x = .str i ∧ y = .str j ∧ i.length + j.length ≤ sizeLine ∧ Q (.str (i ++ j)) H) ∨ rCatA K x y H Q ∨ rCat x y H Q
theorem op_adds : OpR X (binaryOp .Add) (rAdds X.K) := op_add.or (op_add_str.or (op_catA.or op_cat))
theorem pr_add : Pr2 X W dAdd (rAdds X.K) := by
  intro ρ s H σ x y vx vy Q sr r1 r2 po
  cases x with
  | int i =>
    cases y with
    | int j => exact .inl ⟨i, j, r1, r2, po ρ H _ Ext.refl sr rfl⟩
    | _ => exact po.elim
  | str i =>
    cases y with
    | str j =>
      obtain ⟨h1, po⟩ := Po.ite (c := i.length + j.length ≤ sizeLine) po
      exact .inr (.inl ⟨i, j, r1, r2, h1, po ρ H _ Ext.refl sr rfl⟩)
    | _ => exact po.elim
  | tup i =>
    cases y with
    | tup j =>
      obtain ⟨h1, po⟩ := Po.ite (c := i.length + j.length ≤ sizeLine) po
      have q1 := r1
      have q2 := r2
      rw [VR] at r1 r2
      obtain ⟨a, vs, e1, sq1, rr1⟩ := r1
      obtain ⟨b, us, e2, sq2, rr2⟩ := r2
      subst e1 e2
      refine .inr (.inr (.inl ⟨a, b, vs, us, rfl, rfl, sq1, sq2, by rw [rr1.length, rr2.length]; exact h1, fun e => ?_, fun _ e => ?_, fun _ _ p hp => ?_⟩))
      · subst e
        have e' : i = [] := List.eq_nil_of_length_eq_zero rr1.length.symm
        subst e'
        exact po ρ H _ Ext.refl sr q2
      · subst e
        have e' : j = [] := List.eq_nil_of_length_eq_zero rr2.length.symm
        subst e'
        rw [List.append_nil] at po
        exact po ρ H _ Ext.refl sr q1
      · obtain ⟨x1, sr1, v1⟩ := new_tup sr hp (rr1.append rr2)
        exact po ρ _ _ x1 sr1 v1
    | _ => exact po.elim
  | ref a =>
    cases y with
    | ref b =>
      have po2 : Po X.K X.mg (VR X.K) W σ ρ s.length H (match s[a]?, s[b]? with
        | some (.lst xs), some (.lst ys) => if xs.length + ys.length ≤ sizeLine then Rs.ok (.ref s.length) (s ++ [.lst (xs ++ ys)]) else .no
        | _, _ => .no) Q := po
      rw [VR] at r1 r2
      obtain ⟨h1, rfl⟩ := r1
      obtain ⟨h2, rfl⟩ := r2
      split at po2
      · rename_i xs ys e1 e2
        obtain ⟨vs, hv, rv⟩ := sr.ob _ _ e1
        obtain ⟨us, hu, ru⟩ := sr.ob _ _ e2
        obtain ⟨hl, po3⟩ := Po.ite po2
        refine .inr (.inr (.inr ⟨_, _, vs, us, rfl, rfl, hv, hu, by rw [rv.length, ru.length]; exact hl, fun p hp => ?_⟩))
        obtain ⟨x1, sr1, v1⟩ := new_lst sr hp (rv.append ru)
        exact po3 _ _ _ x1 sr1 v1
      · exact po2.elim
    | _ => exact po.elim
  | _ => exact po.elim

/-! ### data: none, bools, ints, texts, lists, tuples -/
def pyd : Nat → Sto → D → Option PyData
  | 0, _, _ => none
  | _ + 1, _, .non => some .none
  | _ + 1, _, .bl b => some (.bool b)
  | _ + 1, _, .int i => some (.int i)
  | _ + 1, _, .str x => some (.str x)
  | n + 1, s, .tup xs => (xs.mapM (pyd n s)).map .tuple
  | n + 1, s, .ref k => (lstAt s k).bind fun xs => (xs.mapM (pyd n s)).map .list
theorem pyd_dp {K : PySem.W.Frag} {mg : Str → Option Value} {ρ : Nat → Addr} {s : Sto} {H : Hp} (sr : SR K mg ρ s H) : ∀ (n : Nat) (d : D) (v : V) (p : PyData), pyd n s d = some p → VR K ρ s.length H d v → Dp K H v p := by
  intro n
  induction n with
  | zero => intro d v p h; cases h
  | succ n ih =>
    have all : ∀ (ds : List D) (vs : List V) (ps : List PyData), ds.mapM (pyd n s) = some ps → VRs K ρ s.length H ds vs → DpAll K H vs ps := by
      intro ds
      induction ds with
      | nil =>
        intro vs ps h r
        rw [VRs] at r
        subst r
        simp at h
        subst h
        exact .nil
      | cons d ds ihd =>
        intro vs ps h r
        obtain ⟨v, vr, rfl, r1, r2⟩ := r.uncons
        rw [List.mapM_cons] at h
        obtain ⟨p, h1, h⟩ := Option.bind_eq_some_iff.mp h
        obtain ⟨qs, h2, h⟩ := Option.bind_eq_some_iff.mp h
        cases h
        exact .cons (ih d v p h1 r1) (ihd vr qs h2 r2)
    intro d v p h r
    cases d with
    | non =>
      cases h
      obtain rfl : v = .non := r
      exact .non
    | bl b =>
      cases h
      obtain rfl : v = .bl b := r
      exact .bl b
    | int i =>
      cases h
      obtain rfl : v = .int i := r
      exact .int i
    | str x =>
      cases h
      obtain rfl : v = .str x := r
      exact .str x
    | tup xs =>
      rw [pyd] at h
      obtain ⟨ps, h1, rfl⟩ := Option.map_eq_some_iff.mp h
      rw [VR] at r
      obtain ⟨a, vs, rfl, sq, rr⟩ := r
      exact .tup sq (all xs vs ps h1 rr)
    | ref k =>
      rw [pyd] at h
      obtain ⟨xs, h1, h⟩ := Option.bind_eq_some_iff.mp h
      obtain ⟨ps, h2, rfl⟩ := Option.map_eq_some_iff.mp h
      rw [VR] at r
      obtain ⟨hk, rfl⟩ := r
      obtain ⟨vs, sq, rr⟩ := sr.lst h1
      exact .lst sq (all xs vs ps h2 rr)
/-- the data of a value that == and repr take -/
def shp (s : Sto) (d : D) : Option PyData := match pyd 30 s d with
  | some p => if SeqAt.shaped p = true then some p else none
  | none => none
theorem shp_dp {K : PySem.W.Frag} {mg : Str → Option Value} {ρ : Nat → Addr} {s : Sto} {H : Hp} (sr : SR K mg ρ s H) {d : D} {v : V} {p : PyData} (h : shp s d = some p) (r : VR K ρ s.length H d v) : Dp K H v p ∧ SeqAt.shaped p = true := by
  unfold shp at h
  cases e : pyd 30 s d with
  | none => rw [e] at h; cases h
  | some q =>
    rw [e] at h
    by_cases hs : SeqAt.shaped q = true
    · simp only [hs, if_true] at h
      obtain rfl : q = p := Option.some.inj h
      exact ⟨pyd_dp sr 30 d v q e r, hs⟩
    · simp only [hs] at h
      cases h
/-- == of texts, of data -/
def dEqB (neg : Bool) (x y : D) (s : Sto) : Rs D := match x, y with
  | .str a, .str b => .ok (.bl (neg ^^ decide (a = b))) s
  | x, y => match shp s x, shp s y with
    | some p, some q => .ok (.bl (neg ^^ PyData.eqv p q)) s
    | _, _ => .no
def dEq := dEqB false
def dNe := dEqB true
def rEqs (K : PySem.W.Frag) : R2 := fun x y H Q => rEq x y H Q ∨ rEqD K x y H Q
def rNes (K : PySem.W.Frag) : R2 := fun x y H Q => rNe x y H Q ∨ rNeD K x y H Q
theorem op_eqs (hu : X.A.units + 64 < cLine) : OpR X (compareOp .Eq) (rEqs X.K) := op_eq.or (op_eqD hu)
theorem op_nes (hu : X.A.units + 64 < cLine) : OpR X (compareOp .NotEq) (rNes X.K) := op_ne.or (op_neD hu)
theorem decide_strV (a b : Str) : decide (V.str a = V.str b) = decide (a = b) := by
  by_cases h : a = b
  · rw [h, decide_eq_true rfl, decide_eq_true rfl]
  · rw [decide_eq_false h, decide_eq_false fun e => h (by cases e; rfl)]
theorem pr_eq : Pr2 X W dEq (rEqs X.K) := by
  intro ρ s H σ x y vx vy Q sr r1 r2 po
  unfold dEq dEqB at po
  split at po
  · rename_i a b
    obtain rfl : vx = .str a := r1
    obtain rfl : vy = .str b := r2
    refine .inl ⟨rfl, ?_⟩
    rw [decide_strV]
    refine po ρ H _ Ext.refl sr ?_
    show V.bl _ = V.bl _
    rw [Bool.false_xor]
  · split at po
    · rename_i p q h1 h2
      obtain ⟨a1, a2⟩ := shp_dp sr h1 r1
      obtain ⟨b1, b2⟩ := shp_dp sr h2 r2
      refine .inr ⟨p, q, a1, b1, a2, b2, po ρ H _ Ext.refl sr ?_⟩
      show V.bl _ = V.bl _
      rw [Bool.false_xor]
    · exact po.elim
theorem pr_ne : Pr2 X W dNe (rNes X.K) := by
  intro ρ s H σ x y vx vy Q sr r1 r2 po
  unfold dNe dEqB at po
  split at po
  · rename_i a b
    obtain rfl : vx = .str a := r1
    obtain rfl : vy = .str b := r2
    refine .inl ⟨rfl, ?_⟩
    rw [decide_strV]
    refine po ρ H _ Ext.refl sr ?_
    show V.bl _ = V.bl _
    rw [Bool.true_xor]
  · split at po
    · rename_i p q h1 h2
      obtain ⟨a1, a2⟩ := shp_dp sr h1 r1
      obtain ⟨b1, b2⟩ := shp_dp sr h2 r2
      refine .inr ⟨p, q, a1, b1, a2, b2, po ρ H _ Ext.refl sr ?_⟩
      show V.bl _ = V.bl _
      rw [Bool.true_xor]
    · exact po.elim
/-- is None -/
def dIsN (neg : Bool) (x : D) (s : Sto) : Rs D := match x with
  | .non => .ok (.bl (!neg)) s
  | _ => .ok (.bl neg) s
/-- x in a list or a tuple of data; one sign in a text -/
def dInB (neg : Bool) (x y : D) (s : Sto) : Rs D := match y with
  | .str z => match x with
    | .str c => if c.length = 1 then .ok (.bl (neg ^^ decide (c.cps.getD 0 0 ∈ z.cps.toList))) s else .no
    | _ => .no
  | .tup ys => match shp s x, shp s (.tup ys) with
    | some p, some (.tuple ps) => .ok (.bl (neg ^^ ps.any fun z => PyData.eqv z p)) s
    | _, _ => .no
  | .ref n => match shp s x, shp s (.ref n) with
    | some p, some (.list ps) => .ok (.bl (neg ^^ ps.any fun z => PyData.eqv z p)) s
    | _, _ => .no
  | _ => .no

theorem room_in {A : Around} {d : PyData} (h : SeqAt.shaped d = true) (hu : A.units + 65 < cLine) : A.units + d.depth < cLine := by
  have := SeqAt.depth_of_shaped h
  omega
def rInT (K : PySem.W.Frag) (neg : Bool) : R2 := fun x y H Q => ∃ d ds, Dp K H x d ∧ Dp K H y (.tuple ds) ∧ SeqAt.shaped d = true ∧ SeqAt.shaped (.tuple ds) = true ∧ Q (.bl (neg ^^ ds.any fun z => PyData.eqv z d)) H
theorem op_inT (hu : X.A.units + 65 < cLine) : OpR X (compareOp .In) (rInT X.K false) := by
  intro pins s σ H x y v u Q I rx ry h
  obtain ⟨d, ds, hd, he, sd, se, q⟩ := h
  obtain ⟨as, r1⟩ := Dp.reads I d x v hd rx
  obtain ⟨bs, r2⟩ := Dp.reads I (.tuple ds) y u he ry
  rw [Bool.false_xor] at q
  exact SeqAt.in_tuple_reads r2 r1 (SeqAt.canLay_of_shaped se) (SeqAt.canLay_of_shaped sd) (by first | exact room_in sd hu | exact room_in_shaped sd hu) ⟨.bl _, H, I, rfl, q⟩
theorem op_notInT (hu : X.A.units + 65 < cLine) : OpR X (compareOp .NotIn) (rInT X.K true) := by
  intro pins s σ H x y v u Q I rx ry h
  obtain ⟨d, ds, hd, he, sd, se, q⟩ := h
  obtain ⟨as, r1⟩ := Dp.reads I d x v hd rx
  obtain ⟨bs, r2⟩ := Dp.reads I (.tuple ds) y u he ry
  rw [Bool.true_xor] at q
  exact SeqAt.notIn_tuple_reads r2 r1 (SeqAt.canLay_of_shaped se) (SeqAt.canLay_of_shaped sd) (by first | exact room_in sd hu | exact room_in_shaped sd hu) ⟨.bl _, H, I, rfl, q⟩
def rInL (K : PySem.W.Frag) (neg : Bool) : R2 := fun x y H Q => ∃ d ds, Dp K H x d ∧ Dp K H y (.list ds) ∧ SeqAt.shaped d = true ∧ SeqAt.shaped (.list ds) = true ∧ Q (.bl (neg ^^ ds.any fun z => PyData.eqv z d)) H
theorem op_inL (hu : X.A.units + 65 < cLine) : OpR X (compareOp .In) (rInL X.K false) := by
  intro pins s σ H x y v u Q I rx ry ⟨d, ds, h1, h2, h3, h4, q⟩
  rw [Bool.false_xor] at q
  exact op_inD hu pins s σ H x y v u Q I rx ry ⟨d, ds, h1, h2, h3, h4, q⟩
theorem op_notInL (hu : X.A.units + 65 < cLine) : OpR X (compareOp .NotIn) (rInL X.K true) := by
  intro pins s σ H x y v u Q I rx ry ⟨d, ds, h1, h2, h3, h4, q⟩
  rw [Bool.true_xor] at q
  exact op_notInD hu pins s σ H x y v u Q I rx ry ⟨d, ds, h1, h2, h3, h4, q⟩
def rInS (neg : Bool) : R2 := fun x y H Q => ∃ (c : Nat) (z : Str), x = .str ⟨#[c]⟩ ∧ y = .str z ∧ Q (.bl (neg ^^ decide (c ∈ z.cps.toList))) H
theorem op_inS : OpR X (compareOp .In) (rInS false) := by
  intro pins s σ H x y v u Q I rx ry ⟨c, z, h1, h2, q⟩
  rw [Bool.false_xor] at q
  exact op_in_sign pins s σ H x y v u Q I rx ry ⟨c, z, h1, h2, q⟩
theorem op_notInS : OpR X (compareOp .NotIn) (rInS true) := by
  intro pins s σ H x y v u Q I rx ry ⟨c, z, h1, h2, q⟩
  rw [Bool.true_xor] at q
  exact op_notIn_sign pins s σ H x y v u Q I rx ry ⟨c, z, h1, h2, q⟩
def rIns (K : PySem.W.Frag) (neg : Bool) : R2 := fun x y H Q => rInS neg x y H Q ∨ rInT K neg x y H Q ∨ rInL K neg x y H Q
theorem op_ins (hu : X.A.units + 65 < cLine) : OpR X (compareOp .In) (rIns X.K false) := op_inS.or ((op_inT hu).or (op_inL hu))
theorem op_notIns (hu : X.A.units + 65 < cLine) : OpR X (compareOp .NotIn) (rIns X.K true) := op_notInS.or ((op_notInT hu).or (op_notInL hu))
theorem str_one {c : Str} (h : c.length = 1) : c = ⟨#[c.cps.getD 0 0]⟩ := by
  obtain ⟨⟨l⟩⟩ := c
  match l, h with
  | [a], _ => rfl
theorem pr_in {neg : Bool} : Pr2 X W (dInB neg) (rIns X.K neg) := by
  intro ρ s H σ x y vx vy Q sr r1 r2 po
  cases y with
  | str z =>
    cases x with
    | str c =>
      obtain ⟨h1, po⟩ := Po.ite (c := c.length = 1) po
      obtain rfl : vx = .str c := r1
      obtain rfl : vy = .str z := r2
      exact .inl ⟨c.cps.getD 0 0, z, congrArg V.str (str_one h1), rfl, po ρ H _ Ext.refl sr rfl⟩
    | _ => exact po.elim
  | tup ys =>
    have po2 : Po X.K X.mg (VR X.K) W σ ρ s.length H (match shp s x, shp s (.tup ys) with
      | some p, some (.tuple ps) => .ok (.bl (neg ^^ ps.any fun z => PyData.eqv z p)) s
      | _, _ => .no) Q := po
    split at po2
    · rename_i p ps h1 h2
      obtain ⟨a1, a2⟩ := shp_dp sr h1 r1
      obtain ⟨b1, b2⟩ := shp_dp sr h2 r2
      exact .inr (.inl ⟨p, ps, a1, b1, a2, b2, po2 ρ H _ Ext.refl sr rfl⟩)
    · exact po2.elim
  | ref k =>
    have po2 : Po X.K X.mg (VR X.K) W σ ρ s.length H (match shp s x, shp s (.ref k) with
      | some p, some (.list ps) => .ok (.bl (neg ^^ ps.any fun z => PyData.eqv z p)) s
      | _, _ => .no) Q := po
    split at po2
    · rename_i p ps h1 h2
      obtain ⟨a1, a2⟩ := shp_dp sr h1 r1
      obtain ⟨b1, b2⟩ := shp_dp sr h2 r2
      exact .inr (.inr ⟨p, ps, a1, b1, a2, b2, po2 ρ H _ Ext.refl sr rfl⟩)
    · exact po2.elim
  | _ => exact po.elim
theorem pr_isN : Pr2 X W (fun x y s => match y with | .non => dIsN false x s | _ => .no) (fun x y H Q => y = .non ∧ Q (.bl (decide (x = .non))) H) := by
  intro ρ s H σ x y vx vy Q sr r1 r2 po
  cases y with
  | non =>
    refine ⟨r2, ?_⟩
    cases x with
    | non =>
      obtain rfl : vx = .non := r1
      exact po ρ H _ Ext.refl sr rfl
    | tup xs =>
      rw [VR] at r1
      obtain ⟨a, vs, rfl, _⟩ := r1
      exact po ρ H _ Ext.refl sr rfl
    | ref k =>
      rw [VR] at r1
      obtain ⟨_, rfl⟩ := r1
      exact po ρ H _ Ext.refl sr rfl
    | bl b =>
      obtain rfl : vx = .bl b := r1
      exact po ρ H _ Ext.refl sr rfl
    | int b =>
      obtain rfl : vx = .int b := r1
      exact po ρ H _ Ext.refl sr rfl
    | str b =>
      obtain rfl : vx = .str b := r1
      exact po ρ H _ Ext.refl sr rfl
  | _ => exact po.elim
theorem pr_notN : Pr2 X W (fun x y s => match y with | .non => dIsN true x s | _ => .no) (fun x y H Q => y = .non ∧ Q (.bl (!decide (x = .non))) H) := by
  intro ρ s H σ x y vx vy Q sr r1 r2 po
  cases y with
  | non =>
    refine ⟨r2, ?_⟩
    cases x with
    | non =>
      obtain rfl : vx = .non := r1
      exact po ρ H _ Ext.refl sr rfl
    | tup xs =>
      rw [VR] at r1
      obtain ⟨a, vs, rfl, _⟩ := r1
      exact po ρ H _ Ext.refl sr rfl
    | ref k =>
      rw [VR] at r1
      obtain ⟨_, rfl⟩ := r1
      exact po ρ H _ Ext.refl sr rfl
    | bl b =>
      obtain rfl : vx = .bl b := r1
      exact po ρ H _ Ext.refl sr rfl
    | int b =>
      obtain rfl : vx = .int b := r1
      exact po ρ H _ Ext.refl sr rfl
    | str b =>
      obtain rfl : vx = .str b := r1
      exact po ρ H _ Ext.refl sr rfl
  | _ => exact po.elim

/-! ### built-ins by name -/
theorem vr_seq {K : PySem.W.Frag} {mg : Str → Option Value} {ρ : Nat → Addr} {s : Sto} {H : Hp} (sr : SR K mg ρ s H) {d : D} {v : V} (r : VR K ρ s.length H d v) {xs : List D} (h : (match d with | .tup ys => some ys | .ref n => lstAt s n | _ => none) = some xs) :
    ∃ a vs, v = .ref a ∧ (SqL K H a vs ∨ SqT K H a vs) ∧ VRs K ρ s.length H xs vs := by
  cases d with
  | tup ys =>
    cases h
    rw [VR] at r
    obtain ⟨a, vs, rfl, sq, rr⟩ := r
    exact ⟨a, vs, rfl, .inr sq, rr⟩
  | ref n =>
    rw [VR] at r
    obtain ⟨_, rfl⟩ := r
    obtain ⟨vs, sq, rr⟩ := sr.lst h
    exact ⟨_, vs, rfl, .inl sq, rr⟩
  | _ => cases h
/-- the items of a list or a tuple -/
def seqD (s : Sto) (d : D) : Option (List D) := match d with
  | .tup ys => some ys
  | .ref n => lstAt s n
  | _ => none
def fLen (ds : List D) (s : Sto) : Rs D := match ds with
  | [.str z] => if z.length ≤ sizeLine then .ok (.int z.length) s else .no
  | [d] => match seqD s d with
    | some xs => .ok (.int xs.length) s
    | none => .no
  | _ => .no
def rLens (K : PySem.W.Frag) : List V → Hp → VK → Prop := fun xs H Q => (∃ z, xs = [.str z] ∧ z.length ≤ sizeLine ∧ Q (.int z.length) H) ∨ ∃ p ys, xs = [.ref p] ∧ (SqL K H p ys ∨ SqT K H p ys) ∧ Q (.int ys.length) H
theorem call_lens : CallR X (.builtin "len") (rLens X.K) := call_len_str.or call_len_seq
theorem pn_len : PrN X W fLen (rLens X.K) := by
  intro ρ s H σ xs vs Q sr r po
  unfold fLen at po
  split at po
  · rename_i z
    obtain ⟨v, rfl, rv⟩ := r.one
    obtain rfl : v = .str z := rv
    obtain ⟨h1, po⟩ := Po.ite po
    exact .inl ⟨z, rfl, h1, po ρ H _ Ext.refl sr rfl⟩
  · rename_i d _
    obtain ⟨v, rfl, rv⟩ := r.one
    cases e : seqD s d with
    | none => rw [e] at po; exact po.elim
    | some ys =>
      rw [e] at po
      obtain ⟨a, ws, rfl, sq, rr⟩ := vr_seq sr rv (xs := ys) (by cases d <;> exact e)
      exact .inr ⟨a, ws, rfl, sq, po ρ H _ Ext.refl sr (by rw [rr.length]; rfl)⟩
  · exact po.elim
def fList (ds : List D) (s : Sto) : Rs D := match ds with
  | [d] => match seqD s d with
    | some xs => if xs.length ≤ sizeLine then .ok (.ref s.length) (s ++ [.lst xs]) else .no
    | none => .no
  | _ => .no
theorem pn_list : PrN X W fList (fun xs H Q => ∃ p ys, xs = [.ref p] ∧ (SqL X.K H p ys ∨ SqT X.K H p ys) ∧ ∀ l, H l = none → Q (.ref l) (upd H l (.lst ys))) := by
  intro ρ s H σ xs vs Q sr r po
  unfold fList at po
  split at po
  · rename_i d
    obtain ⟨v, rfl, rv⟩ := r.one
    cases e : seqD s d with
    | none => rw [e] at po; exact po.elim
    | some ys =>
      rw [e] at po
      obtain ⟨hl, po⟩ := Po.ite po
      obtain ⟨a, ws, rfl, sq, rr⟩ := vr_seq sr rv (xs := ys) (by cases d <;> exact e)
      refine ⟨a, ws, rfl, sq, fun l hn => ?_⟩
      obtain ⟨x1, sr1, v1⟩ := new_lst sr hn rr
      exact po _ _ _ x1 sr1 v1
  · exact po.elim
def fTuple (ds : List D) (s : Sto) : Rs D := match ds with
  | [d] => match seqD s d with
    | some xs => .ok (.tup xs) s
    | none => .no
  | _ => .no
theorem pn_tuple : PrN X W fTuple (fun xs H Q => ∃ p ys, xs = [.ref p] ∧ ((SqL X.K H p ys ∧ ∀ l, H l = none → Q (.ref l) (upd H l (.tup ys))) ∨ (SqT X.K H p ys ∧ Q (.ref p) H))) := by
  intro ρ s H σ xs vs Q sr r po
  unfold fTuple at po
  split at po
  · rename_i d
    obtain ⟨v, rfl, rv⟩ := r.one
    cases e : seqD s d with
    | none => rw [e] at po; exact po.elim
    | some ys =>
      rw [e] at po
      obtain ⟨a, ws, rfl, sq, rr⟩ := vr_seq sr rv (xs := ys) (by cases d <;> exact e)
      refine ⟨a, ws, rfl, ?_⟩
      rcases sq with sq | sq
      · refine .inl ⟨sq, fun l hn => ?_⟩
        obtain ⟨x1, sr1, v1⟩ := new_tup sr hn rr
        exact po _ _ _ x1 sr1 v1
      · refine .inr ⟨sq, po ρ H _ Ext.refl sr ?_⟩
        rw [VR]
        exact ⟨a, ws, rfl, sq, rr⟩
  · exact po.elim
def fInt (ds : List D) (s : Sto) : Rs D := match ds with
  | [.int i] => .ok (.int i) s
  | [.bl b] => .ok (.int (if b then 1 else 0)) s
  | _ => .no
theorem pn_int : PrN X W fInt (fun xs H Q => (∃ i, xs = [.int i] ∧ Q (.int i) H) ∨ ∃ k, xs = [.bl k] ∧ Q (.int (if k then 1 else 0)) H) := by
  intro ρ s H σ xs vs Q sr r po
  unfold fInt at po
  split at po
  · rename_i i
    obtain ⟨v, rfl, rv⟩ := r.one
    obtain rfl : v = .int i := rv
    exact .inl ⟨i, rfl, po ρ H _ Ext.refl sr rfl⟩
  · rename_i b
    obtain ⟨v, rfl, rv⟩ := r.one
    obtain rfl : v = .bl b := rv
    exact .inr ⟨b, rfl, po ρ H _ Ext.refl sr rfl⟩
  · exact po.elim
def fAbs (ds : List D) (s : Sto) : Rs D := match ds with
  | [.int i] => .ok (.int (if i < 0 then -i else i)) s
  | _ => .no
theorem pn_abs : PrN X W fAbs (fun xs H Q => ∃ i, xs = [.int i] ∧ Q (.int (if i < 0 then -i else i)) H) := by
  intro ρ s H σ xs vs Q sr r po
  unfold fAbs at po
  split at po
  · rename_i i
    obtain ⟨v, rfl, rv⟩ := r.one
    obtain rfl : v = .int i := rv
    exact ⟨i, rfl, po ρ H _ Ext.refl sr rfl⟩
  · exact po.elim
def fMax2 (ds : List D) (s : Sto) : Rs D := match ds with
  | [.int i, .int j] => .ok (.int (if j > i then j else i)) s
  | _ => .no
def fMin2 (ds : List D) (s : Sto) : Rs D := match ds with
  | [.int i, .int j] => .ok (.int (if j < i then j else i)) s
  | _ => .no
theorem pn_max2 : PrN X W fMax2 (fun xs H Q => ∃ i j, xs = [.int i, .int j] ∧ Q (.int (if j > i then j else i)) H) := by
  intro ρ s H σ xs vs Q sr r po
  unfold fMax2 at po
  split at po
  · rename_i i j
    obtain ⟨v, vr, rfl, rv, rr⟩ := r.uncons
    obtain ⟨u, rfl, ru⟩ := rr.one
    obtain rfl : v = .int i := rv
    obtain rfl : u = .int j := ru
    exact ⟨i, j, rfl, po ρ H _ Ext.refl sr rfl⟩
  · exact po.elim
theorem pn_min2 : PrN X W fMin2 (fun xs H Q => ∃ i j, xs = [.int i, .int j] ∧ Q (.int (if j < i then j else i)) H) := by
  intro ρ s H σ xs vs Q sr r po
  unfold fMin2 at po
  split at po
  · rename_i i j
    obtain ⟨v, vr, rfl, rv, rr⟩ := r.uncons
    obtain ⟨u, rfl, ru⟩ := rr.one
    obtain rfl : v = .int i := rv
    obtain rfl : u = .int j := ru
    exact ⟨i, j, rfl, po ρ H _ Ext.refl sr rfl⟩
  · exact po.elim
def blD : D → Option Bool
  | .bl b => some b
  | _ => none
theorem bls_of {K : PySem.W.Frag} {ρ : Nat → Addr} {n : Nat} {H : Hp} : ∀ {xs : List D} {vs : List V} {bs : List Bool}, VRs K ρ n H xs vs → xs.mapM blD = some bs → vs = bs.map V.bl
  | [], vs, bs, r, h => by
    rw [VRs] at r
    subst r
    simp at h
    subst h
    rfl
  | x :: xs, vs, bs, r, h => by
    obtain ⟨v, vr, rfl, r1, r2⟩ := r.uncons
    rw [List.mapM_cons] at h
    obtain ⟨b, h1, h⟩ := Option.bind_eq_some_iff.mp h
    obtain ⟨cs, h2, h⟩ := Option.bind_eq_some_iff.mp h
    cases h
    rw [bls_of r2 h2]
    cases x with
    | bl b' =>
      cases h1
      obtain rfl : v = .bl _ := r1
      rfl
    | _ => cases h1
def fAllAny (all : Bool) (ds : List D) (s : Sto) : Rs D := match ds with
  | [.ref n] => match (lstAt s n).bind fun xs => xs.mapM blD with
    | some bs => .ok (.bl (if all then bs.all id else bs.any id)) s
    | none => .no
  | _ => .no
theorem pn_all : PrN X W (fAllAny true) (rAll X.K) := by
  intro ρ s H σ xs vs Q sr r po
  unfold fAllAny at po
  split at po
  · rename_i n
    obtain ⟨v, rfl, rv⟩ := r.one
    split at po
    · rename_i bs e
      obtain ⟨ys, h1, h2⟩ := Option.bind_eq_some_iff.mp e
      rw [VR] at rv
      obtain ⟨_, rfl⟩ := rv
      obtain ⟨ws, sq, rr⟩ := sr.lst h1
      rw [bls_of rr h2] at sq
      exact ⟨_, bs, rfl, sq, po ρ H _ Ext.refl sr rfl⟩
    · exact po.elim
  · exact po.elim
theorem pn_any : PrN X W (fAllAny false) (rAny X.K) := by
  intro ρ s H σ xs vs Q sr r po
  unfold fAllAny at po
  split at po
  · rename_i n
    obtain ⟨v, rfl, rv⟩ := r.one
    split at po
    · rename_i bs e
      obtain ⟨ys, h1, h2⟩ := Option.bind_eq_some_iff.mp e
      rw [VR] at rv
      obtain ⟨_, rfl⟩ := rv
      obtain ⟨ws, sq, rr⟩ := sr.lst h1
      rw [bls_of rr h2] at sq
      exact ⟨_, bs, rfl, sq, po ρ H _ Ext.refl sr rfl⟩
    · exact po.elim
  · exact po.elim
/-! ### sorted: data of one shape, stable, any length -/
open PySem.W in
def rSrt (X : Cx) : List V → Hp → VK → Prop := fun vs H Q => ∃ (a : Addr) (ps : List (D × V)) (enc : D → PyData), vs = [.ref a] ∧ SqL X.K H a (ps.map (·.2)) ∧ (∀ p ∈ ps, Dp X.K H p.2 (enc p.1)) ∧
  AllAlike (ps.map fun p => enc p.1) ∧ Sortable (ps.map fun p => enc p.1) ∧ (∀ p ∈ ps, X.A.units + 2 + (enc p.1).depth < cLine) ∧ ∀ q, H q = none → Q (.ref q) (upd H q (.lst ((ps.mergeSort (dataLe false fun p => enc p.1)).map (·.2))))
theorem each_vals {ps : List (D × V)} : ∀ {us : List Value}, PySem.W.EachIs (fun u (p : D × V) => RelV p.2 u) us ps → Vals (ps.map (·.2)) us := by
  induction ps with
  | nil =>
    intro us h
    cases h
    exact .nil
  | cons p ps ih =>
    intro us h
    cases h with
    | cons h1 h2 => exact .cons h1 (ih h2)
theorem vals_each {ps : List (D × V)} : ∀ {us : List Value}, Vals (ps.map (·.2)) us → PySem.W.EachIs (fun u (p : D × V) => RelV p.2 u) us ps := by
  induction ps with
  | nil =>
    intro us h
    cases h
    exact .nil
  | cons p ps ih =>
    intro us h
    cases h with
    | cons h1 h2 => exact .cons h1 (ih h2)
theorem call_srt : CallR X (.builtin "sorted") (rSrt X) := by
  intro pins s σ H vs us Q I r h
  obtain ⟨a, ps, enc, rfl, hs, hd, hal, hk, hu, q⟩ := h
  obtain ⟨its, rv, hl, hz⟩ := I.list hs
  rw [Vals.ref1 r]
  have e1 := vals_each rv
  have er : ∀ {qs : List (D × V)} {ws : List Value}, (∀ p ∈ qs, Dp X.K H p.2 (enc p.1)) → PySem.W.EachIs (fun u (p : D × V) => RelV p.2 u) ws qs → PySem.W.EachIs (fun v (p : D × V) => ∃ as, Reads s.heap v (enc p.1) as) ws qs := by
    intro qs
    induction qs with
    | nil =>
      intro ws _ h
      cases h
      exact .nil
    | cons p qs ih =>
      intro ws hp h
      cases h with
      | cons h1 h2 => exact .cons (Dp.reads I _ _ _ (hp p List.mem_cons_self) h1) (ih (fun z hz => hp z (List.mem_cons_of_mem _ hz)) h2)
  refine PySem.W.sorted_data (R := fun u (p : D × V) => RelV p.2 u) (enc := fun p => enc p.1) (bs := ps) hl.isList e1 (er hd e1) hal hk (by rw [List.length_map] at hz; exact hz) hu fun out ho eo => ?_
  obtain ⟨ep, he'⟩ := PyProof.Rows.sortedAll_at s.heap its out.toArray
  have hv := each_vals eo
  have hlen : ((ps.mergeSort (PySem.W.dataLe false fun p => enc p.1)).map (·.2)).length ≤ sizeLine := by rw [hv.length, ho]; rw [List.length_map] at hz; exact hz
  exact ⟨.ref _, upd H (s.heap.objs.size + 1) (.lst ((ps.mergeSort (PySem.W.dataLe false fun p => enc p.1)).map (·.2))), I.laid (t' := s.toks) (fun _ _ => PyProof.Rows.sortedAll_old) (Nat.le_succ _) ⟨hlen, out, ep, hv, he'⟩, rfl, q _ (I.hok.fresh (Nat.le_succ _))⟩
end
end Z

set_option Elab.async false
set_option linter.all false
set_option maxRecDepth 100000
set_option maxHeartbeats 4000000
namespace Z
open PySem PySem.Spec PyProof.Rows L2
variable [Row]

section
variable {X : Cx} {W : WX}
/-! ### sorted -/
def encD (s : Sto) (d : D) : PyData := (pyd 30 s d).getD .none
def tupB : PyData → Bool
  | .tuple (_ :: _) => true
  | _ => false
def noTupB : PyData → Bool
  | .tuple _ => false
  | .none => false
  | _ => true
def canSort (s : Sto) (xs : List D) : Bool := (xs.all fun d => (shp s d).isSome) && (xs.all fun d => xs.all fun e => PySem.W.alike (encD s d) (encD s e)) && ((xs.all fun d => tupB (encD s d)) || xs.all fun d => noTupB (encD s d))
def sortD (s : Sto) (xs : List D) : List D := xs.mergeSort (PySem.W.dataLe false (encD s))
theorem shp_enc {s : Sto} {d : D} (h : (shp s d).isSome = true) : pyd 30 s d = some (encD s d) ∧ SeqAt.shaped (encD s d) = true := by
  unfold shp at h
  unfold encD
  cases e : pyd 30 s d with
  | none => rw [e] at h; cases h
  | some p =>
    rw [e] at h
    by_cases hs : SeqAt.shaped p = true
    · exact ⟨rfl, hs⟩
    · simp [hs] at h
theorem VRs.pairs {K : PySem.W.Frag} {ρ : Nat → Addr} {n : Nat} {H : Hp} : ∀ {ds : List D} {vs : List V}, VRs K ρ n H ds vs → ∃ ps : List (D × V), ps.map (·.1) = ds ∧ ps.map (·.2) = vs ∧ ∀ p ∈ ps, VR K ρ n H p.1 p.2
  | [], vs, r => by
    rw [VRs] at r
    subst r
    exact ⟨[], rfl, rfl, fun p hp => absurd hp (by simp)⟩
  | d :: ds, vs, r => by
    obtain ⟨v, vr, rfl, r1, r2⟩ := r.uncons
    obtain ⟨ps, h1, h2, h3⟩ := VRs.pairs r2
    exact ⟨(d, v) :: ps, by simp [h1], by simp [h2], fun p hp => by
      rcases List.mem_cons.mp hp with rfl | hp
      · exact r1
      · exact h3 p hp⟩
theorem VRs.of_pairs {K : PySem.W.Frag} {ρ : Nat → Addr} {n : Nat} {H : Hp} : ∀ {ps : List (D × V)}, (∀ p ∈ ps, VR K ρ n H p.1 p.2) → VRs K ρ n H (ps.map (·.1)) (ps.map (·.2))
  | [], _ => VRs.nil
  | p :: ps, h => VRs.cons (h p List.mem_cons_self) (VRs.of_pairs fun q hq => h q (List.mem_cons_of_mem _ hq))
def fSorted (ds : List D) (s : Sto) : Rs D := match ds with
  | [.ref n] => match lstAt s n with
    | some xs => if canSort s xs = true then .ok (.ref s.length) (s ++ [.lst (sortD s xs)]) else .no
    | none => .no
  | _ => .no
theorem pn_sorted (hu : X.A.units + 66 < cLine) : PrN X W fSorted (rSrt X) := by
  intro ρ s H σ xs vs Q sr r po
  unfold fSorted at po
  split at po
  · rename_i n
    obtain ⟨v, rfl, rv⟩ := r.one
    split at po
    · rename_i ys h1
      obtain ⟨hc, po⟩ := Po.ite po
      rw [VR] at rv
      obtain ⟨_, rfl⟩ := rv
      obtain ⟨ws, sq, rr⟩ := sr.lst h1
      obtain ⟨ps, e1, e2, e3⟩ := rr.pairs
      unfold canSort at hc
      rw [Bool.and_eq_true, Bool.and_eq_true] at hc
      obtain ⟨⟨c1, c2⟩, c3⟩ := hc
      have mem1 : ∀ p ∈ ps, p.1 ∈ ys := fun p hp => by rw [← e1]; exact List.mem_map_of_mem hp
      refine ⟨ρ n, ps, encD s, rfl, by rw [e2]; exact sq, fun p hp => ?_, ?_, ?_, fun p hp => ?_, fun q hq => ?_⟩
      · exact pyd_dp sr 30 p.1 p.2 _ (shp_enc (List.all_eq_true.mp c1 p.1 (mem1 p hp))).1 (e3 p hp)
      · intro d hd d' hd'
        obtain ⟨p, hp, rfl⟩ := List.mem_map.mp hd
        obtain ⟨p', hp', rfl⟩ := List.mem_map.mp hd'
        exact List.all_eq_true.mp (List.all_eq_true.mp c2 p.1 (mem1 p hp)) p'.1 (mem1 p' hp')
      · rcases Bool.or_eq_true_iff.mp c3 with c3 | c3
        · refine .inl fun d hd => ?_
          obtain ⟨p, hp, rfl⟩ := List.mem_map.mp hd
          have := List.all_eq_true.mp c3 p.1 (mem1 p hp)
          revert this
          cases encD s p.1 with
          | tuple l => cases l with
            | nil => intro h; cases h
            | cons x r => intro _; exact ⟨x, r, rfl⟩
          | _ => intro h; cases h
        · refine .inr fun d hd => ?_
          obtain ⟨p, hp, rfl⟩ := List.mem_map.mp hd
          have := List.all_eq_true.mp c3 p.1 (mem1 p hp)
          revert this
          cases encD s p.1 with
          | tuple l => intro h; cases h
          | none => intro h; cases h
          | _ => intro _; exact ⟨(fun h => nomatch h), (fun l h => nomatch h)⟩
      · have := SeqAt.depth_of_shaped (shp_enc (List.all_eq_true.mp c1 p.1 (mem1 p hp))).2
        omega
      · have em : (ps.mergeSort (PySem.W.dataLe false fun p => encD s p.1)).map (·.1) = sortD s ys := by
          unfold sortD
          rw [← e1]
          exact List.map_mergeSort fun a _ b _ => rfl
        have rs : VRs X.K ρ s.length H (sortD s ys) ((ps.mergeSort (PySem.W.dataLe false fun p => encD s p.1)).map (·.2)) := by
          rw [← em]
          exact VRs.of_pairs fun p hp => e3 p ((List.mergeSort_perm _ _).mem_iff.mp hp)
        obtain ⟨x1, sr1, v1⟩ := new_lst sr hq rs
        exact po _ _ _ x1 sr1 v1
    · exact po.elim
  · exact po.elim

/-! ### subscripts, slices -/
def dIx (x y : D) (s : Sto) : Rs D := match y with
  | .int i => match x with
    | .str z => if z.length ≤ sizeLine then (match atI z.cps.toList i with
        | some c => .ok (.str ⟨#[c]⟩) s
        | none => .no) else .no
    | _ => match seqD s x with
      | some xs => match atI xs i with
        | some d => .ok d s
        | none => .no
      | none => .no
  | _ => .no
theorem VRs.atI {K : PySem.W.Frag} {ρ : Nat → Addr} {n : Nat} {H : Hp} {ds : List D} {vs : List V} {i : Int} {d : D} (r : VRs K ρ n H ds vs) (h : atI ds i = some d) : ∃ v, L2.atI vs i = some v ∧ VR K ρ n H d v := by
  unfold L2.atI at h ⊢
  rw [r.length]
  cases e : ixN ds.length i with
  | none => rw [e] at h; cases h
  | some j =>
    rw [e] at h
    exact r.get h
theorem pr_ix : Pr2 X W dIx (rIx X.K) := by
  intro ρ s H σ x y vx vy Q sr r1 r2 po
  cases y with
  | int i =>
    obtain rfl : vy = .int i := r2
    have gen : ∀ xs : List D, seqD s x = some xs → Po X.K X.mg (VR X.K) W σ ρ s.length H (match atI xs i with | some d => Rs.ok d s | none => .no) Q → rIx X.K vx (.int i) H Q := by
      intro xs e po
      cases h : atI xs i with
      | none => rw [h] at po; exact po.elim
      | some d =>
        rw [h] at po
        obtain ⟨a, vs, rfl, sq, rr⟩ := vr_seq sr r1 (xs := xs) (by cases x <;> exact e)
        obtain ⟨v, hv, rv⟩ := rr.atI h
        rcases sq with sq | sq
        · exact .inl ⟨a, vs, i, v, rfl, rfl, sq, hv, po ρ H _ Ext.refl sr rv⟩
        · exact .inr (.inl ⟨a, vs, i, v, rfl, rfl, sq, hv, po ρ H _ Ext.refl sr rv⟩)
    cases x with
    | str z =>
      obtain rfl : vx = .str z := r1
      obtain ⟨hl, po⟩ := Po.ite (c := z.length ≤ sizeLine) po
      cases h : L2.atI z.cps.toList i with
      | none => rw [h] at po; exact po.elim
      | some c =>
        rw [h] at po
        exact .inr (.inr ⟨z, i, c, rfl, rfl, hl, h, po ρ H _ Ext.refl sr rfl⟩)
    | tup xs => exact gen xs rfl po
    | ref n =>
      have po2 : Po X.K X.mg (VR X.K) W σ ρ s.length H (match lstAt s n with
        | some xs => match atI xs i with
          | some d => Rs.ok d s
          | none => .no
        | none => .no) Q := po
      cases e : lstAt s n with
      | none => rw [e] at po2; exact po2.elim
      | some xs =>
        rw [e] at po2
        exact gen xs e po2
    | _ => exact po.elim
  | _ =>
    unfold dIx at po
    exact po.elim
def cutD (xs : List D) (lo hi : Option Int) : List D := (xs.drop (HT.sIx xs.length 0 lo)).take (HT.sIx xs.length xs.length hi - HT.sIx xs.length 0 lo)
def dSl (x : D) (lo hi : Option Int) (s : Sto) : Rs D := match x with
  | .str z => if z.length ≤ sizeLine then .ok (.str (cutS z lo hi)) s else .no
  | .tup xs => .ok (.tup (cutD xs lo hi)) s
  | .ref n => match lstAt s n with
    | some xs => .ok (.ref s.length) (s ++ [.lst (cutD xs lo hi)])
    | none => .no
  | _ => .no
def rSls (K : PySem.W.Frag) : V → Option Int → Option Int → Hp → VK → Prop := fun x lo hi H Q => rSlS x lo hi H Q ∨ rSlA K x lo hi H Q ∨ rSlL K x lo hi H Q
theorem sl_all : SlR X (rSls X.K) := sl_str.or (sl_tupA.or sl_list)
theorem VRs.cut {K : PySem.W.Frag} {ρ : Nat → Addr} {n : Nat} {H : Hp} {ds : List D} {vs : List V} {lo hi : Option Int} (r : VRs K ρ n H ds vs) : VRs K ρ n H (cutD ds lo hi) (cutV vs lo hi) := by
  unfold cutD cutV
  rw [r.length]
  exact (r.drop _).take _
theorem ps_sl : PrS X W dSl (rSls X.K) := by
  intro ρ s H σ x vx lo hi Q sr r po
  cases x with
  | str z =>
    obtain rfl : vx = .str z := r
    obtain ⟨hl, po⟩ := Po.ite (c := z.length ≤ sizeLine) po
    exact .inl ⟨z, rfl, hl, po ρ H _ Ext.refl sr rfl⟩
  | tup xs =>
    have r' := r
    rw [VR] at r
    obtain ⟨a, vs, rfl, sq, rr⟩ := r
    refine .inr (.inl ⟨a, vs, rfl, sq, fun hh => ?_, fun _ p hp => ?_⟩)
    · refine po ρ H _ Ext.refl sr ?_
      have e : cutD xs lo hi = xs := by
        unfold cutD
        rw [← rr.length, hh.1, hh.2, List.drop_zero, rr.length, Nat.sub_zero, List.take_length]
      rw [e]
      exact r'
    · obtain ⟨x1, sr1, v1⟩ := new_tup sr hp (rr.cut (lo := lo) (hi := hi))
      exact po ρ _ _ x1 sr1 v1
  | ref n =>
    have po2 : Po X.K X.mg (VR X.K) W σ ρ s.length H (match lstAt s n with
      | some xs => Rs.ok (.ref s.length) (s ++ [.lst (cutD xs lo hi)])
      | none => .no) Q := po
    cases e : lstAt s n with
    | none => rw [e] at po2; exact po2.elim
    | some xs =>
      rw [e] at po2
      rw [VR] at r
      obtain ⟨_, rfl⟩ := r
      obtain ⟨vs, sq, rr⟩ := sr.lst e
      refine .inr (.inr ⟨_, vs, rfl, sq, fun p hp => ?_⟩)
      obtain ⟨x1, sr1, v1⟩ := new_lst sr hp (rr.cut (lo := lo) (hi := hi))
      exact po2 _ _ _ x1 sr1 v1
  | _ => exact po.elim
/-! ### stores to a place, methods of lists -/
def xSetL (o i x : D) (s : Sto) : Option Sto := match o, i with
  | .ref n, .int k => match s[n]? with
    | some (.lst xs) => (ixN xs.length k).map fun j => s.set n (.lst (xs.set j x))
    | _ => none
  | _, _ => none
theorem px_setL : PrSet X xSetL rSetL := by
  intro ρ s s' H o i x vo vi vx Q sr ro ri rx e q
  unfold xSetL at e
  split at e
  · rename_i n k
    split at e
    · rename_i xs h1
      obtain ⟨j, hj, rfl⟩ := Option.map_eq_some_iff.mp e
      rw [VR] at ro
      obtain ⟨_, rfl⟩ := ro
      obtain rfl : vi = .int k := ri
      obtain ⟨vs, hv, rv⟩ := sr.ob _ _ h1
      refine ⟨_, vs, k, j, rfl, rfl, hv, by rw [rv.length]; exact hj, ?_⟩
      have xw : Ext ρ s.length H ρ s.length (upd H (ρ n) (.lst (vs.set j vx))) := Ext.write (sr.ob _ _ h1) rfl
      refine q ρ _ (by rw [List.length_set]; exact xw) ?_
      exact sr.write h1 rfl rfl ⟨_, upd_same, (rv.set j rx).mono xw⟩
    · cases e
  · cases e
/-- a list's method that changes it -/
def mtL (f : List D → List D → Option (List D × D)) (x : D) (ds : List D) (s : Sto) : Rs D := match x with
  | .ref n => match s[n]? with
    | some (.lst xs) => match f xs ds with
      | some (ys, d) => .ok d (s.set n (.lst ys))
      | none => .no
    | _ => .no
  | _ => .no
theorem pm_L {f : List D → List D → Option (List D × D)} {r : V → List V → Hp → VK → Prop}
    (h : ∀ (ρ : Nat → Addr) (n : Nat) (H : Hp) (a : Addr) (xs ds ys : List D) (d : D) (vs us : List V) (Q : VK), H a = some (.lst vs) → VRs X.K ρ n H xs vs → VRs X.K ρ n H ds us → f xs ds = some (ys, d) →
      (∀ ws v, VRs X.K ρ n H ys ws → VR X.K ρ n H d v → Q v (upd H a (.lst ws))) → r (.ref a) us H Q) : PrM X W (mtL f) r := by
  intro ρ s H σ x ds v us Q sr r1 r2 po
  unfold mtL at po
  cases x with
  | ref n =>
    dsimp only at po
    split at po
    · rename_i xs h1
      split at po
      · rename_i ys d h2
        rw [VR] at r1
        obtain ⟨_, rfl⟩ := r1
        obtain ⟨vs, hv, rv⟩ := sr.ob _ _ h1
        refine h ρ s.length H (ρ n) xs ds ys d vs us Q hv rv r2 h2 fun ws v rw1 rd => ?_
        have xw : Ext ρ s.length H ρ s.length (upd H (ρ n) (.lst ws)) := Ext.write (sr.ob _ _ h1) rfl
        refine po ρ _ v (by rw [List.length_set]; exact xw) (sr.write h1 rfl rfl ⟨_, upd_same, rw1.mono xw⟩) (by rw [List.length_set]; exact rd.mono xw)
      · exact po.elim
    · exact po.elim
  | _ => exact po.elim
def lAppend (xs ds : List D) : Option (List D × D) := match ds with
  | [d] => if xs.length < sizeLine then some (xs ++ [d], .non) else none
  | _ => none
theorem pm_append : PrM X W (mtL lAppend) rAppend := pm_L fun ρ n H a xs ds ys d vs us Q hv rv ru e q => by
  unfold lAppend at e
  split at e
  · rename_i x
    split at e
    · rename_i hl
      cases e
      obtain ⟨u, rfl, r1⟩ := ru.one
      exact ⟨a, vs, u, rfl, rfl, hv, by rw [rv.length]; exact hl, q _ _ (rv.append (VRs.cons r1 VRs.nil)) rfl⟩
    · cases e
  · cases e
theorem VRs.eraseIdx {K : PySem.W.Frag} {ρ : Nat → Addr} {n : Nat} {H : Hp} : ∀ {ds : List D} {vs : List V} (i : Nat), VRs K ρ n H ds vs → VRs K ρ n H (ds.eraseIdx i) (vs.eraseIdx i)
  | [], vs, i, r => by
    rw [VRs] at r
    subst r
    exact VRs.nil
  | d :: ds, vs, 0, r => by
    obtain ⟨v, vr, rfl, r1, r2⟩ := r.uncons
    exact r2
  | d :: ds, vs, i + 1, r => by
    obtain ⟨v, vr, rfl, r1, r2⟩ := r.uncons
    exact VRs.cons r1 (VRs.eraseIdx i r2)
def lPopAt (xs ds : List D) : Option (List D × D) := match ds with
  | [.int i] => if -(2 ^ 63) ≤ i ∧ i < 2 ^ 63 then (seqIndex? i xs.length).bind fun k => (xs[k]?).map fun d => (xs.eraseIdx k, d) else none
  | _ => none
theorem pm_popAt : PrM X W (mtL lPopAt) rPopAt := pm_L fun ρ n H a xs ds ys d vs us Q hv rv ru e q => by
  unfold lPopAt at e
  split at e
  · rename_i i
    split at e
    · rename_i hi
      obtain ⟨k, h1, e⟩ := Option.bind_eq_some_iff.mp e
      obtain ⟨z, h2, e⟩ := Option.map_eq_some_iff.mp e
      cases e
      obtain ⟨u, rfl, r1⟩ := ru.one
      obtain rfl : u = .int i := r1
      obtain ⟨v, hk, rk⟩ := rv.get h2
      exact ⟨a, vs, i, k, v, rfl, rfl, hv, hi.1, hi.2, by rw [rv.length]; exact h1, hk, q _ _ (rv.eraseIdx k) rk⟩
    · cases e
  · cases e
def lReverse (xs ds : List D) : Option (List D × D) := match ds with
  | [] => some (xs.reverse, .non)
  | _ => none
theorem pm_reverse : PrM X W (mtL lReverse) rReverse := pm_L fun ρ n H a xs ds ys d vs us Q hv rv ru e q => by
  unfold lReverse at e
  split at e
  · cases e
    rw [VRs] at ru
    subst ru
    exact ⟨a, vs, rfl, rfl, hv, q _ _ rv.reverse rfl⟩
  · cases e
/-! ### texts -/
def strD : D → Option Str
  | .str x => some x
  | _ => none
theorem strs_of {K : PySem.W.Frag} {ρ : Nat → Addr} {n : Nat} {H : Hp} : ∀ {xs : List D} {vs : List V} {bs : List Str}, VRs K ρ n H xs vs → xs.mapM strD = some bs → vs = bs.map V.str
  | [], vs, bs, r, h => by
    rw [VRs] at r
    subst r
    simp at h
    subst h
    rfl
  | x :: xs, vs, bs, r, h => by
    obtain ⟨v, vr, rfl, r1, r2⟩ := r.uncons
    rw [List.mapM_cons] at h
    obtain ⟨b, h1, h⟩ := Option.bind_eq_some_iff.mp h
    obtain ⟨cs, h2, h⟩ := Option.bind_eq_some_iff.mp h
    cases h
    rw [strs_of r2 h2]
    cases x with
    | str b' =>
      cases h1
      obtain rfl : v = .str _ := r1
      rfl
    | _ => cases h1
def fJoin (x : D) (ds : List D) (s : Sto) : Rs D := match x, ds with
  | .str a, [d] => match (seqD s d).bind fun xs => xs.mapM strD with
    | some ys => if (ys.map (·.length)).sum + ys.length * a.length ≤ 16777216 then .ok (.str (Txt.join a ys)) s else .no
    | none => .no
  | _, _ => .no
theorem pm_join : PrM X W fJoin (fun x xs H Q => ∃ a p, ∃ ys : List Str, x = .str a ∧ xs = [.ref p] ∧ (SqL X.K H p (ys.map V.str) ∨ SqT X.K H p (ys.map V.str)) ∧
    (ys.map (·.length)).sum + ys.length * a.length ≤ 16777216 ∧ Q (.str (Txt.join a ys)) H) := by
  intro ρ s H σ x ds v us Q sr r1 r2 po
  unfold fJoin at po
  split at po
  · rename_i a d
    obtain rfl : v = .str a := r1
    obtain ⟨u, rfl, ru⟩ := r2.one
    split at po
    · rename_i ys e
      obtain ⟨hz, po⟩ := Po.ite po
      obtain ⟨xs, h1, h2⟩ := Option.bind_eq_some_iff.mp e
      obtain ⟨p, vs, rfl, sq, rr⟩ := vr_seq sr ru (xs := xs) (by cases d <;> exact h1)
      rw [strs_of rr h2] at sq
      exact ⟨a, p, ys, rfl, rfl, sq, hz, po ρ H _ Ext.refl sr rfl⟩
    · exact po.elim
  · exact po.elim
theorem vrs_strs {K : PySem.W.Frag} {ρ : Nat → Addr} {n : Nat} {H : Hp} : ∀ ys : List Str, VRs K ρ n H (ys.map D.str) (ys.map V.str)
  | [] => VRs.nil
  | _ :: ys => VRs.cons rfl (vrs_strs ys)
def fSplit (x : D) (ds : List D) (s : Sto) : Rs D := match x, ds with
  | .str a, [.str b] => if (b.length == 0) = false ∧ a.length + 2 ≤ sizeLine then .ok (.ref s.length) (s ++ [.lst ((Txt.split a b).map D.str)]) else .no
  | _, _ => .no
theorem pm_split : PrM X W fSplit (fun x xs H Q => ∃ a b, x = .str a ∧ xs = [.str b] ∧ (b.length == 0) = false ∧ a.length + 2 ≤ sizeLine ∧ rNewStrs (Txt.split a b) H Q) := by
  intro ρ s H σ x ds v us Q sr r1 r2 po
  unfold fSplit at po
  split at po
  · rename_i a b
    obtain rfl : v = .str a := r1
    obtain ⟨u, rfl, ru⟩ := r2.one
    obtain rfl : u = .str b := ru
    obtain ⟨⟨h1, h2⟩, po⟩ := Po.ite po
    refine ⟨a, b, rfl, rfl, h1, h2, fun p hp => ?_⟩
    obtain ⟨x1, sr1, v1⟩ := new_lst sr hp (vrs_strs (K := X.K) (ρ := ρ) (n := s.length) (H := H) (Txt.split a b))
    exact po _ _ _ x1 sr1 v1
  · exact po.elim
/-! ### f-strings -/
def fFmt (d : D) (s : Sto) : Rs D := match d with
  | .str y => if y.length ≤ sizeLine then .ok (.str y) s else .no
  | .int i => if i.natAbs.log2 < 1920 then .ok (.str (toString i)) s else .no
  | _ => .no
variable {pos : Pos} {e : Expr} {m : EM D}
theorem je_fmt (he : JE X W e m) : JE X W (.FormattedValue e (-1) none pos) (m1 fFmt m) := PE_imp (pe_fmt he) fun σ H Q ⟨ρ, env, s, sr, er, po⟩ => ⟨ρ, env, s, sr, er, (Po.bind po).imp fun v H1 ⟨ρ1, s1, d1, e1, sr1, r1, po1⟩ => by
  cases d1 with
  | str y =>
    obtain rfl : v = .str y := r1
    obtain ⟨h, po1⟩ := Po.ite (c := y.length ≤ sizeLine) po1
    exact .inl ⟨y, rfl, h, po1 ρ1 H1 _ Ext.refl sr1 rfl⟩
  | int i =>
    obtain rfl : v = .int i := r1
    obtain ⟨h, po1⟩ := Po.ite (c := i.natAbs.log2 < 1920) po1
    exact .inr ⟨i, rfl, h, po1 ρ1 H1 _ Ext.refl sr1 rfl⟩
  | _ => exact po1.elim⟩
def mJs : List (EM D) → Str → Ev → Sto → Rs D
  | [], acc, _, s => .ok (.str acc) s
  | m :: ms, acc, e, s => (m e s).bind fun d s1 => match d with
    | .str y => if (acc ++ y).length ≤ sizeLine then mJs ms (acc ++ y) e s1 else .no
    | _ => .no
inductive JP (X : Cx) (W : WX) : List Expr → List (EM D) → Prop where
  | nil : JP X W [] []
  | cons {e : Expr} {m : EM D} {es : List Expr} {ms : List (EM D)} (h : JE X W e m) (r : JP X W es ms) : JP X W (e :: es) (m :: ms)
theorem JP.pj {es : List Expr} {ms : List (EM D)} (h : JP X W es ms) : PJ X es (ms.map fun m => lE X.K X.mg W m) := by
  induction h with
  | nil => exact .nil
  | cons h _ ih => exact .cons h ih
theorem je_joined {v1 v2 : Expr} {rest : List Expr} {ms : List (EM D)} (h : JP X W (v1 :: v2 :: rest) ms) : JE X W (.JoinedStr (v1 :: v2 :: rest) pos) (mJs ms Str.empty) := by
  refine PE_imp (pe_joined h.pj) fun σ H Q ⟨ρ, env, s, sr, er, po⟩ => ?_
  have all : ∀ (ms : List (EM D)) (acc : Str) (ρ : Nat → Addr) (s : Sto) (H : Hp), SR X.K X.mg ρ s H → EnvR X.K ρ s.length H env σ → Po X.K X.mg (VR X.K) W σ ρ s.length H (mJs ms acc env s) Q → tJs (ms.map fun m => lE X.K X.mg W m) acc σ H fun out H1 => Q (.str out) H1 := by
    intro ms
    induction ms with
    | nil => intro acc ρ s H sr er po; exact po ρ H _ Ext.refl sr rfl
    | cons m ms ih =>
      intro acc ρ s H sr er po
      refine ⟨ρ, env, s, sr, er, (Po.bind (R := VR X.K) po).imp fun v H1 ⟨ρ1, s1, d1, e1, sr1, r1, po1⟩ => ?_⟩
      cases d1 with
      | str y =>
        obtain rfl : v = .str y := r1
        obtain ⟨h, po1⟩ := Po.ite (c := (acc ++ y).length ≤ sizeLine) po1
        exact ⟨y, rfl, h, ih _ ρ1 s1 H1 sr1 (er.mono e1) po1⟩
      | _ => exact po1.elim
  exact all ms Str.empty ρ s H sr er po
end
end Z

set_option Elab.async false
set_option linter.all false
set_option maxRecDepth 100000
set_option maxHeartbeats 4000000
namespace Z
open PySem PySem.Spec PyProof.Rows L2
variable [Row]

section
variable {X : Cx} {W : WX} {pos : Pos}
/-! ### further walks -/
def jEn (n : Nat) : Stp := fun i s => (lstAt s n).map fun xs => (xs[i]?).map fun d => .tup [.int i, d]
def jStr (x : Str) : Stp := fun i _ => some ((x.cps[i]?).map fun c => .str ⟨#[c]⟩)
def jZip (n m : Nat) : Stp := fun i s => match lstAt s n, lstAt s m with
  | some xs, some ys => some (match xs[i]?, ys[i]? with
    | some x, some y => some (.tup [x, y])
    | _, _ => none)
  | _, _ => none
def iEn (ms : EM (List D)) : EM (Nat × Stp) := fun e s => (ms e s).bind fun ds s1 => match ds with
  | [.ref n] => match lstAt s1 n with
    | some xs => .ok (xs.length, jEn n) s1
    | none => .no
  | _ => .no
def iSt (m : EM D) : EM (Nat × Stp) := fun e s => (m e s).bind fun d s1 => match d with
  | .str x => .ok (x.cps.size, jStr x) s1
  | _ => .no
def iZp (ms : EM (List D)) : EM (Nat × Stp) := fun e s => (ms e s).bind fun ds s1 => match ds with
  | [.ref n, .ref m] => match lstAt s1 n, lstAt s1 m with
    | some xs, some ys => .ok (xs.length, jZip n m) s1
    | _, _ => .no
  | _ => .no
theorem ri_en {ρ : Nat → Addr} {n m : Nat} {H : Hp} {N : Nat} (hm : m < n) : RI X.K X.mg ρ n H (N, jEn m) (Ite X.K (ρ m)) := by
  intro ρ' s' H' i e sr
  show match (lstAt s' m).map fun xs => (xs[i]?).map fun d => D.tup [.int i, d] with
    | none => True
    | some none => _
    | some (some d) => _
  cases h : lstAt s' m with
  | none => trivial
  | some xs =>
    obtain ⟨vs, sq, r⟩ := sr.lst h
    rw [e.ag m hm] at sq
    cases hx : xs[i]? with
    | none =>
      simp only [Option.map, hx]
      exact ⟨vs, sq, by rw [r.length]; exact List.getElem?_eq_none_iff.mp hx⟩
    | some d =>
      simp only [Option.map, hx]
      obtain ⟨v, hv, rv⟩ := r.get hx
      refine ⟨⟨vs, v, sq, hv⟩, fun x H'' y => ?_⟩
      obtain ⟨T, u, rfl, hT, rfl, y⟩ := y
      have q := y vs sq
      rw [hv] at q
      cases q
      exact new_tup sr hT (VRs.cons rfl (VRs.cons rv VRs.nil))
theorem ri_str {ρ : Nat → Addr} {n : Nat} {H : Hp} {N : Nat} {x : Str} : RI X.K X.mg ρ n H (N, jStr x) (Its x) := by
  intro ρ' s' H' i e sr
  show match some ((x.cps[i]?).map fun c => D.str ⟨#[c]⟩) with
    | none => True
    | some none => _
    | some (some d) => _
  cases hx : x.cps[i]? with
  | none =>
    simp only [Option.map]
    exact Array.getElem?_eq_none_iff.mp hx
  | some c =>
    simp only [Option.map]
    have hi : i < x.cps.size := (Array.getElem?_eq_some_iff.mp hx).1
    refine ⟨hi, fun v H'' y => ?_⟩
    obtain ⟨rfl, c', hc, rfl⟩ := y
    rw [hx] at hc
    cases hc
    exact ⟨Ext.refl, sr, rfl⟩
theorem ri_zip {ρ : Nat → Addr} {n m m2 : Nat} {H : Hp} {N : Nat} (hm : m < n) (hm2 : m2 < n) : RI X.K X.mg ρ n H (N, jZip m m2) (Itz X.K (ρ m) (ρ m2)) := by
  intro ρ' s' H' i e sr
  show match jZip m m2 i s' with
    | none => True
    | some none => _
    | some (some d) => _
  unfold jZip
  cases h : lstAt s' m with
  | none => trivial
  | some xs =>
    cases h2 : lstAt s' m2 with
    | none => trivial
    | some ys =>
      obtain ⟨vs, sq, r⟩ := sr.lst h
      obtain ⟨us, sq2, r2⟩ := sr.lst h2
      rw [e.ag m hm] at sq
      rw [e.ag m2 hm2] at sq2
      dsimp only
      cases hx : xs[i]? with
      | none => exact ⟨vs, us, sq, sq2, .inl (by rw [r.length]; exact List.getElem?_eq_none_iff.mp hx)⟩
      | some d =>
        cases hy : ys[i]? with
        | none => exact ⟨vs, us, sq, sq2, .inr (by rw [r2.length]; exact List.getElem?_eq_none_iff.mp hy)⟩
        | some d2 =>
          obtain ⟨v, hv, rv⟩ := r.get hx
          obtain ⟨u, hu, ru⟩ := r2.get hy
          refine ⟨⟨vs, us, v, u, sq, sq2, hv, hu⟩, fun z H'' y => ?_⟩
          obtain ⟨T, a, b, rfl, hT, rfl, y1, y2⟩ := y
          have q := y1 vs sq
          have q2 := y2 us sq2
          rw [hv] at q
          rw [hu] at q2
          cases q
          cases q2
          exact new_tup sr hT (VRs.cons rv (VRs.cons ru VRs.nil))
variable {tg e e2 : Expr} {ms : EM (List D)} {m : EM D} {p tpos : Pos} {elts : List Expr} {kk : Nat}
theorem ji_en (hg : Gl X "enumerate") (hm : X.mg "enumerate" = none) (ha : JA X W [e] ms) (hs : starEach [e] X.env = [(false, eval e X.env)] := by rfl) : JI X W (.Tuple elts kk tpos) (.Call (.Name "enumerate" p) [e] [] pos) (iEn ms) :=
  PI_imp (pi_enum hg hm ha hs) fun σ H Q ⟨ρ, env, s, sr, er, po⟩ => ⟨ρ, env, s, sr, er, (Po.bind po).imp fun v H1 ⟨ρ1, s1, d1, e1, sr1, r1, po1⟩ => by
    dsimp only at po1
    split at po1
    · rename_i n
      split at po1
      · rename_i xs hx
        obtain ⟨u, rfl, ru⟩ := r1.one
        rw [VR] at ru
        obtain ⟨hn, rfl⟩ := ru
        obtain ⟨vs, sq, rr⟩ := sr1.lst hx
        exact ⟨_, vs, rfl, sq, po1 ρ1 H1 _ Ext.refl sr1 (ri_en hn)⟩
      · exact po1.elim
    · exact po1.elim⟩
theorem ji_str (he : JE X W e m) : JI X W tg e (iSt m) := PI_imp (pi_str he) fun σ H Q ⟨ρ, env, s, sr, er, po⟩ => ⟨ρ, env, s, sr, er, (Po.bind po).imp fun v H1 ⟨ρ1, s1, d1, e1, sr1, r1, po1⟩ => by
  cases d1 with
  | str x =>
    obtain rfl : v = .str x := r1
    exact ⟨x, rfl, po1 ρ1 H1 _ Ext.refl sr1 ri_str⟩
  | _ => exact po1.elim⟩
theorem ji_zip (hg : Gl X "zip") (hm : X.mg "zip" = none) (ha : JA X W [e, e2] ms) (hs : starEach [e, e2] X.env = (false, eval e X.env) :: starEach [e2] X.env := by rfl) (hpl : (backTo pos (starEach [e2] X.env)).any (·.1) = false := by rfl) :
    JI X W (.Tuple elts kk tpos) (.Call (.Name "zip" p) [e, e2] [] pos) (iZp ms) :=
  PI_imp (pi_zip hg hm ha hs hpl) fun σ H Q ⟨ρ, env, s, sr, er, po⟩ => ⟨ρ, env, s, sr, er, (Po.bind po).imp fun v H1 ⟨ρ1, s1, d1, e1, sr1, r1, po1⟩ => by
    dsimp only at po1
    split at po1
    · rename_i n k
      split at po1
      · rename_i xs ys hx hy
        obtain ⟨u, ur, rfl, ru, rr⟩ := r1.uncons
        obtain ⟨u2, rfl, ru2⟩ := rr.one
        rw [VR] at ru ru2
        obtain ⟨hn, rfl⟩ := ru
        obtain ⟨hk, rfl⟩ := ru2
        obtain ⟨vs, sq, _⟩ := sr1.lst hx
        obtain ⟨us, sq2, _⟩ := sr1.lst hy
        exact ⟨_, _, vs, us, rfl, sq, sq2, po1 ρ1 H1 _ Ext.refl sr1 (ri_zip hn hk)⟩
      · exact po1.elim
    · exact po1.elim⟩
/-! ### int * int, list * int -/
def dMul2 (x y : D) (s : Sto) : Rs D := match x, y with
  | .int i, .int j => if cMul i j then .ok (.int (i * j)) s else .no
  | .ref n, .int k => match s[n]? with
    | some (.lst xs) => if (-(2 ^ 63) ≤ k ∧ k < 2 ^ 63) ∧ xs.length * k.toNat ≤ sizeLine then .ok (.ref s.length) (s ++ [.lst (List.replicate k.toNat xs).flatten]) else .no
    | _ => .no
  | _, _ => .no
def rMuls : R2 := fun x y H Q => rI CMul (fun i j => .int (i * j)) x y H Q ∨ rRep x y H Q
theorem op_muls : OpR X (binaryOp .Mult) rMuls := op_mul.or op_rep
theorem VRs.rep {K : PySem.W.Frag} {ρ : Nat → Addr} {n : Nat} {H : Hp} {ds : List D} {vs : List V} (r : VRs K ρ n H ds vs) : ∀ k : Nat, VRs K ρ n H (List.replicate k ds).flatten (List.replicate k vs).flatten
  | 0 => VRs.nil
  | k + 1 => by
    rw [List.replicate_succ, List.flatten_cons, List.replicate_succ, List.flatten_cons]
    exact r.append (VRs.rep r k)
theorem pr_mul2 : Pr2 X W dMul2 rMuls := by
  intro ρ s H σ x y vx vy Q sr r1 r2 po
  unfold dMul2 at po
  split at po
  · rename_i i j
    obtain ⟨hc, po⟩ := Po.ite po
    obtain rfl : vx = .int i := r1
    obtain rfl : vy = .int j := r2
    exact .inl ⟨i, j, rfl, rfl, hc, po ρ H _ Ext.refl sr rfl⟩
  · rename_i n k
    split at po
    · rename_i xs hx
      obtain ⟨⟨h1, h2⟩, po⟩ := Po.ite po
      rw [VR] at r1
      obtain ⟨_, rfl⟩ := r1
      obtain rfl : vy = .int k := r2
      obtain ⟨vs, hv, rv⟩ := sr.ob _ _ hx
      refine .inr ⟨_, k, vs, rfl, rfl, hv, h1.1, h1.2, by rw [rv.length]; exact h2, fun q hq => ?_⟩
      obtain ⟨x1, sr1, v1⟩ := new_lst sr hq (rv.rep k.toNat)
      exact po _ _ _ x1 sr1 v1
    · exact po.elim
  · exact po.elim
/-! ### isinstance with one built-in class -/
def tyN (s : Sto) : D → Option String
  | .non => some "NoneType"
  | .bl _ => some "bool"
  | .int _ => some "int"
  | .str _ => some "str"
  | .tup _ => some "tuple"
  | .ref n => match s[n]? with
    | some (.lst _) => some "list"
    | some (.frz _) => some "list"
    | some (.dict _ _) => some "dict"
    | _ => none
theorem tyN_ok {K : PySem.W.Frag} {mg : Str → Option Value} {ρ : Nat → Addr} {s : Sto} {H : Hp} (sr : SR K mg ρ s H) {d : D} {v : V} {t : String} (r : VR K ρ s.length H d v) (h : tyN s d = some t) : TyX K H v (.type t) := by
  cases d with
  | non =>
    cases h
    obtain rfl : v = .non := r
    exact .base .non
  | bl b =>
    cases h
    obtain rfl : v = .bl b := r
    exact .base (.bl b)
  | int b =>
    cases h
    obtain rfl : v = .int b := r
    exact .base (.int b)
  | str b =>
    cases h
    obtain rfl : v = .str b := r
    exact .base (.str b)
  | tup ds =>
    cases h
    rw [VR] at r
    obtain ⟨a, vs, rfl, sq, _⟩ := r
    rcases sq with (sq | ⟨o, sq⟩) | ⟨o, its, n, hk, hc, _⟩
    · exact .base (.tup sq)
    · exact .fTuple sq
    · exact .kTuple hk hc
  | ref n =>
    rw [VR] at r
    obtain ⟨_, rfl⟩ := r
    have h2 : (match s[n]? with
      | some (.lst _) => some "list"
      | some (.frz _) => some "list"
      | some (.dict _ _) => some "dict"
      | _ => none) = some t := h
    clear h
    split at h2
    · rename_i xs hx
      cases h2
      obtain ⟨vs, q, _⟩ := sr.ob _ _ hx
      exact .base (.lst q)
    · rename_i xs hx
      cases h2
      obtain ⟨vs, q, _⟩ := sr.ob _ _ hx
      rcases q with ⟨o, q⟩ | ⟨o, its, m, hk, hc, _⟩
      · exact .base (.frz q)
      · exact .kList hk hc
    · rename_i t kvs hx
      cases h2
      have ob := sr.ob _ _ hx
      cases t with
      | false =>
        obtain ⟨vs, q, _⟩ := ob
        exact .base (.dK q)
      | true =>
        obtain ⟨vs, q, _⟩ := ob
        exact .base (.dT q)
    · cases h2
def mIsi (T : String) (m : EM D) : EM D := fun e s => (m e s).bind fun d s1 => match tyN s1 d with
  | some a => match kitB a T with
    | some b => .ok (.bl b) s1
    | none => .no
  | none => .no
theorem je_isi {x : Str} {p1 p2 : Pos} {T : String} (hg : Gl X "isinstance") (hm : X.mg "isinstance" = none) (hg2 : Gl X x) (hm2 : X.mg x = none) (hv : bootBuiltins x = some (.type T)) (he : JE X W e m) (hn : x ≠ "__name__" := by decide) (hdb : (x == ("__debug__" : Str)) = false := by decide)
    (hs : starEach [e, .Name x p2] X.env = (false, eval e X.env) :: starEach [.Name x p2] X.env := by rfl) (hpl : (backTo pos (starEach [.Name x p2] X.env)).any (·.1) = false := by rfl) (hs2 : starEach [.Name x p2] X.env = (false, eval (.Name x p2) X.env) :: starEach [] X.env := by rfl) :
    JE X W (.Call (.Name "isinstance" p1) [e, .Name x p2] [] pos) (mIsi T m) := by
  refine PE_imp (pe_callB call_isi hg hm boot_isinstance (pa_cons he (pa_cons (pe_bltn (v := .ty T) hg2 hm2 hv rfl hn hdb) pa_nil hs2) hs) (he := hs) (hpl := hpl)) fun σ H Q ⟨ρ, env, s, sr, er, po⟩ => ⟨ρ, env, s, sr, er, (Po.bind po).imp fun v H1 ⟨ρ1, s1, d1, e1, sr1, r1, po1⟩ => ?_⟩
  dsimp only at po1
  split at po1
  · rename_i a ha
    split at po1
    · rename_i b hb
      exact ⟨v, .ty T, .type a, .type T, b, rfl, .ty T, tyN_ok sr1 r1 ha, kit_ty hb, po1 ρ1 H1 _ Ext.refl sr1 rfl⟩
    · exact po1.elim
  · exact po1.elim
/-! ### repr of data -/
def fRepr (ds : List D) (s : Sto) : Rs D := match ds with
  | [d] => match shp s d with
    | some p => if p.showable = true ∧ p.shown.length ≤ sizeLine then .ok (.str p.shown) s else .no
    | none => .no
  | _ => .no
def rReprD (K : PySem.W.Frag) : List V → Hp → VK → Prop := fun xs H Q => ∃ v p, xs = [v] ∧ Dp K H v p ∧ SeqAt.shaped p = true ∧ p.showable = true ∧ p.shown.length ≤ sizeLine ∧ Q (.str p.shown) H
theorem noDict_lay : (∀ d : PyData, d.canLay0 = true → d.hasDict = false) ∧ ∀ ds : List PyData, PyData.canLayAll0 ds = true → PyData.hasDictAll ds = false := by
  have h : ∀ n, (∀ d : PyData, sizeOf d < n → d.canLay0 = true → d.hasDict = false) ∧ ∀ ds : List PyData, sizeOf ds < n → PyData.canLayAll0 ds = true → PyData.hasDictAll ds = false := by
    intro n
    induction n with
    | zero => exact ⟨fun _ h => absurd h (Nat.not_lt_zero _), fun _ h => absurd h (Nat.not_lt_zero _)⟩
    | succ n ih =>
      refine ⟨fun d hd hl => ?_, fun ds hd hl => ?_⟩
      · cases d with
        | list xs =>
          rw [PyData.canLay0] at hl
          rw [PyData.hasDict]
          exact ih.2 xs (by simp at hd; omega) hl
        | tuple xs =>
          rw [PyData.canLay0] at hl
          rw [PyData.hasDict]
          exact ih.2 xs (by simp at hd; omega) hl
        | dict kvs => simp [PyData.canLay0] at hl
        | _ => rfl
      · cases ds with
        | nil => rfl
        | cons d ds =>
          rw [PyData.canLayAll0, Bool.and_eq_true] at hl
          rw [PyData.hasDictAll, ih.1 d (by simp at hd; omega) hl.1, ih.2 ds (by simp at hd; omega) hl.2]
          rfl
  exact ⟨fun d => (h _).1 d (Nat.lt_succ_self _), fun ds => (h _).2 ds (Nat.lt_succ_self _)⟩
theorem call_reprD (hg : X.A.guards = some []) (hu : X.A.units + 66 < cLine) : CallR X (.builtin "repr") (rReprD X.K) := by
  intro pins s σ H xs us Q I r h
  obtain ⟨v, p, rfl, dp, sh, hs, hz, q⟩ := h
  obtain ⟨u, rfl, ru⟩ := vals1 r
  cases dp with
  | non =>
    cases ru
    exact PySem.P.repr_of_none ⟨.str _, H, I.tok _, ⟨_, rfl⟩, q⟩
  | bl b =>
    cases ru
    refine PySem.P.repr_of_bool ⟨.str _, H, I.tok _, ⟨_, rfl⟩, ?_⟩
    cases b <;> exact q
  | int i =>
    obtain ⟨t, rfl⟩ := ru
    exact PySem.P.repr_of_int (of_decide_eq_true hs) ⟨.str _, H, I.tok _, ⟨_, rfl⟩, q⟩
  | str x =>
    obtain ⟨t, rfl⟩ := ru
    exact PySem.P.repr_of_str ⟨.str _, H, I.tok _, ⟨_, rfl⟩, q⟩ hz
  | lst sq ha =>
    obtain ⟨as, rd⟩ := Dp.reads I _ _ _ (Dp.lst sq ha) ru
    cases ru
    exact repr_of_reads' rd hs (PyData.noDict_hsm (noDict_lay.1 _ (SeqAt.canLay_of_shaped sh))) hg (by have := SeqAt.depth_of_shaped sh; omega) (fun _ _ e => e) (fun h' u tk kk => ⟨.str _, H, I.kept kk, ⟨_, rfl⟩, q⟩) hz
  | tup sq ha =>
    obtain ⟨as, rd⟩ := Dp.reads I _ _ _ (Dp.tup sq ha) ru
    cases ru
    exact repr_of_reads' rd hs (PyData.noDict_hsm (noDict_lay.1 _ (SeqAt.canLay_of_shaped sh))) hg (by have := SeqAt.depth_of_shaped sh; omega) (fun _ _ e => e) (fun h' u tk kk => ⟨.str _, H, I.kept kk, ⟨_, rfl⟩, q⟩) hz
theorem pn_repr : PrN X W fRepr (rReprD X.K) := by
  intro ρ s H σ xs vs Q sr r po
  unfold fRepr at po
  split at po
  · rename_i d
    obtain ⟨v, rfl, rv⟩ := r.one
    split at po
    · rename_i p hp
      obtain ⟨⟨h1, h2⟩, po⟩ := Po.ite po
      obtain ⟨a1, a2⟩ := shp_dp sr hp rv
      exact ⟨v, p, rfl, a1, a2, h1, h2, po ρ H _ Ext.refl sr rfl⟩
    · exact po.elim
  · exact po.elim
end
section
variable {X : Cx} {W : WX} {pos spos : Pos} {elt tg iter : Expr} {ifs : List Expr} {scope : Scope} {own : List (Str × Nat)} {mi : EM (Nat × Stp)} {g : GN} {is : List Nat} {t : EM Bool} {m : EM D} {i : Nat} {y : Str} {py : Pos}
/-- y = [..] on one line -/
theorem js_setLc {g' : TG} (hc : X.calm = true) (hN : X.N.Nodup) (hy : X.N[i]? = some y) (hyl : X.env.scope.names.lookup y = some .local)
    (hsw : swapsWith (.ListComp elt [⟨tg, iter, ifs, 0⟩] scope pos) (some (.Name y py)) spos.line X.env = pure true) (hi : JI X W tg iter mi) (ok : BlkOk X.N X.env.scope scope own) (his : ∀ i ∈ is, i ∈ own.map (·.2))
    (hg' : ∀ (s : Shared) (H : Hp) (C : Addr) (cl : List (Str × Addr)) (fp : List Addr), PG (X.blk s H scope (compEnvC scope cl C X.env) fp) tg g') (gq : GQ X.K g is g')
    (ht : ∀ (s : Shared) (H : Hp) (C : Addr) (cl : List (Str × Addr)) (fp : List Addr), PTs (X.blk s H scope (compEnvC scope cl C X.env) fp) ifs (lT X.K X.mg WF t))
    (he : ∀ (s : Shared) (H : Hp) (C : Addr) (cl : List (Str × Addr)) (fp : List Addr), JE (X.blk s H scope (compEnvC scope cl C X.env) fp) WF elt m) (hs : ∀ x, foldedSetIterable iter X.env x = pure x := by intro _; rfl) :
    JS X W (.Assign [.Name y py] (.ListComp elt [⟨tg, iter, ifs, 0⟩] scope pos) spos) (sA i (mL mi g t m (own.map (·.2)))) := by
  exact PS_imp (ps_setLc hc hN hy hyl hsw hi ok hg' ht he hs) fun σ H D ⟨ρ, env, s, sr, er, po⟩ =>
    llc (Q := fun x H1 => D.nx (σ.set i (some x)) H1) his gq (fun _ _ _ z => z) (fun _ _ _ z => z) ⟨ρ, env, s, sr, er, (PoS.st (R := VR X.K) er po).imp fun v H1 ⟨ρ1, s1, d1, e1, sr1, r1, er1, po1⟩ => po1 ρ1 H1 _ Ext.refl sr1 (er1.set r1)⟩
end
end Z

set_option Elab.async false
set_option linter.all false
set_option maxRecDepth 100000
set_option maxHeartbeats 4000000
namespace Z
open PySem PySem.Spec PyProof.Rows L2
variable [Row]

section
variable {X : Cx} {W : WX} {pos : Pos} {e : Expr} {m : EM D}
/-! ### truth -/
def trD (s : Sto) : D → Option Bool
  | .non => some false
  | .bl b => some b
  | .int i => some (i != 0)
  | .str y => if y.length ≤ sizeLine then some ((y.length : Int) != 0) else none
  | .tup xs => some (!xs.isEmpty)
  | .ref n => match s[n]? with
    | some (.lst xs) => some (!xs.isEmpty)
    | some (.frz xs) => some (!xs.isEmpty)
    | _ => none
theorem VRs.isEmpty {K : PySem.W.Frag} {ρ : Nat → Addr} {n : Nat} {H : Hp} {ds : List D} {vs : List V} (r : VRs K ρ n H ds vs) : ds.isEmpty = vs.isEmpty := by
  have := r.length
  cases ds <;> cases vs <;> first | rfl | simp at this
theorem trD_ok {K : PySem.W.Frag} {mg : Str → Option Value} {ρ : Nat → Addr} {s : Sto} {H : Hp} (sr : SR K mg ρ s H) {d : D} {v : V} {b : Bool} (r : VR K ρ s.length H d v) (h : trD s d = some b) : TruV K v H b := by
  cases d with
  | non =>
    cases h
    obtain rfl : v = .non := r
    rfl
  | bl c =>
    cases h
    obtain rfl : v = .bl b := r
    rfl
  | int c =>
    cases h
    obtain rfl : v = .int c := r
    rfl
  | str c =>
    obtain rfl : v = .str c := r
    have h2 : (if c.length ≤ sizeLine then some ((c.length : Int) != 0) else none) = some b := h
    clear h
    split at h2
    · rename_i hl
      cases h2
      exact ⟨hl, rfl⟩
    · cases h2
  | tup ds =>
    cases h
    rw [VR] at r
    obtain ⟨a, vs, rfl, sq, rr⟩ := r
    exact .inr (.inl ⟨vs, sq, by rw [rr.isEmpty]⟩)
  | ref n =>
    rw [VR] at r
    obtain ⟨_, rfl⟩ := r
    have h2 : (match s[n]? with
      | some (.lst xs) => some (!xs.isEmpty)
      | some (.frz xs) => some (!xs.isEmpty)
      | _ => none) = some b := h
    clear h
    split at h2
    · rename_i xs hx
      cases h2
      obtain ⟨vs, sq, rr⟩ := sr.lst (n := n) (xs := xs) (by unfold lstAt; rw [hx])
      exact .inl ⟨vs, sq, by rw [rr.isEmpty]⟩
    · rename_i xs hx
      cases h2
      obtain ⟨vs, sq, rr⟩ := sr.lst (n := n) (xs := xs) (by unfold lstAt; rw [hx])
      exact .inl ⟨vs, sq, by rw [rr.isEmpty]⟩
    · cases h2
def toT (m : EM D) : EM Bool := fun e s => (m e s).bind fun d s1 => match trD s1 d with
  | some b => .ok b s1
  | none => .no
theorem jt_tru (h : JE X W e m) (he : ∀ whole, isTrue e X.env whole = (do let v ← whole; standAt e.pos; holding [v] (truthy v)) := by intro _; rfl) : JT X W e (toT m) :=
  PT_imp (pt_truth h he) fun σ H Q ⟨ρ, env, s, sr, er, po⟩ => ⟨ρ, env, s, sr, er, (Po.bind po).imp fun v H1 ⟨ρ1, s1, d1, e1, sr1, r1, po1⟩ => by
    dsimp only at po1
    split at po1
    · rename_i b hb
      exact ⟨b, trD_ok sr1 r1 hb, po1 ρ1 H1 _ Ext.refl sr1 rfl⟩
    · exact po1.elim⟩
/-- a module's tuple -/
def TupC (K : PySem.W.Frag) (mg : Str → Option Value) (x : Str) (ds : List D) : Prop := ∃ a vs, mg x = some (.ref a) ∧ (∀ H, SqT K H a vs) ∧ ∀ ρ n H, VRs K ρ n H ds vs
theorem je_gt {x : Str} {ds : List D} (hg : Gl X x) (h : TupC X.K X.mg x ds) (hd : (x == ("__debug__" : Str)) = false := by decide) : JE X W (.Name x pos) (mC (.tup ds)) := by
  obtain ⟨a, vs, h1, h2, h3⟩ := h
  exact je_gtup hg h1 h2 h3 hd
end
/-! ### the head's facts: any check of the written part -/
abbrev AlZ : Type := Bool × List He.FnW
def obsZ (chk : PySem.W.Frag → Bool) (fn : List He.DefD) (K : PySem.W.Frag) : AlZ := (chk K && fn.all fun d => d.ok K, fn.map fun d => He.fnW K d.at_)
def valZ (fn : List He.DefD) : AlZ := (true, fn.map He.DefD.val)
def SaysZ (chk : PySem.W.Frag → Bool) (fn : List He.DefD) (K : PySem.W.Frag) : Prop := obsZ chk fn K = valZ fn
def obsZG (n : Nat) (chk : PySem.W.Frag → Bool) (fn : List He.DefD) (g : Addr → Option Obj) : AlZ := obsZ chk fn (He.frG g (He.asD g n))
def hookZ (n : Nat) (chk : PySem.W.Frag → Bool) (fn : List He.DefD) : PySem.W.Hook where
  α := AlZ
  obs := fun s => obsZG n chk fn s.heap.get?
  val := fun _ => valZ fn
  says := fun _ h => ∃ K : PySem.W.Frag, K.In h ∧ SaysZ chk fn K
  of := fun _ _ e => ⟨_, He.frG_in, e⟩
  keeps := fun _ _ _ ⟨K, hK, c⟩ k => ⟨K, PySem.W.Frag.In.keeps hK k, c⟩
omit [Row] in
theorem obsZG_eq {n : Nat} {chk : PySem.W.Frag → Bool} {fn : List He.DefD} {g : Addr → Option Obj} {s : Shared} (h : ∀ a, g a = s.heap.get? a) : obsZG n chk fn g = (hookZ n chk fn).obs s := by
  have e : g = s.heap.get? := funext h
  rw [e] <;> rfl
section
variable {chk : PySem.W.Frag → Bool} {fn : List He.DefD} {K : PySem.W.Frag}
theorem SaysZ.ok_ (c : SaysZ chk fn K) : chk K = true := (He.ba (show (chk K && fn.all fun d => d.ok K) = true from congrArg (fun z : AlZ => z.1) c)).1
theorem SaysZ.def_ (c : SaysZ chk fn K) (i : Nat) {d : He.DefD} (h : fn[i]? = some d := by rfl) : ∃ fd, FunD K d.name d.qual d.params d.body d.scope (d.dvs K) (d.kws K) (He.fAd K d.at_) fd := by
  have c2 := (He.ba (show (chk K && fn.all fun d => d.ok K) = true from congrArg (fun z : AlZ => z.1) c)).2
  have e : fn.map (fun d => He.fnW K d.at_) = fn.map He.DefD.val := congrArg (fun z : AlZ => z.2) c
  have e2 : (fn.map fun d => He.fnW K d.at_)[i]? = (fn.map He.DefD.val)[i]? := by rw [e]
  rw [List.getElem?_map, List.getElem?_map, h] at e2
  exact He.DefD.funD (Option.some.inj e2) (List.all_eq_true.mp c2 d (List.mem_of_getElem? h))
/-- the checks by number -/
def chkAll (fa : List He.Fa) (ts : List (Str × List He.Dv)) (K : PySem.W.Frag) : Bool := (fa.all fun f => f.ok K) && ts.all fun t => He.tupB K t.1 t.2
theorem chk_fa {fa : List He.Fa} {ts : List (Str × List He.Dv)} (h : chkAll fa ts K = true) (i : Nat) {f : He.Fa} (e : fa[i]? = some f := by rfl) : f.ok K = true := List.all_eq_true.mp (He.ba h).1 f (List.mem_of_getElem? e)
def dvD : He.Dv → D
  | .non => .non
  | .bl b => .bl b
  | .int i => .int i
  | .str x => .str x
  | _ => .non
def plainDv : He.Dv → Bool
  | .non => true
  | .bl _ => true
  | .int _ => true
  | .str _ => true
  | _ => false
theorem vrs_dv {ρ : Nat → Addr} {n : Nat} {H : Hp} : ∀ ds : List He.Dv, ds.all plainDv = true → VRs K ρ n H (ds.map dvD) (ds.map (He.Dv.v K))
  | [], _ => VRs.nil
  | d :: ds, h => by
    rw [List.all_cons, Bool.and_eq_true] at h
    refine VRs.cons ?_ (vrs_dv ds h.2)
    cases d <;> first | rfl | cases h.1
theorem chk_tup {fa : List He.Fa} {ts : List (Str × List He.Dv)} (h : chkAll fa ts K = true) {hp : Heap} {mg : Str → Option Value} (X : K.In hp) (G : hp.Ns mainGlobals mg) (i j : Nat) {x : Str} {ds : List He.Dv} (e : ts[i]? = some (x, ds) := by rfl) (e2 : fa[j]? = some (.glo x) := by rfl) (hd : ds.all plainDv = true := by rfl) :
    TupC K mg x (ds.map dvD) :=
  ⟨He.ga K x, ds.map (He.Dv.v K), He.glo_ok X G (chk_fa h j e2), fun H => He.tupB_ok (List.all_eq_true.mp (He.ba h).2 _ (List.mem_of_getElem? e)) H, fun ρ n H => vrs_dv ds hd⟩
end
end Z

set_option Elab.async false
set_option linter.all false
set_option maxRecDepth 100000
set_option maxHeartbeats 4000000
namespace Z
open PySem PySem.Spec PyProof.Rows L2
variable [Row]
theorem hu64 {a c : Nat} (h : a + 100 < c) : a + 64 < c := by omega
theorem hu65 {a c : Nat} (h : a + 100 < c) : a + 65 < c := by omega
theorem hu66 {a c : Nat} (h : a + 100 < c) : a + 66 < c := by omega
section
variable {X : Cx} {W : WX}
theorem jts_nil : PTs X [] (lT X.K X.mg W tY) := ⟨fun _ _ _ H _ I ⟨ρ, env, s, sr, er, po⟩ => wpAny_tests_nil ⟨H, I, po ρ H true Ext.refl sr rfl⟩⟩
def dIsN2 (x y : D) (s : Sto) : Rs D := match y with | .non => dIsN false x s | _ => .no
def dNotN2 (x y : D) (s : Sto) : Rs D := match y with | .non => dIsN true x s | _ => .no
theorem pr_isN2 : Pr2 X W dIsN2 (fun x y H Q => y = .non ∧ Q (.bl (decide (x = .non))) H) := pr_isN
theorem pr_notN2 : Pr2 X W dNotN2 (fun x y H Q => y = .non ∧ Q (.bl (!decide (x = .non))) H) := pr_notN
end
end Z

set_option Elab.async false
set_option linter.all false
set_option maxRecDepth 100000
set_option maxHeartbeats 4000000
namespace Z
open PySem PySem.Spec PyProof.Rows L2
/-! ### what a mirror answers: weakest preconditions -/
/-- an equation that simp takes as a proof, not as a computation -/
theorem nr {α : Sort u} {a b : α} (h : a = b) : a = b := h
def NE : Str → Str → D → Sto → Prop := fun _ _ _ _ => False
def Rs.wp {α : Type} (r : Rs α) (P : α → Sto → Prop) (E : Str → Str → D → Sto → Prop := NE) : Prop := match r with
  | .ok a s => P a s
  | .ex c f v s => E c f v s
  | .no => False
structure En where
  nx : Ev → Sto → Prop
  rt : D → Sto → Prop
  bk : Ev → Sto → Prop := fun _ _ => False
  ct : Ev → Sto → Prop := fun _ _ => False
  ex : Str → Str → D → Ev → Sto → Prop := fun _ _ _ _ _ => False
def RS.wp (r : RS) (Q : En) : Prop := match r with
  | .nx e s => Q.nx e s
  | .rt d s => Q.rt d s
  | .bk e s => Q.bk e s
  | .ct e s => Q.ct e s
  | .ex c f v e s => Q.ex c f v e s
  | .no => False
section
variable {α β : Type} {P : α → Sto → Prop} {P' : β → Sto → Prop} {E : Str → Str → D → Sto → Prop} {Q : En} {e : Ev} {s : Sto} {r : Rs α}
@[simp ↓] theorem z_ok {a : α} : (Rs.ok a s).wp P E = P a s := nr rfl
@[simp ↓] theorem z_ex {c f : Str} {v : D} : (Rs.ex c f v s : Rs α).wp P E = E c f v s := nr rfl
@[simp ↓] theorem z_no : (Rs.no : Rs α).wp P E = False := nr rfl
theorem z_bind {k : α → Sto → Rs β} : (r.bind k).wp P' E = r.wp (fun a s => (k a s).wp P' E) E := by cases r <;> rfl
theorem z_st {k : α → Sto → RS} : (r.st e k).wp Q = r.wp (fun a s => (k a s).wp Q) (fun c f v s => Q.ex c f v e s) := by cases r <;> rfl
theorem z_seq {r : RS} {k : SM} : (r.seq k).wp Q = r.wp { Q with nx := fun e s => (k e s).wp Q } := by cases r <;> rfl
@[simp ↓] theorem z_nx : (RS.nx e s).wp Q = Q.nx e s := nr rfl
@[simp ↓] theorem z_rt {d : D} : (RS.rt d s).wp Q = Q.rt d s := nr rfl
@[simp ↓] theorem z_bk : (RS.bk e s).wp Q = Q.bk e s := nr rfl
@[simp ↓] theorem z_ct : (RS.ct e s).wp Q = Q.ct e s := nr rfl
@[simp ↓] theorem z_rex {c f : Str} {v : D} : (RS.ex c f v e s).wp Q = Q.ex c f v e s := nr rfl
@[simp ↓] theorem z_rno : (RS.no).wp Q = False := nr rfl
theorem z_fin {r : RS} {P : D → Sto → Prop} : (r.fin).wp P E = r.wp { nx := fun _ s => P .non s, rt := P, ex := fun c f v _ s => E c f v s } := by cases r <;> rfl
theorem z_nox {P : α → Sto → Prop} : (r.nox).wp P E = r.wp P NE := by cases r <;> rfl
theorem wp_mono {P2 : α → Sto → Prop} {E2 : Str → Str → D → Sto → Prop} (h : r.wp P E) (hP : ∀ a s, P a s → P2 a s) (hE : ∀ c f v s, E c f v s → E2 c f v s) : r.wp P2 E2 := by
  cases r with
  | ok a s => exact hP a s h
  | ex c f v s => exact hE c f v s h
  | no => exact h
/-- the wish kept apart -/
theorem wp_of {P : α → Sto → Prop} (h : ∀ P2 : α → Sto → Prop, (∀ a s, P a s → P2 a s) → r.wp P2 E) : r.wp P E := h P fun _ _ h => h
/-- no error came: whatever is asked of errors -/
theorem wp_ne {P2 : α → Sto → Prop} (h : r.wp P) (hP : ∀ a s, P a s → P2 a s) : r.wp P2 E := wp_mono h hP fun _ _ _ _ z => z.elim
theorem z_fnM {ps n : Nat} {m : SM} {ds : List D} {P : D → Sto → Prop} (h : ds.length = ps) : (fnM ps n m ds s).wp P E = (m (ds.map some ++ List.replicate (n - ds.length) none) s).wp { nx := fun _ s => P .non s, rt := P, ex := fun c f v _ s => E c f v s } := by
  unfold fnM
  rw [if_pos h, z_fin]
theorem RS.wp_mono {r : RS} {Q Q2 : En} (h : r.wp Q) (h1 : ∀ e s, Q.nx e s → Q2.nx e s) (h2 : ∀ e s, Q.rt e s → Q2.rt e s) (h3 : ∀ e s, Q.bk e s → Q2.bk e s) (h4 : ∀ e s, Q.ct e s → Q2.ct e s) (h5 : ∀ c f v e s, Q.ex c f v e s → Q2.ex c f v e s) : r.wp Q2 := by
  cases r with
  | nx e s => exact h1 e s h
  | rt d s => exact h2 d s h
  | bk e s => exact h3 e s h
  | ct e s => exact h4 e s h
  | ex c f v e s => exact h5 c f v e s h
  | no => exact h
end
theorem ok_of_wp {r : Rs D} {d : D} (h : r.wp fun a _ => a = d) : ∃ s', r = .ok d s' := by
  cases r with
  | ok a s =>
    have h : a = d := h
    exact ⟨s, by rw [h]⟩
  | ex c f v s => exact h.elim
  | no => exact h.elim
/-! ### for, comprehensions by an invariant -/
section
variable {j : Stp} {g : GN} {body : SM} {Q : En} {N : Nat}
/-- one round of a for -/
def ForStep (j : Stp) (g : GN) (body : SM) (Q : En) (I : Nat → Ev → Sto → Prop) (N i : Nat) (e : Ev) (s : Sto) : Prop :=
  (i = N → j i s = some none ∧ Q.nx e s) ∧ (i < N → ∃ d e1, j i s = some (some d) ∧ g d e = some e1 ∧ (body e1 s).wp { nx := I (i + 1), ct := I (i + 1), bk := Q.nx, rt := Q.rt, ex := Q.ex })
theorem forL_wp (I : Nat → Ev → Sto → Prop) (st : ∀ i e s, i ≤ N → I i e s → ForStep j g body Q I N i e s) : ∀ (f i : Nat) (e : Ev) (s : Sto), i + f = N → I i e s → (forL j g body f i e s).wp Q
  | 0, i, e, s, h, hi => by
    obtain ⟨h1, h2⟩ := (st i e s (by omega) hi).1 (by omega)
    unfold forL
    rw [h1]
    exact h2
  | f + 1, i, e, s, h, hi => by
    obtain ⟨d, e1, h1, h2, h3⟩ := (st i e s (by omega) hi).2 (by omega)
    unfold forL
    rw [h1]
    dsimp only
    rw [h2]
    dsimp only
    cases hb : body e1 s with
    | nx e2 s2 =>
      rw [hb] at h3
      exact forL_wp I st f (i + 1) e2 s2 (by omega) h3
    | ct e2 s2 =>
      rw [hb] at h3
      exact forL_wp I st f (i + 1) e2 s2 (by omega) h3
    | bk e2 s2 => rw [hb] at h3; exact h3
    | rt d s2 => rw [hb] at h3; exact h3
    | ex c f v e s => rw [hb] at h3; exact h3
    | no => rw [hb] at h3; exact h3
variable {t : EM Bool} {m : EM D} {P : D → Sto → Prop} {l : Nat}
def LcStep (j : Stp) (g : GN) (t : EM Bool) (m : EM D) (l : Nat) (I : Nat → List D → Sto → Prop) (N i : Nat) (acc : List D) (e : Ev) (s : Sto) : Prop :=
  (i = N → j i s = some none) ∧ (i < N → ∃ d e1, j i s = some (some d) ∧ g d e = some e1 ∧
    (t e1 s).wp fun q s1 => if q then (m e1 s1).wp fun y s2 => s2[l]? = some (.lst acc) ∧ acc.length < sizeLine ∧ I (i + 1) (acc ++ [y]) (s2.set l (.lst (acc ++ [y])))
      else s1[l]? = some (.lst acc) ∧ I (i + 1) acc s1)
theorem lcL_wp (I : Nat → List D → Sto → Prop) {e : Ev} (st : ∀ i acc s, i ≤ N → I i acc s → s[l]? = some (.lst acc) → LcStep j g t m l I N i acc e s) : ∀ (f i : Nat) (acc : List D) (s : Sto), i + f = N → I i acc s → s[l]? = some (.lst acc) →
    (lcL j g t m l f i e s).wp fun d s' => d = .ref l ∧ ∃ ys, s'[l]? = some (.lst ys) ∧ I N ys s'
  | 0, i, acc, s, h, hi, hl => by
    have h1 := (st i acc s (by omega) hi hl).1 (by omega)
    unfold lcL
    rw [h1]
    have e1 : i = N := by omega
    subst e1
    exact ⟨rfl, acc, hl, hi⟩
  | f + 1, i, acc, s, h, hi, hl => by
    obtain ⟨d, e1, h1, h2, h3⟩ := (st i acc s (by omega) hi hl).2 (by omega)
    unfold lcL
    rw [h1]
    dsimp only
    rw [h2]
    dsimp only
    rw [z_bind, z_nox]
    refine wp_mono h3 (fun q s1 h4 => ?_) fun _ _ _ _ z => z.elim
    cases q with
    | true =>
      rw [if_pos rfl] at h4 ⊢
      rw [z_bind, z_nox]
      refine wp_mono h4 (fun y s2 h5 => ?_) fun _ _ _ _ z => z.elim
      obtain ⟨h6, h7, h8⟩ := h5
      rw [h6]
      dsimp only
      rw [if_pos h7]
      have hl2 : l < s2.length := (List.getElem?_eq_some_iff.mp h6).1
      exact lcL_wp I st f (i + 1) _ _ (by omega) h8 (by rw [List.getElem?_set_self hl2])
    | false =>
      simp only [Bool.false_eq_true, ↓reduceIte] at h4 ⊢
      exact lcL_wp I st f (i + 1) _ _ (by omega) h4.2 h4.1
end
/-! ### what a piece of code leaves as it was -/
/-- the bags: lists of two whole numbers -/
def Bag (s : Sto) (k : Nat) : Prop := ∃ a b : Int, s[k]? = some (.lst [.int a, .int b])
/-- from s to t: only the bags ks are changed -/
structure Eff (ks : List Nat) (s t : Sto) : Prop where
  le : s.length ≤ t.length
  eq : ∀ i, i < s.length → i ∉ ks → t[i]? = s[i]?
  bag : ∀ k ∈ ks, Bag s k → Bag t k
theorem Eff.refl {ks : List Nat} {s : Sto} : Eff ks s s := ⟨Nat.le_refl _, fun _ _ _ => rfl, fun _ _ h => h⟩
theorem Bag.lt {s : Sto} {k : Nat} (h : Bag s k) : k < s.length := by
  obtain ⟨a, b, h⟩ := h
  exact (List.getElem?_eq_some_iff.mp h).1
theorem Eff.trans {ks : List Nat} {s t u : Sto} (h : Eff ks s t) (h2 : Eff ks t u) : Eff ks s u :=
  ⟨Nat.le_trans h.le h2.le, fun i hi hk => (h2.eq i (Nat.lt_of_lt_of_le hi h.le) hk).trans (h.eq i hi hk), fun k hk hb => h2.bag k hk (h.bag k hk hb)⟩
theorem Eff.sub {ks js : List Nat} {s t : Sto} (h : Eff ks s t) (hs : ∀ k ∈ ks, k ∈ js) : Eff js s t := ⟨h.le, fun i hi hk => h.eq i hi fun hm => hk (hs i hm), fun k hk hb => by
  by_cases hm : k ∈ ks
  · exact h.bag k hm hb
  · obtain ⟨a, b, e⟩ := hb
    exact ⟨a, b, by rw [h.eq k (List.getElem?_eq_some_iff.mp e).1 hm]; exact e⟩⟩
theorem Eff.nil {js : List Nat} {s t : Sto} (h : Eff [] s t) : Eff js s t := h.sub fun _ h => by simp at h
theorem Eff.push {ks : List Nat} {s : Sto} {o : SO} : Eff ks s (s ++ [o]) := ⟨by simp, fun i hi _ => List.getElem?_append_left hi, fun k _ hb => by
  obtain ⟨a, b, e⟩ := hb
  exact ⟨a, b, by rw [List.getElem?_append_left (List.getElem?_eq_some_iff.mp e).1]; exact e⟩⟩
/-- a place made since is written -/
theorem Eff.set {ks : List Nat} {s t : Sto} (h : Eff ks s t) {n : Nat} {o : SO} (hn : s.length ≤ n) : Eff ks s (t.set n o) :=
  ⟨by simpa using h.le, fun i hi hk => by rw [List.getElem?_set_ne (by omega)]; exact h.eq i hi hk, fun k hk hb => by
    have hlt := hb.lt
    obtain ⟨a, b, e⟩ := h.bag k hk hb
    exact ⟨a, b, by rw [List.getElem?_set_ne (by omega)]; exact e⟩⟩
theorem Eff.get {ks : List Nat} {s t : Sto} (h : Eff ks s t) {i : Nat} {o : SO} (e : s[i]? = some o) (hi : i ∉ ks) : t[i]? = some o := by
  rw [h.eq i (List.getElem?_eq_some_iff.mp e).1 hi]
  exact e
theorem Eff.lst {ks : List Nat} {s t : Sto} (h : Eff ks s t) {i : Nat} {xs : List D} (e : lstAt s i = some xs) (hi : i ∉ ks) : lstAt t i = some xs := by
  have hl : i < s.length := lstAt_lt e
  unfold lstAt at e ⊢
  rw [h.eq i hl hi]
  exact e
theorem Bag.lst {s : Sto} {k : Nat} (h : Bag s k) : ∃ a b : Int, s[k]? = some (.lst [.int a, .int b]) ∧ lstAt s k = some [.int a, .int b] := by
  obtain ⟨a, b, e⟩ := h
  exact ⟨a, b, e, by unfold lstAt; rw [e]⟩
end Z

set_option Elab.async false
set_option linter.all false
set_option maxRecDepth 100000
set_option maxHeartbeats 4000000
namespace Z
open PySem PySem.Spec PyProof.Rows L2
/-! ### the steps of a mirror, for simp: outermost first -/
section
variable {P : D → Sto → Prop} {PL : List D → Sto → Prop} {PB : Bool → Sto → Prop} {PO : Option Int → Sto → Prop} {PI : Nat × Stp → Sto → Prop} {E : Str → Str → D → Sto → Prop} {Q : En} {e : Ev} {s : Sto}
variable {a b c : EM D} {ms : EM (List D)} {t u : EM Bool} {i : Nat} {d x y : D} {f h : D → D → Sto → Rs D} {f1 : D → Sto → Rs D} {fN : List D → Sto → Rs D} {fM : D → List D → Sto → Rs D}
theorem z_ite {c : Prop} [Decidable c] {α : Type} {a b : Rs α} {P : α → Sto → Prop} : (if c then a else b).wp P E = if c then a.wp P E else b.wp P E := by split <;> rfl
theorem z_iteS {c : Prop} [Decidable c] {a b : RS} : (if c then a else b).wp Q = if c then a.wp Q else b.wp Q := by split <;> rfl
theorem z_iteN {c : Prop} [Decidable c] {α : Type} {a : Rs α} {P : α → Sto → Prop} : (if c then a else .no).wp P E = (c ∧ a.wp P E) := by
  by_cases h : c <;> simp [h, Rs.wp]
/-- the value in a slot -/
def slotP (o : Option (Option D)) (P : D → Prop) : Prop := match o with
  | some (some d) => P d
  | _ => False
@[simp ↓] theorem slotP_some {P : D → Prop} : slotP (some (some d)) P = P d := nr rfl
@[simp ↓] theorem slotP_none {P : D → Prop} : slotP (some none) P = False := nr rfl
@[simp ↓] theorem z_mV : (mV i e s).wp P E = slotP e[i]? fun d => P d s := by
  unfold mV slotP
  cases e[i]? with
  | none => rfl
  | some o => cases o <;> rfl
@[simp ↓] theorem z_mC : (mC d e s).wp P E = P d s := nr rfl
@[simp ↓] theorem z_m2 : (m2 f a b e s).wp P E = (a e s).wp (fun x s1 => (b e s1).wp (fun y s2 => (f x y s2).wp P E) E) E := by
  unfold m2; simp only [z_bind]
@[simp ↓] theorem z_m1 : (m1 f1 a e s).wp P E = (a e s).wp (fun x s1 => (f1 x s1).wp P E) E := by
  unfold m1; simp only [z_bind]
@[simp ↓] theorem z_mN : (mN fN ms e s).wp P E = (ms e s).wp (fun xs s1 => (fN xs s1).wp P E) E := by
  unfold mN; simp only [z_bind]
@[simp ↓] theorem z_aN : (aN e s).wp PL E = PL [] s := nr rfl
@[simp ↓] theorem z_aC : (aC a ms e s).wp PL E = (a e s).wp (fun x s1 => (ms e s1).wp (fun xs s2 => PL (x :: xs) s2) E) E := by
  unfold aC; simp only [z_bind, z_ok]
def blP (d : D) (P : Bool → Prop) : Prop := match d with
  | .bl b => P b
  | _ => False
@[simp ↓] theorem blP_bl {b : Bool} {P : Bool → Prop} : blP (.bl b) P = P b := nr rfl
@[simp ↓] theorem z_toB : (toB a e s).wp PB E = (a e s).wp (fun d s1 => blP d fun b => PB b s1) E := by
  unfold toB blP; simp only [z_bind]
  congr 1
  funext d s1
  cases d <;> rfl
@[simp] theorem trD_bl {q : Bool} : trD s (.bl q) = some q := rfl
@[simp] theorem trD_non : trD s .non = some false := rfl
@[simp] theorem trD_int {j : Int} : trD s (.int j) = some (j != 0) := rfl
@[simp] theorem trD_tup {xs : List D} : trD s (.tup xs) = some (!xs.isEmpty) := rfl
theorem trD_str {z : Str} (h : z.length ≤ sizeLine) : trD s (.str z) = some ((z.length : Int) != 0) := if_pos h
@[simp ↓] theorem z_toT : (toT a e s).wp PB E = (a e s).wp (fun d s1 => ∃ b, trD s1 d = some b ∧ PB b s1) E := by
  unfold toT; simp only [z_bind]
  congr 1
  funext d s1
  cases h : trD s1 d <;> simp [Rs.wp]
@[simp ↓] theorem z_bAnd : (bAnd t u e s).wp PB E = (t e s).wp (fun x s1 => if x then (u e s1).wp PB E else PB false s1) E := by
  unfold bAnd; simp only [z_bind, z_ite, z_ok]
@[simp ↓] theorem z_bOr : (bOr t u e s).wp PB E = (t e s).wp (fun x s1 => if x then PB true s1 else (u e s1).wp PB E) E := by
  unfold bOr; simp only [z_bind, z_ite, z_ok]
@[simp ↓] theorem z_bNot : (bNot t e s).wp PB E = (t e s).wp (fun x s1 => PB (!x) s1) E := by
  unfold bNot; simp only [z_bind, z_ok]
@[simp ↓] theorem z_tY : (tY e s).wp PB E = PB true s := nr rfl
@[simp ↓] theorem z_mIf : (mIf t a b e s).wp P E = (t e s).wp (fun x s1 => if x then (a e s1).wp P E else (b e s1).wp P E) E := by
  unfold mIf; simp only [z_bind, z_ite]
@[simp ↓] theorem z_mAnd : (mAnd a b e s).wp P E = (a e s).wp (fun d s1 => blP d fun q => if q then (b e s1).wp P E else P (.bl false) s1) E := by
  unfold mAnd blP; simp only [z_bind]
  congr 1
  funext d s1
  cases d with
  | bl q => cases q <;> rfl
  | _ => rfl
@[simp ↓] theorem z_mOr : (mOr a b e s).wp P E = (a e s).wp (fun d s1 => blP d fun q => if q then P (.bl true) s1 else (b e s1).wp P E) E := by
  unfold mOr blP; simp only [z_bind]
  congr 1
  funext d s1
  cases d with
  | bl q => cases q <;> rfl
  | _ => rfl
@[simp ↓] theorem z_mNot : (mNot a e s).wp P E = (a e s).wp (fun d s1 => blP d fun q => P (.bl (!q)) s1) E := by
  unfold mNot blP; simp only [z_bind]
  congr 1
  funext d s1
  cases d <;> rfl
@[simp ↓] theorem z_mCh : (mCh f h a b c e s).wp P E = (a e s).wp (fun x s1 => (b e s1).wp (fun y s2 => (f x y s2).wp (fun z s3 => blP z fun q => if q then (c e s3).wp (fun w s4 => (h y w s4).wp P E) E else P (.bl false) s3) E) E) E := by
  unfold mCh blP; simp only [z_bind]
  congr 1
  funext d s1
  congr 1
  funext d2 s2
  congr 1
  funext d3 s3
  cases d3 with
  | bl q =>
    cases q with
    | false => rfl
    | true => simp only [z_bind]; rfl
  | _ => rfl
@[simp ↓] theorem z_mBM {T : String} : (mBM T fM a ms e s).wp P E = (a e s).wp (fun x s1 => isTy T s1 x = true ∧ (ms e s1).wp (fun xs s2 => (fM x xs s2).wp P E) E) E := by
  unfold mBM; simp only [z_bind, z_iteN]
@[simp ↓] theorem z_oN : (oN e s).wp PO E = PO none s := nr rfl
def intP (d : D) (P : Int → Prop) : Prop := match d with
  | .int i => P i
  | _ => False
@[simp ↓] theorem intP_int {j : Int} {P : Int → Prop} : intP (.int j) P = P j := nr rfl
@[simp ↓] theorem z_oS : (oS a e s).wp PO E = (a e s).wp (fun d s1 => intP d fun i => PO (some i) s1) E := by
  unfold oS intP; simp only [z_bind]
  congr 1
  funext d s1
  cases d <;> rfl
@[simp ↓] theorem z_mSl {fS : D → Option Int → Option Int → Sto → Rs D} {l k : EM (Option Int)} : (mSl fS a l k e s).wp P E = (a e s).wp (fun x s1 => (l e s1).wp (fun lo s2 => (k e s2).wp (fun hi s3 => (fS x lo hi s3).wp P E) E) E) E := by
  unfold mSl; simp only [z_bind]
@[simp ↓] theorem z_fTup {ds : List D} : (fTup ds s).wp P E = (ds.length ≤ sizeLine ∧ P (.tup ds) s) := by
  unfold fTup; rw [z_iteN, z_ok]
@[simp ↓] theorem z_fLst {ds : List D} : (fLst ds s).wp P E = (ds.length ≤ sizeLine ∧ P (.ref s.length) (s ++ [.lst ds])) := by
  unfold fLst; rw [z_iteN, z_ok]
/-! statements -/
variable {A B : SM} {g : GN} {mi : EM (Nat × Stp)}
@[simp ↓] theorem z_sN : (sN e s).wp Q = Q.nx e s := nr rfl
@[simp ↓] theorem z_sNo : (sNo e s).wp Q = False := nr rfl
@[simp ↓] theorem z_sC : (sC A B e s).wp Q = (A e s).wp { nx := fun e s => (B e s).wp Q, rt := Q.rt, bk := Q.bk, ct := Q.ct, ex := Q.ex } := by
  unfold sC; rw [z_seq]
/-- what comes next, not yet looked at -/
def nxt (B : SM) (Q : En) : Ev → Sto → Prop := fun e s => (B e s).wp Q
theorem z_sCn : (sC A B e s).wp Q = (A e s).wp { nx := nxt B Q, rt := Q.rt, bk := Q.bk, ct := Q.ct, ex := Q.ex } := z_sC
theorem z_nxt : nxt B Q e s = (B e s).wp Q := rfl
theorem z_nxC {B2 : SM} : nxt (sC B B2) Q e s = (B e s).wp { nx := nxt B2 Q, rt := Q.rt, bk := Q.bk, ct := Q.ct, ex := Q.ex } := z_sCn
@[simp ↓] theorem z_sA : (sA i a e s).wp Q = (a e s).wp (fun d s1 => Q.nx (e.set i (some d)) s1) (fun c f v s => Q.ex c f v e s) := by
  unfold sA; rw [z_st]; rfl
@[simp ↓] theorem z_sE : (sE a e s).wp Q = (a e s).wp (fun _ s1 => Q.nx e s1) (fun c f v s => Q.ex c f v e s) := by
  unfold sE; rw [z_st]; rfl
@[simp ↓] theorem z_sR : (sR a e s).wp Q = (a e s).wp (fun d s1 => Q.rt d s1) (fun c f v s => Q.ex c f v e s) := by
  unfold sR; rw [z_st]; rfl
@[simp ↓] theorem z_sR0 : (sR0 e s).wp Q = Q.rt .non s := nr rfl
@[simp ↓] theorem z_sI : (sI t A B e s).wp Q = (t e s).wp (fun q s1 => if q then (A e s1).wp Q else (B e s1).wp Q) (fun c f v s => Q.ex c f v e s) := by
  unfold sI; rw [z_st]; simp only [z_iteS]
def evP (o : Option Ev) (P : Ev → Prop) : Prop := match o with
  | some e => P e
  | none => False
@[simp ↓] theorem evP_some {e : Ev} {P : Ev → Prop} : evP (some e) P = P e := nr rfl
@[simp ↓] theorem z_sG : (sG g a e s).wp Q = (a e s).wp (fun d s1 => evP (g d e) fun e' => Q.nx e' s1) (fun c f v s => Q.ex c f v e s) := by
  unfold sG evP; rw [z_st]
  congr 1
  funext d s1
  cases g d e <;> rfl
def twoP (ds : List D) (P : D → D → Prop) : Prop := match ds with
  | [x, y] => P x y
  | _ => False
@[simp ↓] theorem twoP_two {P : D → D → Prop} : twoP [x, y] P = P x y := nr rfl
@[simp ↓] theorem z_sP {j : Nat} : (sP i j ms e s).wp Q = (ms e s).wp (fun ds s1 => twoP ds fun x y => Q.nx ((e.set i (some x)).set j (some y)) s1) (fun c f v s => Q.ex c f v e s) := by
  unfold sP; rw [z_st]
  congr 1
  funext d s1
  match d with
  | [] => rfl
  | [_] => rfl
  | [_, _] => rfl
  | _ :: _ :: _ :: _ => rfl
def stoP (o : Option Sto) (P : Sto → Prop) : Prop := match o with
  | some e => P e
  | none => False
@[simp ↓] theorem stoP_some {P : Sto → Prop} : stoP (some s) P = P s := nr rfl
@[simp ↓] theorem z_sX {fX : D → D → D → Sto → Option Sto} : (sX fX a b c e s).wp Q = (c e s).wp (fun x s1 => (a e s1).wp (fun o s2 => (b e s2).wp (fun i s3 => stoP (fX o i x s3) fun s4 => Q.nx e s4) (fun c f v s => Q.ex c f v e s)) (fun c f v s => Q.ex c f v e s)) (fun c f v s => Q.ex c f v e s) := by
  unfold sX stoP; simp only [z_st]
  congr 1
  funext d s1
  congr 1
  funext d2 s2
  congr 1
  funext d3 s3
  cases fX d2 d3 d s3 <;> rfl
@[simp ↓] theorem z_sF : (sF mi g A e s).wp Q = (mi e s).wp (fun jt s1 => (forL jt.2 g A jt.1 0 e s1).wp Q) (fun c f v s => Q.ex c f v e s) := by
  unfold sF; rw [z_st]
@[simp ↓] theorem z_mL {vs : List Nat} : (mL mi g t a vs e s).wp P E = (mi e s).wp (fun jt s1 => (lcL jt.2 g t a s1.length jt.1 0 (wipeD e vs) (s1 ++ [.lst []])).wp P E) E := by
  unfold mL; rw [z_bind]
/-- a list's items at a place -/
def lstP (o : Option (List D)) (P : List D → Prop) : Prop := match o with
  | some xs => P xs
  | none => False
@[simp ↓] theorem lstP_some {xs : List D} {P : List D → Prop} : lstP (some xs) P = P xs := nr rfl
/-- a list that may be written -/
def mlAt (s : Sto) (n : Nat) : Option (List D) := match s[n]? with
  | some (.lst xs) => some xs
  | _ => none
@[simp ↓] theorem z_setL {n : Nat} {j : Int} {PS : Sto → Prop} : stoP (xSetL (.ref n) (.int j) x s) PS = lstP (mlAt s n) fun xs => ∃ k, ixN xs.length j = some k ∧ PS (s.set n (.lst (xs.set k x))) := by
  unfold xSetL mlAt
  dsimp only
  cases h : s[n]? with
  | none => rfl
  | some o =>
    cases o with
    | lst xs =>
      dsimp only [lstP]
      cases ixN xs.length j <;> simp [stoP]
    | _ => rfl
/-! targets -/
@[simp ↓] theorem z_gN : gN i d e = some (e.set i (some d)) := nr rfl
@[simp ↓] theorem z_gT {gs : List GN} {ds : List D} : gT gs (.tup ds) e = gTs gs ds e := nr rfl
@[simp ↓] theorem z_gTs0 : gTs [] [] e = some e := nr rfl
@[simp ↓] theorem z_gTsC {gs : List GN} {ds : List D} : gTs (g :: gs) (d :: ds) e = (g d e).bind fun e' => gTs gs ds e' := nr rfl
@[simp ↓] theorem z_wipe0 : wipeD e [] = e := nr rfl
@[simp ↓] theorem z_wipeC {vs : List Nat} : wipeD e (i :: vs) = (wipeD e vs).set i none := nr rfl
/-! iterables -/
@[simp ↓] theorem z_iR1 : (iR1 ms e s).wp PI E = (ms e s).wp (fun ds s1 => ∃ j, ds = [.int j] ∧ (-(2 ^ 62) ≤ j ∧ j < 2 ^ 62) ∧ PI (j.toNat, jRng 0 j.toNat) s1) E := by
  unfold iR1; rw [z_bind]
  congr 1
  funext ds s1
  split
  · rename_i j
    rw [z_iteN, z_ok]
    simp
  · rename_i hn
    simp only [z_no, eq_iff_iff, false_iff, not_exists]
    intro j hj
    exact hn j hj.1
@[simp ↓] theorem z_iR2 : (iR2 ms e s).wp PI E = (ms e s).wp (fun ds s1 => ∃ i j, ds = [.int i, .int j] ∧ (-(2 ^ 62) ≤ i ∧ i < 2 ^ 62 ∧ -(2 ^ 62) ≤ j ∧ j < 2 ^ 62) ∧ PI ((j - i).toNat, jRng i (j - i).toNat) s1) E := by
  unfold iR2; rw [z_bind]
  congr 1
  funext ds s1
  split
  · rename_i i j
    rw [z_iteN, z_ok]
    simp only [eq_iff_iff]
    constructor
    · intro h; exact ⟨i, j, rfl, h⟩
    · rintro ⟨i', j', h1, h2⟩
      cases h1
      exact h2
  · rename_i hn
    simp only [z_no, eq_iff_iff, false_iff, not_exists]
    intro i j hj
    exact hn i j hj.1
@[simp ↓] theorem z_iSq : (iSq a e s).wp PI E = (a e s).wp (fun d s1 => match d with | .tup ds => PI (ds.length, jTup ds) s1 | .ref n => lstP (lstAt s1 n) fun xs => PI (xs.length, jLst n) s1 | _ => False) E := by
  unfold iSq; rw [z_bind]
  congr 1
  funext d s1
  cases d with
  | ref n =>
    dsimp only
    unfold lstAt lstP
    split <;> simp_all [Rs.wp]
  | _ => rfl
@[simp ↓] theorem z_iSt : (iSt a e s).wp PI E = (a e s).wp (fun d s1 => match d with | .str x => PI (x.cps.size, jStr x) s1 | _ => False) E := by
  unfold iSt; rw [z_bind]
  congr 1
  funext d s1
  cases d <;> rfl
@[simp ↓] theorem z_iEn : (iEn ms e s).wp PI E = (ms e s).wp (fun ds s1 => ∃ n, ds = [.ref n] ∧ lstP (lstAt s1 n) fun xs => PI (xs.length, jEn n) s1) E := by
  unfold iEn; rw [z_bind]
  congr 1
  funext ds s1
  split
  · rename_i n
    simp only [List.cons.injEq, D.ref.injEq, and_true, exists_eq_left']
    unfold lstP
    cases lstAt s1 n <;> rfl
  · rename_i hn
    simp only [z_no, eq_iff_iff, false_iff, not_exists]
    intro n hj
    exact hn n hj.1
@[simp ↓] theorem z_iZp : (iZp ms e s).wp PI E = (ms e s).wp (fun ds s1 => ∃ n m, ds = [.ref n, .ref m] ∧ lstP (lstAt s1 n) fun xs => lstP (lstAt s1 m) fun ys => PI (xs.length, jZip n m) s1) E := by
  unfold iZp; rw [z_bind]
  congr 1
  funext ds s1
  split
  · rename_i n m
    simp only [eq_iff_iff]
    constructor
    · intro h
      refine ⟨n, m, rfl, ?_⟩
      unfold lstP
      cases h1 : lstAt s1 n <;> cases h2 : lstAt s1 m <;> rw [h1, h2] at h <;> first | exact h | exact h.elim
    · rintro ⟨n', m', h1, h2⟩
      cases h1
      unfold lstP at h2
      cases h3 : lstAt s1 n <;> rw [h3] at h2 <;> first | exact h2.elim | skip
      cases h4 : lstAt s1 m <;> rw [h4] at h2 <;> first | exact h2.elim | exact h2
  · rename_i hn
    simp only [z_no, eq_iff_iff, false_iff, not_exists]
    intro n m hj
    exact hn n m hj.1
/-! primitives on what is known of them -/
theorem z_int {C : Int → Int → Prop} [∀ i j, Decidable (C i j)] {g : Int → Int → D} {i j : Int} : (dIc C g (.int i) (.int j) s).wp P E = (C i j ∧ P (g i j) s) := by
  show (if C i j then Rs.ok (g i j) s else Rs.no).wp P E = _
  rw [z_iteN, z_ok]
@[simp ↓] theorem z_sub {i j : Int} : (dSub (.int i) (.int j) s).wp P E = P (.int (i - j)) s := nr rfl
@[simp ↓] theorem z_lt {i j : Int} : (dLt (.int i) (.int j) s).wp P E = P (.bl (decide (i < j))) s := nr rfl
@[simp ↓] theorem z_le {i j : Int} : (dLe (.int i) (.int j) s).wp P E = P (.bl (decide (i ≤ j))) s := nr rfl
@[simp ↓] theorem z_gt {i j : Int} : (dGt (.int i) (.int j) s).wp P E = P (.bl (decide (j < i))) s := nr rfl
@[simp ↓] theorem z_ge {i j : Int} : (dGe (.int i) (.int j) s).wp P E = P (.bl (decide (j ≤ i))) s := nr rfl
@[simp ↓] theorem z_mul {i j : Int} : (dMul2 (.int i) (.int j) s).wp P E = (cMul i j ∧ P (.int (i * j)) s) := by
  show (if cMul i j then Rs.ok (D.int (i * j)) s else Rs.no).wp P E = _
  rw [z_iteN, z_ok]
@[simp ↓] theorem z_div {i j : Int} : (dDiv (.int i) (.int j) s).wp P E = ((0 < j ∧ j < 1073741824) ∧ P (.int (i / j)) s) := z_int
@[simp ↓] theorem z_mod {i j : Int} : (dMod (.int i) (.int j) s).wp P E = (0 < j ∧ P (.int (i % j)) s) := z_int
@[simp ↓] theorem z_pow {i j : Int} : (dPow (.int i) (.int j) s).wp P E = (cPow i j ∧ P (.int (i ^ j.toNat)) s) := z_int
@[simp ↓] theorem z_neg {i : Int} : (dNeg (.int i) s).wp P E = P (.int (-i)) s := nr rfl
@[simp ↓] theorem z_addI {i j : Int} : (dAdd (.int i) (.int j) s).wp P E = P (.int (i + j)) s := nr rfl
@[simp ↓] theorem z_addS {i j : Str} : (dAdd (.str i) (.str j) s).wp P E = (i.length + j.length ≤ sizeLine ∧ P (.str (i ++ j)) s) := by
  show (if _ then _ else _ : Rs D).wp P E = _
  rw [z_iteN, z_ok]
@[simp ↓] theorem z_addT {i j : List D} : (dAdd (.tup i) (.tup j) s).wp P E = (i.length + j.length ≤ sizeLine ∧ P (.tup (i ++ j)) s) := by
  show (if _ then _ else _ : Rs D).wp P E = _
  rw [z_iteN, z_ok]
@[simp ↓] theorem z_addL {n m : Nat} : (dAdd (.ref n) (.ref m) s).wp P E = lstP (mlAt s n) fun xs => lstP (mlAt s m) fun ys => xs.length + ys.length ≤ sizeLine ∧ P (.ref s.length) (s ++ [.lst (xs ++ ys)]) := by
  unfold dAdd mlAt lstP
  dsimp only
  cases s[n]? with
  | none => rfl
  | some o =>
    cases o with
    | lst xs =>
      cases s[m]? with
      | none => rfl
      | some o2 =>
        cases o2 with
        | lst ys => exact z_iteN
        | _ => rfl
    | _ => rfl
@[simp ↓] theorem z_fIntI {j : Int} : (fInt [.int j] s).wp P E = P (.int j) s := nr rfl
@[simp ↓] theorem z_fAbs {j : Int} : (fAbs [.int j] s).wp P E = P (.int (if j < 0 then -j else j)) s := nr rfl
@[simp ↓] theorem z_fMax {i j : Int} : (fMax2 [.int i, .int j] s).wp P E = P (.int (if j > i then j else i)) s := nr rfl
@[simp ↓] theorem z_fMin {i j : Int} : (fMin2 [.int i, .int j] s).wp P E = P (.int (if j < i then j else i)) s := nr rfl
@[simp ↓] theorem z_lenS {x : Str} : (fLen [.str x] s).wp P E = (x.length ≤ sizeLine ∧ P (.int x.length) s) := by
  show (if _ then _ else _ : Rs D).wp P E = _
  rw [z_iteN, z_ok]
@[simp ↓] theorem z_lenT {xs : List D} : (fLen [.tup xs] s).wp P E = P (.int xs.length) s := nr rfl
@[simp ↓] theorem z_lenL {n : Nat} : (fLen [.ref n] s).wp P E = lstP (lstAt s n) fun xs => P (.int xs.length) s := by
  unfold fLen seqD lstP
  dsimp only
  cases lstAt s n <;> rfl
@[simp ↓] theorem z_tupT {xs : List D} : (fTuple [.tup xs] s).wp P E = P (.tup xs) s := nr rfl
@[simp ↓] theorem z_tupL {n : Nat} : (fTuple [.ref n] s).wp P E = lstP (lstAt s n) fun xs => P (.tup xs) s := by
  unfold fTuple seqD lstP
  dsimp only
  cases lstAt s n <;> rfl
@[simp ↓] theorem z_listT {xs : List D} : (fList [.tup xs] s).wp P E = (xs.length ≤ sizeLine ∧ P (.ref s.length) (s ++ [.lst xs])) := by
  show (if _ then _ else _ : Rs D).wp P E = _
  rw [z_iteN, z_ok]
@[simp ↓] theorem z_listL {n : Nat} : (fList [.ref n] s).wp P E = lstP (lstAt s n) fun xs => xs.length ≤ sizeLine ∧ P (.ref s.length) (s ++ [.lst xs]) := by
  unfold fList seqD lstP
  dsimp only
  cases lstAt s n with
  | none => rfl
  | some xs => exact z_iteN
def datP (o : Option D) (P : D → Prop) : Prop := match o with
  | some d => P d
  | none => False
@[simp ↓] theorem datP_some {P : D → Prop} : datP (some d) P = P d := nr rfl
@[simp ↓] theorem z_ixT {xs : List D} {j : Int} : (dIx (.tup xs) (.int j) s).wp P E = datP (atI xs j) fun d => P d s := by
  unfold dIx seqD datP
  dsimp only
  cases atI xs j <;> rfl
@[simp ↓] theorem z_ixL {n : Nat} {j : Int} : (dIx (.ref n) (.int j) s).wp P E = lstP (lstAt s n) fun xs => datP (atI xs j) fun d => P d s := by
  unfold dIx seqD datP lstP
  dsimp only
  cases lstAt s n with
  | none => rfl
  | some xs => dsimp only; cases atI xs j <;> rfl
@[simp ↓] theorem z_ixS {x : Str} {j : Int} : (dIx (.str x) (.int j) s).wp P E = (x.length ≤ sizeLine ∧ ∃ c, atI x.cps.toList j = some c ∧ P (.str ⟨#[c]⟩) s) := by
  unfold dIx
  dsimp only
  rw [z_iteN]
  cases atI x.cps.toList j <;> simp [Rs.wp]
@[simp ↓] theorem z_slS {x : Str} {lo hi : Option Int} : (dSl (.str x) lo hi s).wp P E = (x.length ≤ sizeLine ∧ P (.str (cutS x lo hi)) s) := by
  show (if _ then _ else _ : Rs D).wp P E = _
  rw [z_iteN, z_ok]
@[simp ↓] theorem z_slT {xs : List D} {lo hi : Option Int} : (dSl (.tup xs) lo hi s).wp P E = P (.tup (cutD xs lo hi)) s := nr rfl
@[simp ↓] theorem z_slL {n : Nat} {lo hi : Option Int} : (dSl (.ref n) lo hi s).wp P E = lstP (lstAt s n) fun xs => P (.ref s.length) (s ++ [.lst (cutD xs lo hi)]) := by
  unfold dSl lstP
  dsimp only
  cases lstAt s n <;> rfl
@[simp ↓] theorem z_append {n : Nat} : (mtL lAppend (.ref n) [d] s).wp P E = lstP (mlAt s n) fun xs => xs.length < sizeLine ∧ P .non (s.set n (.lst (xs ++ [d]))) := by
  unfold mtL lAppend mlAt lstP
  dsimp only
  cases s[n]? with
  | none => rfl
  | some o =>
    cases o with
    | lst xs =>
      dsimp only
      by_cases q : xs.length < sizeLine <;> simp [q, Rs.wp]
    | _ => rfl
@[simp ↓] theorem z_fmtS {x : Str} : (fFmt (.str x) s).wp P E = (x.length ≤ sizeLine ∧ P (.str x) s) := by
  show (if _ then _ else _ : Rs D).wp P E = _
  rw [z_iteN, z_ok]
@[simp ↓] theorem z_js0 {acc : Str} : (mJs [] acc e s).wp P E = P (.str acc) s := nr rfl
def strP (d : D) (P : Str → Prop) : Prop := match d with
  | .str x => P x
  | _ => False
@[simp ↓] theorem strP_str {x : Str} {P : Str → Prop} : strP (.str x) P = P x := nr rfl
@[simp ↓] theorem z_jsC {r : List (EM D)} {acc : Str} : (mJs (a :: r) acc e s).wp P E = (a e s).wp (fun d s1 => strP d fun y => (acc ++ y).length ≤ sizeLine ∧ (mJs r (acc ++ y) e s1).wp P E) E := by
  rw [mJs]
  unfold strP
  rw [z_bind]
  congr 1
  funext d s1
  cases d with
  | str y => dsimp only; rw [z_iteN]
  | _ => rfl
theorem z_join {x : Str} : (fJoin (.str x) [d] s).wp P E = ∃ xs ys, seqD s d = some xs ∧ xs.mapM strD = some ys ∧ (ys.map (·.length)).sum + ys.length * x.length ≤ 16777216 ∧ P (.str (Txt.join x ys)) s := by
  unfold fJoin
  dsimp only
  cases h : seqD s d with
  | none => simp [Rs.wp]
  | some xs =>
    simp only [Option.bind_some, Option.some.injEq, exists_and_left, exists_eq_left']
    cases h2 : xs.mapM strD with
    | none => simp [Rs.wp]
    | some ys => simp [z_iteN, z_ok]
@[simp ↓] theorem z_split {x y : Str} : (fSplit (.str x) [.str y] s).wp P E = (((y.length == 0) = false ∧ x.length + 2 ≤ sizeLine) ∧ P (.ref s.length) (s ++ [.lst ((Txt.split x y).map D.str)])) := by
  show (if _ then _ else _ : Rs D).wp P E = _
  rw [z_iteN, z_ok]
theorem z_isi {T : String} : (mIsi T a e s).wp P E = (a e s).wp (fun d s1 => ∃ n b, tyN s1 d = some n ∧ kitB n T = some b ∧ P (.bl b) s1) E := by
  unfold mIsi
  rw [z_bind]
  congr 1
  funext d s1
  cases h : tyN s1 d with
  | none => simp [Rs.wp]
  | some n =>
    simp only [Option.some.injEq, exists_and_left, exists_eq_left']
    cases h2 : kitB n T <;> simp [Rs.wp]
theorem z_all {n : Nat} {q : Bool} : (fAllAny q [.ref n] s).wp P E = ∃ xs bs, lstAt s n = some xs ∧ xs.mapM blD = some bs ∧ P (.bl (if q then bs.all id else bs.any id)) s := by
  unfold fAllAny
  dsimp only
  cases h : lstAt s n with
  | none => simp [Rs.wp]
  | some xs =>
    simp only [Option.bind_some, Option.some.injEq, exists_and_left, exists_eq_left']
    cases h2 : xs.mapM blD <;> simp [Rs.wp]
def isNon : D → Bool
  | .non => true
  | _ => false
@[simp ↓] theorem z_isN : (dIsN2 x .non s).wp P E = P (.bl (isNon x)) s := by
  unfold dIsN2 dIsN isNon
  cases x <;> rfl
@[simp ↓] theorem z_notN : (dNotN2 x .non s).wp P E = P (.bl (!isNon x)) s := by
  unfold dNotN2 dIsN isNon
  cases x <;> rfl
@[simp ↓] theorem z_eqS {a b : Str} : (dEq (.str a) (.str b) s).wp P E = P (.bl (decide (a = b))) s := by
  show (Rs.ok (D.bl (false ^^ decide (a = b))) s).wp P E = _
  rw [Bool.false_xor, z_ok]
@[simp ↓] theorem z_neS {a b : Str} : (dNe (.str a) (.str b) s).wp P E = P (.bl (!decide (a = b))) s := by
  show (Rs.ok (D.bl (true ^^ decide (a = b))) s).wp P E = _
  rw [Bool.true_xor, z_ok]
theorem shp_str {a : Str} {p : PyData} (h : shp s (.str a) = some p) : p = .str a := by
  unfold shp at h
  rw [pyd] at h
  dsimp only at h
  split at h
  · cases h; rfl
  · cases h
theorem z_eqG {neg : Bool} {p q : PyData} (h1 : shp s x = some p) (h2 : shp s y = some q) : (dEqB neg x y s).wp P E = P (.bl (neg ^^ PyData.eqv p q)) s := by
  unfold dEqB
  split
  · rename_i a b
    rw [shp_str h1, shp_str h2, z_ok, PyData.eqv]
    rfl
  · rw [h1, h2, z_ok]
theorem z_eq {p q : PyData} (h1 : shp s x = some p) (h2 : shp s y = some q) : (dEq x y s).wp P E = P (.bl (PyData.eqv p q)) s := by
  unfold dEq
  rw [z_eqG h1 h2, Bool.false_xor]
theorem z_ne {p q : PyData} (h1 : shp s x = some p) (h2 : shp s y = some q) : (dNe x y s).wp P E = P (.bl (!PyData.eqv p q)) s := by
  unfold dNe
  rw [z_eqG h1 h2, Bool.true_xor]
@[simp ↓] theorem z_mulL {n : Nat} {j : Int} : (dMul2 (.ref n) (.int j) s).wp P E = lstP (mlAt s n) fun xs => ((-(2 ^ 63) ≤ j ∧ j < 2 ^ 63) ∧ xs.length * j.toNat ≤ sizeLine) ∧ P (.ref s.length) (s ++ [.lst (List.replicate j.toNat xs).flatten]) := by
  unfold dMul2 mlAt lstP
  dsimp only
  cases s[n]? with
  | none => rfl
  | some o =>
    cases o with
    | lst xs => exact z_iteN
    | _ => rfl
@[simp ↓] theorem z_mNk {n m : Nat} {mk : EM (List D)} : (mNk n m fN ms mk e s).wp P E = (ms e s).wp (fun xs s1 => (mk e s1).wp (fun ys s2 => (xs.length = n ∧ ys.length = m) ∧ (fN (xs ++ ys) s2).wp P E) E) E := by
  unfold mNk
  simp only [z_bind, z_iteN]
end
end Z

set_option Elab.async false
set_option linter.all false
set_option maxRecDepth 100000
set_option maxHeartbeats 4000000
namespace Z
open PySem PySem.Spec PyProof.Rows L2
/-! ### places -/
section
variable {s t : Sto} {k n : Nat} {xs ys : List D} {o : SO} {x y z : D}
theorem lstAt_some (h : s[k]? = some (.lst xs)) : lstAt s k = some xs := by unfold lstAt; rw [h]
theorem lstAt_frz (h : s[k]? = some (.frz xs)) : lstAt s k = some xs := by unfold lstAt; rw [h]
theorem mlAt_some (h : s[k]? = some (.lst xs)) : mlAt s k = some xs := by unfold mlAt; rw [h]
theorem lstAt_ml (h : mlAt s k = some xs) : lstAt s k = some xs := by
  unfold mlAt at h
  split at h
  · rename_i ys e
    cases h
    exact lstAt_some e
  · cases h
theorem mlAt_get (h : mlAt s k = some xs) : s[k]? = some (.lst xs) := by
  unfold mlAt at h
  split at h
  · rename_i ys e
    cases h
    exact e
  · cases h
theorem isTy_ml (h : mlAt s k = some xs) : isTy "list" s (.ref k) = true := by
  unfold isTy
  dsimp only
  rw [mlAt_get h]
  exact beq_self_eq_true _
@[simp] theorem mlAt_set_self (h : k < s.length) : mlAt (s.set k (.lst xs)) k = some xs := mlAt_some (List.getElem?_set_self h)
@[simp] theorem mlAt_set_ne (h : k ≠ n) : mlAt (s.set k o) n = mlAt s n := by unfold mlAt; rw [List.getElem?_set_ne h]
@[simp] theorem mlAt_push : mlAt (s ++ [.lst xs]) s.length = some xs := mlAt_some (by simp)
@[simp] theorem mlAt_app (h : n < s.length) : mlAt (s ++ t) n = mlAt s n := by unfold mlAt; rw [List.getElem?_append_left h]
@[simp] theorem lstAt_set_self (h : k < s.length) : lstAt (s.set k (.lst xs)) k = some xs := lstAt_some (List.getElem?_set_self h)
@[simp] theorem lstAt_set_ne (h : k ≠ n) : lstAt (s.set k o) n = lstAt s n := by unfold lstAt; rw [List.getElem?_set_ne h]
@[simp] theorem lstAt_push : lstAt (s ++ [.lst xs]) s.length = some xs := lstAt_some (by simp)
@[simp] theorem lstAt_app (h : n < s.length) : lstAt (s ++ t) n = lstAt s n := by unfold lstAt; rw [List.getElem?_append_left h]
theorem atI_of {α : Type} {xs : List α} {i : Nat} {a : α} (h : xs[i]? = some a) : atI xs (i : Int) = some a := by
  have hl : i < xs.length := (List.getElem?_eq_some_iff.mp h).1
  unfold atI ixN
  rw [if_pos (by omega), if_pos (by omega)]
  exact h
@[simp] theorem atI_0 {α : Type} {x : α} {xs : List α} : atI (x :: xs) 0 = some x := atI_of (i := 0) rfl
@[simp] theorem atI_1 {α : Type} {x y : α} {xs : List α} : atI (x :: y :: xs) 1 = some y := atI_of (i := 1) rfl
@[simp] theorem atI_2 {α : Type} {x y z : α} {xs : List α} : atI (x :: y :: z :: xs) 2 = some z := atI_of (i := 2) rfl
@[simp] theorem atI_3 {α : Type} {x y z w : α} {xs : List α} : atI (x :: y :: z :: w :: xs) 3 = some w := atI_of (i := 3) rfl
theorem atI_nat {α : Type} {xs : List α} {i : Int} (h0 : 0 ≤ i) (h1 : i < xs.length) : ∃ (a : α) (j : Nat), i = j ∧ xs[j]? = some a ∧ atI xs i = some a ∧ a ∈ xs := by
  obtain ⟨j, rfl⟩ := Int.eq_ofNat_of_zero_le h0
  have hj : j < xs.length := by omega
  refine ⟨xs[j], j, rfl, List.getElem?_eq_getElem hj, ?_, List.getElem_mem hj⟩
  unfold atI ixN
  rw [if_pos (by omega), if_pos (by omega)]
  simp [hj]
@[simp] theorem ixN_0 {n : Nat} : (ixN (n + 1) 0) = some 0 := by
  unfold ixN
  rw [if_pos (by omega), if_pos (by omega)]
  rfl
@[simp] theorem ixN_1 {n : Nat} : (ixN (n + 1 + 1) 1) = some 1 := by
  unfold ixN
  rw [if_pos (by omega), if_pos (by omega)]
  rfl
@[simp] theorem ixN_20 : (ixN 2 0) = some 0 := rfl
@[simp] theorem ixN_21 : (ixN 2 1) = some 1 := rfl
theorem mod_lt {i n : Int} (h : 0 < n) : 0 ≤ i % n ∧ i % n < n := ⟨Int.emod_nonneg _ (by omega), Int.emod_lt_of_pos _ h⟩
theorem Eff.bagset {a b : Int} (h : k < s.length) : Eff [k] s (s.set k (.lst [.int a, .int b])) :=
  ⟨by simp, fun i hi hk => by rw [List.getElem?_set_ne (by simp at hk; omega)], fun j hj _ => by
    obtain rfl : j = k := by simpa using hj
    exact ⟨a, b, List.getElem?_set_self h⟩⟩
theorem Bag.ml {s : Sto} {k : Nat} (h : Bag s k) : ∃ a b : Int, mlAt s k = some [.int a, .int b] ∧ lstAt s k = some [.int a, .int b] ∧ k < s.length := by
  obtain ⟨a, b, e, h1⟩ := h.lst
  exact ⟨a, b, mlAt_some e, h1, lstAt_lt h1⟩
theorem Eff.ml {ks : List Nat} {s t : Sto} (h : Eff ks s t) {i : Nat} {xs : List D} (e : mlAt s i = some xs) (hi : i ∉ ks) : mlAt t i = some xs := mlAt_some (h.get (mlAt_get e) hi)
end
end Z

set_option Elab.async false
set_option linter.all false
set_option maxRecDepth 100000
set_option maxHeartbeats 4000000
namespace Z
open PySem PySem.Spec PyProof.Rows L2
/-! ### what is walked -/
/-- the walk j gives the items xs, as long as only ks are changed -/
def ItOk (ks : List Nat) (s0 : Sto) (j : Stp) (N : Nat) (xs : List D) : Prop := N = xs.length ∧ ∀ i s, Eff ks s0 s → j i s = some xs[i]?
section
variable {ks : List Nat} {s0 s t : Sto} {n m : Nat} {xs ys : List D}
def rngD (lo : Int) (n : Nat) : List D := (List.range n).map fun i => .int (lo + (i : Nat))
def strDs (x : Str) : List D := x.cps.toList.map fun c => .str ⟨#[c]⟩
def enD (xs : List D) : List D := xs.mapIdx fun i d => .tup [.int i, d]
theorem it_rng {lo : Int} : ItOk ks s0 (jRng lo n) n (rngD lo n) := ⟨by simp [rngD], fun i s _ => by
  unfold jRng rngD
  by_cases h : i < n
  · simp [h]
  · simp [h]⟩
theorem it_tup {N : Nat} (e : N = xs.length := by simp) : ItOk ks s0 (jTup xs) N xs := ⟨e, fun i s _ => rfl⟩
theorem it_lst {N : Nat} (h : lstAt s0 n = some xs) (hn : n ∉ ks) (e : N = xs.length := by simp) : ItOk ks s0 (jLst n) N xs := ⟨e, fun i s e => by rw [jLst_eq, e.lst h hn]; rfl⟩
theorem it_en {N : Nat} (h : lstAt s0 n = some xs) (hn : n ∉ ks) (e : N = xs.length := by simp) : ItOk ks s0 (jEn n) N (enD xs) := ⟨by simp [enD, e], fun i s e => by
  unfold jEn enD
  rw [e.lst h hn]
  simp⟩
theorem it_str {x : Str} : ItOk ks s0 (jStr x) x.cps.size (strDs x) := ⟨by simp [strDs], fun i s _ => by
  unfold jStr strDs
  simp⟩
theorem it_zip (h : lstAt s0 n = some xs) (h2 : lstAt s0 m = some ys) (hn : n ∉ ks) (hm : m ∉ ks) (hl : xs.length = ys.length) : ItOk ks s0 (jZip n m) xs.length ((xs.zip ys).map fun p => .tup [p.1, p.2]) := ⟨by simp [hl], fun i s e => by
  unfold jZip
  rw [e.lst h hn, e.lst h2 hm, List.getElem?_map]
  dsimp only
  by_cases hi : i < xs.length
  · have hi2 : i < ys.length := by omega
    have hz : (xs.zip ys)[i]? = some (xs[i], ys[i]) := by simp [List.getElem?_zip_eq_some, hi, hi2]
    rw [hz, List.getElem?_eq_getElem hi, List.getElem?_eq_getElem hi2]
    rfl
  · have hz : (xs.zip ys)[i]? = none := List.getElem?_eq_none (by rw [List.length_zip]; omega)
    rw [hz, List.getElem?_eq_none (l := xs) (by omega)]
    rfl⟩
theorem ItOk.later {j : Stp} {N : Nat} (h : ItOk ks s j N xs) (e : Eff ks s t) : ItOk ks t j N xs := ⟨h.1, fun i u f => h.2 i u (e.trans f)⟩
/-! ### comprehensions -/
variable {j : Stp} {g : GN} {tt : EM Bool} {mm : EM D} {N : Nat} {e : Ev}
theorem lc_gen (it : ItOk ks s0 j N xs) (hb : ∀ k ∈ ks, Bag s0 k) (hl : xs.length < sizeLine) (R : Nat → D → Option D → Sto → Prop)
    (st : ∀ i d o s t, R i d o s → s.length ≤ t.length → (∀ n, n < s.length → s0.length < n → t[n]? = s[n]?) → R i d o t)
    (body : ∀ i d s, xs[i]? = some d → Eff ks s0 s → (∀ k ∈ ks, Bag s k) → s0.length < s.length → ∃ e1, g d e = some e1 ∧ (tt e1 s).wp fun q s1 => Eff ks s s1 ∧ if q then (mm e1 s1).wp fun y s2 => Eff ks s1 s2 ∧ R i d (some y) s2 else R i d none s1) :
    (lcL j g tt mm s0.length N 0 e (s0 ++ [.lst []])).wp fun d s' => d = .ref s0.length ∧ Eff ks s0 s' ∧ s0.length < s'.length ∧ ∃ zs : List (Option D), zs.length = xs.length ∧ mlAt s' s0.length = some (zs.filterMap id) ∧ ∀ i d o, xs[i]? = some d → zs[i]? = some o → R i d o s' := by
  have lks : s0.length ∉ ks := fun h => Nat.lt_irrefl _ (hb _ h).lt
  refine wp_ne (lcL_wp (N := N) (fun i acc s => Eff ks s0 s ∧ s0.length < s.length ∧ ∃ zs : List (Option D), zs.length = i ∧ acc = zs.filterMap id ∧ ∀ i d o, xs[i]? = some d → zs[i]? = some o → R i d o s) ?_ N 0 [] _ (by simp) ⟨Eff.push, by simp, [], rfl, rfl, by simp⟩ (by simp)) ?_
  · rintro i acc s hi ⟨ef, hlt, zs, hz, rfl, hR⟩ hs
    refine ⟨fun h => ?_, fun h => ?_⟩
    · rw [it.2 i s ef, List.getElem?_eq_none (by rw [← it.1]; omega)]
    · have hi2 : i < xs.length := by rw [← it.1]; exact h
      obtain ⟨e1, h1, h2⟩ := body i xs[i] s (List.getElem?_eq_getElem hi2) ef (fun k hk => ef.bag k hk (hb k hk)) hlt
      refine ⟨xs[i], e1, by rw [it.2 i s ef, List.getElem?_eq_getElem hi2], h1, wp_ne h2 fun q s1 ⟨ef1, h3⟩ => ?_⟩
      have hs1 : s1[s0.length]? = some (SO.lst (zs.filterMap id)) := ef1.get hs lks
      have Rm : ∀ {s2 : Sto}, s.length ≤ s2.length → (∀ n, n < s.length → s0.length < n → s2[n]? = s[n]?) → ∀ o', R i xs[i] o' s2 → ∀ i' d o, xs[i']? = some d → (zs ++ [o'])[i']? = some o → R i' d o s2 := by
        intro s2 hle heq o' hR' i' d o hx ho
        by_cases hi' : i' < zs.length
        · rw [List.getElem?_append_left hi'] at ho
          exact st _ _ _ _ _ (hR i' d o hx ho) hle heq
        · have : i' = i := by
            have := (List.getElem?_eq_some_iff.mp ho).1
            simp at this
            omega
          subst this
          rw [List.getElem?_append_right (by omega), hz, Nat.sub_self] at ho
          cases ho
          rw [List.getElem?_eq_getElem hi2] at hx
          cases hx
          exact hR'
      have fl : (zs.filterMap id).length ≤ zs.length := List.length_filterMap_le _ _
      cases q with
      | true =>
        rw [if_pos rfl] at h3 ⊢
        refine wp_ne h3 fun y s2 ⟨ef2, h4⟩ => ?_
        have hs2 := ef2.get hs1 lks
        refine ⟨hs2, by omega, ((ef.trans ef1).trans ef2).set (Nat.le_refl _), by rw [List.length_set]; have := ef1.le; have := ef2.le; omega, zs ++ [some y], by simp [hz], by simp, ?_⟩
        refine Rm (by rw [List.length_set]; exact Nat.le_trans ef1.le ef2.le) (fun n hn hn2 => ?_) (some y) (st _ _ _ _ _ h4 (by simp) fun n hn hn2 => by rw [List.getElem?_set_ne (by omega)])
        rw [List.getElem?_set_ne (by omega)]
        have nk : n ∉ ks := fun hk => by have := (hb n hk).lt; omega
        rw [ef2.eq n (Nat.lt_of_lt_of_le hn ef1.le) nk, ef1.eq n hn nk]
      | false =>
        simp only [Bool.false_eq_true, ↓reduceIte] at h3 ⊢
        refine ⟨hs1, ef.trans ef1, Nat.lt_of_lt_of_le hlt ef1.le, zs ++ [none], by simp [hz], by simp, ?_⟩
        exact Rm ef1.le (fun n hn hn2 => ef1.eq n hn fun hk => by have := (hb n hk).lt; omega) none h3
  · rintro d s' ⟨rfl, ys, h1, ef, hlt, zs, hz, rfl, hR⟩
    exact ⟨rfl, ef, hlt, zs, by rw [hz]; exact it.1, mlAt_some h1, hR⟩
/-- every item gives a value that keeps R -/
theorem lc_all (it : ItOk ks s0 j N xs) (hb : ∀ k ∈ ks, Bag s0 k) (hl : xs.length < sizeLine) (R : Nat → D → D → Prop)
    (body : ∀ i d s, xs[i]? = some d → Eff ks s0 s → (∀ k ∈ ks, Bag s k) → ∃ e1, g d e = some e1 ∧ (mm e1 s).wp fun y s2 => Eff ks s s2 ∧ R i d y) :
    (lcL j g tY mm s0.length N 0 e (s0 ++ [.lst []])).wp fun d s' => d = .ref s0.length ∧ Eff ks s0 s' ∧ s0.length < s'.length ∧ ∃ ys : List D, ys.length = xs.length ∧ mlAt s' s0.length = some ys ∧ ∀ i d y, xs[i]? = some d → ys[i]? = some y → R i d y := by
  refine wp_ne (lc_gen it hb hl (fun i d o _ => ∃ y, o = some y ∧ R i d y) (fun _ _ _ _ _ h _ _ => h) fun i d s hx ef hbs _ => ?_) ?_
  · obtain ⟨e1, h1, h2⟩ := body i d s hx ef hbs
    refine ⟨e1, h1, ?_⟩
    rw [z_tY, if_pos rfl]
    exact ⟨Eff.refl, wp_ne h2 fun y s2 ⟨h3, h4⟩ => ⟨h3, y, rfl, h4⟩⟩
  · rintro d s' ⟨rfl, ef, hlt, zs, hz, hm, hR⟩
    refine ⟨rfl, ef, hlt, _, ?_, hm, ?_⟩
    · have : ∀ (zs : List (Option D)), (∀ o ∈ zs, ∃ y, o = some y) → (zs.filterMap id).length = zs.length := by
        intro zs
        induction zs with
        | nil => intro _; rfl
        | cons z zs ih =>
          intro h
          obtain ⟨y, rfl⟩ := h z (by simp)
          simp [ih fun o ho => h o (by simp [ho])]
      rw [← hz]
      refine this zs fun o ho => ?_
      obtain ⟨i, hi, rfl⟩ := List.getElem_of_mem ho
      obtain ⟨y, h, _⟩ := hR i (xs[i]'(by omega)) _ (List.getElem?_eq_getElem (by omega)) (List.getElem?_eq_getElem hi)
      exact ⟨y, h⟩
    · have : ∀ (zs : List (Option D)), (∀ o ∈ zs, ∃ y, o = some y) → ∀ (i : Nat) (y : D), (zs.filterMap id)[i]? = some y → zs[i]? = some (some y) := by
        intro zs
        induction zs with
        | nil => intro _ i y h; simp at h
        | cons z zs ih =>
          intro h i y hy
          obtain ⟨y', rfl⟩ := h z (by simp)
          cases i with
          | zero => simpa using hy
          | succ i => simpa using ih (fun o ho => h o (by simp [ho])) i y (by simpa using hy)
      intro i d y hx hy
      have h5 := this zs (fun o ho => by
        obtain ⟨i, hi, rfl⟩ := List.getElem_of_mem ho
        obtain ⟨y, h, _⟩ := hR i (xs[i]'(by omega)) _ (List.getElem?_eq_getElem (by omega)) (List.getElem?_eq_getElem hi)
        exact ⟨y, h⟩) i y hy
      obtain ⟨y', h, h6⟩ := hR i d _ hx h5
      cases h
      exact h6
/-- a pure map -/
theorem lc_map (f : D → D) (it : ItOk ks s0 j N xs) (hb : ∀ k ∈ ks, Bag s0 k) (hl : xs.length < sizeLine)
    (body : ∀ d s, d ∈ xs → Eff ks s0 s → (∀ k ∈ ks, Bag s k) → ∃ e1, g d e = some e1 ∧ (mm e1 s).wp fun y s2 => Eff ks s s2 ∧ y = f d) :
    (lcL j g tY mm s0.length N 0 e (s0 ++ [.lst []])).wp fun d s' => d = .ref s0.length ∧ Eff ks s0 s' ∧ s0.length < s'.length ∧ mlAt s' s0.length = some (xs.map f) := by
  refine wp_ne (lc_all it hb hl (fun i d y => y = f d) fun i d s hx ef hbs => body d s (List.mem_of_getElem? hx) ef hbs) ?_
  rintro d s' ⟨rfl, ef, hlt, ys, h1, h2, h3⟩
  refine ⟨rfl, ef, hlt, ?_⟩
  rw [h2]
  congr 1
  refine List.ext_getElem (by simp [h1]) fun i hi hi2 => ?_
  rw [List.getElem_map]
  exact h3 i _ _ (List.getElem?_eq_getElem (by omega)) (List.getElem?_eq_getElem hi)
/-- a pure filter and map -/
theorem lc_filt (f : D → D) (p : D → Bool) (it : ItOk ks s0 j N xs) (hb : ∀ k ∈ ks, Bag s0 k) (hl : xs.length < sizeLine)
    (body : ∀ d s, d ∈ xs → Eff ks s0 s → (∀ k ∈ ks, Bag s k) → ∃ e1, g d e = some e1 ∧ (tt e1 s).wp fun q s1 => Eff ks s s1 ∧ q = p d ∧ (q = true → (mm e1 s1).wp fun y s2 => Eff ks s1 s2 ∧ y = f d)) :
    (lcL j g tt mm s0.length N 0 e (s0 ++ [.lst []])).wp fun d s' => d = .ref s0.length ∧ Eff ks s0 s' ∧ s0.length < s'.length ∧ mlAt s' s0.length = some ((xs.filter p).map f) := by
  refine wp_ne (lc_gen it hb hl (fun i d o _ => o = if p d then some (f d) else none) (fun _ _ _ _ _ h _ _ => h) fun i d s hx ef hbs _ => ?_) ?_
  · obtain ⟨e1, h1, h2⟩ := body d s (List.mem_of_getElem? hx) ef hbs
    refine ⟨e1, h1, wp_ne h2 fun q s1 ⟨h3, h4, h5⟩ => ⟨h3, ?_⟩⟩
    subst h4
    cases hp : p d with
    | true =>
      rw [if_pos rfl]
      exact wp_ne (h5 hp) fun y s2 ⟨h6, h7⟩ => ⟨h6, by rw [h7, if_pos rfl]⟩
    | false => simp
  · rintro d s' ⟨rfl, ef, hlt, zs, hz, hm, hR⟩
    refine ⟨rfl, ef, hlt, ?_⟩
    rw [hm]
    congr 1
    have : zs = xs.map fun d => if p d then some (f d) else none := by
      refine List.ext_getElem (by simp [hz]) fun i hi hi2 => ?_
      rw [List.getElem_map]
      exact hR i _ _ (List.getElem?_eq_getElem (by omega)) (List.getElem?_eq_getElem hi)
    rw [this, List.filterMap_map]
    have : ∀ xs : List D, List.filterMap (id ∘ fun d => if p d = true then some (f d) else none) xs = (xs.filter p).map f := by
      intro xs
      induction xs with
      | nil => rfl
      | cons x xs ih =>
        cases hp : p x <;> simp [hp] <;> simpa using ih
    exact this xs
/-- lc_map, lc_filt, lc_all over a store told apart -/
theorem lc_map2 (s0 : Sto) {l : Nat} {t : Sto} (f : D → D) (hs : l = s0.length) (ht : t = s0 ++ [SO.lst []]) (it : ItOk ks s0 j N xs) (hb : ∀ k ∈ ks, Bag s0 k) (hl : xs.length < sizeLine)
    (body : ∀ d s, d ∈ xs → Eff ks s0 s → (∀ k ∈ ks, Bag s k) → ∃ e1, g d e = some e1 ∧ (mm e1 s).wp fun y s2 => Eff ks s s2 ∧ y = f d) :
    (lcL j g tY mm l N 0 e t).wp fun d s' => d = .ref s0.length ∧ Eff ks s0 s' ∧ s0.length < s'.length ∧ mlAt s' s0.length = some (xs.map f) := by
  subst hs ht
  exact lc_map f it hb hl body
theorem lc_filt2 (s0 : Sto) {l : Nat} {t : Sto} (f : D → D) (p : D → Bool) (hs : l = s0.length) (ht : t = s0 ++ [SO.lst []]) (it : ItOk ks s0 j N xs) (hb : ∀ k ∈ ks, Bag s0 k) (hl : xs.length < sizeLine)
    (body : ∀ d s, d ∈ xs → Eff ks s0 s → (∀ k ∈ ks, Bag s k) → ∃ e1, g d e = some e1 ∧ (tt e1 s).wp fun q s1 => Eff ks s s1 ∧ q = p d ∧ (q = true → (mm e1 s1).wp fun y s2 => Eff ks s1 s2 ∧ y = f d)) :
    (lcL j g tt mm l N 0 e t).wp fun d s' => d = .ref s0.length ∧ Eff ks s0 s' ∧ s0.length < s'.length ∧ mlAt s' s0.length = some ((xs.filter p).map f) := by
  subst hs ht
  exact lc_filt f p it hb hl body
theorem lc_all2 (s0 : Sto) {l : Nat} {t : Sto} (hs : l = s0.length) (ht : t = s0 ++ [SO.lst []]) (it : ItOk ks s0 j N xs) (hb : ∀ k ∈ ks, Bag s0 k) (hl : xs.length < sizeLine) (R : Nat → D → D → Prop)
    (body : ∀ i d s, xs[i]? = some d → Eff ks s0 s → (∀ k ∈ ks, Bag s k) → ∃ e1, g d e = some e1 ∧ (mm e1 s).wp fun y s2 => Eff ks s s2 ∧ R i d y) :
    (lcL j g tY mm l N 0 e t).wp fun d s' => d = .ref s0.length ∧ Eff ks s0 s' ∧ s0.length < s'.length ∧ ∃ ys : List D, ys.length = xs.length ∧ mlAt s' s0.length = some ys ∧ ∀ i d y, xs[i]? = some d → ys[i]? = some y → R i d y := by
  subst hs ht
  exact lc_all it hb hl R body
end
end Z

set_option Elab.async false
set_option linter.all false
set_option maxRecDepth 100000
set_option maxHeartbeats 4000000
namespace Z
open PySem PySem.Spec PyProof.Rows L2
/-! ### draws: bag, take, of -/
def bagG (c0 c1 z : Int) (upd : EM D) (M p : Int) : SM :=
  sC (sA 2 (mIf (toB (m2 dLt (mV 1) (mN fLen (aC (mV 0) aN)))) (m2 dIx (mV 0) (mV 1)) (mC (.int 0))))
  (sC (sA 3 (m2 dAdd (m2 dMul2 (mC (.int c0)) (mV 1)) (mC (.int c1))))
  (sC (sF (iEn (aC (mSl dSl (mV 0) oN (oS (mC (.int z)))) aN)) (gT [gN 4, gN 5]) (sA 3 (m2 dMod (mN fInt (aC upd aN)) (mC (.int M)))))
  (sR (mN fLst (aC (mIf (toB (m2 dGe (mN fAbs (aC (mV 2) aN)) (m2 dPow (mC (.int 10)) (mC (.int p))))) (mN fAbs (aC (mV 2) aN)) (mC (.int 0))) (aC (mV 3) aN))))))
def updA (a b c : Int) : EM D := m2 dAdd (m2 dAdd (m2 dMul2 (mV 3) (mC (.int a))) (m2 dMod (mN fInt (aC (mV 5) aN)) (mC (.int b)))) (m2 dMul2 (mC (.int c)) (mV 4))
def updB (a b c d : Int) : EM D := m2 dAdd (updA a b c) (mC (.int d))
def smallI (i : Int) : Prop := -(2 ^ 64) < i ∧ i < 2 ^ 64
instance (i : Int) : Decidable (smallI i) := by unfold smallI; infer_instance
theorem two_le_line : 2 ≤ sizeLine := by decide
theorem bag_gen {c0 c1 z M p : Int} {upd : EM D} (h0 : smallI c0) (hM : 0 < M) (hp : cPow 10 p)
    (hu : ∀ (o0 o1 o2 : Option D) (m k j : Int) (s : Sto), (upd [o0, o1, o2, some (.int m), some (.int k), some (.int j)] s).wp fun d s' => s' = s ∧ ∃ i, d = .int i)
    {s : Sto} {n : Nat} {ns : List Int} {a : Nat} (hx : lstAt s n = some (ns.map D.int)) : (fnM 2 6 (bagG c0 c1 z upd M p) [.ref n, .int a] s).wp fun d s' => ∃ k, d = .ref k ∧ s.length ≤ k ∧ Bag s' k ∧ Eff [] s s' := by
  unfold bagG
  rw [z_fnM (by rfl)]
  have hn : n < s.length := lstAt_lt hx
  have hc : ∀ d, d ∈ cutD (ns.map D.int) none (some z) → ∃ i, d = .int i := fun d hd => by
    have := List.mem_of_mem_drop (List.mem_of_mem_take hd)
    obtain ⟨i, -, rfl⟩ := List.mem_map.mp this
    exact ⟨i, rfl⟩
  have first : ∀ Q : En, (∀ A : Int, Q.nx [some (.ref n), some (.int a), some (.int A), none, none, none] s) → (sA 2 (mIf (toB (m2 dLt (mV 1) (mN fLen (aC (mV 0) aN)))) (m2 dIx (mV 0) (mV 1)) (mC (.int 0))) [some (.ref n), some (.int a), none, none, none, none] s).wp Q := by
    intro Q hQ
    simp [hx]
    split
    · rename_i h
      obtain ⟨i, e⟩ : ∃ i, atI (ns.map D.int) (a : Int) = some (.int i) := ⟨_, atI_of (by rw [List.getElem?_map, List.getElem?_eq_getElem h]; rfl)⟩
      rw [e]
      exact hQ _
    · exact hQ _
  rw [z_sC]
  refine first _ fun A => ?_
  have loop : ∀ (j0 : Stp) (Q : En) (m : Int) (s1 : Sto), lstAt s1 s.length = some (cutD (ns.map D.int) none (some z)) → (∀ m o4 o5, Q.nx [some (.ref n), some (.int a), some (.int A), some (.int m), o4, o5] s1) →
      (forL (jEn s.length) (gT [gN 4, gN 5]) (sA 3 (m2 dMod (mN fInt (aC upd aN)) (mC (.int M)))) (cutD (ns.map D.int) none (some z)).length 0 [some (.ref n), some (.int a), some (.int A), some (.int m), none, none] s1).wp Q := by
    intro j0 Q m s1 hs1 hQ
    refine forL_wp (fun i e s2 => s2 = s1 ∧ ∃ m o4 o5, e = [some (.ref n), some (.int a), some (.int A), some (.int m), o4, o5]) ?_ _ 0 _ _ (Nat.zero_add _) ⟨rfl, m, none, none, rfl⟩
    rintro i e s2 hi ⟨rfl, m, o4, o5, rfl⟩
    refine ⟨fun h => ⟨by subst h; simp [jEn, hs1], hQ m o4 o5⟩, fun h => ?_⟩
    obtain ⟨j, hj⟩ := hc _ (List.getElem_mem h)
    refine ⟨.tup [.int i, .int j], _, by simp [jEn, hs1, h, hj], rfl, ?_⟩
    have := hu (some (.ref n)) (some (.int a)) (some (.int A)) m i j s2
    simp
    refine wp_ne this fun d s3 ⟨e1, i2, e2⟩ => ?_
    subst e1 e2
    simp [hM]
  simp [hx, cMul]
  refine ⟨.inl h0, loop (fun _ _ => none) _ _ _ (by simp) fun m o4 o5 => ?_⟩
  have fin : ∀ B : Int, 2 ≤ sizeLine ∧ s.length ≤ s.length + 1 ∧ Bag (s ++ [SO.lst (cutD (List.map D.int ns) none (some z)), SO.lst [D.int B, D.int m]]) (s.length + 1) ∧ Eff [] s (s ++ [SO.lst (cutD (List.map D.int ns) none (some z)), SO.lst [D.int B, D.int m]]) := fun B =>
    ⟨two_le_line, by omega, ⟨B, m, by rw [List.getElem?_append_right (by omega)]; simp⟩, by
      have := (Eff.push (ks := []) (s := s) (o := SO.lst (cutD (List.map D.int ns) none (some z)))).trans (Eff.push (o := SO.lst [D.int B, D.int m]))
      simpa using this⟩
  have f1 := fun B => (fin B).1
  have f3 := fun B => (fin B).2.2
  simp [hp]
  split <;> (try split) <;> first | exact ⟨two_le_line, f3 _⟩ | exact f3 _
theorem updA_ok {a b c : Int} (ha : smallI a) (hb : 0 < b) (hc : smallI c) (o0 o1 o2 : Option D) (m k j : Int) (s : Sto) : (updA a b c [o0, o1, o2, some (.int m), some (.int k), some (.int j)] s).wp fun d s' => s' = s ∧ ∃ i, d = .int i := by
  unfold updA
  simp [cMul, hb]
  exact ⟨.inr ha, .inl hc⟩
theorem updB_ok {a b c d : Int} (ha : smallI a) (hb : 0 < b) (hc : smallI c) (o0 o1 o2 : Option D) (m k j : Int) (s : Sto) : (updB a b c d [o0, o1, o2, some (.int m), some (.int k), some (.int j)] s).wp fun d s' => s' = s ∧ ∃ i, d = .int i := by
  unfold updB updA
  simp [cMul, hb]
  exact ⟨.inr ha, .inl hc⟩
/-- a draw: a whole number below n -/
def TakeOk (F : List D → Sto → Rs D) : Prop := ∀ {s : Sto} {k : Nat} {n : Int}, Bag s k → 0 < n → n < 1073741824 → (F [.ref k, .int n] s).wp fun d s' => ∃ i : Nat, d = .int i ∧ (i : Int) < n ∧ Eff [k] s s'
def takeG (c1 c2 M d1 c3 M2 d2 : Int) : SM := (sC (sI (toB (m2 dGt (m2 dIx (mV 0) (mC (.int 0))) (mC (.int 0)))) (sC (sA 2 (m2 dMod (mN fInt (aC (m2 dIx (mV 0) (mC (.int 0))) aN)) (mV 1))) (sC (sX xSetL (mV 0) (mC (.int 0)) (m2 dDiv (m2 dIx (mV 0) (mC (.int 0))) (mV 1))) (sR (mV 2)))) sN) (sC (sX xSetL (mV 0) (mC (.int 1)) (m2 dMod (mN fInt (aC (m2 dAdd (m2 dMul2 (m2 dIx (mV 0) (mC (.int 1))) (mC (.int c1))) (mC (.int c2))) aN)) (mC (.int M)))) (sR (m2 dMod (m2 dDiv (m2 dMod (mN fInt (aC (m2 dMul2 (m2 dDiv (m2 dIx (mV 0) (mC (.int 1))) (mC (.int d1))) (mC (.int c3))) aN)) (mC (.int M2))) (mC (.int d2))) (mV 1)))))
theorem take_gen {c1 c2 M d1 c3 M2 d2 : Int} (h1 : smallI c1) (h2 : smallI c3) (hM : 0 < M) (hM2 : 0 < M2) (hd1 : 0 < d1 ∧ d1 < 1073741824) (hd2 : 0 < d2 ∧ d2 < 1073741824) : TakeOk (fnM 2 3 (takeG c1 c2 M d1 c3 M2 d2)) := by
  intro s k n hb hn hn2
  obtain ⟨a, b, h, hl, hk⟩ := hb.ml
  unfold takeG
  rw [z_fnM (by rfl)]
  have h4 := fun i => mod_lt (i := i) hn
  have nat : ∀ i : Int, ∃ j : Nat, D.int (i % n) = D.int j ∧ (j : Int) < n := fun i => by
    obtain ⟨j, hj⟩ := Int.eq_ofNat_of_zero_le (h4 i).1
    exact ⟨j, by rw [hj], by rw [← hj]; exact (h4 i).2⟩
  have key : ∀ (i : Int) {t : Sto}, Eff [k] s t → ∃ j : Nat, i % n = j ∧ (j : Int) < n ∧ Eff [k] s t := fun i t e => by
    obtain ⟨j, hj⟩ := Int.eq_ofNat_of_zero_le (h4 i).1
    exact ⟨j, hj, by rw [← hj]; exact (h4 i).2, e⟩
  simp [hl, h, hk, hn, hn2, hM, hM2, hd1.1, hd1.2, hd2.1, hd2.2, cMul]
  split
  · exact key _ (Eff.bagset hk)
  · exact ⟨.inr h1, .inr h2, key _ (Eff.bagset hk)⟩
/-- one of a list's or a tuple's items -/
def OfOk (F : List D → Sto → Rs D) : Prop := ∀ {s : Sto} {k : Nat} {x : D} {xs : List D}, Bag s k → seqD s x = some xs → x ≠ .ref k → xs ≠ [] → xs.length < 1073741824 → (F [.ref k, x] s).wp fun d s' => d ∈ xs ∧ Eff [k] s s'
def ofG (take : List D → Sto → Rs D) : SM := (sR (m2 dIx (mV 1) (mN take (aC (mV 0) (aC (mN fLen (aC (mV 1) aN)) aN)))))
theorem of_gen {take : List D → Sto → Rs D} (T : TakeOk take) : OfOk (fnM 2 2 (ofG take)) := by
  intro s k x xs hb hx hk h0 hl
  have hp : 0 < xs.length := List.length_pos_iff.mpr h0
  unfold ofG
  rw [z_fnM (by rfl)]
  cases x with
  | ref n =>
    have hx : lstAt s n = some xs := hx
    have hn : n ≠ k := fun e => hk (by rw [e])
    simp [hx]
    refine wp_ne (T hb (by omega) (by omega)) fun d s' ⟨i, e, h1, ef⟩ => ?_
    subst e
    obtain ⟨c, j, -, -, h4, h5⟩ := atI_nat (xs := xs) (i := i) (by omega) h1
    simp [ef.lst hx (by simpa using hn), h4, h5, ef]
  | tup ys =>
    cases hx
    simp
    refine wp_ne (T hb (by omega) (by omega)) fun d s' ⟨i, e, h1, ef⟩ => ?_
    subst e
    obtain ⟨c, j, -, -, h4, h5⟩ := atI_nat (xs := xs) (i := i) (by omega) h1
    simp [h4, h5, ef]
  | _ => cases hx
end Z

set_option Elab.async false
set_option linter.all false
set_option maxRecDepth 100000
set_option maxHeartbeats 4000000
namespace Z
open PySem PySem.Spec PyProof.Rows L2 TL
/-! ### names -/
def abc : Str := "abcdefghijklmnopqrstuvwxyz"
def one (c : Nat) : Str := ⟨#[c]⟩
def isLow (c : Nat) : Prop := 97 ≤ c ∧ c ≤ 122
instance (c : Nat) : Decidable (isLow c) := by unfold isLow; infer_instance
structure IsName (x : Str) : Prop where
  pos : 1 ≤ (tl x).length
  len : (tl x).length ≤ 8
  low : ∀ c ∈ tl x, isLow c
theorem abc_tl : tl abc = (List.range 26).map (97 + ·) := by decide +kernel
theorem abc_len : abc.length = 26 := by decide +kernel
theorem abc_le : abc.length ≤ sizeLine := by decide +kernel
theorem abc_at {i : Nat} (h : i < 26) : atI (tl abc) (i : Int) = some (97 + i) := atI_of (by rw [abc_tl]; simp [h])
theorem tl_one (c : Nat) : tl (one c) = [c] := rfl
theorem tl_join0 : ∀ ys : List Str, tl (Txt.join "" ys) = (ys.map tl).flatten := by
  intro ys
  rw [join_eq, tl_join]
  have e : tl ("" : Str) = [] := by decide +kernel
  rw [e]
  have : ∀ l : List (List Nat), joinL [] l = l.flatten := by
    intro l
    induction l with
    | nil => rfl
    | cons a l ih =>
      cases l with
      | nil => simp [joinL]
      | cons b l =>
        show a ++ ([] ++ joinL [] (b :: l)) = _
        rw [ih]
        simp
  exact this _
theorem mapM_strD : ∀ ys : List Str, (ys.map D.str).mapM strD = some ys
  | [] => rfl
  | y :: ys => by
    rw [List.map_cons, List.mapM_cons, mapM_strD ys]
    rfl
theorem tl_ofl (l : List Nat) : tl ⟨l.toArray⟩ = l := rfl
/-- distinct names, n of them, in a new list -/
def NamesOk (F : List D → Sto → Rs D) : Prop := ∀ {s : Sto} {k n : Nat}, Bag s k → n ≤ 26 → (F [.ref k, .int n] s).wp fun d s' => ∃ (l : Nat) (ms : List Str), d = .ref l ∧ s.length ≤ l ∧ mlAt s' l = some (ms.map D.str) ∧ ms.length = n ∧ ms.Nodup ∧ (∀ x ∈ ms, IsName x) ∧ Eff [k] s s'
def namesB (take of_ : List D → Sto → Rs D) : SM := (sC (sA 2 (mC (.str "abcdefghijklmnopqrstuvwxyz"))) (sC (sA 3 (mBM "str" fJoin (mC (.str "")) (aC (mL (iR1 (aC (mN of_ (aC (mV 0) (aC (mN fLst (aC (mC (.int 0)) (aC (mC (.int 0)) (aC (mC (.int 1)) (aC (mC (.int 3)) (aC (mC (.int 7)) aN)))))) aN))) aN)) (gN 7) tY (m2 dIx (mV 2) (mN take (aC (mV 0) (aC (mC (.int 26)) aN)))) [7]) aN))) (sC (sG (gT [(gN 5), (gN 6)]) (mN fTup (aC (mN take (aC (mV 0) (aC (mC (.int 26)) aN))) (aC (mN take (aC (mV 0) (aC (mC (.int 2)) aN))) aN)))) (sC (sA 4 (mL (iR1 (aC (mV 1) aN)) (gN 7) tY (m2 dIx (mV 2) (m2 dMod (m2 dAdd (mV 5) (m2 dMul2 (mC (.int 5)) (mV 7))) (mC (.int 26)))) [7])) (sR (mL (iSq (mV 4)) (gN 8) tY (mIf (toT (mV 6)) (m2 dAdd (mV 3) (mV 8)) (m2 dAdd (mV 8) (mV 3))) [8]))))))
theorem rngD_mem {lo : Int} {n : Nat} {d : D} (h : d ∈ rngD lo n) : ∃ i : Nat, i < n ∧ d = .int (lo + i) := by
  unfold rngD at h
  obtain ⟨i, hi, rfl⟩ := List.mem_map.mp h
  exact ⟨i, by simpa using hi, rfl⟩
theorem rngD_get {lo : Int} {n i : Nat} {d : D} (h : (rngD lo n)[i]? = some d) : i < n ∧ d = .int (lo + i) := by
  unfold rngD at h
  rw [List.getElem?_map] at h
  by_cases hi : i < n
  · rw [List.getElem?_range hi] at h
    cases h
    exact ⟨hi, rfl⟩
  · rw [List.getElem?_eq_none (by simpa using hi)] at h
    cases h
theorem rngD_len {lo : Int} {n : Nat} : (rngD lo n).length = n := by simp [rngD]
theorem line_26 : 26 < sizeLine := by decide
theorem line_8 : 100 ≤ sizeLine := by decide
/-- texts of one letter each -/
theorem letters_of {ys : List D} (h : ∀ y ∈ ys, ∃ c, isLow c ∧ y = .str (one c)) : ∃ cs : List Nat, (∀ c ∈ cs, isLow c) ∧ ys = (cs.map one).map D.str := by
  induction ys with
  | nil => exact ⟨[], by simp, rfl⟩
  | cons y ys ih =>
    obtain ⟨c, hc, rfl⟩ := h y (by simp)
    obtain ⟨cs, h1, rfl⟩ := ih fun y hy => h y (by simp [hy])
    exact ⟨c :: cs, by simpa using ⟨hc, h1⟩, rfl⟩
theorem join_ones (cs : List Nat) : Txt.join "" (cs.map one) = ⟨cs.toArray⟩ := ext_tl (by
  rw [tl_join0, List.map_map]
  have : (tl ∘ one) = fun c => [c] := rfl
  rw [this, tl_ofl]
  induction cs with
  | nil => rfl
  | cons c cs ih => simpa using ih)
theorem sum_ones {α : Type} : ∀ l : List α, (l.map fun _ => 1).sum = l.length
  | [] => rfl
  | a :: l => by rw [List.map_cons, List.sum_cons, sum_ones l, List.length_cons]; omega
theorem isTy_str {s : Sto} {x : Str} : isTy "str" s (.str x) = true := by
  show ("str" == "str") = true
  exact beq_self_eq_true _
theorem five_inj {st i j : Int} (hi : 0 ≤ i ∧ i < 26) (hj : 0 ≤ j ∧ j < 26) (h : (st + 5 * i) % 26 = (st + 5 * j) % 26) : i = j := by omega
theorem names_genB {take of_ : List D → Sto → Rs D} (T : TakeOk take) (O : OfOk of_) : NamesOk (fnM 2 9 (namesB take of_)) := by
  intro s k n hb hn
  have hk := hb.lt
  have ea : (("abcdefghijklmnopqrstuvwxyz" : String) : Str) = abc := rfl
  refine wp_of fun P hP => ?_
  unfold namesB
  rw [z_fnM (by rfl), ea]
  -- the base
  simp
  refine ⟨isTy_str, Nat.le_trans (by decide) line_8, ?_⟩
  refine wp_ne (O (s := s ++ [SO.lst [D.int 0, D.int 0, D.int 1, D.int 3, D.int 7]]) (k := k) (x := .ref s.length) (Eff.push (ks := [k]) |>.bag k (by simp) hb) lstAt_push (by simp; omega) (by simp) (by simp)) fun d s1 ⟨hd, ef1⟩ => ?_
  have ef1 := (Eff.push (ks := [k])).trans ef1
  obtain ⟨q, rfl, hq⟩ : ∃ q : Nat, d = .int q ∧ q ≤ 7 := by
    simp at hd
    rcases hd with rfl | rfl | rfl | rfl
    · exact ⟨0, rfl, by decide⟩
    · exact ⟨1, rfl, by decide⟩
    · exact ⟨3, rfl, by decide⟩
    · exact ⟨7, rfl, by decide⟩
  simp
  refine ⟨by omega, ?_⟩
  have hb1 := ef1.bag k (by simp) hb
  refine wp_ne (lc_all (ks := [k]) it_rng (by simpa using hb1) (by rw [rngD_len]; exact Nat.lt_of_le_of_lt (Nat.le_trans hq (by decide)) line_26) (fun i d y => ∃ c, isLow c ∧ y = .str (one c)) fun i d s2 hx ef hbs => ⟨_, rfl, ?_⟩) ?_
  · simp
    refine wp_ne (T (hbs k (by simp)) (by omega) (by omega)) fun d s' ⟨j, e, h1, ef⟩ => ?_
    subst e
    have h2 : j < 26 := by omega
    simp [abc_le, abc_at h2, ef, one, isLow]
    omega
  rintro d s2 ⟨rfl, ef2, hlt2, ys, hy1, hy2, hy3⟩
  obtain ⟨cs, hcs, rfl⟩ := letters_of (ys := ys) fun y hy => by
    obtain ⟨i, hi, rfl⟩ := List.getElem_of_mem hy
    exact hy3 i _ _ (List.getElem?_eq_getElem (by omega)) (List.getElem?_eq_getElem hi)
  have hcl : cs.length = q := by
    rw [rngD_len] at hy1
    simpa using hy1
  have hs2 : lstAt s2 s1.length = some ((cs.map one).map D.str) := lstAt_ml hy2
  rw [z_join]
  refine ⟨_, _, hs2, mapM_strD _, ?_, ?_⟩
  · have e0 : ("" : Str).length = 0 := by decide +kernel
    have e1 : (List.map (fun x => x.length) (cs.map one)).sum = cs.length := by
      rw [List.map_map]
      have : ((fun x : Str => x.length) ∘ one) = fun _ => 1 := rfl
      rw [this, sum_ones]
    rw [e0, e1]
    omega
  rw [join_ones]
  have hb2 := ef2.bag k (by simp) hb1
  refine wp_ne (T hb2 (by omega) (by omega)) fun d s3 ⟨st, e, h1, ef3⟩ => ?_
  subst e
  have hb3 := ef3.bag k (by simp) hb2
  refine wp_ne (T hb3 (by omega) (by omega)) fun d s4 ⟨be, e, hbe, ef4⟩ => ?_
  subst e
  have hb4 := ef4.bag k (by simp) hb3
  refine ⟨two_le_line, ?_⟩
  refine ⟨by omega, ?_⟩
  refine wp_ne (lc_map (ks := []) (fun d => match d with | .int i => .str (one (97 + ((st + 5 * i) % 26).toNat)) | _ => .non) it_rng (by simp) (by rw [rngD_len]; exact Nat.lt_of_le_of_lt hn line_26) fun d s5 hd ef _ => ⟨_, rfl, ?_⟩) ?_
  · obtain ⟨i, hi, rfl⟩ := rngD_mem hd
    simp [cMul]
    obtain ⟨j, hj⟩ := Int.eq_ofNat_of_zero_le (Int.emod_nonneg ((st : Int) + 5 * i) (show (26 : Int) ≠ 0 by decide))
    have hj2 : j < 26 := by
      have := Int.emod_lt_of_pos ((st : Int) + 5 * i) (show (0 : Int) < 26 by decide)
      omega
    rw [hj]
    simp [abc_le, abc_at hj2, Eff.refl, one]
  rintro d s5 ⟨rfl, ef5, hlt5, hm5⟩
  generalize hx5 : List.map _ (rngD 0 n) = xs5 at hm5
  have hx5l : xs5.length = n := by rw [← hx5, List.length_map, rngD_len]
  simp [lstAt_ml hm5]
  refine wp_ne (lc_map (ks := []) (fun d => match d with | .str x => .str (if be = 0 then x ++ ⟨cs.toArray⟩ else ⟨cs.toArray⟩ ++ x) | _ => .non) (it_lst (lstAt_ml hm5) (by simp)) (by simp) (by rw [hx5l]; exact Nat.lt_of_le_of_lt hn line_26) fun d s6 hd ef _ => ⟨_, rfl, ?_⟩) ?_
  · rw [← hx5] at hd
    obtain ⟨d0, hd0, rfl⟩ := List.mem_map.mp hd
    obtain ⟨i, hi, rfl⟩ := rngD_mem hd0
    simp [z_toT, trD]
    have l1 : (⟨cs.toArray⟩ : Str).length = cs.length := rfl
    have l2 : ∀ c, (one c).length = 1 := fun _ => rfl
    have l3 : cs.length + 1 ≤ sizeLine := Nat.le_trans (by omega) line_8
    have l4 : 1 + cs.length ≤ sizeLine := Nat.le_trans (by omega) line_8
    by_cases h0 : be = 0
    · simp [h0, Eff.refl, l1, l2, l3, l4]
    · simp [h0, Eff.refl, l1, l2, l3, l4]
  rintro d s6 ⟨rfl, ef6, hlt6, hm6⟩
  refine hP _ _ ⟨_, (List.range n).map fun i : Nat => if be = 0 then one (97 + (((st : Int) + 5 * i) % 26).toNat) ++ ⟨cs.toArray⟩ else ⟨cs.toArray⟩ ++ one (97 + (((st : Int) + 5 * i) % 26).toNat), rfl, ?_, ?_, by simp, ?_, ?_, ?_⟩
  · have := ef1.le; have := ef2.le; have := ef3.le; have := ef4.le; have := ef5.le
    omega
  · rw [hm6, ← hx5]
    simp [rngD]
  · have nd : (List.range n).Nodup := List.nodup_range
    refine (List.pairwise_map).mpr (List.Pairwise.imp_of_mem ?_ nd)
    intro a b ha hb hab heq
    apply hab
    have ha : a < n := by simpa using ha
    have hb : b < n := by simpa using hb
    have e2 : (97 + (((st : Int) + 5 * a) % 26).toNat) = (97 + (((st : Int) + 5 * b) % 26).toNat) := by
      have := congrArg tl heq
      by_cases h0 : be = 0
      · simpa [h0, tl_append, tl_one] using this
      · simpa [h0, tl_append, tl_one] using this
    have := five_inj (st := st) (i := a) (j := b) (by omega) (by omega) (by omega)
    omega
  · intro x hx
    obtain ⟨i, hi, rfl⟩ := List.mem_map.mp hx
    have hlow : isLow (97 + (((st : Int) + 5 * i) % 26).toNat) := by unfold isLow; omega
    have h7 : (tl (⟨cs.toArray⟩ : Str)) = cs := rfl
    by_cases h0 : be = 0
    · refine ⟨?_, ?_, ?_⟩ <;> simp only [h0, if_true, tl_append, tl_one, h7]
      · simp
      · simp; omega
      · intro c hc
        rcases List.mem_append.mp hc with hc | hc
        · simp at hc; rw [hc]; exact hlow
        · exact hcs c hc
    · refine ⟨?_, ?_, ?_⟩ <;> simp only [h0, if_false, tl_append, tl_one, h7]
      · simp
      · simp; omega
      · intro c hc
        rcases List.mem_append.mp hc with hc | hc
        · exact hcs c hc
        · simp at hc; rw [hc]; exact hlow
  · exact ((((ef1.trans ef2).trans ef3).trans ef4).trans ef5.nil).trans ef6.nil
end Z

set_option Elab.async false
set_option linter.all false
set_option maxRecDepth 100000
set_option maxHeartbeats 4000000
namespace Z
open PySem PySem.Spec PyProof.Rows L2 TL
open PySem.PyData (strOk)
/-! ### data without places: none, ints, texts, tuples of these -/
mutual
def enc : D → PyData
  | .non => .none
  | .bl b => .bool b
  | .int i => .int i
  | .str x => .str x
  | .tup xs => .tuple (encs xs)
  | .ref _ => .none
def encs : List D → List PyData
  | [] => []
  | x :: xs => enc x :: encs xs
end
mutual
/-- plain, of depth below n -/
def plain : Nat → D → Bool
  | _, .non => true
  | _, .bl _ => false
  | _, .int _ => true
  | _, .str x => strOk x
  | 0, .tup _ => false
  | n + 1, .tup xs => plains n xs
  | _, .ref _ => false
def plains : Nat → List D → Bool
  | _, [] => true
  | n, x :: xs => plain n x && plains n xs
end
theorem encs_map : ∀ xs : List D, encs xs = xs.map enc
  | [] => rfl
  | x :: xs => by rw [encs, encs_map xs]; rfl
theorem plains_iff {n : Nat} : ∀ {xs : List D}, plains n xs = true ↔ ∀ x ∈ xs, plain n x = true
  | [] => by simp [plains]
  | x :: xs => by simp [plains, plains_iff (xs := xs)]
theorem mapM_some' {α β : Type} {f : α → Option β} {g : α → β} : ∀ {xs : List α}, (∀ x ∈ xs, f x = some (g x)) → xs.mapM f = some (xs.map g)
  | [], _ => rfl
  | x :: xs, h => by
    rw [List.mapM_cons, h x (by simp), mapM_some' fun y hy => h y (by simp [hy])]
    rfl
mutual
theorem pyd_plain (s : Sto) : ∀ (n : Nat) (d : D), plain n d = true → pyd (n + 1) s d = some (enc d)
  | n, .non, _ => by rw [pyd]; rfl
  | n, .bl _, h => by rw [plain] at h; cases h
  | n, .int _, _ => by rw [pyd]; rfl
  | n, .str _, _ => by rw [pyd]; rfl
  | 0, .tup _, h => by rw [plain] at h; cases h
  | n + 1, .tup xs, h => by
    rw [plain] at h
    rw [pyd, pyds_plain s n xs h]
    rfl
  | n, .ref _, h => by cases n <;> (rw [plain] at h; cases h)
theorem pyds_plain (s : Sto) : ∀ (n : Nat) (xs : List D), plains n xs = true → xs.mapM (pyd (n + 1) s) = some (encs xs)
  | _, [], _ => rfl
  | n, x :: xs, h => by
    rw [plains, Bool.and_eq_true] at h
    rw [List.mapM_cons, pyd_plain s n x h.1, pyds_plain s n xs h.2]
    rfl
end
theorem pyd_mono (s : Sto) : ∀ (n : Nat) (d : D) (p : PyData), pyd n s d = some p → pyd (n + 1) s d = some p
  | 0, d, p, h => by rw [pyd] at h; cases h
  | n + 1, .non, p, h => by rw [pyd] at h ⊢; exact h
  | n + 1, .bl _, p, h => by rw [pyd] at h ⊢; exact h
  | n + 1, .int _, p, h => by rw [pyd] at h ⊢; exact h
  | n + 1, .str _, p, h => by rw [pyd] at h ⊢; exact h
  | n + 1, .tup xs, p, h => by
    rw [pyd] at h ⊢
    obtain ⟨ps, h1, rfl⟩ := Option.map_eq_some_iff.mp h
    have : ∀ (xs : List D) (ps : List PyData), xs.mapM (pyd n s) = some ps → xs.mapM (pyd (n + 1) s) = some ps := by
      intro xs
      induction xs with
      | nil => intro ps h; exact h
      | cons x xs ih =>
        intro ps h
        rw [List.mapM_cons] at h ⊢
        obtain ⟨a, h1, h⟩ := Option.bind_eq_some_iff.mp h
        obtain ⟨b, h2, h⟩ := Option.bind_eq_some_iff.mp h
        cases h
        rw [pyd_mono s n x a h1, ih b h2]
        rfl
    rw [this xs ps h1]
    rfl
  | n + 1, .ref k, p, h => by
    rw [pyd] at h ⊢
    obtain ⟨xs, h0, h⟩ := Option.bind_eq_some_iff.mp h
    obtain ⟨ps, h1, rfl⟩ := Option.map_eq_some_iff.mp h
    have : ∀ (xs : List D) (ps : List PyData), xs.mapM (pyd n s) = some ps → xs.mapM (pyd (n + 1) s) = some ps := by
      intro xs
      induction xs with
      | nil => intro ps h; exact h
      | cons x xs ih =>
        intro ps h
        rw [List.mapM_cons] at h ⊢
        obtain ⟨a, h1, h⟩ := Option.bind_eq_some_iff.mp h
        obtain ⟨b, h2, h⟩ := Option.bind_eq_some_iff.mp h
        cases h
        rw [pyd_mono s n x a h1, ih b h2]
        rfl
    rw [h0, Option.bind_some, this xs ps h1]
    rfl
theorem pyd_le {s : Sto} {d : D} {p : PyData} {n m : Nat} (h : pyd n s d = some p) (hm : n ≤ m) : pyd m s d = some p := by
  induction hm with
  | refl => exact h
  | step _ ih => exact pyd_mono s _ d p ih
mutual
theorem canLay_plain : ∀ (n : Nat) (d : D), plain n d = true → (enc d).canLay0 = true ∧ (enc d).depth ≤ n
  | n, .non, _ => by simp [enc, PyData.canLay0, PyData.depth]
  | n, .bl _, h => by rw [plain] at h; cases h
  | n, .int _, _ => by simp [enc, PyData.canLay0, PyData.depth]
  | n, .str _, h => by
    rw [plain] at h
    simp [enc, PyData.canLay0, PyData.depth, h]
  | 0, .tup _, h => by rw [plain] at h; cases h
  | n + 1, .tup xs, h => by
    rw [plain] at h
    obtain ⟨h1, h2⟩ := canLays_plain n xs h
    rw [enc, PyData.canLay0, PyData.depth]
    exact ⟨h1, by omega⟩
  | n, .ref _, h => by cases n <;> (rw [plain] at h; cases h)
theorem canLays_plain : ∀ (n : Nat) (xs : List D), plains n xs = true → PyData.canLayAll0 (encs xs) = true ∧ PyData.depthAll (encs xs) ≤ n
  | _, [], _ => by simp [encs, PyData.canLayAll0, PyData.depthAll]
  | n, x :: xs, h => by
    rw [plains, Bool.and_eq_true] at h
    obtain ⟨h1, h2⟩ := canLay_plain n x h.1
    obtain ⟨h3, h4⟩ := canLays_plain n xs h.2
    rw [encs, PyData.canLayAll0, PyData.depthAll, h1, h3]
    exact ⟨rfl, Nat.max_le.mpr ⟨h2, h4⟩⟩
end
theorem plain_mono : ∀ (n : Nat) (d : D), plain n d = true → plain (n + 1) d = true
  | n, .non, _ => by rw [plain]
  | n, .bl _, h => by rw [plain] at h; cases h
  | n, .int _, _ => by rw [plain]
  | n, .str _, h => by rw [plain] at h ⊢; exact h
  | 0, .tup _, h => by rw [plain] at h; cases h
  | n + 1, .tup xs, h => by
    rw [plain] at h ⊢
    rw [plains_iff] at h ⊢
    exact fun x hx => plain_mono n x (h x hx)
  | n, .ref _, h => by cases n <;> (rw [plain] at h; cases h)
theorem plain_le {n m : Nat} {d : D} (h : plain n d = true) (hm : n ≤ m) : plain m d = true := by
  induction hm with
  | refl => exact h
  | step _ ih => exact plain_mono _ d ih
theorem shp_of {s : Sto} {d : D} {p : PyData} (h : pyd 30 s d = some p) (hs : SeqAt.shaped p = true) : shp s d = some p := by
  unfold shp
  rw [h]
  simp [hs]
theorem shaped_of {p : PyData} (h1 : p.canLay0 = true) (h2 : p.depth ≤ 64) : SeqAt.shaped p = true := by
  unfold SeqAt.shaped
  rw [h1]
  simpa using h2
theorem shp_plain {s : Sto} {d : D} (h : plain 20 d = true) : shp s d = some (enc d) := by
  obtain ⟨h1, h2⟩ := canLay_plain 20 d h
  exact shp_of (pyd_le (pyd_plain s 20 d h) (by omega)) (shaped_of h1 (by omega))
theorem shp_lst {s : Sto} {n : Nat} {xs : List D} (hx : lstAt s n = some xs) (h : plains 20 xs = true) : shp s (.ref n) = some (.list (encs xs)) := by
  obtain ⟨h1, h2⟩ := canLays_plain 20 xs h
  refine shp_of ?_ (shaped_of (by rw [PyData.canLay0]; exact h1) (by rw [PyData.depth]; omega))
  have : pyd 22 s (.ref n) = some (.list (encs xs)) := by
    rw [pyd, hx, Option.bind_some, pyds_plain s 20 xs h]
    rfl
  exact pyd_le this (by omega)
/-! ### == of plain data -/
mutual
theorem eqv_enc : ∀ (n : Nat) (a b : D), plain n a = true → plain n b = true → (PyData.eqv (enc a) (enc b) = true ↔ a = b)
  | n, .bl _, _, h, _ => by rw [plain] at h; cases h
  | n, .ref _, _, h, _ => by cases n <;> (rw [plain] at h; cases h)
  | n, .non, b, _, h => by
    cases b with
    | bl _ => rw [plain] at h; cases h
    | ref _ => cases n <;> (rw [plain] at h; cases h)
    | _ => simp [enc, PyData.eqv]
  | n, .int i, b, _, h => by
    cases b with
    | bl _ => rw [plain] at h; cases h
    | ref _ => cases n <;> (rw [plain] at h; cases h)
    | _ => simp [enc, PyData.eqv]
  | n, .str i, b, _, h => by
    cases b with
    | bl _ => rw [plain] at h; cases h
    | ref _ => cases n <;> (rw [plain] at h; cases h)
    | _ => simp [enc, PyData.eqv]
  | 0, .tup _, _, h, _ => by rw [plain] at h; cases h
  | n + 1, .tup xs, b, h1, h => by
    cases b with
    | bl _ => rw [plain] at h; cases h
    | ref _ => rw [plain] at h; cases h
    | tup ys =>
      rw [plain] at h1 h
      rw [enc, enc, PyData.eqv, eqvs_enc n xs ys h1 h]
      simp
    | _ => simp [enc, PyData.eqv]
theorem eqvs_enc : ∀ (n : Nat) (xs ys : List D), plains n xs = true → plains n ys = true → (PyData.eqvAll (encs xs) (encs ys) = true ↔ xs = ys)
  | _, [], [], _, _ => by simp [encs, PyData.eqvAll]
  | _, [], _ :: _, _, _ => by simp [encs, PyData.eqvAll]
  | _, _ :: _, [], _, _ => by simp [encs, PyData.eqvAll]
  | n, x :: xs, y :: ys, h1, h2 => by
    rw [plains, Bool.and_eq_true] at h1 h2
    rw [encs, encs, PyData.eqvAll, Bool.and_eq_true, eqv_enc n x y h1.1 h2.1, eqvs_enc n xs ys h1.2 h2.2]
    simp
end
section
variable {P : D → Sto → Prop} {E : Str → Str → D → Sto → Prop} {s : Sto} {a b : D} {xs ys : List D} {n m : Nat}
/-- the answer of == as a proposition -/
theorem z_eqP [Decidable (a = b)] (ha : plain 20 a = true) (hb : plain 20 b = true) : (dEq a b s).wp P E = P (.bl (decide (a = b))) s := by
  rw [z_eq (shp_plain ha) (shp_plain hb)]
  have := eqv_enc 20 a b ha hb
  have e : PyData.eqv (enc a) (enc b) = decide (a = b) := by
    by_cases h : a = b
    · rw [decide_eq_true h, this.mpr h]
    · rw [decide_eq_false h]
      exact Bool.eq_false_iff.mpr fun q => h (this.mp q)
  rw [e]
theorem z_neP [Decidable (a = b)] (ha : plain 20 a = true) (hb : plain 20 b = true) : (dNe a b s).wp P E = P (.bl (!decide (a = b))) s := by
  rw [z_ne (shp_plain ha) (shp_plain hb)]
  have := eqv_enc 20 a b ha hb
  have e : PyData.eqv (enc a) (enc b) = decide (a = b) := by
    by_cases h : a = b
    · rw [decide_eq_true h, this.mpr h]
    · rw [decide_eq_false h]
      exact Bool.eq_false_iff.mpr fun q => h (this.mp q)
  rw [e]
theorem eqv_lst [Decidable (xs = ys)] (h1 : plains 20 xs = true) (h2 : plains 20 ys = true) : PyData.eqv (.list (encs xs)) (.list (encs ys)) = decide (xs = ys) := by
  rw [PyData.eqv]
  have := eqvs_enc 20 xs ys h1 h2
  by_cases h : xs = ys
  · rw [decide_eq_true h, this.mpr h]
  · rw [decide_eq_false h]
    exact Bool.eq_false_iff.mpr fun q => h (this.mp q)
theorem z_eqL [Decidable (xs = ys)] (hx : lstAt s n = some xs) (hy : lstAt s m = some ys) (h1 : plains 20 xs = true) (h2 : plains 20 ys = true) : (dEq (.ref n) (.ref m) s).wp P E = P (.bl (decide (xs = ys))) s := by
  rw [z_eq (shp_lst hx h1) (shp_lst hy h2), eqv_lst h1 h2]
theorem z_neL [Decidable (xs = ys)] (hx : lstAt s n = some xs) (hy : lstAt s m = some ys) (h1 : plains 20 xs = true) (h2 : plains 20 ys = true) : (dNe (.ref n) (.ref m) s).wp P E = P (.bl (!decide (xs = ys))) s := by
  rw [z_ne (shp_lst hx h1) (shp_lst hy h2), eqv_lst h1 h2]
@[simp] theorem z_eqI {i j : Int} : (dEq (.int i) (.int j) s).wp P E = P (.bl (decide (i = j))) s := by
  rw [z_eq (shp_plain (s := s) (d := .int i) (by rw [plain])) (shp_plain (s := s) (d := .int j) (by rw [plain]))]
  rfl
@[simp] theorem z_neI {i j : Int} : (dNe (.int i) (.int j) s).wp P E = P (.bl (!decide (i = j))) s := by
  rw [z_ne (shp_plain (s := s) (d := .int i) (by rw [plain])) (shp_plain (s := s) (d := .int j) (by rw [plain]))]
  rfl
/-! ### in -/
theorem any_enc [Decidable (a ∈ xs)] (ha : plain 20 a = true) (hx : plains 20 xs = true) : ((encs xs).any fun z => PyData.eqv z (enc a)) = decide (a ∈ xs) := by
  rw [encs_map, List.any_map]
  rw [plains_iff] at hx
  by_cases h : a ∈ xs
  · rw [decide_eq_true h, List.any_eq_true]
    exact ⟨a, h, (eqv_enc 20 a a ha ha).mpr rfl⟩
  · rw [decide_eq_false h, List.any_eq_false]
    intro x hxm hq
    exact h (by rw [← (eqv_enc 20 x a (hx x hxm) ha).mp hq]; exact hxm)
theorem z_inT {neg : Bool} [Decidable (a ∈ xs)] (ha : plain 20 a = true) (hx : plains 19 xs = true) : (dInB neg a (.tup xs) s).wp P E = P (.bl (neg ^^ decide (a ∈ xs))) s := by
  have h2 : plain 20 (.tup xs) = true := by rw [plain]; exact hx
  have hx' : plains 20 xs = true := plains_iff.mpr fun x h => plain_mono _ _ (plains_iff.mp hx x h)
  unfold dInB
  dsimp only
  rw [shp_plain ha, shp_plain h2, enc]
  dsimp only
  rw [any_enc ha hx', z_ok]
theorem z_inL {neg : Bool} [Decidable (a ∈ xs)] (ha : plain 20 a = true) (hl : lstAt s n = some xs) (hx : plains 20 xs = true) : (dInB neg a (.ref n) s).wp P E = P (.bl (neg ^^ decide (a ∈ xs))) s := by
  unfold dInB
  dsimp only
  rw [shp_plain ha, shp_lst hl hx]
  dsimp only
  rw [any_enc ha hx, z_ok]
theorem z_inS {neg : Bool} {c : Nat} {y : Str} : (dInB neg (.str (one c)) (.str y) s).wp P E = P (.bl (neg ^^ decide (c ∈ tl y))) s := by
  unfold dInB
  dsimp only
  rw [if_pos (show (one c).length = 1 from rfl), z_ok]
  rfl
theorem z_eq_yes (ha : plain 20 a = true) : (dEq a a s).wp P E = P (.bl true) s := by
  classical
  rw [z_eqP ha ha, decide_eq_true rfl]
theorem z_eq_no (ha : plain 20 a = true) (hb : plain 20 b = true) (h : a ≠ b) : (dEq a b s).wp P E = P (.bl false) s := by
  classical
  rw [z_eqP ha hb, decide_eq_false h]
theorem z_ne_yes (ha : plain 20 a = true) (hb : plain 20 b = true) (h : a ≠ b) : (dNe a b s).wp P E = P (.bl true) s := by
  classical
  rw [z_neP ha hb, decide_eq_false h]
  rfl
theorem z_ne_no (ha : plain 20 a = true) : (dNe a a s).wp P E = P (.bl false) s := by
  classical
  rw [z_neP ha ha, decide_eq_true rfl]
  rfl
theorem z_inT_no {neg : Bool} (ha : plain 20 a = true) (hx : plains 19 xs = true) (h : a ∉ xs) : (dInB neg a (.tup xs) s).wp P E = P (.bl neg) s := by
  classical
  rw [z_inT ha hx, decide_eq_false h, Bool.xor_false]
theorem z_inT_yes {neg : Bool} (ha : plain 20 a = true) (hx : plains 19 xs = true) (h : a ∈ xs) : (dInB neg a (.tup xs) s).wp P E = P (.bl !neg) s := by
  classical
  rw [z_inT ha hx, decide_eq_true h, Bool.xor_true]
theorem z_inL_no {neg : Bool} (ha : plain 20 a = true) (hl : lstAt s n = some xs) (hx : plains 20 xs = true) (h : a ∉ xs) : (dInB neg a (.ref n) s).wp P E = P (.bl neg) s := by
  classical
  rw [z_inL ha hl hx, decide_eq_false h, Bool.xor_false]
theorem z_inL_yes {neg : Bool} (ha : plain 20 a = true) (hl : lstAt s n = some xs) (hx : plains 20 xs = true) (h : a ∈ xs) : (dInB neg a (.ref n) s).wp P E = P (.bl !neg) s := by
  classical
  rw [z_inL ha hl hx, decide_eq_true h, Bool.xor_true]
theorem z_eqL_yes (hx : lstAt s n = some xs) (hy : lstAt s m = some xs) (h1 : plains 20 xs = true) : (dEq (.ref n) (.ref m) s).wp P E = P (.bl true) s := by
  classical
  rw [z_eqL hx hy h1 h1, decide_eq_true rfl]
theorem z_neL_no (hx : lstAt s n = some xs) (hy : lstAt s m = some xs) (h1 : plains 20 xs = true) : (dNe (.ref n) (.ref m) s).wp P E = P (.bl false) s := by
  classical
  rw [z_neL hx hy h1 h1, decide_eq_true rfl]
  rfl
/-! ### sorted texts -/
def leS (a b : Str) : Bool := decide (tl a ≤ tl b)
def sortS (xs : List Str) : List Str := xs.mergeSort leS
theorem leS_trans (a b c : Str) (h1 : leS a b = true) (h2 : leS b c = true) : leS a c = true := by
  unfold leS at *
  simp only [decide_eq_true_eq] at *
  exact List.le_trans h1 h2
theorem leS_total (a b : Str) : (leS a b || leS b a) = true := by
  unfold leS
  simp only [Bool.or_eq_true, decide_eq_true_eq]
  exact List.le_total _ _
theorem plains_strs {ms : List Str} (h : ∀ x ∈ ms, strOk x = true) : plains n (ms.map D.str) = true := plains_iff.mpr fun d hd => by
  obtain ⟨x, hx, rfl⟩ := List.mem_map.mp hd
  rw [plain]
  exact h x hx
theorem encD_str {x : Str} : encD s (.str x) = .str x := by
  unfold encD
  rw [pyd]
  rfl
theorem z_sortS {ms : List Str} (hx : lstAt s n = some (ms.map D.str)) (h : ∀ x ∈ ms, strOk x = true) : (fSorted [.ref n] s).wp P E = P (.ref s.length) (s ++ [.lst ((sortS ms).map D.str)]) := by
  have hc : canSort s (ms.map D.str) = true := by
    unfold canSort
    simp only [List.all_map, Bool.and_eq_true, Bool.or_eq_true, List.all_eq_true, Function.comp_apply]
    refine ⟨⟨fun x hx => ?_, fun x hx y hy => ?_⟩, .inr fun x hx => ?_⟩
    · rw [shp_plain (by rw [plain]; exact h x hx)]
      rfl
    · rw [encD_str, encD_str]
      simp [PySem.W.alike]
    · rw [encD_str]
      rfl
  have hs : sortD s (ms.map D.str) = (sortS ms).map D.str := by
    unfold sortD sortS
    refine (List.map_mergeSort fun a _ b _ => ?_).symm
    rw [PySem.W.dataLe_eq]
    have := congrFun (congrFun (PySem.W.dataLe_str (fun x : Str => x)) a) b
    rw [PySem.W.dataLe_eq] at this
    simp only [encD_str, cond_false] at this ⊢
    rw [this]
    rfl
  unfold fSorted
  dsimp only
  rw [hx]
  dsimp only
  rw [if_pos hc, hs, z_ok]
theorem sortS_perm (ms : List Str) : (sortS ms).Perm ms := List.mergeSort_perm _ _
theorem sortS_sorted (ms : List Str) : (sortS ms).Pairwise fun a b => leS a b = true := List.pairwise_mergeSort leS_trans leS_total ms
theorem sortS_of {ms : List Str} (h : ms.Pairwise fun a b => leS a b = true) : sortS ms = ms := List.mergeSort_of_pairwise h
/-! ### repr -/
theorem z_repr : (fRepr [a] s).wp P E = ∃ p, shp s a = some p ∧ (p.showable = true ∧ p.shown.length ≤ sizeLine) ∧ P (.str p.shown) s := by
  unfold fRepr
  dsimp only
  cases h : shp s a with
  | none => simp [Rs.wp]
  | some p => simp [z_iteN, z_ok]
end
end Z

set_option Elab.async false
set_option linter.all false
set_option maxRecDepth 100000
set_option maxHeartbeats 4000000
namespace Z
open PySem PySem.Spec PyProof.Rows L2
variable [Row]
/-! ### list comprehensions of two walks -/
def lcI (j : Stp) (g : GN) (t : EM Bool) (m : EM D) (l : Nat) : Nat → Nat → Ev → Sto → Rs Unit
  | 0, i, e, s => match j i s with
    | some none => .ok () s
    | _ => .no
  | f + 1, i, e, s => match j i s with
    | none => .no
    | some none => .ok () s
    | some (some d) => match g d e with
      | none => .no
      | some e1 => (t e1 s).nox.bind fun q s1 => if q then (m e1 s1).nox.bind fun y s2 => match s2[l]? with
          | some (.lst acc) => if acc.length < sizeLine then lcI j g t m l f (i + 1) e (s2.set l (.lst (acc ++ [y]))) else .no
          | _ => .no
        else lcI j g t m l f (i + 1) e s1
def lcL2 (j : Stp) (g : GN) (t : EM Bool) (mi1 : EM (Nat × Stp)) (g1 : GN) (t1 : EM Bool) (m : EM D) (vs1 : List Nat) (l : Nat) : Nat → Nat → Ev → Sto → Rs D
  | 0, i, e, s => match j i s with
    | some none => .ok (.ref l) s
    | _ => .no
  | f + 1, i, e, s => match j i s with
    | none => .no
    | some none => .ok (.ref l) s
    | some (some d) => match g d e with
      | none => .no
      | some e1 => (t e1 s).nox.bind fun q s1 => if q then (mi1 e1 s1).nox.bind fun jt s2 => (lcI jt.2 g1 t1 m l jt.1 0 (wipeD e1 vs1) s2).bind fun _ s3 => lcL2 j g t mi1 g1 t1 m vs1 l f (i + 1) e s3
        else lcL2 j g t mi1 g1 t1 m vs1 l f (i + 1) e s1
def mL2 (mi : EM (Nat × Stp)) (g : GN) (t : EM Bool) (mi1 : EM (Nat × Stp)) (g1 : GN) (t1 : EM Bool) (m : EM D) (vs vs1 : List Nat) : EM D := fun e s => (mi e s).bind fun jt s1 => lcL2 jt.2 g t mi1 g1 t1 m vs1 s1.length jt.1 0 (wipeD e vs) (s1 ++ [.lst []])
omit [Row] in
theorem wipe_again (σ : L2.St) (vs : List Nat) : wipe (wipe σ vs) vs = wipe σ vs := by
  have ww : ∀ us : List Nat, (∀ u ∈ us, u ∈ vs) → wipe (wipe σ vs) us = wipe σ vs := by
    intro us
    induction us with
    | nil => intro _; rfl
    | cons u us ih =>
      intro hu
      show (wipe (wipe σ vs) us).set u none = wipe σ vs
      rw [ih fun z hz => hu z (List.mem_cons_of_mem _ hz)]
      have key : ∀ ws : List Nat, u ∈ ws → (wipe σ ws).set u none = wipe σ ws := by
        intro ws
        induction ws with
        | nil => intro h; simp at h
        | cons w ws ihw =>
          intro h
          show ((wipe σ ws).set w none).set u none = (wipe σ ws).set w none
          by_cases q : u = w
          · subst q
            rw [List.set_set]
          · rw [List.set_comm _ _ (Ne.symm q), ihw ((List.mem_cons.mp h).resolve_left q)]
      exact key vs (hu u List.mem_cons_self)
  exact ww vs fun _ h => h
omit [Row] in
theorem Rs.bind_assoc {α β γ : Type} {r : Rs α} {k : α → Sto → Rs β} {h : β → Sto → Rs γ} : (r.bind k).bind h = r.bind fun a s => (k a s).bind h := by cases r <;> rfl
section
variable {X : Cx} {W : WX} {pos : Pos} {elt tg iter tg1 iter1 : Expr} {ifs ifs1 : List Expr} {scope : Scope} {own : List (Str × Nat)} {mi mi1 : EM (Nat × Stp)} {g g1 : GN} {is is1 : List Nat} {t t1 : EM Bool} {m : EM D}
theorem llc2 {K : PySem.W.Frag} {mg : Str → Option Value} {vs vs1 : List Nat} {g' g1' : TG} {wi1 : TI} {tt tt1 : TT} {te : TE} (his : ∀ i ∈ is, i ∈ vs) (his1 : ∀ i ∈ is1, i ∈ vs1)
    (gq : GQ K g is g') (gq1 : GQ K g1 is1 g1')
    (ht : ∀ σ H Q, lT K mg WF t σ H Q → tt σ H Q) (hi1 : ∀ σ H Q, lG K mg (RI K mg) WF mi1 σ H Q → wi1 σ H Q) (ht1 : ∀ σ H Q, lT K mg WF t1 σ H Q → tt1 σ H Q) (he : ∀ σ H Q, lE K mg WF m σ H Q → te σ H Q) {σ : L2.St} {H : Hp} {Q : VK}
    (h : lE K mg W (mL2 mi g t mi1 g1 t1 m vs vs1) σ H Q) : tLc2 (lG K mg (RI K mg) W mi) g' tt wi1 g1' tt1 te vs vs1 σ H Q := by
  obtain ⟨ρ, env, s, sr, er, po⟩ := h
  refine ⟨ρ, env, s, sr, er, (Po.bind po).imp fun J H1 ⟨ρ1, s1, jt, e1, sr1, ri, po1⟩ => fun Dl hDl => ?_⟩
  obtain ⟨x2, sr2, r2⟩ := new_lst sr1 hDl (VRs.nil (K := K) (ρ := ρ1) (n := s1.length) (H := H1))
  refine ⟨fun i m2 H2 => ∃ ρ2 s2, Ext (ρup ρ1 s1.length Dl) (s1 ++ [SO.lst []]).length (upd H1 Dl (.lst [])) ρ2 s2.length H2 ∧ SR K mg ρ2 s2 H2 ∧ Po K mg (VR K) W σ ρ2 s2.length H2 (lcL2 jt.2 g t mi1 g1 t1 m vs1 s1.length m2 i (wipeD env vs) s2) Q, ⟨jt.1, ρup ρ1 s1.length Dl, _, Ext.refl, sr2, po1.rebase x2⟩, ?_⟩
  rintro i m2 H2 ⟨ρ2, s2, x3, sr3, po2⟩
  have x23 := x2.trans x3
  have hj := ri ρ2 s2 H2 i x23 sr3
  have lt1 : s1.length < (s1 ++ [SO.lst []]).length := by simp
  have rD : VR K ρ2 s2.length H2 (.ref s1.length) (.ref Dl) := r2.mono x3
  cases m2 with
  | zero =>
    rw [lcL2] at po2
    cases e : jt.2 i s2 with
    | none => rw [e] at po2; exact po2.elim
    | some o =>
      rw [e] at po2 hj
      cases o with
      | none => exact .inl ⟨hj, po2 ρ2 H2 _ Ext.refl sr3 rD⟩
      | some d => exact po2.elim
  | succ f =>
    rw [lcL2] at po2
    cases e : jt.2 i s2 with
    | none => rw [e] at po2; exact po2.elim
    | some o =>
      rw [e] at po2 hj
      cases o with
      | none => exact .inl ⟨hj, po2 ρ2 H2 _ Ext.refl sr3 rD⟩
      | some d =>
        dsimp only at po2 hj
        obtain ⟨go, yl⟩ := hj
        refine .inr ⟨go, _, fun H' w => ⟨f, Nat.lt_succ_self f, w⟩, fun x H' y => ?_⟩
        obtain ⟨x4, sr4, r4⟩ := yl x H' y
        cases hgd : g d (wipeD env vs) with
        | none => rw [hgd] at po2; exact po2.elim
        | some e4 =>
          rw [hgd] at po2
          dsimp only at po2
          have erw : EnvR K ρ2 s2.length H' (wipeD env vs) (wipe σ vs) := ((er.mono e1).mono (x23.trans x4)).wipe vs
          refine gq ρ2 s2 H' _ _ e4 d x _ erw r4 hgd fun σ4 er4 hw => ⟨by rw [hw vs his, wipe_again], ?_⟩
          refine ht _ _ _ ⟨ρ2, e4, s2, sr4, er4, (Po.bindx (po2.rebase x4)).imp fun q H5 ⟨ρ5, s5, q5, x5, sr5, r5, po5⟩ => ?_⟩
          have eq : q5 = q := r5
          subst eq
          have x35 := (x3.trans x4).trans x5
          cases q5 with
          | false => exact ⟨ρ5, s5, x35, sr5, po5⟩
          | true =>
            rw [if_pos rfl] at po5 ⊢
            refine hi1 _ _ _ ⟨ρ5, e4, s5, sr5, er4.mono x5, (Po.bindx po5).imp fun J1 H6 ⟨ρ6, s6, jt1, x6, sr6, ri6, po6⟩ => ?_⟩
            have x36 := x35.trans x6
            have er6 : EnvR K ρ6 s6.length H6 e4 σ4 := (er4.mono x5).mono x6
            dsimp only at po6
            refine ⟨fun i1 k1 H7 => ∃ ρ7 s7, Ext ρ6 s6.length H6 ρ7 s7.length H7 ∧ SR K mg ρ7 s7 H7 ∧ Po K mg (VR K) W σ ρ7 s7.length H7 ((lcI jt1.2 g1 t1 m s1.length k1 i1 (wipeD e4 vs1) s7).bind fun _ s3 => lcL2 jt.2 g t mi1 g1 t1 m vs1 s1.length f (i + 1) (wipeD env vs) s3) Q, ⟨jt1.1, ρ6, s6, Ext.refl, sr6, po6⟩, ?_⟩
            rintro i1 k1 H7 ⟨ρ7, s7, x7, sr7, po7⟩
            have hj7 := ri6 ρ7 s7 H7 i1 x7 sr7
            have x37 := x36.trans x7
            cases k1 with
            | zero =>
              rw [lcI] at po7
              cases e7 : jt1.2 i1 s7 with
              | none => rw [e7] at po7; exact po7.elim
              | some o =>
                rw [e7] at po7 hj7
                cases o with
                | none => exact .inl ⟨hj7, ρ7, s7, x37, sr7, po7⟩
                | some d => exact po7.elim
            | succ f7 =>
              rw [lcI] at po7
              cases e7 : jt1.2 i1 s7 with
              | none => rw [e7] at po7; exact po7.elim
              | some o =>
                rw [e7] at po7 hj7
                cases o with
                | none => exact .inl ⟨hj7, ρ7, s7, x37, sr7, po7⟩
                | some d7 =>
                  dsimp only at po7 hj7
                  obtain ⟨go7, yl7⟩ := hj7
                  refine .inr ⟨go7, _, fun H' w => ⟨f7, Nat.lt_succ_self f7, w⟩, fun x' H' y' => ?_⟩
                  obtain ⟨x8, sr8, r8⟩ := yl7 x' H' y'
                  cases hg7 : g1 d7 (wipeD e4 vs1) with
                  | none => rw [hg7] at po7; exact po7.elim
                  | some e8 =>
                    rw [hg7] at po7
                    dsimp only at po7
                    have erw8 : EnvR K ρ7 s7.length H' (wipeD e4 vs1) (wipe σ4 vs1) := (er6.mono (x7.trans x8)).wipe vs1
                    refine gq1 ρ7 s7 H' _ _ e8 d7 x' _ erw8 r8 hg7 fun σ8 er8 hw8 => ⟨by rw [hw8 vs1 his1, wipe_again], ?_⟩
                    rw [Rs.bind_assoc] at po7
                    refine ht1 _ _ _ ⟨ρ7, e8, s7, sr8, er8, (Po.bindx (po7.rebase x8)).imp fun q H9 ⟨ρ9, s9, q9, x9, sr9, r9, po9⟩ => ?_⟩
                    have eq9 : q9 = q := r9
                    subst eq9
                    have x79 := (x7.trans x8).trans x9
                    have x39 := (x37.trans x8).trans x9
                    cases q9 with
                    | false => exact ⟨ρ9, s9, x79, sr9, po9⟩
                    | true =>
                      rw [if_pos rfl] at po9 ⊢
                      rw [Rs.bind_assoc] at po9
                      refine he _ _ _ ⟨ρ9, e8, s9, sr9, er8.mono x9, (Po.bindx po9).imp fun y6 Ha ⟨ρa, sa, da, xa, sra, ra, poa⟩ => ?_⟩
                      have x3a := x39.trans xa
                      have eDa : ρa s1.length = Dl := by
                        rw [x3a.ag _ lt1, ρup_same]
                      dsimp only at poa
                      cases el : sa[s1.length]? with
                      | none => rw [el] at poa; exact poa.elim
                      | some o =>
                        rw [el] at poa
                        cases o with
                        | lst acc =>
                          dsimp only at poa
                          by_cases hl : acc.length < sizeLine
                          · rw [if_pos hl] at poa
                            obtain ⟨av, hav, rav⟩ := sra.ob _ _ el
                            rw [eDa] at hav
                            have ob' := sra.ob _ _ el
                            have xw : Ext ρa sa.length Ha ρa sa.length (upd Ha (ρa s1.length) (.lst (av ++ [y6]))) := Ext.write (u := .lst (av ++ [y6])) ob' rfl
                            refine ⟨av, hav, by rw [rav.length]; exact hl, ρa, sa.set s1.length (.lst (acc ++ [da])), ?_, ?_, ?_⟩
                            · rw [List.length_set]
                              have x7 := (x79.trans xa).trans xw
                              rw [eDa] at x7
                              exact x7
                            · rw [← eDa]
                              exact sra.write el rfl rfl ⟨av ++ [y6], upd_same, (rav.append (VRs.cons ra VRs.nil)).mono xw⟩
                            · rw [List.length_set, ← eDa]
                              exact poa.rebase xw
                          · rw [if_neg hl] at poa
                            exact poa.elim
                        | _ => exact poa.elim
theorem je_lc2 {g' g1' : TG} {vs1 : List Nat} (hc : X.calm = true) (hN : X.N.Nodup) (hi : JI X W tg iter mi) (ok : BlkOk X.N X.env.scope scope own) (hv : ∀ i ∈ vs1, i ∈ own.map (·.2)) (his : ∀ i ∈ is, i ∈ own.map (·.2)) (his1 : ∀ i ∈ is1, i ∈ vs1)
    (hg' : ∀ (s : Shared) (H : Hp) (C : Addr) (cl : List (Str × Addr)) (fp : List Addr), PG (X.blk s H scope (compEnvC scope cl C X.env) fp) tg g') (gq : GQ X.K g is g')
    (ht : ∀ (s : Shared) (H : Hp) (C : Addr) (cl : List (Str × Addr)) (fp : List Addr), PTs (X.blk s H scope (compEnvC scope cl C X.env) fp) ifs (lT X.K X.mg WF t))
    (hi1 : ∀ (s : Shared) (H : Hp) (C : Addr) (cl : List (Str × Addr)) (fp : List Addr), JI (X.blk s H scope (compEnvC scope cl C X.env) fp) WF tg1 iter1 mi1)
    (hg1 : ∀ (s : Shared) (H : Hp) (C : Addr) (cl : List (Str × Addr)) (fp : List Addr), PG (X.blk s H scope (compEnvC scope cl C X.env) fp) tg1 g1') (gq1 : GQ X.K g1 is1 g1')
    (ht1 : ∀ (s : Shared) (H : Hp) (C : Addr) (cl : List (Str × Addr)) (fp : List Addr), PTs (X.blk s H scope (compEnvC scope cl C X.env) fp) ifs1 (lT X.K X.mg WF t1))
    (he : ∀ (s : Shared) (H : Hp) (C : Addr) (cl : List (Str × Addr)) (fp : List Addr), JE (X.blk s H scope (compEnvC scope cl C X.env) fp) WF elt m) (hs : ∀ x, foldedSetIterable iter X.env x = pure x := by intro _; rfl) (hs1 : ∀ env x, foldedSetIterable iter1 env x = pure x := by intro _ _; rfl) :
    JE X W (.ListComp elt [⟨tg, iter, ifs, 0⟩, ⟨tg1, iter1, ifs1, 0⟩] scope pos) (mL2 mi g t mi1 g1 t1 m (own.map (·.2)) vs1) := by
  exact PE_imp (pe_lc2 hc hN hi ok hv hg' ht hi1 hg1 ht1 he hs hs1) fun σ H Q h => llc2 his his1 gq gq1 (fun _ _ _ z => z) (fun _ _ _ z => z) (fun _ _ _ z => z) (fun _ _ _ z => z) h
end
end Z

set_option Elab.async false
set_option linter.all false
set_option maxRecDepth 100000
set_option maxHeartbeats 4000000
namespace Z
open PySem PySem.Spec PyProof.Rows L2
variable [Row]
abbrev MF := List D → Sto → Rs D
/-! ### operations that may run defs -/
def OpD (X : Cx) (W : WX) (f : Value → Value → Sem Value) (F : D → D → Sto → Rs D) : Prop :=
  ∀ (pins : List (Addr × Obj)) (s : Shared) (σ : L2.St) (H : Hp) (ρ : Nat → Addr) (st : Sto) (x y : D) (vx vy : V) (ux uy : Value) (Q : VK), Inv X pins σ H s → SR X.K X.mg ρ st H → VR X.K ρ st.length H x vx → VR X.K ρ st.length H y vy → RelV vx ux → RelV vy uy →
    Po X.K X.mg (VR X.K) W σ ρ st.length H (F x y st) Q → wpAny (model X.prog X.w) X.A (f ux uy) (EP X pins σ Q) X.xe s
section
variable {X : Cx} {W : WX} {k : Nat} {F : D → D → Sto → Rs D} {x : Str} {p pos apos pos' : Pos} {a b e o value : Expr} {es : List Expr} {ma mb m mo : EM D} {ms mk : EM (List D)} {f : Str}
theorem OpD.of {g : Value → Value → Sem Value} {r : R2} (ho : OpR X g r) (hp : Pr2 X W F r) : OpD X W g F :=
  fun pins s σ H ρ st x y vx vy ux uy Q I sr rx ry e1 e2 po => ho pins s σ H vx vy ux uy Q I e1 e2 (hp ρ st H σ x y vx vy Q sr rx ry po)
theorem je_opd {op : Operator} (h : OpD X W (binaryOp op) F) (ha : JE X W a ma) (hb : JE X W b mb) : JE X W (.BinOp a op b pos) (m2 F ma mb) := by
  refine ⟨fun pins s σ H Q I ⟨ρ, env, st, sr, er, po⟩ => wpAny_BinOp ?_⟩
  exact thn (ha.run pins s σ H _ I ⟨ρ, env, st, sr, er, Po.bind po⟩) fun u s1 ⟨v, H1, I1, r1, ρ1, st1, d1, e1, sr1, vr1, po1⟩ =>
    thn (hb.run pins s1 σ H1 _ I1 ⟨ρ1, env, st1, sr1, er.mono e1, Po.bind po1⟩) fun u2 s2 ⟨v2, H2, I2, r2, ρ2, st2, d2, e2, sr2, vr2, po2⟩ => h pins s2 σ H2 ρ2 st2 d1 d2 v v2 u u2 Q I2 sr2 (vr1.mono e2) vr2 r1 r2 po2
theorem je_cmpd {op : CmpOp} (h : OpD X W (compareOp op) F) (ha : JE X W a ma) (hb : JE X W b mb) (hm : behindInMarks op b = false) : JE X W (.Compare a [op] [b] pos) (m2 F ma mb) := by
  refine ⟨fun pins s σ H Q I ⟨ρ, env, st, sr, er, po⟩ => wpAny_Compare1 ?_ hm⟩
  exact thn (ha.run pins s σ H _ I ⟨ρ, env, st, sr, er, Po.bind po⟩) fun u s1 ⟨v, H1, I1, r1, ρ1, st1, d1, e1, sr1, vr1, po1⟩ =>
    thn (hb.run pins s1 σ H1 _ I1 ⟨ρ1, env, st1, sr1, er.mono e1, Po.bind po1⟩) fun u2 s2 ⟨v2, H2, I2, r2, ρ2, st2, d2, e2, sr2, vr2, po2⟩ => h pins s2 σ H2 ρ2 st2 d1 d2 v v2 u u2 Q I2 sr2 (vr1.mono e2) vr2 r1 r2 po2
theorem jt_cmpd {op : CmpOp} (h : OpD X W (compareOp op) F) (ha : JE X W a ma) (hb : JE X W b mb) (hm : behindInMarks op b = false) : JT X W (.Compare a [op] [b] pos) (toB (m2 F ma mb)) := by
  refine ⟨fun pins s σ H Q I ⟨ρ, env, st, sr, er, po⟩ => ?_⟩
  have po : Po X.K X.mg RB W σ ρ st.length H ((ma env st).bind fun x1 t1 => (mb env t1).bind fun y1 t2 => (F x1 y1 t2).bind fun d t3 => match d with | .bl q => .ok q t3 | _ => .no) Q := by
    have e : (toB (m2 F ma mb)) env st = (ma env st).bind fun x1 t1 => (mb env t1).bind fun y1 t2 => (F x1 y1 t2).bind fun d t3 => match d with | .bl q => .ok q t3 | _ => .no := by
      unfold toB m2
      rw [Rs.bind_assoc]
      congr 1
      funext x1 t1
      rw [Rs.bind_assoc]
      try rfl
    rw [← e]
    exact po
  refine wpAny_isTrue_Compare1 (thn (ha.run pins s σ H _ I ⟨ρ, env, st, sr, er, Po.bind po⟩) fun u s1 ⟨v, H1, I1, r1, ρ1, st1, d1, e1, sr1, vr1, po1⟩ =>
    thn (hb.run pins s1 σ H1 _ I1 ⟨ρ1, env, st1, sr1, er.mono e1, Po.bind po1⟩) fun u2 s2 ⟨v2, H2, I2, r2, ρ2, st2, d2, e2, sr2, vr2, po2⟩ =>
    thn (h pins s2 σ H2 ρ2 st2 d1 d2 v v2 u u2 _ I2 sr2 (vr1.mono e2) vr2 r1 r2 (Po.bind po2)) fun c s3 ⟨z, H3, I3, r3, ρ3, st3, d3, e3, sr3, vr3, po3⟩ => ?_) hm
  cases d3 with
  | bl q =>
    obtain rfl : z = .bl q := vr3
    cases r3
    exact wpAny_truthy_bool ⟨H3, I3, po3 ρ3 H3 q Ext.refl sr3 rfl⟩
  | _ => exact po3.elim
/-! ### attributes of instances -/
def insC (s : Sto) : D → Option Str
  | .ref n => match s[n]? with
    | some (.ins c _) => some c
    | _ => none
  | _ => none
def FldOk (K : PySem.W.Frag) (mg : Str → Option Value) (cs : List Str) (f : Str) : Prop := ∀ c ∈ cs, ∃ C, mg c = some (.ref C) ∧ Cls K C ∧ NoAttr K C f
theorem fld_nil {K : PySem.W.Frag} {mg : Str → Option Value} : FldOk K mg [] f := fun _ h => by simp at h
theorem fld_cons {K : PySem.W.Frag} {mg : Str → Option Value} {c : Str} {cs : List Str} {C : Addr} (h1 : mg c = some (.ref C)) (h2 : Cls K C) (h3 : NoAttr K C f) (t : FldOk K mg cs f) : FldOk K mg (c :: cs) f := fun d h => by
  rcases List.mem_cons.mp h with rfl | h
  · exact ⟨C, h1, h2, h3⟩
  · exact t d h
def gFld (cs : List Str) (f : Str) (d : D) (s : Sto) : Rs D := match d with
  | .ref n => match s[n]? with
    | some (.ins c fs) => if c ∈ cs then (match fs.lookup f with | some v => .ok v s | none => .no) else .no
    | _ => .no
  | _ => .no
def mFld (cs : List Str) (f : Str) (m : EM D) : EM D := fun e s => (m e s).bind fun d s1 => gFld cs f d s1
theorem je_fld {cs : List Str} (h : FldOk X.K X.mg cs f) (he : JE X W e m) (hb : attributeBase e f X.env (eval e X.env) = eval e X.env := by rfl) : JE X W (.Attribute e f pos) (mFld cs f m) :=
  PE_imp (pe_fld he hb) fun σ H Q ⟨ρ, env, s, sr, er, po⟩ => ⟨ρ, env, s, sr, er, (Po.bind po).imp fun v H1 ⟨ρ1, s1, d1, e1, sr1, r1, po1⟩ => by
    cases d1 with
    | ref n =>
      rw [VR] at r1
      obtain ⟨hn, rfl⟩ := r1
      unfold gFld at po1
      dsimp only at po1
      cases hs : s1[n]? with
      | none => rw [hs] at po1; exact po1.elim
      | some ob =>
        rw [hs] at po1
        cases ob with
        | ins c fs =>
          dsimp only at po1
          obtain ⟨hc, po1⟩ := Po.ite po1
          obtain ⟨C, dx, vs, g1, g2, g3⟩ := sr1.ob n _ hs
          obtain ⟨C', k1, k2, k3⟩ := h c hc
          rw [g1] at k1
          cases k1
          cases hl : fs.lookup f with
          | none => rw [hl] at po1; exact po1.elim
          | some d =>
            rw [hl] at po1
            obtain ⟨u, l, r⟩ := g3.lookup hl
            exact ⟨ρ1 n, C, dx, vs, u, rfl, g2, k2, k3, l, po1 ρ1 H1 u Ext.refl sr1 r⟩
        | _ => exact po1.elim
    | _ => exact po1.elim⟩
/-- o.f = value -/
def sFldD (cs : List Str) (f : Str) (mo m : EM D) : SM := fun e s => (m e s).st e fun v s1 => (mo e s1).st e fun d s2 => match d with
  | .ref n => match s2[n]? with
    | some (.ins c fs) => if c ∈ cs ∧ fs.length < 1000 then .nx e (s2.set n (.ins c (putD f v fs))) else .no
    | _ => .no
  | _ => .no
theorem FR.lenD {K : PySem.W.Frag} {ρ : Nat → Addr} {n : Nat} {H : Hp} {fs : List (Str × D)} {vs : List (Str × V)} (h : FR K ρ n H fs vs) : vs.length = fs.length := h.length
theorem PoS.ite {K : PySem.W.Frag} {mg : Str → Option Value} {D : Ends} {ρ : Nat → Addr} {n : Nat} {H : Hp} {c : Prop} [Decidable c] {r : RS} (h : PoS K mg W D ρ n H (if c then r else .no)) : c ∧ PoS K mg W D ρ n H r := by
  by_cases hc : c
  · rw [if_pos hc] at h
    exact ⟨hc, h⟩
  · rw [if_neg hc] at h
    exact h.elim
theorem js_fld {cs : List Str} (h : FldOk X.K X.mg cs f) (ho : JE X W o mo) (hv : JE X W value m) (hs : swapsWith value (some (.Attribute o f pos')) pos.line X.env = pure false := by rfl) : JS X W (.Assign [.Attribute o f pos'] value pos) (sFldD cs f mo m) :=
  PS_imp (ps_fld ho hv hs) fun σ H D ⟨ρ, env, s, sr, er, po⟩ => ⟨ρ, env, s, sr, er, (PoS.st er po).imp fun v H1 ⟨ρ1, s1, d1, e1, sr1, r1, er1, po1⟩ =>
    ⟨ρ1, env, s1, sr1, er1, (PoS.st er1 po1).imp fun v2 H2 ⟨ρ2, s2, d2, e2, sr2, r2, er2, po2⟩ => by
      cases d2 with
      | ref n =>
        rw [VR] at r2
        obtain ⟨hn, rfl⟩ := r2
        dsimp only at po2
        cases hs : s2[n]? with
        | none => rw [hs] at po2; exact po2.elim
        | some ob =>
          rw [hs] at po2
          cases ob with
          | ins c fs =>
            dsimp only at po2
            obtain ⟨⟨hc, hl⟩, po2⟩ := PoS.ite po2
            obtain ⟨C, dx, vs, g1, g2, g3⟩ := sr2.ob n _ hs
            obtain ⟨C', k1, k2, k3⟩ := h c hc
            rw [g1] at k1
            cases k1
            refine ⟨ρ2 n, C, dx, vs, rfl, g2, k2, k3, by rw [g3.length]; exact hl, ?_⟩
            have ext : Ext ρ2 s2.length H2 ρ2 s2.length (upd H2 (ρ2 n) (.ins C dx (putF f v vs))) := Ext.write (sr2.ob n _ hs) rfl
            have w := sr2.write (u := .ins C dx (putF f v vs)) hs (o' := .ins c (putD f d1 fs)) rfl rfl ⟨C, dx, _, g1, upd_same, (g3.mono ext).put ((r1.mono e2).mono ext)⟩
            have ext2 : Ext ρ2 s2.length H2 ρ2 (s2.set n (.ins c (putD f d1 fs))).length (upd H2 (ρ2 n) (.ins C dx (putF f v vs))) := by rw [List.length_set]; exact ext
            refine po2 ρ2 _ σ ext2 w ?_
            rw [List.length_set]
            exact er2.mono ext
          | _ => exact po2.elim
      | _ => exact po2.elim⟩⟩
end
end Z

set_option Elab.async false
set_option linter.all false
set_option maxRecDepth 100000
set_option maxHeartbeats 4000000
namespace Z
open PySem PySem.Spec PyProof.Rows L2
variable [Row]
/-- what may be called somewhere below the body X -/
theorem run_at2 {X : Cx} {k : Nat} {f : Addr} {sp : Sp} {E : L2.St → XK} {n : Option Nat} {ks : List Str} {A : Around} {pins : List (Addr × Obj)} {σ : L2.St} {H : Hp} {s : Shared} {Q : VK} {us ws : List Value} {vs zs : List V} (F : FnG X.prog X.w X.K X.mg X.base k f n ks sp) (hr : Rm k A)
    (e0 : Env0 X.prog X.w X.K X.mg X.base A X.stack s H) (hx : PassesAt (L2.CX X.prog X.w) X σ (E σ))
    (I : Inv X pins σ H s) (r : Vals vs us) (rz : Vals zs ws) (hn : ∀ m, n = some m → us.length = m) (hks : ws.length = ks.length) (h : sp (vs ++ zs) H Q (E σ)) : wpAny (model X.prog X.w) A (call (.ref f) us (ks.zip ws)) (EP X pins σ Q) X.xe s := by
  refine wpAny_call (codeAny_mono (F A X.stack s H us ws vs zs Q (E σ) hr e0 r rz hn hks h) fun r s' hq => ?_)
  cases r with
  | error e => exact hx pins H s e s' I hq
  | ok fl =>
    cases fl with
    | ret u => exact I.after hq
    | next => exact False.elim hq
    | brk => exact False.elim hq
    | cont => exact False.elim hq
theorem Rm.in1 {k : Nat} {A : Around} (r : Rm (k + 1) A) : Rm k A.in1 := ⟨r.room.in1, r.gd⟩
theorem make_guards {A : Around} {C : Addr} {us : List Value} {kw : List (Str × Value)} : (A.under (.builtin "type.__call__" ⟨.ref C :: us, kw⟩)).guards = A.guards := by
  first | rfl | (obtain ⟨hd, d, fr, gs, u⟩ := A; simp [Around.under, Code.weight, Code.isCreation, Code.isGuard, Code.isCaller, Code.frames, Code.isFrame, guardIds, Code.guards, pushGuards]) 
theorem Rm.make {k : Nat} {A : Around} (r : Rm (k + 1) A) (C : Addr) (us : List Value) (kw : List (Str × Value)) : Rm k (A.under (.builtin "type.__call__" ⟨.ref C :: us, kw⟩)) := ⟨r.room.make C us kw, by rw [make_guards]; exact r.gd⟩
/-! ### an own class made -/
/-- the class named c, its __init__ does F -/
def CMk (P : Program) (w : World) (K : PySem.W.Frag) (mg : Str → Option Value) (base : Heap) (k : Nat) (c : Str) (n : Option Nat) (ks : List Str) (F : MF) : Prop := ∃ C g, mg c = some (.ref C) ∧ Mk K C g ∧ FnG P w K mg base k g n ks (spF K mg F)
def mkD (c : Str) (F : MF) : MF := fun ds s => (F (.ref s.length :: ds) (s ++ [.ins c []])).bind fun d s2 => match d with | .non => .ok (.ref s.length) s2 | _ => .no
section
variable {X : Cx} {W : WX} {k : Nat} {F : MF} {x c : Str} {p pos apos pos' : Pos} {a b e o value : Expr} {es : List Expr} {kws : List Keyword} {ma mb m mo : EM D} {ms mk : EM (List D)} {f : Str} {n : Option Nat} {ks : List Str}
theorem Ext.lt {ρ ρ' : Nat → Addr} {n n' : Nat} {H H' : Hp} (e : Ext ρ n H ρ' n' H') {i : Nat} (h : i < n) : i < n' := Nat.lt_of_lt_of_le h e.le
theorem vrs_app {K : PySem.W.Frag} {ρ : Nat → Addr} {n : Nat} {H : Hp} {ds : List D} {vs zs : List V} (h : VRs K ρ n H ds (vs ++ zs)) : VRs K ρ n H (ds.take vs.length) vs ∧ VRs K ρ n H (ds.drop vs.length) zs := by
  have h1 := h.take vs.length
  have h2 := h.drop vs.length
  rw [List.take_left' rfl] at h1
  rw [List.drop_left' rfl] at h2
  exact ⟨h1, h2⟩
/-- F says what becomes of the new instance -/
theorem run_mk {C g : Addr} {pins : List (Addr × Obj)} {σ : L2.St} {H : Hp} {s : Shared} {Q : VK} {us ws : List Value} {vs zs : List V} {ρ : Nat → Addr} {st : Sto} {ds : List D} (hm : X.mg c = some (.ref C)) (M : Mk X.K C g) (G : FnG X.prog X.w X.K X.mg X.base k g n ks (spF X.K X.mg F)) (hr : Rm (k + 1) X.A) (tk : Takes X W)
    (I : Inv X pins σ H s) (r : Vals vs us) (rz : Vals zs ws) (hn : ∀ m, n = some m → us.length + 1 = m) (hks : ws.length = ks.length) (sr : SR X.K X.mg ρ st H) (vr : VRs X.K ρ st.length H ds (vs ++ zs)) (po : Po X.K X.mg (VR X.K) W σ ρ st.length H (mkD c F ds st) Q) :
    wpAny (model X.prog X.w) X.A (call (.ref C) us (ks.zip ws)) (EP X pins σ Q) X.xe s := by
  have nx : H (s.heap.objs.size + 1) = none := I.hok.fresh (Nat.le_succ _)
  have nd : H s.heap.objs.size = none := I.hok.fresh (Nat.le_refl _)
  have I2 := Inv.made (C := C) I
  have st2 : ∀ b o, H b = some o → upd (upd H s.heap.objs.size (.own (s.heap.objs.size + 1))) (s.heap.objs.size + 1) (.ins C s.heap.objs.size []) b = some o := fun b o e => by
    rw [upd_ne (ne_of_none e nx), upd_ne (ne_of_none e nd)]
    exact e
  have sr2 := sr.alloc (o := .ins c []) nx st2 ⟨C, s.heap.objs.size, [], hm, upd_same, rfl⟩
  have ext : Ext ρ st.length H (ρup ρ st.length (s.heap.objs.size + 1)) (st.length + 1) _ := Ext.alloc st2
  have len : (st ++ [SO.ins c []]).length = st.length + 1 := by rw [List.length_append] <;> rfl
  have vr2 : VRs X.K (ρup ρ st.length (s.heap.objs.size + 1)) (st ++ [SO.ins c []]).length (upd (upd H s.heap.objs.size (.own (s.heap.objs.size + 1))) (s.heap.objs.size + 1) (.ins C s.heap.objs.size [])) (.ref st.length :: ds) (V.ref (s.heap.objs.size + 1) :: (vs ++ zs)) := by
    rw [len]
    refine VRs.cons ?_ (vr.mono ext)
    rw [VR]
    exact ⟨Nat.lt_succ_self _, by rw [ρup_same]⟩
  refine wpAny_call (make_map (f := g) I.kIn M.makes M.init (beq_iff_eq.mp M.fn) (codeAny_mono (G _ X.stack _ _ (Value.ref (s.heap.objs.size + 1) :: us) ws (V.ref (s.heap.objs.size + 1) :: vs) zs (fun v H2 => v = .non ∧ Q (.ref (s.heap.objs.size + 1)) H2) (WE W σ) (hr.make C us (ks.zip ws))
    (I2.env0.make C us (ks.zip ws)) (.cons rfl r) rz (fun m hm => by rw [List.length_cons]; exact hn m hm) hks ⟨_, _, _, sr2, vr2, ?_⟩) fun r s' hq' => ?_))
  · have po2 := (Po.rebase po ext)
    rw [← len] at po2
    exact ((Po.bind po2).congr fun _ _ _ z => z).imp fun v H2 ⟨ρ2, s2, d2, e2, sr2, r2, po3⟩ => by
      cases d2 with
      | non =>
        obtain rfl : v = .non := r2
        refine ⟨rfl, po3 ρ2 H2 _ Ext.refl sr2 ?_⟩
        rw [VR]
        exact ⟨e2.lt (by rw [len]; exact Nat.lt_succ_self _), by rw [e2.ag _ (by rw [len]; exact Nat.lt_succ_self _), ρup_same]⟩
      | _ => exact po3.elim
  · cases r with
    | error e => exact passAt tk σ pins _ _ e s' I2 hq'
    | ok fl =>
      cases fl with
      | ret u =>
        obtain ⟨v, H', I3, rv, ev, q3⟩ := I2.after hq'
        subst ev
        exact ⟨rv, ⟨V.ref (s.heap.objs.size + 1), H', I3, rfl, q3⟩⟩
      | next => exact False.elim hq'
      | brk => exact False.elim hq'
      | cont => exact False.elim hq'
theorem je_mk (M : CMk X.prog X.w X.K X.mg X.base k x none [] F) (hr : Rm (k + 1) X.A) (tk : Takes X W) (hg : Gl X x) (ha : JA X W (e :: es) ms) (hdb : (x == ("__debug__" : Str)) = false := by decide)
    (he : starEach (e :: es) X.env = (false, eval e X.env) :: starEach es X.env := by rfl) (hpl : (backTo pos (starEach es X.env)).any (·.1) = false := by rfl) : JE X W (.Call (.Name x p) (e :: es) [] pos) (mN (mkD x F) ms) := by
  obtain ⟨C, g, hm, M, G⟩ := M
  refine ⟨fun pins s σ H Q I ⟨ρ, env, st, sr, er, po⟩ => ?_⟩
  refine wpAny_Call_Name_kw (ld_glob I hg hm ?_ hdb)
  refine PySem.W.callWith_K (h₀ := X.base) I.ok.mod.kin M.kp (thn (ha.run pos pins s σ H _ I ⟨ρ, env, st, sr, er, Po.bind po⟩) fun us s1 ⟨vs, H1, I1, r, ρ1, s2, ds, e1, sr1, r1, po1⟩ => ⟨I1.kIn, ?_⟩) he hpl
  exact run_mk (us := us) (ws := []) (zs := []) hm M G hr tk I1 r .nil (fun _ h => nomatch h) rfl sr1 (by rw [List.append_nil]; exact r1) po1
theorem je_mk0 (M : CMk X.prog X.w X.K X.mg X.base k x none [] F) (hr : Rm (k + 1) X.A) (tk : Takes X W) (hg : Gl X x) (hdb : (x == ("__debug__" : Str)) = false := by decide) : JE X W (.Call (.Name x p) [] [] pos) (mN (mkD x F) aN) := by
  obtain ⟨C, g, hm, M, G⟩ := M
  refine ⟨fun pins s σ H Q I ⟨ρ, env, st, sr, er, po⟩ => ?_⟩
  refine wpAny_Call_Name_kw (ld_glob I hg hm ?_ hdb)
  exact PySem.W.callWith_K0 I.kIn M.kp (run_mk (us := []) (ws := []) (vs := []) (zs := []) hm M G hr tk I .nil .nil (fun _ h => nomatch h) rfl sr VRs.nil po)
/-- C(e, .., k = v, ..) -/
theorem je_mkk {n : Nat} (M : CMk X.prog X.w X.K X.mg X.base k x (some (n + 1)) ks F) (hr : Rm (k + 1) X.A) (tk : Takes X W) (hg : Gl X x) (ha : JA X W (e :: es) ms) (hkw : JK X W kws mk)
    (hall : (backToKw pos (keywordEach kws X.env)).all (·.1.isSome) = true := by rfl) (hks : (backToKw pos (keywordEach kws X.env)).filterMap (·.1) = ks := by rfl) (hdb : (x == ("__debug__" : Str)) = false := by decide)
    (he : starEach (e :: es) X.env = (false, eval e X.env) :: starEach es X.env := by rfl) (hpl : ((backTo pos (starEach (e :: es) X.env)).any (·.1) || (backToKw pos (keywordEach kws X.env)).any (·.1.isNone)) = false := by rfl) :
    JE X W (.Call (.Name x p) (e :: es) kws pos) (mNk n ks.length (mkD x F) ms mk) := by
  obtain ⟨C, g, hm, M, G⟩ := M
  refine ⟨fun pins s σ H Q I ⟨ρ, env, st, sr, er, po⟩ => ?_⟩
  refine wpAny_Call_Name_kw (ld_glob I hg hm ?_ hdb)
  refine PySem.W.callWith_KW (h₀ := X.base) I.ok.mod.kin M.kp hall (thn (ha.run pos pins s σ H _ I ⟨ρ, env, st, sr, er, Po.bind po⟩) fun us s1 ⟨vs, H1, I1, r, ρ1, s2, ds, e1, sr1, r1, po1⟩ => ?_) hpl he
  refine thn (hkw.run pos pins s1 σ H1 _ I1 ⟨ρ1, env, s2, sr1, er.mono e1, Po.bind po1⟩) fun ws s3 ⟨zs, H3, I3, rz, ρ3, s4, ys, e3, sr3, r3, po3⟩ => ⟨I3.kIn, ?_⟩
  rw [hks]
  obtain ⟨⟨h1, h2⟩, po4⟩ := Po.ite po3
  exact run_mk hm M G hr tk I3 r rz (fun m hm => by cases hm; show us.length + 1 = _; rw [← r.length, r1.length, h1]) (by rw [← rz.length, r3.length]; exact h2) sr3 ((r1.mono e3).append r3) po4
/-! ### starred arguments -/
def aS (ma : EM D) (ms : EM (List D)) : EM (List D) := fun env s => (ma env s).bind fun x s1 => match seqD s1 x with
  | some xs => (ms env s1).bind fun ys s2 => .ok (xs ++ ys) s2
  | none => .no
theorem ja_star (he : JE X W e m) (hr : JA X W es ms) (hs : starEach (.Starred e p :: es) X.env = (true, eval e X.env) :: starEach es X.env := by rfl) : JA X W (.Starred e p :: es) (aS m ms) :=
  PA_imp (StX.pa_star he hr hs) fun σ H Q ⟨ρ, env, s, sr, er, po⟩ => ⟨ρ, env, s, sr, er, (Po.bind po).imp fun v H1 ⟨ρ1, s1, d1, e1, sr1, r1, po1⟩ => by
    dsimp only at po1
    cases hx : seqD s1 d1 with
    | none => rw [hx] at po1; exact po1.elim
    | some xs =>
      rw [hx] at po1
      obtain ⟨q, vs, rfl, sq, rr⟩ := vr_seq sr1 r1 (xs := xs) (by unfold seqD at hx; cases d1 <;> first | exact hx | cases hx)
      refine ⟨q, vs, rfl, ?_, ρ1, env, s1, sr1, er.mono e1, (Po.bind po1).imp fun us H2 ⟨ρ2, s2, d2, e2, sr2, r2, po2⟩ => po2 ρ2 _ _ Ext.refl sr2 ((rr.mono e2).append r2)⟩
      rcases sq with z | z
      · exact .inr z
      · exact .inl z⟩
/-- the class called with a starred part behind plain ones -/
theorem je_mkS (M : CMk X.prog X.w X.K X.mg X.base k x none [] F) (hr : Rm (k + 1) X.A) (tk : Takes X W) (hg : Gl X x) (ha : JA X W (e :: es) ms) (hdb : (x == ("__debug__" : Str)) = false := by decide)
    (he : starEach (e :: es) X.env = (false, eval e X.env) :: starEach es X.env := by rfl) (hpl : (backTo pos (starEach es X.env)).any (·.1) = true := by rfl) : JE X W (.Call (.Name x p) (e :: es) [] pos) (mN (mkD x F) ms) := by
  obtain ⟨C, g, hm, M, G⟩ := M
  refine ⟨fun pins s σ H Q I ⟨ρ, env, st, sr, er, po⟩ => ?_⟩
  refine wpAny_Call_Name_kw (ld_glob I hg hm ?_ hdb)
  refine PySem.W.callWith_S2 (h₀ := X.base) I.ok.mod.kin M.kp (thn (ha.run pos pins s σ H _ I ⟨ρ, env, st, sr, er, Po.bind po⟩) fun us s1 ⟨vs, H1, I1, r, ρ1, s2, ds, e1, sr1, r1, po1⟩ => ⟨I1.kIn, ?_⟩) he hpl
  exact run_mk (us := us) (ws := []) (zs := []) hm M G hr tk I1 r .nil (fun _ h => nomatch h) rfl sr1 (by rw [List.append_nil]; exact r1) po1
theorem evalArgs_two {M : Model} {A : Around} {E : Value → Shared → Prop} {s : Shared} {f : Value} {y z : Bool × Sem Value} {rest : List (Bool × Sem Value)} {Q : Args → Shared → Prop}
    (h : wpAny M A (spliced (y :: z :: rest)) (fun vs s' => Q ⟨vs, []⟩ s') E s) : wpAny M A (evalArgs f true (y :: z :: rest) []) Q E s := by
  unfold evalArgs
  obtain ⟨b, y⟩ := y
  cases b
  all_goals
    show wpAny M A (spliced (_ :: z :: rest) >>= _) Q E s
    refine wpAny_bind (thn h fun vs s' h' => ?_)
    exact wpAny_holding (wpAny_bind (wpAny_pure (wpAny_bind (wpAny_pure (wpAny_pure h')))))
/-- the class called with two or more parts, the first one starred -/
theorem je_mkS1 {e2 : Expr} (M : CMk X.prog X.w X.K X.mg X.base k x none [] F) (hr : Rm (k + 1) X.A) (tk : Takes X W) (hg : Gl X x) (ha : JA X W (e :: e2 :: es) ms) (hdb : (x == ("__debug__" : Str)) = false := by decide)
    (he : ∃ y z rest, backTo pos (starEach (e :: e2 :: es) X.env) = y :: z :: rest ∧ y.1 = true := by exact ⟨_, _, _, rfl, rfl⟩) : JE X W (.Call (.Name x p) (e :: e2 :: es) [] pos) (mN (mkD x F) ms) := by
  obtain ⟨C, g, hm, M, G⟩ := M
  refine ⟨fun pins s σ H Q I ⟨ρ, env, st, sr, er, po⟩ => ?_⟩
  refine wpAny_Call_Name_kw (ld_glob I hg hm ?_ hdb)
  obtain ⟨y, z, rest, h1, h2⟩ := he
  have key := thn (ha.run pos pins s σ H _ I ⟨ρ, env, st, sr, er, Po.bind po⟩) (Q' := fun us s1 => X.K.In s1.heap ∧ wpAny (model X.prog X.w) X.A (call (.ref C) ([] ++ us) []) (EP X pins σ Q) X.xe s1) fun us s1 ⟨vs, H1, I1, r, ρ1, s2, ds, e1, sr1, r1, po1⟩ =>
    ⟨I1.kIn, run_mk (us := us) (ws := []) (zs := []) hm M G hr tk I1 r .nil (fun _ h => nomatch h) rfl sr1 (by rw [List.append_nil]; exact r1) po1⟩
  show wpAny _ _ (callWith pos (.ref C) [] (backTo pos (starEach (e :: e2 :: es) X.env)) []) _ _ _
  rw [h1] at key ⊢
  exact PySem.W.ks_call (by rw [List.any_cons, h2] <;> rfl) (PySem.W.keeps_K M.kp) (evalArgs_two key)
/-- the class called with one starred part alone -/
def aS1 (ma : EM D) : EM (List D) := fun env s => (ma env s).bind fun x s1 => match seqD s1 x with
  | some xs => .ok xs s1
  | none => .no
theorem je_mkS0 {sp_ : Pos} (M : CMk X.prog X.w X.K X.mg X.base k x none [] F) (hr : Rm (k + 1) X.A) (tk : Takes X W) (hg : Gl X x) (ha : JE X W e m) (hdb : (x == ("__debug__" : Str)) = false := by decide)
    (hst : starEach [.Starred e sp_] X.env = [(true, eval e X.env)] := by rfl) : JE X W (.Call (.Name x p) [.Starred e sp_] [] pos) (mN (mkD x F) (aS1 m)) := by
  obtain ⟨C, g, hm, M, G⟩ := M
  refine ⟨fun pins s σ H Q I ⟨ρ, env, st, sr, er, po⟩ => ?_⟩
  refine wpAny_Call_Name_kw (ld_glob I hg hm ?_ hdb)
  have po : Po X.K X.mg (VR X.K) W σ ρ st.length H ((m env st).bind fun d s1 => (match seqD s1 d with | some xs => (.ok xs s1 : Rs (List D)) | none => .no).bind fun ds s2 => mkD x F ds s2) Q := by
    have e : (mN (mkD x F) (aS1 m)) env st = (m env st).bind fun d s1 => (match seqD s1 d with | some xs => (.ok xs s1 : Rs (List D)) | none => .no).bind fun ds s2 => mkD x F ds s2 := by
      unfold mN aS1
      rw [Rs.bind_assoc]
    rw [← e]
    exact po
  refine PySem.W.callWith_S (h₀ := X.base) I.ok.mod.kin M.kp (thn (ha.run pins s σ H _ I ⟨ρ, env, st, sr, er, Po.bind po⟩) fun v s1 ⟨y, H1, I1, ry, ρ1, s2, d1, e1, sr1, r1, po1⟩ => ?_) hst
  dsimp only at po1
  cases hx : seqD s2 d1 with
  | none => rw [hx] at po1; exact po1.elim
  | some xs =>
    rw [hx] at po1
    obtain ⟨q, vs, rfl, sq, rr⟩ := vr_seq sr1 r1 (xs := xs) (by unfold seqD at hx; cases d1 <;> first | exact hx | cases hx)
    obtain rfl : v = Value.ref q := ry
    exact StX.star_any I1 (sq.elim .inr .inl) fun us s3 I3 rv => ⟨I3.kIn, run_mk (us := us) (ws := []) (zs := []) hm M G hr tk I3 rv .nil (fun _ h => nomatch h) rfl sr1 (by rw [List.append_nil]; exact rr) po1⟩
end
/-! ### a def with a starred parameter -/
/-- the values by parameters: what is left over is a tuple -/
def starF (n : Nat) (F : MF) : MF := fun ds s => if n ≤ ds.length ∧ ds.length ≤ sizeLine then F (ds.take n ++ [.tup (ds.drop n)]) s else .no
section
variable {P : Program} {w : World} {K : PySem.W.Frag} {mg : Str → Option Value} {base : Heap} {k : Nat} {f : Addr} {fd : FuncData} {x qual : Str} {params : Arguments} {body : List Stmt} {scope : Scope} {N ps : List Str} {m : SM} {pv : Str}
theorem fs_star (F : FunD K x qual params body scope [] [] f fd) (S : FnScope N (ps ++ [pv]) scope) (hb : Body P w K mg base k N qual scope f body m)
    (h : ∀ (kV doc pm : Value) (an : Option Addr) (cdv ct : Value) (us rest : List Value), us.length = ps.length → bindArgs (PySem.W.fnOf x qual params body scope .none kV doc pm an cdv ct) ⟨us ++ rest, []⟩ = (newTuple rest >>= fun t => pure (ps.zip us ++ [(pv, t)]))) :
    FS P w K mg base (k + 1) f (starF ps.length (fnM (ps ++ [pv]).length N.length m)) := by
  obtain ⟨oc, od, dV, kV, doc, pm, an, cdv, ct, osl, rfl, lk, hcd, hD, hK⟩ := F.ex
  intro A outer st H us ws vs zs Q E hr e0 rv rz _ hks ⟨ρ, s, ds, sr, rd, po⟩
  have hz : ws = [] := List.eq_nil_of_length_eq_zero hks
  subst hz
  have hz : zs = [] := List.eq_nil_of_length_eq_zero rz.length
  subst hz
  rw [List.append_nil] at rd
  obtain ⟨⟨hl, hsz⟩, po⟩ := Po.ite po
  have hl1 := rv.length
  have hl2 := rd.length
  have rd1 := rd.take ps.length
  have rd2 := rd.drop ps.length
  have dV0 : dV = .none := by
    rcases hD with ⟨_, e⟩ | ⟨e, _⟩
    · exact e
    · exact absurd rfl e
  subst dV0
  have r1 : Vals (vs.take ps.length) (us.take ps.length) := by
    obtain ⟨u1, u2, e, a, b⟩ := StX.vals_split (ws := vs.take ps.length) (rest := vs.drop ps.length) (us := us) (by rw [List.take_append_drop]; exact rv)
    have : us.take ps.length = u1 := by
      rw [e, List.take_left']
      rw [← a.length, List.length_take]
      omega
    rw [this]
    exact a
  have r2 : Vals (vs.drop ps.length) (us.drop ps.length) := by
    obtain ⟨u1, u2, e, a, b⟩ := StX.vals_split (ws := vs.take ps.length) (rest := vs.drop ps.length) (us := us) (by rw [List.take_append_drop]; exact rv)
    have : us.drop ps.length = u2 := by
      rw [e, List.drop_left']
      rw [← a.length, List.length_take]
      omega
    rw [this]
    exact b
  have lt : (us.take ps.length).length = ps.length := by rw [List.length_take]; omega
  have hn : H st.heap.objs.size = none := e0.hok.fresh (Nat.le_refl _)
  have eqs : bindArgs (PySem.W.fnOf x qual params body scope .none kV doc pm an cdv ct) ⟨us, []⟩ = (newTuple (us.drop ps.length) >>= fun t => pure (ps.zip (us.take ps.length) ++ [(pv, t)])) := by
    have := h kV doc pm an cdv ct (us.take ps.length) (us.drop ps.length) lt
    rwa [List.take_append_drop] at this
  have hd2 : (us.drop ps.length).length ≤ sizeLine := by rw [List.length_drop]; omega
  refine StX.run_bnd (N := N) (ps := ps ++ [pv]) lk hcd S hr.room e0 (G := fun xs H2 => ∃ q, H q = none ∧ xs = vs.take ps.length ++ [V.ref q] ∧ H2 = upd H q (.tup (vs.drop ps.length))) (fun A' Ex Q' hh => ?_) fun s2 H2 xs ⟨q, hq, ex, eH⟩ hr' => ?_
  · show wpAny _ _ (bindArgs _ ⟨us, []⟩) _ _ _
    rw [eqs]
    refine wpAny_bind (wpAny_newTuple (wpAny_pure ?_) hd2)
    have new : ObjOk P w (upd H st.heap.objs.size (.tup (vs.drop ps.length))) (st.heap.push ({ cls := .type "tuple", data := .seq (us.drop ps.length).toArray } : Obj)) st.heap.objs.size (.tup (vs.drop ps.length)) :=
      ⟨by rw [r2.length]; exact hd2, us.drop ps.length, r2, ⟨_, Heap.get?_push_size _ rfl, rfl, _, rfl⟩⟩
    have un := StX.un_laid (fs := frs outer) (s := st) (o := ({ cls := .type "tuple", data := .seq (us.drop ps.length).toArray } : Obj)) (u := .tup (vs.drop ps.length)) hn
    have z := hh _ _ (vs.take ps.length ++ [V.ref st.heap.objs.size]) (us.take ps.length ++ [Value.ref st.heap.objs.size]) (StX.env0_laid e0 new) un rfl (fun e s' => StX.cxUp outer st H _ _ E e s' un (fun b o q => Heap.get?_push_of_some _ q) rfl) (r1.append (.cons rfl .nil))
      (by rw [List.length_append, List.length_append, r1.length, lt] <;> rfl) ⟨_, hn, rfl, rfl⟩
    rw [List.zip_append lt.symm] at z
    exact z
  · subst ex eH
    obtain ⟨ext, sr2, vt⟩ := new_tup sr hq rd2
    have rD : VRs K ρ s.length (upd H q (.tup (vs.drop ps.length))) (ds.take ps.length ++ [.tup (ds.drop ps.length)]) (vs.take ps.length ++ [V.ref q]) := (rd1.mono ext).append (VRs.cons vt VRs.nil)
    have po2 : Po K mg (VR K) (fun c d _ H => E c d H) [] ρ s.length (upd H q (.tup (vs.drop ps.length))) (fnM (ps ++ [pv]).length N.length m (ds.take ps.length ++ [.tup (ds.drop ps.length)]) s) Q := po.rebase ext
    exact ⟨_, hb cdv A outer s2 _ E ⟨hr', hr.gd⟩, ρ, _, s, sr2, envR_start rD, PoS.fin (σ := []) (Po.ite po2).2⟩
end
end Z

set_option Elab.async false
set_option linter.all false
set_option maxRecDepth 100000
set_option maxHeartbeats 4000000
namespace Z
open PySem PySem.Spec PyProof.Rows L2
variable [Row]
/-! ### methods: by the class of the receiver -/
abbrev Tb := List (Str × MF)
/-- the classes of the table have the method m, at level k -/
def MTab (P : Program) (w : World) (K : PySem.W.Frag) (mg : Str → Option Value) (base : Heap) (k : Nat) (tb : Tb) (m : Str) : Prop :=
  ∀ c F, tb.lookup c = some F → ∃ C g, mg c = some (.ref C) ∧ Cls K C ∧ Meth K C m g ∧ FS P w K mg base k g F
section
variable {P : Program} {w : World} {K : PySem.W.Frag} {mg : Str → Option Value} {base : Heap} {j k : Nat} {tb : Tb} {m c : Str} {F : MF}
theorem mtab_nil : MTab P w K mg base k [] m := fun _ _ h => by cases h
theorem mtab_cons {C g : Addr} (h1 : mg c = some (.ref C)) (h2 : Cls K C) (h3 : Meth K C m g) (h4 : FS P w K mg base j g F) (hj : j ≤ k) (t : MTab P w K mg base k tb m) : MTab P w K mg base k ((c, F) :: tb) m := fun d G h => by
  rw [List.lookup_cons] at h
  split at h
  · rename_i q
    cases h
    obtain rfl : d = c := eq_of_beq q
    exact ⟨C, g, h1, h2, h3, h4.mono hj⟩
  · exact t d G h
end
def mMeth (tb : Tb) (m : Str) (mo : EM D) (ms : EM (List D)) : EM D := fun e s => (mo e s).bind fun d s1 => match d with
  | .ref n => match s1[n]? with
    | some (.ins c fs) => match tb.lookup c with
      | some F => if (fs.lookup m).isNone then (ms e s1).bind fun ds s2 => F (.ref n :: ds) s2 else .no
      | none => .no
    | _ => .no
  | _ => .no
section
variable {X : Cx} {W : WX} {k : Nat} {tb : Tb} {x c m : Str} {p pos apos pos' : Pos} {a b e o value : Expr} {es : List Expr} {mo ma mb : EM D} {ms : EM (List D)}
/-- an instance of a class of the table -/
theorem meth_of (T : MTab X.prog X.w X.K X.mg X.base k tb m) {ρ : Nat → Addr} {s : Sto} {H : Hp} {n : Nat} {c : Str} {fs : List (Str × D)} {F : MF} (sr : SR X.K X.mg ρ s H) (hs : s[n]? = some (.ins c fs)) (hF : tb.lookup c = some F) :
    ∃ C dx vs g, H (ρ n) = some (.ins C dx vs) ∧ FR X.K ρ s.length H fs vs ∧ Cls X.K C ∧ Meth X.K C m g ∧ FS X.prog X.w X.K X.mg X.base k g F := by
  obtain ⟨C, dx, vs, g1, g2, g3⟩ := sr.ob n _ hs
  obtain ⟨C', g, h1, h2, h3, h4⟩ := T c F hF
  rw [g1] at h1
  cases h1
  exact ⟨C, dx, vs, g, g2, g3, h2, h3, h4⟩
theorem lookup_non {K : PySem.W.Frag} {ρ : Nat → Addr} {n : Nat} {H : Hp} {fs : List (Str × D)} {vs : List (Str × V)} (r : FR K ρ n H fs vs) (h : (fs.lookup m).isNone = true) : vs.lookup m = none := r.lookup_none (by
  cases e : fs.lookup m with
  | none => rfl
  | some d => rw [e] at h; cases h)
theorem je_meth (T : MTab X.prog X.w X.K X.mg X.base k tb m) (hr : Rm k X.A) (tk : Takes X W) {pl : Sem Bool} (ho : JE X W o mo) (ha : JA X W (e :: es) ms)
    (hst : starEach (e :: es) X.env = (false, eval e X.env) :: starEach es X.env := by rfl) (hpl : (backTo pos (starEach es X.env)).any (·.1) = false := by rfl)
    (ht : eval (.Call (.Attribute o m apos) (e :: es) [] pos) X.env = (do
      let ov ← eval o X.env
      standAt apos.atName
      let (f, first) ← holding [ov] (getMethod ov m pl)
      callWith pos f first (backTo pos (starEach (e :: es) X.env)) (backToKw pos (keywordEach [] X.env))) := by rfl) : JE X W (.Call (.Attribute o m apos) (e :: es) [] pos) (mMeth tb m mo ms) := by
  refine ⟨fun pins s σ H Q I ⟨ρ, env, st, sr, er, po⟩ => ?_⟩
  refine PySem.W.methodCall_KW (pl := pl) (thn (ho.run pins s σ H _ I ⟨ρ, env, st, sr, er, Po.bind po⟩) fun u s1 ⟨v, H1, I1, rx, ρ1, st1, d1, e1, sr1, vr1, po1⟩ => ?_) ht
  cases d1 with
  | ref n =>
    have vr1' := vr1
    rw [VR] at vr1
    obtain ⟨hn, rfl⟩ := vr1
    dsimp only at po1
    split at po1
    · rename_i c fs hs
      split at po1
      · rename_i F hF
        obtain ⟨hl, po1⟩ := Po.ite po1
        obtain ⟨C, dx, vs, g, g2, g3, h2, h3, h4⟩ := meth_of T sr1 hs hF
        obtain rfl : u = Value.ref (ρ1 n) := rx
        refine getmeth_ok I1 g2 h2 h3 (lookup_non g3 hl) ?_
        refine PySem.W.callWith_K (first := [.ref (ρ1 n)]) (h₀ := X.base) I1.ok.mod.kin h3.kp (thn (ha.run pos pins s1 σ H1 _ I1 ⟨ρ1, env, st1, sr1, er.mono e1, Po.bind po1⟩) fun us s2 ⟨ys, H2, I2, r, ρ2, st2, ds, e2, sr2, r2, po2⟩ => ⟨I2.kIn, ?_⟩) hst hpl
        exact run_at (E := WE W) (us := .ref (ρ1 n) :: us) (ws := []) (vs := .ref (ρ1 n) :: ys) (zs := []) h4 hr (passAt tk σ) I2 (.cons rfl r) .nil (fun _ h => nomatch h) rfl ⟨ρ2, st2, .ref n :: ds, sr2, by rw [List.append_nil]; exact VRs.cons (vr1'.mono e2) r2, po2.congr fun _ _ _ z => z⟩
      · exact po1.elim
    · exact po1.elim
  | _ => exact po1.elim
theorem je_meth0 (T : MTab X.prog X.w X.K X.mg X.base k tb m) (hr : Rm k X.A) (tk : Takes X W) {pl : Sem Bool} (ho : JE X W o mo)
    (ht : eval (.Call (.Attribute o m apos) [] [] pos) X.env = (do
      let ov ← eval o X.env
      standAt apos.atName
      let (f, first) ← holding [ov] (getMethod ov m pl)
      callWith pos f first (backTo pos (starEach [] X.env)) (backToKw pos (keywordEach [] X.env))) := by rfl) : JE X W (.Call (.Attribute o m apos) [] [] pos) (mMeth tb m mo aN) := by
  refine ⟨fun pins s σ H Q I ⟨ρ, env, st, sr, er, po⟩ => ?_⟩
  refine PySem.W.methodCall_KW (pl := pl) (thn (ho.run pins s σ H _ I ⟨ρ, env, st, sr, er, Po.bind po⟩) fun u s1 ⟨v, H1, I1, rx, ρ1, st1, d1, e1, sr1, vr1, po1⟩ => ?_) ht
  cases d1 with
  | ref n =>
    have vr1' := vr1
    rw [VR] at vr1
    obtain ⟨hn, rfl⟩ := vr1
    dsimp only at po1
    split at po1
    · rename_i c fs hs
      split at po1
      · rename_i F hF
        obtain ⟨hl, po1⟩ := Po.ite po1
        obtain ⟨C, dx, vs, g, g2, g3, h2, h3, h4⟩ := meth_of T sr1 hs hF
        obtain rfl : u = Value.ref (ρ1 n) := rx
        refine getmeth_ok I1 g2 h2 h3 (lookup_non g3 hl) ?_
        exact PySem.W.callWith_K0 (first := [.ref (ρ1 n)]) I1.kIn h3.kp (run_at (E := WE W) (us := [.ref (ρ1 n)]) (ws := []) (vs := [.ref (ρ1 n)]) (zs := []) h4 hr (passAt tk σ) I1 (.cons rfl .nil) .nil (fun _ h => nomatch h) rfl ⟨ρ1, st1, [.ref n], sr1, VRs.cons vr1' VRs.nil, po1.congr fun _ _ _ z => z⟩)
      · exact po1.elim
    · exact po1.elim
  | _ => exact po1.elim
/-! ### operators that the class of an instance does -/
/-- the instance's place in the library's words -/
theorem inst_look {pins : List (Addr × Obj)} {σ : L2.St} {H : Hp} {s : Shared} {a C dx : Addr} {vs : List (Str × V)} (I : Inv X pins σ H s) (ea : H a = some (.ins C dx vs)) : ∃ ox od, PySem.W.InstAt s.heap a ox C od ∧ ox.data = .plain := by
  obtain ⟨mA, O, _, _, _, _⟩ := ins_get I.hok ea
  obtain ⟨od, J, _⟩ := O.look
  exact ⟨_, _, J, rfl⟩
/-- its def, called at A with one more value -/
theorem own_call {A : Around} {F : MF} {g : Addr} {pins : List (Addr × Obj)} {σ : L2.St} {H : Hp} {s : Shared} {Q : VK} {us : List Value} {vs : List V} {ρ : Nat → Addr} {st : Sto} {ds : List D} (hF : FS X.prog X.w X.K X.mg X.base k g F) (hr : Rm k A) (e0 : Env0 X.prog X.w X.K X.mg X.base A X.stack s H) (tk : Takes X W)
    (I : Inv X pins σ H s) (r : Vals vs us) (sr : SR X.K X.mg ρ st H) (vr : VRs X.K ρ st.length H ds vs) (po : Po X.K X.mg (VR X.K) W σ ρ st.length H (F ds st) Q) : wpAny (model X.prog X.w) A (call (.ref g) us) (EP X pins σ Q) X.xe s :=
  run_at2 (E := WE W) (us := us) (ws := []) (vs := vs) (zs := []) hF hr e0 (passAt tk σ) I r .nil (fun _ h => nomatch h) rfl ⟨ρ, st, ds, sr, by rw [List.append_nil]; exact vr, po.congr fun _ _ _ z => z⟩
/-- x in y, x not in y -/
def dInO (neg : Bool) (tb : Tb) (B : D → D → Sto → Rs D) (x y : D) (s : Sto) : Rs D := match insC s y with
  | some c => match tb.lookup c with
    | some F => (F [y, x] s).bind fun d s1 => match d with | .bl b => .ok (.bl (neg ^^ b)) s1 | _ => .no
    | none => .no
  | none => B x y s
theorem insC_some {s : Sto} {d : D} {c : Str} (h : insC s d = some c) : ∃ n fs, d = .ref n ∧ s[n]? = some (.ins c fs) := by
  unfold insC at h
  split at h
  · rename_i n
    split at h
    · rename_i c' fs hs
      cases h
      exact ⟨n, fs, rfl, hs⟩
    · cases h
  · cases h
theorem opd_in {op : CmpOp} {neg : Bool} {B : D → D → Sto → Rs D} (hop : (op = .In ∧ neg = false) ∨ (op = .NotIn ∧ neg = true)) (T : MTab X.prog X.w X.K X.mg X.base k tb "__contains__") (hr : Rm k X.A) (tk : Takes X W) (hB : OpD X W (compareOp op) B) : OpD X W (compareOp op) (dInO neg tb B) := by
  intro pins s σ H ρ st x y vx vy ux uy Q I sr rx ry e1 e2 po
  unfold dInO at po
  split at po
  · rename_i c hc
    split at po
    · rename_i F hF
      obtain ⟨n, fs, rfl, hs⟩ := insC_some hc
      obtain ⟨C, dx, vs, g, g2, g3, h2, h3, h4⟩ := meth_of T sr hs hF
      have ry' := ry
      rw [VR] at ry
      obtain ⟨hn, rfl⟩ := ry
      obtain rfl : uy = Value.ref (ρ n) := e2
      obtain ⟨ox, od, J, _⟩ := inst_look I g2
      obtain ⟨m, hF⟩ := I.fr
      have run := own_call (us := [.ref (ρ n), ux]) (vs := [.ref (ρ n), vx]) h4 hr I.env0 tk I (.cons rfl (.cons e1 .nil)) sr (VRs.cons ry' (VRs.cons rx VRs.nil)) (Po.bind po)
      rcases hop with ⟨rfl, rfl⟩ | ⟨rfl, rfl⟩
      · refine PySem.W.in_K hF I.ok.mod.kin J h3.at_ h3.fn (thn run fun u s2 ⟨v, H2, I2, r2, ρ2, st2, d2, e3, sr2, vr2, po2⟩ => ?_)
        cases d2 with
        | bl q =>
          obtain rfl : v = .bl q := vr2
          cases r2
          exact wpAny_truthy_bool ⟨.bl q, H2, I2, rfl, by simpa using po2 ρ2 H2 (.bl q) Ext.refl sr2 (by rw [VR]; simp)⟩
        | _ => exact po2.elim
      · refine PySem.W.notIn_K hF I.ok.mod.kin J h3.at_ h3.fn (thn run fun u s2 ⟨v, H2, I2, r2, ρ2, st2, d2, e3, sr2, vr2, po2⟩ => ?_)
        cases d2 with
        | bl q =>
          obtain rfl : v = .bl q := vr2
          cases r2
          exact wpAny_truthy_bool ⟨.bl (!q), H2, I2, rfl, by simpa using po2 ρ2 H2 (.bl (!q)) Ext.refl sr2 (by rw [VR]; simp)⟩
        | _ => exact po2.elim
    · exact po.elim
  · exact hB pins s σ H ρ st x y vx vy ux uy Q I sr rx ry e1 e2 po
/-! ### o[i] -/
def IxD (X : Cx) (W : WX) (F : D → D → Sto → Rs D) : Prop :=
  ∀ (value slice : Expr) (pins : List (Addr × Obj)) (s : Shared) (σ : L2.St) (H : Hp) (ρ : Nat → Addr) (st : Sto) (x y : D) (vx vy : V) (ux uy : Value) (Q : VK), Inv X pins σ H s → SR X.K X.mg ρ st H → VR X.K ρ st.length H x vx → VR X.K ρ st.length H y vy → RelV vx ux → RelV vy uy →
    Po X.K X.mg (VR X.K) W σ ρ st.length H (F x y st) Q → (∀ v u, subscripted slice false v u = operate [v, u] (getItem v u)) → (∀ v u, subscripted slice true v u = runValue (.builtin "lifetime.subscript" ⟨[v, u], []⟩)) → wpAny (model X.prog X.w) X.A (subscriptTail value slice ux uy) (EP X pins σ Q) X.xe s
theorem ixd_of {F : D → D → Sto → Rs D} {r : R2} (hr : IxR X r) (hp : Pr2 X W F r) : IxD X W F := fun value slice pins s σ H ρ st x y vx vy ux uy Q I sr rx ry e1 e2 po h1 h2 =>
  hr value slice pins s σ H vx vy ux uy Q I e1 e2 (hp ρ st H σ x y vx vy Q sr rx ry po) (h1 _ _)
def dIxO (tb : Tb) (B : D → D → Sto → Rs D) (x y : D) (s : Sto) : Rs D := match insC s x with
  | some c => match tb.lookup c with
    | some F => F [x, y] s
    | none => .no
  | none => B x y s
def FnTab (K : PySem.W.Frag) (mg : Str → Option Value) (tb : Tb) (m : Str) : Prop := ∀ c F, tb.lookup c = some F → ∀ C g, mg c = some (.ref C) → Meth K C m g → PySem.W.fnIn K g = true
theorem ixd_own {B : D → D → Sto → Rs D} (T : MTab X.prog X.w X.K X.mg X.base k tb "__getitem__") (T2 : FnTab X.K X.mg tb "__getitem__") (hr : Rm (k + 1) X.A) (tk : Takes X W) (hB : IxD X W B) : IxD X W (dIxO tb B) := by
  intro value slice pins s σ H ρ st x y vx vy ux uy Q I sr rx ry e1 e2 po q1 q2
  unfold dIxO at po
  split at po
  · rename_i c hc
    split at po
    · rename_i F hF
      obtain ⟨n, fs, rfl, hs⟩ := insC_some hc
      obtain ⟨C, dx, vs, g, g2, g3, h2, h3, h4⟩ := meth_of T sr hs hF
      have hfn : PySem.W.fnIn X.K g = true := by
        obtain ⟨C', dx', vs', k1, k2, _⟩ := sr.ob n _ hs
        rw [g2] at k2
        cases k2
        exact T2 c F hF C g k1 h3
      have rx' := rx
      rw [VR] at rx
      obtain ⟨hn, rfl⟩ := rx
      obtain rfl : ux = Value.ref (ρ n) := e1
      obtain ⟨ox, od, J, _⟩ := inst_look I g2
      obtain ⟨m, hFr⟩ := I.fr
      exact PySem.W.sub_K hFr I.ok.mod.kin J h3.at_ hfn h3.fn (own_call (us := [.ref (ρ n), uy]) (vs := [.ref (ρ n), vy]) h4 hr.in1 I.env0.in1 tk I (.cons rfl (.cons e2 .nil)) sr (VRs.cons rx' (VRs.cons ry VRs.nil)) po) (q2 _ _)
    · exact po.elim
  · exact hB value slice pins s σ H ρ st x y vx vy ux uy Q I sr rx ry e1 e2 po q1 q2
theorem je_ixd {F : D → D → Sto → Rs D} (h : IxD X W F) (ha : JE X W a ma) (hb : JE X W b mb) (hs : ∀ v u, subscripted b false v u = operate [v, u] (getItem v u) := by exact fun _ _ => rfl) (hs2 : ∀ v u, subscripted b true v u = runValue (.builtin "lifetime.subscript" ⟨[v, u], []⟩) := by (intro v u; with_unfolding_all rfl)) :
    JE X W (.Subscript a b pos) (m2 F ma mb) := by
  refine ⟨fun pins s σ H Q I ⟨ρ, env, st, sr, er, po⟩ => Subscript_ ?_⟩
  exact thn (ha.run pins s σ H _ I ⟨ρ, env, st, sr, er, Po.bind po⟩) fun u s1 ⟨v, H1, I1, r1, ρ1, st1, d1, e1, sr1, vr1, po1⟩ =>
    thn (hb.run pins s1 σ H1 _ I1 ⟨ρ1, env, st1, sr1, er.mono e1, Po.bind po1⟩) fun u2 s2 ⟨v2, H2, I2, r2, ρ2, st2, d2, e2, sr2, vr2, po2⟩ => h a b pins s2 σ H2 ρ2 st2 d1 d2 v v2 u u2 Q I2 sr2 (vr1.mono e2) vr2 r1 r2 po2 hs hs2
/-! ### len(o) -/
def CallD (X : Cx) (W : WX) (f : Value) (F : MF) : Prop :=
  ∀ (pins : List (Addr × Obj)) (s : Shared) (σ : L2.St) (H : Hp) (ρ : Nat → Addr) (st : Sto) (ds : List D) (vs : List V) (us : List Value) (Q : VK), Inv X pins σ H s → SR X.K X.mg ρ st H → VRs X.K ρ st.length H ds vs → Vals vs us →
    Po X.K X.mg (VR X.K) W σ ρ st.length H (F ds st) Q → wpAny (model X.prog X.w) X.A (call f us) (EP X pins σ Q) X.xe s
theorem calld_of {f : Value} {F : MF} {r : List V → Hp → VK → Prop} (hr : CallR X f r) (hp : PrN X W F r) : CallD X W f F := fun pins s σ H ρ st ds vs us Q I sr vr r po => hr pins s σ H vs us Q I r (hp ρ st H σ ds vs Q sr vr po)
theorem je_cbd {id : String} {F : MF} (hc : CallD X W (.builtin id) F) (hg : Gl X x) (hm : X.mg x = none) (hv : bootBuiltins x = some (.builtin id)) (ha : JA X W (e :: es) ms) (hn : x ≠ "__name__" := by decide) (hdb : (x == ("__debug__" : Str)) = false := by decide)
    (he : starEach (e :: es) X.env = (false, eval e X.env) :: starEach es X.env := by rfl) (hpl : (backTo pos (starEach es X.env)).any (·.1) = false := by rfl) : JE X W (.Call (.Name x p) (e :: es) [] pos) (mN F ms) := by
  refine ⟨fun pins s σ H Q I ⟨ρ, env, st, sr, er, po⟩ => ?_⟩
  refine wpAny_Call_Name_kw (ld_blt I hg hm hv ?_ hn hdb)
  exact PyProof.Rows.callWith_builtin1 (thn (ha.run pos pins s σ H _ I ⟨ρ, env, st, sr, er, Po.bind po⟩) fun us s1 ⟨vs, H1, I1, r1, ρ1, st1, ds, e1, sr1, vr1, po1⟩ => hc pins s1 σ H1 ρ1 st1 ds vs us Q I1 sr1 vr1 r1 po1) he hpl
theorem je_ctd {T : String} {F : MF} (hc : CallD X W (.type T) F) (hg : Gl X x) (hm : X.mg x = none) (hv : bootBuiltins x = some (.type T)) (ha : JA X W (e :: es) ms) (hn : x ≠ "__name__" := by decide) (hdb : (x == ("__debug__" : Str)) = false := by decide)
    (he : starEach (e :: es) X.env = (false, eval e X.env) :: starEach es X.env := by rfl) (hpl : (backTo pos (starEach es X.env)).any (·.1) = false := by rfl) : JE X W (.Call (.Name x p) (e :: es) [] pos) (mN F ms) := by
  refine ⟨fun pins s σ H Q I ⟨ρ, env, st, sr, er, po⟩ => ?_⟩
  refine wpAny_Call_Name_kw (ld_blt I hg hm hv ?_ hn hdb)
  exact PyProof.Rows.callWith_type1 (thn (ha.run pos pins s σ H _ I ⟨ρ, env, st, sr, er, Po.bind po⟩) fun us s1 ⟨vs, H1, I1, r1, ρ1, st1, ds, e1, sr1, vr1, po1⟩ => hc pins s1 σ H1 ρ1 st1 ds vs us Q I1 sr1 vr1 r1 po1) he hpl
def fLenO (tb : Tb) (B : MF) : MF := fun ds s => match ds with
  | [d] => match insC s d with
    | some c => match tb.lookup c with
      | some F => (F [d] s).bind fun d1 s1 => match d1 with | .int i => if 0 ≤ i ∧ i < 2 ^ 63 then .ok (.int i) s1 else .no | _ => .no
      | none => .no
    | none => B ds s
  | _ => B ds s
theorem calld_len {B : MF} (T : MTab X.prog X.w X.K X.mg X.base k tb "__len__") (hr : Rm (k + 1) X.A) (tk : Takes X W) (hB : CallD X W (.builtin "len") B) : CallD X W (.builtin "len") (fLenO tb B) := by
  intro pins s σ H ρ st ds vs us Q I sr vr r po
  unfold fLenO at po
  split at po
  · rename_i d
    split at po
    · rename_i c hc
      split at po
      · rename_i F hF
        obtain ⟨n, fs, rfl, hs⟩ := insC_some hc
        obtain ⟨C, dx, vs', g, g2, g3, h2, h3, h4⟩ := meth_of T sr hs hF
        obtain ⟨v, rfl, vr'⟩ := vr.one
        have vr2 := vr'
        rw [VR] at vr'
        obtain ⟨hn, rfl⟩ := vr'
        cases r with
        | cons r1 r2 =>
          cases r2
          obtain rfl : _ = Value.ref (ρ n) := r1
          obtain ⟨ox, od, J, _⟩ := inst_look I g2
          obtain ⟨m, hFr⟩ := I.fr
          refine PySem.W.len_K hFr I.ok.mod.kin J h3.at_ h3.fn (thn (own_call (us := [.ref (ρ n)]) (vs := [.ref (ρ n)]) h4 hr.in1 I.env0.in1 tk I (.cons rfl .nil) sr (VRs.cons vr2 VRs.nil) (Po.bind po)) fun u s2 ⟨v, H2, I2, r2, ρ2, st2, d2, e3, sr2, vr3, po2⟩ => ?_)
          cases d2 with
          | int i =>
            obtain rfl : v = .int i := vr3
            obtain ⟨t, rfl⟩ := r2
            obtain ⟨hi, po2⟩ := Po.ite po2
            exact ⟨hi, .int i, H2, I2.tok _, ⟨_, rfl⟩, po2 ρ2 H2 (.int i) Ext.refl sr2 (by rw [VR])⟩
          | _ => exact po2.elim
      · exact po.elim
    · exact hB pins s σ H ρ st _ vs us Q I sr vr r po
  · exact hB pins s σ H ρ st _ vs us Q I sr vr r po
end
end Z

set_option Elab.async false
set_option linter.all false
set_option maxRecDepth 100000
set_option maxHeartbeats 4000000
namespace Z
open PySem PySem.Spec PyProof.Rows L2
variable [Row]
/-! ### a class whose __iter__ walks a tuple of its own -/
/-- what its __iter__ at g does: a new walk over the tuple in the attribute f -/
def IterG (P : Program) (w : World) (K : PySem.W.Frag) (mg : Str → Option Value) (base : Heap) (k : Nat) (g C : Addr) (f : Str) : Prop :=
  ∀ (A : Around) (outer : List Env) (st : Shared) (H : Hp) (a dx t : Addr) (vs : List (Str × V)) (xs : List V), Rm k A → Env0 P w K mg base A outer st H → H a = some (.ins C dx vs) → vs.lookup f = some (.ref t) → SqT K H t xs →
    codeAny (model P w) A (.call (.ref g) ⟨[.ref a], []⟩) (fun r s' => ∃ it, r = .ok (.ret (.ref it)) ∧ CE outer P w H st (fun _ H' => H' = H) (.ref it) s' ∧ s'.heap.IsTupleIter it t 0 ∧ st.heap.objs.size ≤ it) st
theorem call_iter_tup {prog : Program} {w : World} {A : Around} {E : Value → Shared → Prop} {s : Shared} {t : Addr} {items : Array Value} {Q : Value → Shared → Prop} (ht : s.heap.IsTuple t items)
    (h : Q (.ref s.heap.objs.size) { s with heap := s.heap.push { cls := .type "tuple_iterator", data := .fields #[.ref t, .int 0 0] } }) : wpAny (model prog w) A (call (.builtin "iter") [.ref t]) Q E s := by
  refine Calls.call_function_entry (by decide +kernel) (by decide +kernel) PySem.W.kdk_entry_iter (PySem.W.kdk_args_iter _) ?_
  unfold Builtin.«iter»
  refine wpAny_bind (m := someArgs "iter" 1 2 _) (wpAny_of_eq (a := [Value.ref t]) (by first | rfl | kernel_rfl!) ?_)
  show wpAny _ _ (pyIter (.ref t) >>= _) _ _ s
  exact wpAny_bind (wpAny_pyIter_tuple ht (wpAny_pure ⟨_, rfl, h⟩))
section
variable {P : Program} {w : World} {K : PySem.W.Frag} {mg : Str → Option Value} {base : Heap} {k : Nat} {g C : Addr} {fd : FuncData} {x qual f : Str} {params : Arguments} {body : List Stmt} {scope : Scope} {N : List Str}
theorem iter_fn {p1 p2 p3 p4 p5 : Pos} (F : FunD K x qual params body scope [] [] g fd) (S : FnScope N ["self"] scope) (hN : N[0]? = some ("self" : Str)) (hb : body = [.Return (some (.Call (.Name "iter" p1) [.Attribute (.Name "self" p2) f p3] [] p4)) p5])
    (hgl : scope.names.lookup ("iter" : Str) = some .globalImplicit) (hm : mg ("iter" : Str) = none) (c : Cls K C) (na : NoAttr K C f)
    (h : ∀ (kV doc pm : Value) (an : Option Addr) (cdv ct : Value) (u : Value), bindArgs (PySem.W.fnOf x qual params body scope .none kV doc pm an cdv ct) ⟨[u], []⟩ = pure [(("self" : Str), u)]) : IterG P w K mg base (k + 1) g C f := by
  obtain ⟨oc, od, dV, kV, doc, pm, an, cdv, ct, osl, rfl, lk, hcd, hD, hK⟩ := F.ex
  intro A outer st H a dx t vs xs hr e0 ea hl sq
  have dV0 : dV = .none := by
    rcases hD with ⟨_, e⟩ | ⟨e, _⟩
    · exact e
    · exact absurd rfl e
  subst dV0
  have inK : K.In st.heap := e0.mod.kin.keeps fun b o e => (e0.bs b o e).1
  have noL : st.heap.NoLimit := e0.mod.nolimit.keeps fun b o e => (e0.bs b o e).1
  have kinds : ∀ y ∈ (["self"] : List Str).zip [Value.ref a], scope.names.lookup y.1 = some .local ∨ (scope.names.lookup y.1 = some .cell ∧ ((cellsFrom (st.heap.objs.size + 1) scope.names []).lookup y.1).isSome = true) := by
    rintro ⟨z, u⟩ hz
    rcases S.par z (List.of_mem_zip hz).1 with q | q
    · exact .inl q
    · exact .inr ⟨q, PySem.W.cellsFrom_some _ _ _ (.inl q)⟩
  refine codeAny_call_function hr.room.depth (inK _ _ lk) rfl S.co S.gen rfl (PySem.W.codeRec_of inK hcd) ?_
  rw [h kV doc pm an cdv ct (.ref a)]
  refine wpAny_pure (wpAny_newFunctionEnv_cells (S.kind) kinds fun env he st1 xx => ?_)
  subst he
  refine ⟨noL.keeps xx.toInCall.keep, codeAny_func ?_⟩
  have I := inv_start (CX := L2.CX P w) (E := fun _ _ _ => False) (vs := [V.ref a]) S hr.room.hd e0 rfl (.cons rfl .nil) xx
  subst hb
  have vis : Vis scope ("self" : Str) := (S.par "self" (List.Mem.head _)).elim (fun z => .inl z) (fun z => .inr (.inl z))
  refine wpAny_execs_cons (wpAny_Return_some (wpAny_Call_Name_kw (ld_blt I (u := .builtin "iter") hgl hm (by decide +kernel) ?_ (by decide) (by decide))))
  refine PyProof.Rows.callWith_builtin1 ?_ rfl rfl
  show wpAny _ _ (spliced (backTo _ (starEach [.Attribute (.Name "self" p2) f p3] (cxOf (L2.CX P w) P w K mg base N qual scope g cdv A outer st H fun _ _ _ => False).env))) _ _ _
  have pf : PA (cxOf (L2.CX P w) P w K mg base N qual scope g cdv A outer st H fun _ _ _ => False) [.Attribute (.Name "self" p2) f p3] _ := pa_cons (pe_fld (pe_var (i := 0) hN vis) rfl) pa_nil
  refine wpAny_mono (pf.run p4 [] st1 (L2.start N [V.ref a]) H (fun vs H' => vs = [V.ref t] ∧ H' = H) I ?_) (fun us s2 ⟨ys, H2, I2, r, e1, e2⟩ => ?_) fun e s' z => ?_
  · exact ⟨.ref a, by unfold L2.start; rfl, a, C, dx, vs, .ref t, rfl, ea, c, na, hl, rfl, rfl⟩
  · subst e1 e2
    cases r with
    | cons r1 r2 =>
      cases r2
      obtain rfl : _ = Value.ref t := r1
      obtain ⟨its, rv, p, hz⟩ := I2.tuple sq
      refine call_iter_tup (items := its.toArray) p ?_
      have J := I2.kept (h' := s2.heap.push { cls := .type "tuple_iterator", data := .fields #[.ref t, .int 0 0] }) (t' := s2.toks) fun b o e => Heap.get?_push_of_some _ e
      exact ⟨s2.heap.objs.size, rfl, ⟨V.ref s2.heap.objs.size, H2, J.os, J.bare, J.base, J.hok, rfl, rfl⟩, ⟨_, Heap.get?_push_size _ rfl, rfl, rfl⟩, I2.sz⟩
  · exact wpAny_mono z (fun _ s'' zz => by
      obtain ⟨_, _, _, _, _, _, _, _, _, _, _, _, zz⟩ := zz
      exact zz.elim) fun e' s'' zz => by
      obtain ⟨_, _, _, _, _, _, _, _, _, _, _, _, zz⟩ := zz
      exact zz.elim
end
/-- class, the attribute that its __iter__ walks -/
abbrev Itb := List (Str × Str)
def ITab (P : Program) (w : World) (K : PySem.W.Frag) (mg : Str → Option Value) (base : Heap) (k : Nat) (tb : Itb) : Prop :=
  ∀ c f, tb.lookup c = some f → ∃ C g, mg c = some (.ref C) ∧ Meth K C "__iter__" g ∧ IterG P w K mg base k g C f
section
variable {P : Program} {w : World} {K : PySem.W.Frag} {mg : Str → Option Value} {base : Heap} {j k : Nat} {tb : Itb} {f c : Str}
theorem itab_nil : ITab P w K mg base k [] := fun _ _ h => by cases h
theorem itab_cons {C g : Addr} (h1 : mg c = some (.ref C)) (h3 : Meth K C "__iter__" g) (h4 : IterG P w K mg base j g C f) (hj : j ≤ k) (t : ITab P w K mg base k tb) : ITab P w K mg base k ((c, f) :: tb) := fun d h' h => by
  rw [List.lookup_cons] at h
  split at h
  · rename_i q
    cases h
    obtain rfl : d = c := eq_of_beq q
    exact ⟨C, g, h1, h3, fun A outer st H a dx t vs xs hr => h4 A outer st H a dx t vs xs (hr.mono hj)⟩
  · exact t d h' h
end
/-- the items of the tuple that an instance walks -/
def itsO (tb : Itb) (s : Sto) (d : D) : Option (Option (List D)) := match d with
  | .ref n => match s[n]? with
    | some (.ins c fs) => some (match tb.lookup c with
      | some f => match fs.lookup f with | some (.tup xs) => some xs | _ => none
      | none => none)
    | _ => none
  | _ => none
def walkD (s : Sto) (d : D) : Rs (Nat × Stp) := match d with
  | .tup ds => .ok (ds.length, jTup ds) s
  | .ref n => match s[n]? with
    | some (.lst xs) => .ok (xs.length, jLst n) s
    | some (.frz xs) => .ok (xs.length, jLst n) s
    | _ => .no
  | _ => .no
def iOwn (tb : Itb) (m : EM D) : EM (Nat × Stp) := fun e s => (m e s).bind fun d s1 => match itsO tb s1 d with
  | some (some xs) => .ok (xs.length, jTup xs) s1
  | some none => .no
  | none => walkD s1 d
section
variable {X : Cx} {W : WX} {k : Nat} {tb : Itb} {tg e : Expr} {m : EM D}
theorem itsO_some {s : Sto} {d : D} {xs : List D} (h : itsO tb s d = some (some xs)) : ∃ n c fs f, d = .ref n ∧ s[n]? = some (.ins c fs) ∧ tb.lookup c = some f ∧ fs.lookup f = some (.tup xs) := by
  unfold itsO at h
  split at h
  · rename_i n
    split at h
    · rename_i c fs hs
      split at h
      · rename_i f hf
        split at h
        · rename_i ys hy
          cases h
          exact ⟨n, c, fs, f, rfl, hs, hf, hy⟩
        · cases h
      · cases h
    · cases h
  · cases h
/-- the walk's start, by values -/
theorem walk_start {pins : List (Addr × Obj)} {s : Shared} {σ : L2.St} {H : Hp} {ρ : Nat → Addr} {st : Sto} {d : D} {v : V} {u : Value} {R : It → Hp → Prop} {W' : WX} (I : Inv X pins σ H s) (sr : SR X.K X.mg ρ st H) (vr : VR X.K ρ st.length H d v) (ru : RelV v u)
    (po : Po X.K X.mg (RI X.K X.mg) W' σ ρ st.length H (walkD st d) R) : wpAny (model X.prog X.w) X.A (pyIter u) (PIE X pins σ tg R) X.xe s := by
  have lst : ∀ a, (∃ xs, SqL X.K H a xs) → R (Itl X.K a) H → wpAny (model X.prog X.w) X.A (pyIter (.ref a)) (PIE X pins σ tg R) X.xe s := fun a ⟨xs, hq⟩ q => by
    obtain ⟨its, rv, p, hz⟩ := I.list hq
    refine wpAny_pyIter_list p.isList ?_
    refine ⟨s.heap.objs.size, [s.heap.objs.size], _, _, H, rfl, I.kept (t' := s.toks) fun b o e => Heap.get?_push_of_some _ e, turn_list a _, ⟨_, Heap.get?_push_size _ rfl, rfl, rfl⟩, fun b hb => ?_, q⟩
    have e : b = s.heap.objs.size := by simpa using hb
    subst e
    exact I.fpOk (Nat.le_refl _) (I.hok.fresh (Nat.le_refl _))
  cases d with
  | tup ds =>
    rw [VR] at vr
    obtain ⟨a, vs, rfl, sq, r⟩ := vr
    obtain rfl : u = Value.ref a := ru
    obtain ⟨its, rv, p, hz⟩ := I.tuple sq
    refine wpAny_pyIter_tuple (show s.heap.IsTuple a its.toArray from p) ?_
    refine ⟨s.heap.objs.size, [s.heap.objs.size], _, _, H, rfl, I.kept (t' := s.toks) fun b o e => Heap.get?_push_of_some _ e, turn_tuple a _, ⟨_, Heap.get?_push_size _ rfl, rfl, rfl⟩, fun b hb => ?_, po ρ H _ Ext.refl sr (ri_tup sq r)⟩
    have e : b = s.heap.objs.size := by simpa using hb
    subst e
    exact I.fpOk (Nat.le_refl _) (I.hok.fresh (Nat.le_refl _))
  | ref n =>
    rw [VR] at vr
    obtain ⟨hn, rfl⟩ := vr
    obtain rfl : u = Value.ref (ρ n) := ru
    unfold walkD at po
    dsimp only at po
    cases e : st[n]? with
    | none => rw [e] at po; exact po.elim
    | some o =>
      rw [e] at po
      cases o with
      | lst xs =>
        obtain ⟨vs, sq, _⟩ := sr.lst (n := n) (xs := xs) (by unfold lstAt; rw [e])
        exact lst _ ⟨vs, sq⟩ (po ρ H _ Ext.refl sr (ri_lst hn))
      | frz xs =>
        obtain ⟨vs, sq, _⟩ := sr.lst (n := n) (xs := xs) (by unfold lstAt; rw [e])
        exact lst _ ⟨vs, sq⟩ (po ρ H _ Ext.refl sr (ri_lst hn))
      | _ => exact po.elim
  | _ => exact po.elim
theorem ji_own (T : ITab X.prog X.w X.K X.mg X.base k tb) (hr : Rm k X.A) (he : JE X W e m) : JI X W tg e (iOwn tb m) := by
  refine ⟨fun pins s σ H R I ⟨ρ, env, st, sr, er, po⟩ => ?_⟩
  refine thn (he.run pins s σ H _ I ⟨ρ, env, st, sr, er, Po.bind po⟩) fun u s1 ⟨v, H1, I1, r1, ρ1, st1, d1, e1, sr1, vr1, po1⟩ => ?_
  dsimp only at po1
  split at po1
  · rename_i xs hx
    obtain ⟨n, c, fs, f, rfl, hs, hf, hl⟩ := itsO_some hx
    rw [VR] at vr1
    obtain ⟨hn, rfl⟩ := vr1
    obtain rfl : u = Value.ref (ρ1 n) := r1
    obtain ⟨C, dx, vs, g1, g2, g3⟩ := sr1.ob n _ hs
    obtain ⟨C', g, k1, k2, k3⟩ := T c f hf
    rw [g1] at k1
    cases k1
    obtain ⟨t, ht, vt⟩ := g3.lookup hl
    rw [VR] at vt
    obtain ⟨a, zs, rfl, sq, rr⟩ := vt
    obtain ⟨ox, od, J, _⟩ := inst_look I1 g2
    obtain ⟨m0, hFr⟩ := I1.fr
    refine PySem.W.owit_iter hFr I1.ok.mod.kin J k2.at_ k2.fn (wpAny_call (codeAny_mono (k3 X.A X.stack s1 H1 (ρ1 n) dx a vs zs hr I1.env0 g2 ht sq) fun r s2 ⟨it, e2, ce, hit, hsz⟩ => ?_))
    subst e2
    obtain ⟨v2, H2, I2, rv, eH⟩ := I1.after ce
    subst eH
    show PySem.W.OwitIt _ _ _ _ _ _
    unfold PySem.W.OwitIt
    refine wpAny_specialOf hit.typeIs PySem.F.slot_tuple_iterator_next.lookup ?_
    refine ⟨it, [it], _, _, H2, rfl, I2, turn_tuple a it, hit, fun b hb => ?_, po1 ρ1 H2 _ Ext.refl sr1 (ri_tup sq rr)⟩
    have e : b = it := by simpa using hb
    subst e
    exact I1.fpOk hsz (I1.hok.fresh hsz)
  · exact po1.elim
  · exact walk_start I1 sr1 vr1 r1 po1
end
end Z

set_option Elab.async false
set_option linter.all false
set_option maxRecDepth 100000
set_option maxHeartbeats 4000000
namespace Z
open PySem PySem.Spec PyProof.Rows L2
variable [Row]
section
variable {X : Cx} {W : WX} {k : Nat} {tb : Tb} {itb : Itb} {x c m : Str}
/-- a def that raises nothing, called at A -/
theorem own_callN {A : Around} {F : MF} {g : Addr} {pins : List (Addr × Obj)} {σ : L2.St} {H : Hp} {s : Shared} {Q : VK} {us : List Value} {vs : List V} {ρ : Nat → Addr} {st : Sto} {ds : List D} {Ex : Value → Shared → Prop} (hF : FS X.prog X.w X.K X.mg X.base k g F) (hr : Rm k A) (e0 : Env0 X.prog X.w X.K X.mg X.base A X.stack s H)
    (I : Inv X pins σ H s) (r : Vals vs us) (sr : SR X.K X.mg ρ st H) (vr : VRs X.K ρ st.length H ds vs) (po : Po X.K X.mg (VR X.K) WF σ ρ st.length H (F ds st) Q) : wpAny (model X.prog X.w) A (call (.ref g) us) (EP X pins σ Q) Ex s := by
  refine wpAny_call (codeAny_mono (hF A X.stack s H us [] vs [] Q (fun _ _ _ => False) hr e0 r .nil (fun _ h => nomatch h) rfl ⟨ρ, st, ds, sr, by rw [List.append_nil]; exact vr, po.congr fun _ _ _ z => z⟩) fun r s' hq => ?_)
  cases r with
  | error e =>
    obtain ⟨_, _, _, _, _, _, _, _, _, _, _, _, zz⟩ := hq
    exact zz.elim
  | ok fl =>
    cases fl with
    | ret u => exact I.after hq
    | next => exact False.elim hq
    | brk => exact False.elim hq
    | cont => exact False.elim hq
/-- the loop that fills the list at q from a walk over the tuple at t -/
theorem fill_loop {A1 : Around} {pins : List (Addr × Obj)} {σ : L2.St} {H : Hp} {q t it : Addr} {xs : List V} {Rs : Result → Shared → Prop} (hh : A1.handled = none) (sq : ∀ ys, SqT X.K (upd H q (.lst ys)) t xs) (hz : xs.length ≤ sizeLine) (hne : it ≠ q)
    (fp : ∀ H', H' it = none → FpOk X pins H' it) (hdone : ∀ s, Inv X pins σ (upd H q (.lst xs)) s → Rs (.ok (.ret .none)) s) : ∀ (n i : Nat) (s : Shared), i + n = xs.length → Inv X pins σ (upd H q (.lst (xs.take i))) s → upd H q (.lst (xs.take i)) it = none → s.heap.IsTupleIter it t i →
      codeAny (model X.prog X.w) A1 (.builtin "list.extend.loop" ⟨[.ref q, .ref it, .none], []⟩) Rs s := by
  intro n
  induction n with
  | zero =>
    intro i s hi I hn hit
    refine codeAny_builtin PySem.F.entry_extend_loop ?_
    rw [Around.under_plainId PySem.F.plain_extend_loop _]
    show wpAny _ A1.in1 (pyNext (.ref it) >>= _) _ _ s
    obtain ⟨its, rv, p, hzz⟩ := I.tuple (sq _)
    have hl := rv.length
    refine wpAny_bind (wpAny_pyNext_tuple_end (by exact hh) hit (show s.heap.IsTuple t its.toArray from p) (by rw [List.getElem?_toArray]; exact List.getElem?_eq_none (by omega)) fun h' sb => wpAny_pure ?_)
    obtain ⟨f0, f1, f2, f3, f4, f5⟩ := fp _ hn
    have I1 : Inv X pins σ (upd H q (.lst (xs.take i))) { s with heap := h' } := I.turned (t' := s.toks) (fun b o hb e => sb b o hb e) f0 f1 f3 f4 f5
    have e : xs.take i = xs := List.take_of_length_le (by omega)
    rw [e] at I1
    exact hdone _ I1
  | succ n ih =>
    intro i s hi I hn hit
    refine codeAny_builtin PySem.F.entry_extend_loop ?_
    rw [Around.under_plainId PySem.F.plain_extend_loop _]
    show wpAny _ A1.in1 (pyNext (.ref it) >>= _) _ _ s
    obtain ⟨its, rv, p, hzz⟩ := I.tuple (sq _)
    have hl := rv.length
    have hx : xs[i]? = some xs[i] := List.getElem?_eq_getElem (by omega)
    obtain ⟨u, hu, ru⟩ := rv.get hx
    obtain ⟨f0, f1, f2, f3, f4, f5⟩ := fp _ hn
    refine wpAny_bind (wpAny_pyNext_tuple_item hit (show s.heap.IsTuple t its.toArray from p) (x := u) (by rw [List.getElem?_toArray]; exact hu) fun h' hit' sb => ?_)
    have I1 : Inv X pins σ (upd H q (.lst (xs.take i))) { s with heap := h' } := I.turned (t' := s.toks) (fun b o hb e => (sb.2 b hb).trans e) f0 f1 f3 f4 f5
    obtain ⟨z1, jts, kk, r2, hl2, e2⟩ := I1.lstM upd_same
    show wpAny _ A1.in1 (updateSeq q (·.push u) >>= _) _ _ _
    have hlen : jts.length = i := by rw [← hl2, List.length_take]; omega
    refine wpAny_bind (wpAny_updateSeq e2 rfl (wpAny_pure ⟨plainId_quiet PySem.F.plain_extend_loop _, ?_⟩) (by rw [List.size_toArray]; omega) (by show (jts.toArray.push u).size ≤ sizeLine + 1; rw [Array.size_push, List.size_toArray]; omega))
    have tk : xs.take i ++ [xs[i]] = xs.take (i + 1) := by
      rw [List.take_add_one, hx]
      rfl
    have I2 := I1.lset (its' := jts ++ [u]) (ys := xs.take i ++ [xs[i]]) (f := (·.push u)) (t' := s.toks) upd_same e2 (by simp) (r2.append (.cons ru .nil)) (by rw [List.length_append, List.length_singleton, List.length_take]; omega)
    rw [upd_upd, tk] at I2
    refine ih (i + 1) _ (by omega) I2 ?_ ?_
    · rw [upd_ne hne] at hn ⊢
      exact hn
    · obtain ⟨o, h1, h2, h3⟩ := hit'
      exact ⟨o, (Heap.get?_update_other _ _ (Ne.symm hne)).trans h1, h2, h3⟩
/-- list(o) -/
def fListO (tb : Tb) (itb : Itb) (B : MF) : MF := fun ds s => match ds with
  | [d] => match itsO itb s d with
    | some (some xs) => match insC s d with
      | some c => match tb.lookup c with
        | some F => (F [d] (s ++ [.lst []])).nox.bind fun k s2 => match k, s2[s.length]? with
          | .int i, some (.lst []) => if 0 ≤ i ∧ i ≤ sizeLine ∧ xs.length ≤ sizeLine then .ok (.ref s.length) (s2.set s.length (.lst xs)) else .no
          | _, _ => .no
        | none => .no
      | none => .no
    | some none => .no
    | none => B ds s
  | _ => B ds s
theorem Po.noxW {α β : Type} {K : PySem.W.Frag} {mg : Str → Option Value} {R : Rl α β} {W W' : WX} {σ σ' : L2.St} {ρ : Nat → Addr} {n : Nat} {H : Hp} {r : Rs α} {Q : β → Hp → Prop} (h : Po K mg R W σ ρ n H r.nox Q) : Po K mg R WF σ ρ n H r Q := by
  cases r with
  | ok d s => exact h
  | ex c f d s => exact (h : False).elim
  | no => exact h
theorem calld_listO {B : MF} (T : MTab X.prog X.w X.K X.mg X.base k tb "__len__") (T2 : ITab X.prog X.w X.K X.mg X.base k itb) (hr : Rm (k + 4) X.A) (hB : CallD X W (.type "list") B) : CallD X W (.type "list") (fListO tb itb B) := by
  intro pins s σ H ρ st ds vs us Q I sr vr r po
  unfold fListO at po
  split at po
  · rename_i d
    split at po
    · rename_i xs hx
      split at po
      · rename_i c hc
        split at po
        · rename_i F hF
          obtain ⟨n, c', fs, f, rfl, hs, hf, hl⟩ := itsO_some hx
          have ec : c' = c := by
            unfold insC at hc
            dsimp only at hc
            rw [hs] at hc
            exact Option.some.inj hc
          subst ec
          obtain ⟨v, rfl, vr'⟩ := vr.one
          have vr0 := vr'
          rw [VR] at vr'
          obtain ⟨hn, rfl⟩ := vr'
          cases r with
          | cons r1 r2 =>
            cases r2
            obtain rfl : _ = Value.ref (ρ n) := r1
            obtain ⟨C, dx, vs', g, g2, g3, h2, h3, h4⟩ := meth_of T sr hs hF
            obtain ⟨C', gi, k1, k2, k3⟩ := T2 c' f hf
            have eC : C' = C := by
              obtain ⟨C2, dx2, vs2, q1, q2, _⟩ := sr.ob n _ hs
              rw [q2] at g2
              cases g2
              rw [q1] at k1
              cases k1
              rfl
            subst eC
            obtain ⟨t, ht, vt⟩ := g3.lookup hl
            rw [VR] at vt
            obtain ⟨ta, zs, rfl, sq, rr⟩ := vt
            have hd : X.A.handled = none := hr.room.hd
            refine callType_codes (Q₁ := fun obj s₁ => obj = .ref s.heap.objs.size ∧ s₁ = { s with heap := s.heap.push { cls := .type "list", data := .seq #[] } }) PySem.F.called_list (PySem.F.typeCall_list_1 _) PySem.F.entry_list_init
              (code_list_new _ ⟨rfl, rfl⟩) fun obj s₁ h₁ => ?_
            obtain ⟨rfl, rfl⟩ := h₁
            have hS : (s.heap.push { cls := .type "list", data := .seq #[] }).get? s.heap.objs.size = some { cls := .type "list", data := .seq #[] } := Heap.get?_push_size _ rfl
            refine ⟨⟨_, hS, rfl⟩, PySem.F.args_list_init_2 _ _, ?_⟩
            have fr : H s.heap.objs.size = none := I.hok.fresh (Nat.le_refl _)
            have I1 : Inv X pins σ (upd H s.heap.objs.size (.lst [])) { s with heap := s.heap.push { cls := .type "list", data := .seq #[] } } := I.lnew (its := []) (t' := s.toks) .nil (Nat.zero_le _)
            show wpAny _ _ (do let old ← Builtin.List.listItems (.ref s.heap.objs.size); Builtin.List.listUpdate (.ref s.heap.objs.size) (fun _ => #[]); letGo old.toList.reverse; Builtin.List.listExtendWith (.ref s.heap.objs.size) (.ref (ρ n)) .none) _ _ _
            refine wpAny_bind ?_
            unfold Builtin.List.listItems
            refine wpAny_bind (wpAny_seqItems hS rfl (wpAny_pure ?_))
            show wpAny _ _ (updateSeq s.heap.objs.size (fun _ => #[]) >>= fun _ => letGo (#[] : Array Value).toList.reverse >>= fun _ => Builtin.List.listExtendWith (.ref s.heap.objs.size) (.ref (ρ n)) .none) _ _ _
            refine wpAny_bind (wpAny_updateSeq hS rfl ?_)
            have I2 := I1.lset (f := fun _ => #[]) (its := []) (its' := []) (ys := []) (t' := s.toks) upd_same hS rfl .nil (Nat.zero_le _)
            rw [upd_upd] at I2
            refine wpAny_bind (wpAny_letGo ?_)
            -- the store with the new list
            obtain ⟨ext, sr1, vq⟩ := new_lst (ds := []) (vs := []) sr fr VRs.nil
            have po1 := Po.rebase po ext
            have hs1 : (st ++ [SO.lst []])[n]? = some (.ins c' fs) := by rw [List.getElem?_append_left hn]; exact hs
            have ag : ρup ρ st.length s.heap.objs.size n = ρ n := ρup_ne (Nat.ne_of_lt hn)
            obtain ⟨C3, dx3, vs3, q1, q2, q3⟩ := sr1.ob n _ hs1
            rw [ag] at q2
            have e3 : C3 = C' ∧ dx3 = dx ∧ vs3 = vs' := by
              have z : upd H s.heap.objs.size (.lst []) (ρ n) = some (.ins C' dx vs') := by rw [upd_ne (ne_of_none g2 fr)]; exact g2
              rw [q2] at z
              cases z
              exact ⟨rfl, rfl, rfl⟩
            obtain ⟨rfl, rfl, rfl⟩ := e3
            have sq1 : SqT X.K (upd H s.heap.objs.size (.lst [])) ta zs := ext.sqt sq
            have rr1 := rr.mono ext
            have vr1 := vr0.mono ext
            obtain ⟨ox, od, J, _⟩ := inst_look I2 q2
            obtain ⟨m0, hFr⟩ := I2.fr
            unfold Builtin.List.listExtendWith
            refine wpAny_bind (J.type.here ?_)
            have hq : s.heap.objs.size ≠ ρ n := fun z => by
              rw [← z, fr] at g2
              cases g2
            have b1 : Builtin.List.listSameRef (.ref s.heap.objs.size) (.ref (ρ n)) = false := by simp [Builtin.List.listSameRef, hq]
            have b2 : (Value.ref C3 == Value.type "list") = false := rfl
            have b3 : (Value.ref C3 == Value.type "tuple") = false := rfl
            simp only [b1, b2, b3, Bool.or_false, Bool.false_eq_true, if_false]
            have r3 : Rm (k + 2) X.A.in1.in1 := (Rm.in1 (Rm.in1 hr))
            refine wpAny_bind (PySem.W.owit_iter hFr I2.ok.mod.kin J k2.at_ k2.fn (wpAny_call (codeAny_mono (k3 X.A.in1.in1 X.stack _ _ (ρ n) dx3 ta vs3 zs (r3.mono (by omega)) I2.env0.in1.in1 q2 ht sq1) fun r s2 ⟨it, e2, ce, hit, hsz⟩ => ?_)))
            subst e2
            obtain ⟨v2, H2, I3, rv, eH⟩ := I2.after ce
            subst eH
            show PySem.W.OwitIt _ _ _ _ _ _
            unfold PySem.W.OwitIt
            refine wpAny_specialOf hit.typeIs PySem.F.slot_tuple_iterator_next.lookup ?_
            refine wpAny_bind (wpAny_holding ?_)
            -- its length
            obtain ⟨ox3, od3, J3, _⟩ := inst_look I3 q2
            obtain ⟨m3, hFr3⟩ := I3.fr
            unfold Builtin.List.listLengthHint
            refine wpAny_bind (wpAny_bind (J3.type.here ((PySem.W.looks_findIn (I3.kIn) h3.at_).here ?_)))
            dsimp only
            refine PySem.W.KFB.if_not rfl ?_
            refine PySem.W.KFB.if_so rfl ?_
            refine wpAny_bind (wpAny_rule (wpAny_bind (wpAny_attempt ?_)))
            have vrs1 : VRs X.K (ρup ρ st.length s.heap.objs.size) (st ++ [SO.lst []]).length (upd H s.heap.objs.size (.lst [])) [.ref n] [V.ref (ρ n)] := VRs.cons vr1 VRs.nil
            have hsz0 : it ≠ s.heap.objs.size := fun z => by
              have h9 : (s.heap.push { cls := .type "list", data := .seq #[] }).objs.size = s.heap.objs.size + 1 := Heap.size_push ..
              have h8 : ((s.heap.push { cls := .type "list", data := .seq #[] }).update s.heap.objs.size (Obj.mapSeq fun _ => #[])).objs.size ≤ it := hsz
              have h7 : ((s.heap.push { cls := .type "list", data := .seq #[] }).update s.heap.objs.size (Obj.mapSeq fun _ => #[])).objs.size = (s.heap.push { cls := .type "list", data := .seq #[] }).objs.size := by simp [Heap.update]
              rw [h7, h9, z] at h8
              omega
            have fpi := I2.fpOk (H' := upd H s.heap.objs.size (.lst [])) hsz (I2.hok.fresh hsz)
            obtain ⟨oi, hoi, hci, hdi⟩ := id hit
            have I3p := I3.pinned (fp := [it]) (fun b hb => by rw [List.mem_singleton.mp hb]; exact fpi) fun b hb => by
              rw [List.mem_singleton.mp hb]
              exact ⟨oi, hoi, fun v z => by rw [hdi] at z; cases z⟩
            refine PySem.W.len_K hFr3 I3.ok.mod.kin J3 h3.at_ h3.fn (thn (own_callN (us := [.ref (ρ n)]) (vs := [.ref (ρ n)]) h4 ((Rm.in1 r3).mono (by omega)) I3p.env0.in1.in1.in1 I3p (.cons rfl .nil) sr1 vrs1 (Po.bindx po1)) fun u s3 ⟨v, H4, I4p, r4, ρ4, st4, d4, e4, sr4, vr4, po4⟩ => ?_)
            dsimp only at po4
            split at po4
            · rename_i i hlst
              obtain rfl : v = .int i := vr4
              obtain ⟨tt, rfl⟩ := r4
              obtain ⟨⟨hi0, hi1, hzl⟩, po5⟩ := Po.ite po4
              have hline := line63
              refine ⟨⟨hi0, by omega⟩, ?_⟩
              refine wpAny_bind (wpAny_pure ?_)
              dsimp only
              have nl : Builtin.List.listTooLong i.toNat = false := notLongL (by omega)
              rw [if_neg (by rw [nl]; exact Bool.false_ne_true)]
              refine wpAny_pure ?_
              have I4 := I4p.unpinned
              have pin4 : s3.heap.get? it = some oi ∧ H4 it = none := by
                have hmem : (it, oi) ∈ pinsAt [it] s2.heap := by
                  unfold pinsAt
                  simp [hoi]
                have := I4p.pin (it, oi) (List.mem_append_right _ (List.mem_append_right _ hmem))
                exact ⟨this.1, this.2.1⟩
              have hit4 : s3.heap.IsTupleIter it ta 0 := ⟨oi, pin4.1, hci, hdi⟩
              have lt4 : st.length < st4.length := (List.getElem?_eq_some_iff.mp hlst).1
              have e5 : ρ4 st.length = s.heap.objs.size := by
                rw [e4.ag st.length (by rw [List.length_append]; exact Nat.lt_succ_self _), ρup_same]
              obtain ⟨ws, hw, rw4⟩ := sr4.ob st.length _ hlst
              rw [e5] at hw
              have hw0 : ws = [] := by
                rw [VRs] at rw4
                exact rw4
              subst hw0
              have sq4 : SqT X.K H4 ta zs := e4.sqt sq1
              have upds : ∀ ys, SqT X.K (upd H4 s.heap.objs.size (.lst ys)) ta zs := fun ys => by
                refine sq4.elim (fun z => ?_) .inr
                refine .inl ?_
                rcases z with z | ⟨ob, z⟩
                · refine .inl ?_
                  rw [upd_ne]
                  · exact z
                  · intro qq
                    rw [qq, hw] at z
                    cases z
                · refine .inr ⟨ob, ?_⟩
                  rw [upd_ne]
                  · exact z
                  · intro qq
                    rw [qq, hw] at z
                    cases z
              have hup : ∀ {Hx : Hp}, Hx s.heap.objs.size = some (.lst []) → upd Hx s.heap.objs.size (.lst (zs.take 0)) = Hx := fun {Hx} e => by
                funext b
                by_cases hb : b = s.heap.objs.size
                · rw [hb, upd_same, e] <;> rfl
                · rw [upd_ne hb]
              have zl : zs.length ≤ sizeLine := by rw [rr.length]; exact hzl
              have fin : ∀ s', Inv X pins σ (upd H4 s.heap.objs.size (.lst zs)) s' → EP X pins σ Q (.ref s.heap.objs.size) s' := fun s' I' => by
                have rr4 : VRs X.K ρ4 st4.length H4 xs zs := rr1.mono e4
                have ext5 : Ext ρ4 st4.length H4 ρ4 st4.length (upd H4 (ρ4 st.length) (.lst zs)) := Ext.write (sr4.ob _ _ hlst) rfl
                have w := sr4.write (u := .lst zs) hlst (o' := .lst xs) rfl rfl ⟨zs, upd_same, rr4.mono ext5⟩
                rw [e5] at w ext5
                have ext6 : Ext ρ4 st4.length H4 ρ4 (st4.set st.length (.lst xs)).length (upd H4 s.heap.objs.size (.lst zs)) := by rw [List.length_set]; exact ext5
                refine ⟨.ref s.heap.objs.size, _, I', rfl, po5 ρ4 _ _ ext6 w ?_⟩
                rw [VR, List.length_set]
                exact ⟨lt4, by rw [e5]⟩
              have goal : ∀ s', Inv X pins σ H4 s' → s'.heap.IsTupleIter it ta 0 → codeAny (model X.prog X.w) X.A.in1 (.builtin "list.extend.loop" ⟨[.ref s.heap.objs.size, .ref it, .none], []⟩) (wants (fun r s₂ => r = .none ∧ EP X pins σ Q (.ref s.heap.objs.size) s₂) X.xe) s' := fun s' I' hit' =>
                fill_loop (X := X) (A1 := X.A.in1) (Rs := wants (fun r s₂ => r = .none ∧ EP X pins σ Q (.ref s.heap.objs.size) s₂) X.xe) (H := H4) (q := s.heap.objs.size) (t := ta) (it := it) (xs := zs) hd upds zl hsz0 (fun H' hn => ⟨hn, fpi.2⟩) (fun s'' I'' => ⟨rfl, fin s'' I''⟩) zs.length 0 s' (by omega) (by rw [hup hw]; exact I') (by rw [hup hw]; exact pin4.2) hit'
              have I5 := I4.tok (s3.toks + 1)
              refine wpAny_ite_split (fun _ => ?_) (fun _ => wpAny_pure ⟨plainId_quiet PySem.F.plain_extend_loop _, goal _ I5 hit4⟩)
              refine wpAny_bind (wpAny_rule ?_)
              refine wpAny_bind ?_
              obtain ⟨z0, jts, kk, r2, hl2, e2⟩ := I5.lstM hw
              cases r2
              show wpAny _ _ (updateSeq s.heap.objs.size (·.push .none) >>= fun _ => updateSeq s.heap.objs.size (·.pop)) _ _ _
              refine wpAny_bind (wpAny_updateSeq e2 rfl ?_)
              have I6 := I5.lset (f := (·.push Value.none)) (its' := [Value.none]) (ys := [.non]) (t' := s3.toks + 1) hw e2 (by simp) (.cons rfl .nil) (by rw [List.length_singleton, sizeLine_eq]; decide)
              obtain ⟨z7, its7, k7, r7, hl7, e7⟩ := I6.lstM upd_same
              obtain ⟨u7, rfl, ru7⟩ := r7.one
              refine wpAny_updateSeq e7 rfl ?_ (by show 1 ≤ sizeLine; rw [sizeLine_eq]; decide) (by show 0 ≤ sizeLine + 1; exact Nat.zero_le _)
              have I7 := I6.lset (f := (·.pop)) (its := [u7]) (its' := []) (ys := []) (t' := s3.toks + 1) upd_same e7 (by rfl) .nil (Nat.zero_le _)
              rw [upd_upd] at I7
              have hH : upd H4 s.heap.objs.size (.lst []) = H4 := hup hw
              rw [hH] at I7
              refine wpAny_pure ⟨plainId_quiet PySem.F.plain_extend_loop _, goal _ I7 ?_⟩
              exact ⟨oi, (Heap.get?_update_other _ _ (Ne.symm hsz0)).trans ((Heap.get?_update_other _ _ (Ne.symm hsz0)).trans pin4.1), hci, hdi⟩
            · exact po4.elim
        · exact po.elim
      · exact po.elim
    · exact po.elim
    · exact hB pins s σ H ρ st _ vs us Q I sr vr r po
  · exact hB pins s σ H ρ st _ vs us Q I sr vr r po
end
end Z

set_option Elab.async false
set_option linter.all false
set_option maxRecDepth 100000
set_option maxHeartbeats 4000000
namespace Z
open PySem PySem.Spec PyProof.Rows L2
variable [Row]
/-! ### + - | of an own instance -/
/-- the class fills no number slot of the operator -/
def noFillB (K : PySem.W.Frag) (C : Addr) (nm : String) : Bool :=
  ((PySem.W.clsIn K C).any fun cd => decide (cd.mro = [.ref C, .type "object"])) && (decide (PySem.W.findIn K (.ref C) (PySem.dunder nm) = some none) && decide (PySem.W.findIn K (.ref C) (dunderR nm) = some none))
theorem nofill_K {M : Model} {h : Heap} {K : PySem.W.Frag} {C : Addr} {nm : String} (X : K.In h) (e : noFillB K C nm = true) (ho : typeLookup (.type "object") (PySem.dunder nm) = pure none) (ho2 : typeLookup (.type "object") (dunderR nm) = pure none) : PySem.W.Looks M h (fillsNumberSlot (.ref C) nm) false := by
  obtain ⟨e1, e2⟩ := Bool.and_eq_true_iff.mp e
  obtain ⟨e2, e3⟩ := Bool.and_eq_true_iff.mp e2
  obtain ⟨cd, hc, hm⟩ := PySem.W.any_some e1
  have hm := of_decide_eq_true hm
  have e2 := of_decide_eq_true e2
  have e3 := of_decide_eq_true e3
  intro A Q E s k q
  unfold fillsNumberSlot
  refine wpAny_bind ((PySem.W.looks_clsIn X hc).andThen (f := fun cd => pure cd.mro) .now A _ E s k ?_)
  rw [hm, List.anyM_cons]
  refine wpAny_bind ?_
  show wpAny M A (List.anyM _ [PySem.dunder nm, dunderR nm]) _ _ _
  rw [List.anyM_cons]
  refine wpAny_bind (wpAny_bind (PySem.W.looks_findIn X e2 A _ E s k ?_))
  refine wpAny_pure ?_
  rw [if_neg Bool.false_ne_true]
  rw [List.anyM_cons]
  refine wpAny_bind (wpAny_bind (PySem.W.looks_findIn X e3 A _ E s k ?_))
  refine wpAny_pure ?_
  rw [if_neg Bool.false_ne_true]
  refine wpAny_pure ?_
  rw [if_neg Bool.false_ne_true]
  rw [List.anyM_cons]
  refine wpAny_bind ?_
  show wpAny M A (typeLookup (.type "object") (PySem.dunder nm) >>= _) _ _ _
  refine wpAny_bind (wpAny_of_eq ho ?_)
  show wpAny M A (typeLookup (.type "object") (dunderR nm) >>= _) _ _ _
  refine wpAny_bind (wpAny_of_eq ho2 ?_)
  refine wpAny_pure ?_
  exact wpAny_pure q
theorem relv_ni {v : V} (h : RelV v .notImplemented) : False := by
  cases v <;> first | (cases h; done) | (obtain ⟨_, h⟩ := h; cases h) | exact nomatch h
theorem str_nosub : fillsNumberSlot (.type "str") "sub" = pure false := by
  unfold fillsNumberSlot
  simp only [typeLookup_type, builtinLookup_eq_fast]
  kernel_rfl
theorem binop_any {prog : Program} {w : World} {A : Around} {E : Value → Shared → Prop} {s : Shared} {K : PySem.W.Frag} {x C L f : Addr} {h₀ : Heap} {m : Str → Option Value} {ox : Obj} {od : Option Obj} {op : Operator} {b tb : Value} {Q : Value → Shared → Prop} (F : Fr h₀ L s.heap m) (X₀ : K.In h₀) (I : PySem.W.InstAt s.heap x ox C od) (hb : PySem.W.Looks (model prog w) s.heap (typeOf b) tb)
    (hn : (Value.ref C == tb) = true ∨ PySem.W.Looks (model prog w) s.heap (fillsNumberSlot tb op.info.2) false) (hc : PySem.W.selfFirst K C = true) (hs : PySem.W.findIn K (.ref C) (PySem.dunder op.info.2) = some (some (.ref f))) (hf : PySem.W.isFn K (.ref f) = true)
    (h : wpAny (model prog w) A (call (.ref f) [.ref x, b]) (fun v s' => v ≠ .notImplemented ∧ Q v s') E s) : wpAny (model prog w) A (binaryOp op (.ref x) b) Q E s := by
  have X := X₀.keeps F.keep
  obtain ⟨cd, hcd, hm⟩ := PySem.W.any_some hc
  obtain ⟨rest, hm⟩ : ∃ rest, cd.mro = .ref C :: rest := by
    cases q : cd.mro with
    | nil => rw [q] at hm; cases hm
    | cons a r =>
      rw [q, List.head?_cons] at hm
      cases (beq_iff_eq.mp hm)
      exact ⟨r, rfl⟩
  unfold binaryOp
  refine wpAny_holding (wpAny_bind ?_)
  unfold binaryOp1
  refine wpAny_bind (I.type.here (wpAny_bind (hb.here (wpAny_bind ((PySem.W.fills_K X hcd hm hs).here ?_)))))
  have fin : wpAny (model prog w) A (tryMethod (.ref x) (PySem.dunder op.info.2) b) (fun r s' => ∃ v, r = some v ∧ Q v s') E s := by
    unfold tryMethod
    refine wpAny_bind (PySem.W.special_fn X I hs (beq_iff_eq.mp hf) (thn h fun v s' hv => ?_))
    cases v <;> first | exact absurd rfl hv.1 | exact wpAny_pure ⟨_, rfl, hv.2⟩
  by_cases q : (Value.ref C == tb) = true
  · rw [if_pos q]
    refine wpAny_bind (wpAny_pure ?_)
    simp only [Bool.and_false, Bool.false_eq_true, if_false, Bool.false_and, if_true]
    refine wpAny_bind (wpAny_pure ?_)
    simp only [Bool.false_eq_true, if_false]
    refine wpAny_bind (thn fin fun r s' ⟨v, e, q⟩ => ?_)
    subst e
    exact wpAny_pure (wpAny_pure q)
  · rw [if_neg q]
    refine wpAny_bind ((hn.resolve_left q).here ?_)
    simp only [Bool.and_false, Bool.false_eq_true, if_false, Bool.false_and, if_true]
    refine wpAny_bind (wpAny_pure ?_)
    simp only [Bool.false_eq_true, if_false]
    refine wpAny_bind (thn fin fun r s' ⟨v, e, q⟩ => ?_)
    subst e
    exact wpAny_pure (wpAny_pure q)
section
variable {X : Cx} {W : WX} {k : Nat} {tb : Tb} {x c m : Str}
/-- the right side: an instance of one of the classes rs, or a text where st -/
def rightOk (rs : List Str) (st : Bool) (s : Sto) : D → Bool
  | .str _ => st
  | .ref n => match s[n]? with
    | some (.ins c _) => rs.contains c
    | _ => false
  | _ => false
def dOwnL (tb : Tb) (rs : List Str) (st : Bool) (B : D → D → Sto → Rs D) (x y : D) (s : Sto) : Rs D := match insC s x with
  | some c => match tb.lookup c with
    | some F => if rightOk rs st s y then F [x, y] s else .no
    | none => .no
  | none => B x y s
/-- the classes rs fill no slot of the operator -/
def RTab (K : PySem.W.Frag) (mg : Str → Option Value) (rs : List Str) (nm : String) : Prop := ∀ c ∈ rs, ∃ C, mg c = some (.ref C) ∧ noFillB K C nm = true
def LTab (K : PySem.W.Frag) (mg : Str → Option Value) (tb : Tb) : Prop := ∀ c F, tb.lookup c = some F → ∀ C, mg c = some (.ref C) → PySem.W.selfFirst K C = true
theorem opd_binop {op : Operator} {rs : List Str} {st : Bool} {B : D → D → Sto → Rs D} (T : MTab X.prog X.w X.K X.mg X.base k tb (PySem.dunder op.info.2)) (T2 : LTab X.K X.mg tb) (T3 : RTab X.K X.mg rs op.info.2) (hst : st = true → op.info.2 = "sub") (hr : Rm k X.A) (tk : Takes X W)
    (ho : typeLookup (.type "object") (PySem.dunder op.info.2) = pure none) (ho2 : typeLookup (.type "object") (dunderR op.info.2) = pure none) (hB : OpD X W (binaryOp op) B) : OpD X W (binaryOp op) (dOwnL tb rs st B) := by
  intro pins s σ H ρ sto x y vx vy ux uy Q I sr rx ry e1 e2 po
  unfold dOwnL at po
  split at po
  · rename_i c hc
    split at po
    · rename_i F hF
      obtain ⟨hy, po⟩ := Po.ite po
      obtain ⟨n, fs, rfl, hs⟩ := insC_some hc
      obtain ⟨C, dx, vs, g, g2, g3, h2, h3, h4⟩ := meth_of T sr hs hF
      have sf : PySem.W.selfFirst X.K C = true := by
        obtain ⟨C2, dx2, vs2, q1, q2, _⟩ := sr.ob n _ hs
        rw [g2] at q2
        cases q2
        exact T2 c F hF C q1
      have rx' := rx
      rw [VR] at rx
      obtain ⟨hn, rfl⟩ := rx
      obtain rfl : ux = Value.ref (ρ n) := e1
      obtain ⟨ox, od, J, _⟩ := inst_look I g2
      obtain ⟨m, hFr⟩ := I.fr
      have run := own_call (us := [.ref (ρ n), uy]) (vs := [.ref (ρ n), vy]) h4 hr I.env0 tk I (.cons rfl (.cons e2 .nil)) sr (VRs.cons rx' (VRs.cons ry VRs.nil)) po
      have run2 := thn run (Q' := fun u s' => u ≠ .notImplemented ∧ EP X pins σ Q u s') fun u s' hu => ⟨fun z => by
        obtain ⟨v, H', _, r, _⟩ := hu
        rw [z] at r
        exact relv_ni r, hu⟩
      cases y with
      | str z =>
        obtain rfl : vy = .str z := ry
        obtain ⟨t, rfl⟩ := e2
        have hop := hst hy
        refine binop_any (tb := .type "str") hFr I.ok.mod.kin J ?_ (.inr ?_) sf h3.at_ h3.fn run2
        · exact PySem.W.Looks.of_pure (by first | rfl | kernel_rfl)
        · rw [hop]
          exact PySem.W.Looks.of_pure str_nosub
      | ref j =>
        have hy : (match sto[j]? with
          | some (.ins c _) => rs.contains c
          | _ => false) = true := hy
        rw [VR] at ry
        obtain ⟨hj, rfl⟩ := ry
        obtain rfl : uy = Value.ref (ρ j) := e2
        cases hsj : sto[j]? with
        | none => rw [hsj] at hy; cases hy
        | some o =>
          rw [hsj] at hy
          cases o with
          | ins c' fs' =>
            have hy : c' ∈ rs := List.contains_iff_mem.mp hy
            obtain ⟨C', dx', vs', q1, q2, _⟩ := sr.ob j _ hsj
            obtain ⟨C2, k1, k2⟩ := T3 c' hy
            rw [q1] at k1
            cases k1
            obtain ⟨oy, ody, Jy, _⟩ := inst_look I q2
            exact binop_any hFr I.ok.mod.kin J Jy.type (.inr (nofill_K I.kIn k2 ho ho2)) sf h3.at_ h3.fn run2
          | _ => cases hy
      | _ => cases hy
    · exact po.elim
  · exact hB pins s σ H ρ sto x y vx vy ux uy Q I sr rx ry e1 e2 po
theorem ob_add : typeLookup (.type "object") (PySem.dunder "add") = pure none := by rw [typeLookup_type, builtinLookup_eq_fast]; kernel_rfl
theorem ob_radd : typeLookup (.type "object") (dunderR "add") = pure none := by rw [typeLookup_type, builtinLookup_eq_fast]; kernel_rfl
theorem ob_sub : typeLookup (.type "object") (PySem.dunder "sub") = pure none := by rw [typeLookup_type, builtinLookup_eq_fast]; kernel_rfl
theorem ob_rsub : typeLookup (.type "object") (dunderR "sub") = pure none := by rw [typeLookup_type, builtinLookup_eq_fast]; kernel_rfl
theorem ob_or : typeLookup (.type "object") (PySem.dunder "or") = pure none := by rw [typeLookup_type, builtinLookup_eq_fast]; kernel_rfl
theorem ob_ror : typeLookup (.type "object") (dunderR "or") = pure none := by rw [typeLookup_type, builtinLookup_eq_fast]; kernel_rfl
def dNo2 : D → D → Sto → Rs D := fun _ _ _ => .no
theorem opd_no {f : Value → Value → Sem Value} : OpD X W f dNo2 := fun _ _ _ _ _ _ _ _ _ _ _ _ _ _ _ _ _ _ _ po => po.elim
end
end Z

set_option Elab.async false
set_option linter.all false
set_option maxRecDepth 100000
set_option maxHeartbeats 4000000
namespace Z
open PySem PySem.Spec PyProof.Rows L2
variable [Row]
/-! ### == and != of own instances -/
section
variable {prog : Program} {w : World} {A : Around} {E : Value → Shared → Prop} {s : Shared} {K : PySem.W.Frag} {x C L f : Addr} {h₀ : Heap} {m : Str → Option Value} {ox : Obj} {od : Option Obj} {b tb : Value}
theorem check_slotK {id owner n : String} {rest : List Value} {Q : Unit → Shared → Prop} (hk : builtinKind id = some .slot) (hs : splitId id = some (owner, n)) (ha : argsOk id ⟨.ref x :: rest, []⟩) (X : K.In s.heap) (I : PySem.W.InstAt s.heap x ox C od) (hsub : PySem.W.subIn K (.ref C) (.type owner) = some true) (hq : Q () s) :
    wpAny (model prog w) A (checkBuiltinCall id ⟨.ref x :: rest, []⟩) Q E s := by
  simp only [checkBuiltinCall, hk, hs]
  refine wpAny_bind (wpAny_bind (I.type.here ((PySem.W.looks_subIn X hsub).here ?_)))
  refine PySem.W.KFB.if_not rfl ?_
  cases hsig : Manifest.signature? id with
  | none => exact wpAny_pure hq
  | some sig =>
    simp only [argsOk, hsig] at ha
    have e : Bind.checkArgs id sig ⟨.ref x :: rest, []⟩ = pure () := ha
    show wpAny _ A (Bind.checkArgs id sig ⟨.ref x :: rest, []⟩) Q E _
    rw [e]
    exact wpAny_pure hq
theorem bound_slotK {name : Str} {id : String} {args : List Value} {Q : Option Value → Shared → Prop} (X : K.In s.heap) (I : PySem.W.InstAt s.heap x ox C od) (hn : PySem.W.findIn K (.ref C) name = some (some (.builtin id))) (hb : bindSpecial (.builtin id) (.ref x) = pure (.builtin id, [.ref x]))
    (h : wpAny (model prog w) A (call (.builtin id) (.ref x :: args)) (fun v => Q (some v)) E s) : wpAny (model prog w) A (callSpecialIfBound? (.ref x) name args) Q E s := by
  simp only [callSpecialIfBound?, bindSpecialIfBound?]
  refine wpAny_holding (wpAny_bind (wpAny_bind (wpAny_bind (I.type.here ((PySem.W.looks_findIn X hn).here ?_)))))
  dsimp only
  simp only [hb]
  refine wpAny_bind (wpAny_askSetting (wpAny_ite ?_))
  have fin : wpAny (model prog w) A (call (.builtin id) ([.ref x] ++ args) >>= fun v => pure (some v)) Q E s := wpAny_bind (thn h fun v s' h' => wpAny_pure h')
  split
  · exact wpAny_bind (wpAny_pure (wpAny_pure fin))
  · exact wpAny_tryCatch (wpAny_bind (wpAny_pure (wpAny_pure fin)))
/-- a != b where the class of a has == alone -/
theorem ne_K {Q : Value → Shared → Prop} (hu : A.units + 1 < cLine) (F : Fr h₀ L s.heap m) (X₀ : K.In h₀) (I : PySem.W.InstAt s.heap x ox C od) (hb : PySem.W.Looks (model prog w) s.heap (typeOf b) tb) (hn : PySem.W.notFirst K C tb = true)
    (hne : PySem.W.findIn K (.ref C) "__ne__" = some (some (.builtin "object.__ne__"))) (hs : PySem.W.findIn K (.ref C) "__eq__" = some (some (.ref f))) (hf : PySem.W.isFn K (.ref f) = true) (hsub : PySem.W.subIn K (.ref C) (.type "object") = some true)
    (h : wpAny (model prog w) A.in1 (call (.ref f) [.ref x, b]) (fun v s' => ∃ q, v = .bool q ∧ Q (.bool (!q)) s') E s) : wpAny (model prog w) A (richCompare .NotEq (.ref x) b) Q E s := by
  have X := X₀.keeps F.keep
  have one : wpAny (model prog w) A (tryCompare (.ref x) (cmpInfo .NotEq).2.1 b) (fun r s' => ∃ v, r = some v ∧ Q v s') E s := by
    unfold tryCompare
    refine wpAny_bind (bound_slotK (id := "object.__ne__") X I hne (PySem.F.slot_object_ne.bind _) ?_)
    refine wpAny_call (codeAny_call_builtin PySem.F.slot_object_ne.plain PySem.F.cmpEntry_ne ?_)
    refine check_slotK PySem.F.cmpKind_ne PySem.F.cmpSplit_ne (PySem.F.cmpArgs_ne _ _) X I hsub ?_
    unfold Builtin.«object.__ne__»
    refine wpAny_bind (wpAny_of_eq (a := (Value.ref x, [b])) (by first | rfl | kernel_rfl) ?_)
    dsimp only
    refine wpAny_bind (wpAny_cRoomFor hu ?_)
    refine wpAny_bind (PySem.W.ifBound_K X I hs hf (thn h fun v s' hv => ?_))
    obtain ⟨q, rfl, hq⟩ := hv
    dsimp only
    exact wpAny_bind (wpAny_truthy_bool (wpAny_pure (wpAny_pure ⟨_, rfl, hq⟩)))
  unfold richCompare
  simp only [oneThing_ref]
  refine wpAny_holding (wpAny_bind (wpAny_cRoomFor (Nat.lt_of_succ_lt hu) ?_))
  refine wpAny_bind (I.type.here (wpAny_bind (hb.here ?_)))
  split
  · rename_i q
    have e : PySem.W.subIn K tb (.ref C) = some false := by
      rcases Bool.or_eq_true_iff.mp hn with e | e
      · rw [beq_iff_eq.mp e] at q; simp at q
      · exact beq_iff_eq.mp e
    refine wpAny_bind ((PySem.W.looks_subIn X e).here ?_)
    simp only [Bool.false_eq_true, if_false]
    refine wpAny_bind (thn one fun r s' ⟨v, e, hq⟩ => ?_)
    subst e
    exact wpAny_pure hq
  · refine wpAny_bind (wpAny_pure ?_)
    simp only [Bool.false_eq_true, if_false]
    refine wpAny_bind (thn one fun r s' ⟨v, e, hq⟩ => ?_)
    subst e
    exact wpAny_pure hq
end
end Z

set_option Elab.async false
set_option linter.all false
set_option maxRecDepth 100000
set_option maxHeartbeats 4000000
namespace Z
open PySem PySem.Spec PyProof.Rows L2
variable [Row]
/-! ### what is known of the row's own classes -/
def tysB : List String := ["NoneType", "bool", "int", "str", "tuple", "list", "dict"]
def clsOne (K : PySem.W.Frag) (cs : List Str) (c : Str) : Bool :=
  (He.Fa.cls c).ok K && (decide (PySem.W.findIn K (.ref (He.ga K c)) "__class__" = some (some (.builtin "object.__class__"))) && (decide (PySem.W.specialIn K (.builtin "object.__class__") "__get__" = some (some (.builtin "getset_descriptor.__get__"))) &&
    (decide (PySem.W.takesIn K (.builtin "object.__class__") = some true) && (decide (PySem.W.mroIn K (He.ga K c) (.type "object") = some true) && ((tysB.all fun T => decide (PySem.W.kitOne K (.ref (He.ga K c)) (.type T) = some false) && (decide (PySem.W.subIn K (.type T) (.ref (He.ga K c)) = some false) && decide (PySem.W.kitOne K (.type T) (.ref (He.ga K c)) = some false))) &&
    (cs.all fun d => decide (PySem.W.kitOne K (.ref (He.ga K c)) (.ref (He.ga K d)) = some (decide (c = d))) && PySem.W.notFirst K (He.ga K c) (.ref (He.ga K d))))))))
def clsAll (K : PySem.W.Frag) (cs : List Str) : Bool := cs.all fun c => (He.Fa.glo c).ok K && clsOne K cs c
/-- the class facts of the row -/
structure ClsF (K : PySem.W.Frag) (mg : Str → Option Value) (cs : List Str) : Prop where
  at_ : ∀ c ∈ cs, mg c = some (.ref (He.ga K c))
  one : ∀ c ∈ cs, clsOne K cs c = true
theorem clsF_of {K : PySem.W.Frag} {mg : Str → Option Value} {hp : Heap} {cs : List Str} (X : K.In hp) (G : hp.Ns mainGlobals mg) (h : clsAll K cs = true) : ClsF K mg cs :=
  ⟨fun c hc => He.glo_ok X G (He.ba (List.all_eq_true.mp h c hc)).1, fun c hc => (He.ba (List.all_eq_true.mp h c hc)).2⟩
section
variable {K : PySem.W.Frag} {mg : Str → Option Value} {cs : List Str} {c d : Str}
theorem ClsF.cls (F : ClsF K mg cs) (h : c ∈ cs) : Cls K (He.ga K c) := He.cls_ok (He.ba (F.one c h)).1
theorem ClsF.rest (F : ClsF K mg cs) (h : c ∈ cs) : PySem.W.findIn K (.ref (He.ga K c)) "__class__" = some (some (.builtin "object.__class__")) ∧ PySem.W.specialIn K (.builtin "object.__class__") "__get__" = some (some (.builtin "getset_descriptor.__get__")) ∧ PySem.W.takesIn K (.builtin "object.__class__") = some true ∧ PySem.W.mroIn K (He.ga K c) (.type "object") = some true := by
  obtain ⟨_, h⟩ := He.ba (F.one c h)
  obtain ⟨h1, h⟩ := He.ba h
  obtain ⟨h2, h⟩ := He.ba h
  obtain ⟨h3, h⟩ := He.ba h
  obtain ⟨h4, h⟩ := He.ba h
  exact ⟨of_decide_eq_true h1, of_decide_eq_true h2, of_decide_eq_true h3, of_decide_eq_true h4⟩
theorem ClsF.tys (F : ClsF K mg cs) (h : c ∈ cs) {T : String} (hT : T ∈ tysB) : PySem.W.kitOne K (.ref (He.ga K c)) (.type T) = some false ∧ PySem.W.subIn K (.type T) (.ref (He.ga K c)) = some false ∧ PySem.W.kitOne K (.type T) (.ref (He.ga K c)) = some false := by
  obtain ⟨_, h⟩ := He.ba (F.one c h)
  obtain ⟨_, h⟩ := He.ba h
  obtain ⟨_, h⟩ := He.ba h
  obtain ⟨_, h⟩ := He.ba h
  obtain ⟨_, h⟩ := He.ba h
  obtain ⟨h, _⟩ := He.ba h
  obtain ⟨h1, h⟩ := He.ba (List.all_eq_true.mp h T hT)
  obtain ⟨h2, h3⟩ := He.ba h
  exact ⟨of_decide_eq_true h1, of_decide_eq_true h2, of_decide_eq_true h3⟩
theorem ClsF.pair (F : ClsF K mg cs) (h : c ∈ cs) (hd : d ∈ cs) : PySem.W.kitOne K (.ref (He.ga K c)) (.ref (He.ga K d)) = some (decide (c = d)) ∧ PySem.W.notFirst K (He.ga K c) (.ref (He.ga K d)) = true := by
  obtain ⟨_, h⟩ := He.ba (F.one c h)
  obtain ⟨_, h⟩ := He.ba h
  obtain ⟨_, h⟩ := He.ba h
  obtain ⟨_, h⟩ := He.ba h
  obtain ⟨_, h⟩ := He.ba h
  obtain ⟨_, h⟩ := He.ba h
  obtain ⟨h1, h2⟩ := He.ba (List.all_eq_true.mp h d hd)
  exact ⟨of_decide_eq_true h1, h2⟩
theorem tyN_mem {s : Sto} {d : D} {a : String} (h : tyN s d = some a) : a ∈ tysB := by
  unfold tyN at h
  split at h
  · cases h; decide
  · cases h; decide
  · cases h; decide
  · cases h; decide
  · cases h; decide
  · split at h <;> first | (cases h; decide) | cases h
/-- the type of a value: a built-in's name, or an own class -/
def clD (s : Sto) (d : D) : Option (String ⊕ Str) := match insC s d with
  | some c => some (.inr c)
  | none => (tyN s d).map .inl
def clV (K : PySem.W.Frag) : String ⊕ Str → Value
  | .inl a => .type a
  | .inr c => .ref (He.ga K c)
def clOk (cs : List Str) : String ⊕ Str → Bool
  | .inl a => decide (a ∈ tysB)
  | .inr c => decide (c ∈ cs)
theorem clD_ok (F : ClsF K mg cs) {ρ : Nat → Addr} {s : Sto} {H : Hp} (sr : SR K mg ρ s H) {d : D} {v : V} {t : String ⊕ Str} (r : VR K ρ s.length H d v) (h : clD s d = some t) (hc : clOk cs t = true) : TyX K H v (clV K t) := by
  unfold clD at h
  split at h
  · rename_i c hi
    cases h
    obtain ⟨n, fs, rfl, hs⟩ := insC_some hi
    rw [VR] at r
    obtain ⟨hn, rfl⟩ := r
    have hm : c ∈ cs := of_decide_eq_true hc
    obtain ⟨C, dx, vs, g1, g2, g3⟩ := sr.ob n _ hs
    rw [F.at_ c hm] at g1
    cases g1
    obtain ⟨h1, h2, h3, h4⟩ := F.rest hm
    exact .base (.ins g2 (F.cls hm) h1 h2 h3 h4)
  · cases e : tyN s d with
    | none => rw [e] at h; cases h
    | some a =>
      rw [e] at h
      cases h
      exact tyN_ok sr r e
end
section
variable {X : Cx} {W : WX} {pos : Pos} {e : Expr} {m : EM D} {cs : List Str}
/-! ### isinstance of any value, with a built-in class or an own one -/
def isiT (T : String) : String ⊕ Str → Option Bool
  | .inl a => kitB a T
  | .inr _ => if T ∈ tysB then some false else none
def mIsiA (cs : List Str) (T : String) (m : EM D) : EM D := fun e s => (m e s).bind fun d s1 => match clD s1 d with
  | some t => if clOk cs t then (match isiT T t with | some b => .ok (.bl b) s1 | none => .no) else .no
  | none => .no
theorem je_isiA (F : ClsF X.K X.mg cs) {x : Str} {p1 p2 : Pos} {T : String} (hg : Gl X "isinstance") (hm : X.mg "isinstance" = none) (hg2 : Gl X x) (hm2 : X.mg x = none) (hv : bootBuiltins x = some (.type T)) (he : JE X W e m) (hn : x ≠ "__name__" := by decide) (hdb : (x == ("__debug__" : Str)) = false := by decide)
    (hs : starEach [e, .Name x p2] X.env = (false, eval e X.env) :: starEach [.Name x p2] X.env := by rfl) (hpl : (backTo pos (starEach [.Name x p2] X.env)).any (·.1) = false := by rfl) (hs2 : starEach [.Name x p2] X.env = (false, eval (.Name x p2) X.env) :: starEach [] X.env := by rfl) :
    JE X W (.Call (.Name "isinstance" p1) [e, .Name x p2] [] pos) (mIsiA cs T m) := by
  refine PE_imp (pe_callB call_isi hg hm boot_isinstance (pa_cons he (pa_cons (pe_bltn (v := .ty T) hg2 hm2 hv rfl hn hdb) pa_nil hs2) hs) (he := hs) (hpl := hpl)) fun σ H Q ⟨ρ, env, s, sr, er, po⟩ => ⟨ρ, env, s, sr, er, (Po.bind po).imp fun v H1 ⟨ρ1, s1, d1, e1, sr1, r1, po1⟩ => ?_⟩
  dsimp only at po1
  split at po1
  · rename_i t ht
    obtain ⟨hc, po1⟩ := Po.ite po1
    split at po1
    · rename_i b hb
      refine ⟨v, .ty T, clV X.K t, .type T, b, rfl, .ty T, clD_ok F sr1 r1 ht hc, ?_, po1 ρ1 H1 _ Ext.refl sr1 rfl⟩
      cases t with
      | inl a => exact kit_ty hb
      | inr c =>
        have hb : (if T ∈ tysB then some false else none) = some b := hb
        split at hb
        · rename_i hT
          cases hb
          exact (F.tys (of_decide_eq_true hc) hT).1
        · cases hb
    · exact po1.elim
  · exact po1.elim
def isiC (c : Str) : String ⊕ Str → Bool
  | .inl _ => false
  | .inr d => decide (d = c)
def mIsiC (cs : List Str) (c : Str) (m : EM D) : EM D := fun e s => (m e s).bind fun d s1 => match clD s1 d with
  | some t => if clOk cs t then .ok (.bl (isiC c t)) s1 else .no
  | none => .no
theorem je_isiC (F : ClsF X.K X.mg cs) {c : Str} {p1 p2 : Pos} (hc0 : c ∈ cs) (hg : Gl X "isinstance") (hm : X.mg "isinstance" = none) (hg2 : Gl X c) (he : JE X W e m) (hdb : (c == ("__debug__" : Str)) = false := by decide)
    (hs : starEach [e, .Name c p2] X.env = (false, eval e X.env) :: starEach [.Name c p2] X.env := by rfl) (hpl : (backTo pos (starEach [.Name c p2] X.env)).any (·.1) = false := by rfl) (hs2 : starEach [.Name c p2] X.env = (false, eval (.Name c p2) X.env) :: starEach [] X.env := by rfl) :
    JE X W (.Call (.Name "isinstance" p1) [e, .Name c p2] [] pos) (mIsiC cs c m) := by
  refine PE_imp (pe_callB call_isi hg hm boot_isinstance (pa_cons he (pa_cons (pe_glob (v := .ref (He.ga X.K c)) hg2 (F.at_ c hc0) rfl hdb) pa_nil hs2) hs) (he := hs) (hpl := hpl)) fun σ H Q ⟨ρ, env, s, sr, er, po⟩ => ⟨ρ, env, s, sr, er, (Po.bind po).imp fun v H1 ⟨ρ1, s1, d1, e1, sr1, r1, po1⟩ => ?_⟩
  dsimp only at po1
  split at po1
  · rename_i t ht
    obtain ⟨hc, po1⟩ := Po.ite po1
    refine ⟨v, .ref (He.ga X.K c), clV X.K t, .ref (He.ga X.K c), isiC c t, rfl, .own _, clD_ok F sr1 r1 ht hc, ?_, po1 ρ1 H1 _ Ext.refl sr1 rfl⟩
    cases t with
    | inl a => exact (F.tys hc0 (of_decide_eq_true hc)).2.2
    | inr d => exact (F.pair (of_decide_eq_true hc) hc0).1
  · exact po1.elim
/-! ### own == -/
/-- the classes of the table have == alone -/
def ETab (K : PySem.W.Frag) (mg : Str → Option Value) (cs : List Str) (tb : Tb) : Prop := ∀ c F, tb.lookup c = some F → c ∈ cs ∧ PySem.W.findIn K (.ref (He.ga K c)) "__ne__" = some (some (.builtin "object.__ne__"))
theorem ty_look {pins : List (Addr × Obj)} {s : Shared} {σ : L2.St} {H : Hp} {v : V} {u t : Value} (I : Inv X pins σ H s) (ru : RelV v u) (ty : TyX X.K H v t) : PySem.W.Looks (model X.prog X.w) s.heap (typeOf u) t := by
  obtain ⟨P, Z, p, _⟩ := kit_of I ru ty
  exact Z.ty _ _ I.kIn p
def neS (b : Bool) (neg : Bool) : D := .bl (neg ^^ b)
/-- x == y, x an own instance: at A -/
theorem eq_inst {A : Around} {k : Nat} {tb : Tb} {neg : Bool} (F : ClsF X.K X.mg cs) (T : MTab X.prog X.w X.K X.mg X.base k tb "__eq__") (T2 : ETab X.K X.mg cs tb) (hfr : A.frames = X.A.frames) (hr : Rm (k + 1) A) (tk : Takes X W) {pins : List (Addr × Obj)} {s : Shared} {σ : L2.St} {H : Hp} {ρ : Nat → Addr} {st : Sto} {n : Nat} {c : Str} {fs : List (Str × D)} {G : MF} {y : D} {vy : V} {uy : Value} {t : String ⊕ Str} {Q : Bool → Hp → Prop}
    (I : Inv X pins σ H s) (sr : SR X.K X.mg ρ st H) (hs : st[n]? = some (.ins c fs)) (hF : tb.lookup c = some G) (hn : n < st.length) (ry : VR X.K ρ st.length H y vy) (e2 : RelV vy uy) (ht : clD st y = some t) (hc : clOk cs t = true)
    (po : Po X.K X.mg RB W σ ρ st.length H ((G [.ref n, y] st).bind fun d s1 => match d with | .bl b => .ok b s1 | _ => .no) Q) :
    wpAny (model X.prog X.w) A (richCompare (if neg then .NotEq else .Eq) (.ref (ρ n)) uy) (fun u s' => ∃ b, u = .bool (neg ^^ b) ∧ TP X pins σ Q b s') X.xe s := by
  obtain ⟨C, dx, vs, g, g2, g3, h2, h3, h4⟩ := meth_of T sr hs hF
  obtain ⟨hcc, hne⟩ := T2 c G hF
  have eC : C = He.ga X.K c := by
    obtain ⟨C2, dx2, vs2, q1, q2, _⟩ := sr.ob n _ hs
    rw [g2] at q2
    cases q2
    rw [F.at_ c hcc] at q1
    cases q1
    rfl
  subst eC
  obtain ⟨ox, od, J, _⟩ := inst_look I g2
  obtain ⟨m0, hFr⟩ := I.fr
  have lk := ty_look I e2 (clD_ok F sr ry ht hc)
  have nf : PySem.W.notFirst X.K (He.ga X.K c) (clV X.K t) = true := by
    cases t with
    | inl a =>
      unfold PySem.W.notFirst
      rw [show PySem.W.subIn X.K (clV X.K (.inl a)) (.ref (He.ga X.K c)) = some false from (F.tys hcc (of_decide_eq_true hc)).2.1]
      simp
    | inr d => exact (F.pair hcc (of_decide_eq_true hc)).2
  have vx : VR X.K ρ st.length H (.ref n) (.ref (ρ n)) := by rw [VR]; exact ⟨hn, rfl⟩
  have e0 : ∀ {A' : Around}, A'.frames = X.A.frames → Env0 X.prog X.w X.K X.mg X.base A' X.stack s H := fun {A'} h => by
    have e := I.env0
    exact ⟨by rw [h]; exact e.frames, e.mod, e.bs, e.bsz, e.funs, e.frf, e.hok, e.bare⟩
  have run : ∀ {A' : Around}, A'.frames = X.A.frames → Rm k A' → wpAny (model X.prog X.w) A' (call (.ref g) [.ref (ρ n), uy]) (fun u s' => ∃ b, u = .bool b ∧ TP X pins σ Q b s') X.xe s := fun {A'} h r =>
    thn (own_call (us := [.ref (ρ n), uy]) (vs := [.ref (ρ n), vy]) h4 r (e0 h) tk I (.cons rfl (.cons e2 .nil)) sr (VRs.cons vx (VRs.cons ry VRs.nil)) (Po.bind po)) fun u s2 ⟨v, H2, I2, r2, ρ2, st2, d2, e3, sr2, vr2, po2⟩ => by
      cases d2 with
      | bl q =>
        obtain rfl : v = .bl q := vr2
        cases r2
        exact ⟨q, rfl, H2, I2, po2 ρ2 H2 q Ext.refl sr2 rfl⟩
      | _ => exact po2.elim
  cases neg with
  | false =>
    refine PySem.W.cmp_K (op := .Eq) hr.room.units0 hFr I.ok.mod.kin J lk nf h3.at_ h3.fn (thn (run hfr (hr.mono (Nat.le_succ k))) fun u s' ⟨b, e, q⟩ => ?_)
    subst e
    exact ⟨b, by simp, q⟩
  | true =>
    refine ne_K (Nat.lt_of_lt_of_le (Nat.lt_succ_self _) (by have := hr.room.units; omega)) hFr I.ok.mod.kin J lk nf hne h3.at_ h3.fn (F.rest hcc).2.2.2 (thn (run (A' := A.in1) hfr hr.in1) fun u s' ⟨b, e, q⟩ => ?_)
    subst e
    exact ⟨b, rfl, b, by simp, q⟩
end
end Z

set_option Elab.async false
set_option linter.all false
set_option maxRecDepth 100000
set_option maxHeartbeats 4000000
namespace Z
open PySem PySem.Spec PyProof.Rows L2
variable [Row]
open PySem.SeqAt
open AutoSeq1 (wpAny_loadPart')
open MeetsSeq MeetsSeq2 MeetsSeq3 SeqRoads2
/-! ### == of lists of own instances -/
def mLst (s : Sto) (n : Nat) : Option (List D) := match s[n]? with
  | some (.lst xs) => some xs
  | _ => none
/-- two items: the same place, or own instances -/
def eqEl (cs : List Str) (tb : Tb) (x y : D) (s : Sto) : Rs Bool := match x, y with
  | .ref n, .ref j => match s[n]?, s[j]? with
    | some (.ins c fs), some (.ins d gs) => if n = j then .ok true s else if c ∈ cs ∧ d ∈ cs then (match tb.lookup c with
      | some G => (G [.ref n, .ref j] s).bind fun d s1 => match d with | .bl b => .ok b s1 | _ => .no
      | none => .no) else .no
    | _, _ => .no
  | _, _ => .no
def eqLoop (cs : List Str) (tb : Tb) (a b : Nat) : Nat → Nat → Sto → Rs Bool
  | 0, _, _ => .no
  | f + 1, i, s => match mLst s a, mLst s b with
    | some xs, some ys => match xs[i]?, ys[i]? with
      | some x, some y => (eqEl cs tb x y s).bind fun r s1 => if r then eqLoop cs tb a b f (i + 1) s1 else match mLst s1 a, mLst s1 b with
        | some xs1, some ys1 => if i < xs1.length ∧ i < ys1.length then .ok false s1 else .no
        | _, _ => .no
      | _, _ => .ok (decide (xs.length = ys.length)) s
    | _, _ => .no
theorem mLst_at {s : Sto} {n : Nat} {xs : List D} (h : mLst s n = some xs) : s[n]? = some (.lst xs) := by
  unfold mLst at h
  split at h
  · rename_i ys e
    cases h
    exact e
  · cases h
section
variable {X : Cx} {W : WX} {pos : Pos} {k : Nat} {cs : List Str} {tb : Tb}
theorem eq_el {A : Around} (F : ClsF X.K X.mg cs) (T : MTab X.prog X.w X.K X.mg X.base k tb "__eq__") (T2 : ETab X.K X.mg cs tb) (hfr : A.frames = X.A.frames) (hr : Rm (k + 1) A) (tk : Takes X W) {pins : List (Addr × Obj)} {s : Shared} {σ : L2.St} {H : Hp} {ρ : Nat → Addr} {st : Sto} {x y : D} {vx vy : V} {ux uy : Value} {Q : Bool → Hp → Prop}
    (I : Inv X pins σ H s) (sr : SR X.K X.mg ρ st H) (rx : VR X.K ρ st.length H x vx) (ry : VR X.K ρ st.length H y vy) (e1 : RelV vx ux) (e2 : RelV vy uy) (po : Po X.K X.mg RB W σ ρ st.length H (eqEl cs tb x y st) Q) :
    wpAny (model X.prog X.w) A (eqBool ux uy) (fun b s' => TP X pins σ Q b s') X.xe s := by
  unfold eqEl at po
  split at po
  · rename_i n j
    split at po
    · rename_i c fs d gs hn hj
      rw [VR] at rx
      obtain ⟨ln, rfl⟩ := rx
      have ry' := ry
      rw [VR] at ry
      obtain ⟨lj, rfl⟩ := ry
      obtain rfl : ux = Value.ref (ρ n) := e1
      obtain rfl : uy = Value.ref (ρ j) := e2
      split at po
      · rename_i e
        subst e
        unfold eqBool
        refine wpAny_holding ?_
        refine wpAny_ite_split (fun _ => wpAny_bind (wpAny_rule (wpAny_pure ⟨H, I, po ρ H true Ext.refl sr rfl⟩))) (fun h => absurd (by simp) h)
      · rename_i hne
        obtain ⟨⟨hc, hd⟩, po⟩ := Po.ite po
        have ha : ρ n ≠ ρ j := fun z => hne (sr.inj n j _ _ hn hj rfl rfl z)
        split at po
        · rename_i G hG
          refine GQ.eqBool_refG ha (thn (eq_inst (neg := false) F T T2 hfr hr tk I sr hn hG ln ry' rfl (t := .inr d) ?_ (by simpa [clOk] using hd) po) fun u s' ⟨b, e, q⟩ => ⟨b, by simpa using e, q⟩)
          unfold clD insC
          dsimp only
          rw [hj]
        · exact po.elim
    · exact po.elim
  · exact po.elim
def cmpCode (neg : Bool) : Int := if neg then 3 else 2
theorem eq_loopO {A : Around} (F : ClsF X.K X.mg cs) (T : MTab X.prog X.w X.K X.mg X.base k tb "__eq__") (T2 : ETab X.K X.mg cs tb) (hfr : A.frames = X.A.frames) (hr : Rm (k + 2) A) (tk : Takes X W) (neg : Bool) {pins : List (Addr × Obj)} {σ : L2.St} {a b : Nat} {R : Result → Shared → Prop} {Q : Bool → Hp → Prop}
    (hR : ∀ q s', TP X pins σ Q q s' → R (.ok (.ret (.bool (neg ^^ q)))) s') (hE : ∀ e s', X.xe e s' → R (.error e) s') : ∀ (f i : Nat) (s : Shared) (H : Hp) (ρ : Nat → Addr) (st : Sto), Inv X pins σ H s → SR X.K X.mg ρ st H →
      Po X.K X.mg RB W σ ρ st.length H (eqLoop cs tb a b f i st) Q →
      wpAny (model X.prog X.w) A.in1 (Builtin.«list.__eq__.loop» ⟨[.ref (ρ a), .ref (ρ b), rawInt i, rawInt (cmpCode neg)], []⟩) (GQ.FinOf X.prog X.w A R) (fun e s' => R (.error e) s') s := by
  intro f
  induction f with
  | zero => intro i s H ρ st I sr po; exact po.elim
  | succ f ih =>
    intro i s H ρ st I sr po
    unfold eqLoop at po
    split at po
    · rename_i xs ys hx hy
      have ax := mLst_at hx
      have ay := mLst_at hy
      obtain ⟨vs, h1, r1⟩ := sr.ob a _ ax
      obtain ⟨ws, h2, r2⟩ := sr.ob b _ ay
      obtain ⟨z1, its1, n1, q1, l1, g1⟩ := I.lstM h1
      obtain ⟨z2, its2, n2, q2, l2, g2⟩ := I.lstM h2
      have L1 : its1.length = xs.length := by rw [← l1, r1.length]
      have L2' : its2.length = ys.length := by rw [← l2, r2.length]
      split at po
      · rename_i x y ex ey
        obtain ⟨v1, hv1, w1⟩ := r1.get ex
        obtain ⟨v2, hv2, w2⟩ := r2.get ey
        obtain ⟨u1, hu1, m1⟩ := q1.get hv1
        obtain ⟨u2, hu2, m2⟩ := q2.get hv2
        have el := eq_el F T T2 (A := A.in1) (by exact hfr) hr.in1 tk I sr w1 w2 m1 m2 (Po.bind po)
        obtain ⟨hp, g, d, tk0, os⟩ := s
        have i1 : its1.toArray[((i : Nat) : Int).toNat]? = some u1 := by simpa using hu1
        have i2 : its2.toArray[((i : Nat) : Int).toNat]? = some u2 := by simpa using hu2
        have hc : ((i : Int) + 1) = ((i + 1 : Nat) : Int) := by omega
        cases neg
        all_goals
          wp_walk using wpAny_loadPart' g1, wpAny_loadPart' g2
          rw [i1, i2]
          refine wpAny_bind (wpAny_mono el (fun r s2 h2 => ?_) fun e s' he => hE e s' he)
          obtain ⟨H3, I3, ρ3, st3, d3, e3, sr3, rd, po3⟩ := h2
          obtain rfl : d3 = r := rd
          obtain ⟨hp2, g2', d2, tk2, os2⟩ := s2
          have la : a < st.length := (List.getElem?_eq_some_iff.mp ax).1
          have lb : b < st.length := (List.getElem?_eq_some_iff.mp ay).1
          have ea := e3.ag a la
          have eb := e3.ag b lb
          cases d3
          · rw [if_neg Bool.false_ne_true] at po3
            rw [if_neg Bool.false_ne_true]
            split at po3
            · rename_i xs1 ys1 hx3 hy3
              obtain ⟨⟨p1, p2⟩, po4⟩ := Po.ite po3
              obtain ⟨vs3, k1, t1⟩ := sr3.ob a _ (mLst_at hx3)
              obtain ⟨ws3, k2, t2⟩ := sr3.ob b _ (mLst_at hy3)
              rw [ea] at k1
              rw [eb] at k2
              obtain ⟨_, jts1, m1', c1, l3, f1⟩ := I3.lstM k1
              obtain ⟨_, jts2, m2', c2, l4, f2⟩ := I3.lstM k2
              have n1' : i < jts1.length := by rw [← l3, t1.length]; exact p1
              have n2' : i < jts2.length := by rw [← l4, t2.length]; exact p2
              have j1 : jts1.toArray[((i : Nat) : Int).toNat]? = some jts1[i] := by simp [n1']
              have j2 : jts2.toArray[((i : Nat) : Int).toNat]? = some jts2[i] := by simp [n2']
              wp_walk using wpAny_loadPart' f1, wpAny_loadPart' f2
              rw [j1, j2]
              wp_walk
              exact hR false _ ⟨H3, I3, po4 ρ3 H3 false Ext.refl sr3 rfl⟩
            · exact po3.elim
          · rw [if_pos rfl] at po3
            rw [if_pos rfl, hc]
            refine wpAny_pure ⟨plainId_quiet plain_eq_loop _, codeAny_builtin entry_eq_loop ?_⟩
            rw [Around.under_plainId plain_eq_loop _]
            have := ih (i + 1) _ H3 ρ3 st3 I3 sr3 po3
            rw [ea, eb] at this
            exact this
      · rename_i hnot
        have hq := hR (decide (xs.length = ys.length)) s ⟨H, I, po ρ H _ Ext.refl sr rfl⟩
        obtain ⟨hp, g, d, tk0, os⟩ := s
        have hsz : (its1.toArray.size == its2.toArray.size) = decide (xs.length = ys.length) := by
          rw [List.size_toArray, List.size_toArray, L1, L2']
          by_cases q : xs.length = ys.length <;> simp [q]
        have none2 : its1.toArray[((i : Nat) : Int).toNat]? = none ∨ its2.toArray[((i : Nat) : Int).toNat]? = none := by
          by_cases q : i < xs.length
          · by_cases q2 : i < ys.length
            · exact (hnot _ _ (List.getElem?_eq_getElem q) (List.getElem?_eq_getElem q2)).elim
            · exact .inr (by simp; omega)
          · exact .inl (by simp; omega)
        cases neg
        · wp_walk using wpAny_loadPart' g1, wpAny_loadPart' g2
          split
          · rename_i h9
            rcases none2 with z | z <;> rw [z] at h9 <;> simp at h9
          · wp_walk using wpAny_loadPart' g1, wpAny_loadPart' g2
            show R (.ok (.ret (.bool (its1.toArray.size == its2.toArray.size)))) _
            rw [hsz]
            simpa using hq
        · wp_walk using wpAny_loadPart' g1, wpAny_loadPart' g2
          split
          · rename_i h9
            rcases none2 with z | z <;> rw [z] at h9 <;> simp at h9
          · wp_walk using wpAny_loadPart' g1, wpAny_loadPart' g2
            show R (.ok (.ret (.bool (its1.toArray.size != its2.toArray.size)))) _
            rw [show (its1.toArray.size != its2.toArray.size) = !decide (xs.length = ys.length) from by rw [← hsz] <;> rfl]
            simpa using hq
    · exact po.elim
/-- == and != of two lists of own instances -/
theorem eq_lstO (F : ClsF X.K X.mg cs) (T : MTab X.prog X.w X.K X.mg X.base k tb "__eq__") (T2 : ETab X.K X.mg cs tb) (hr : Rm (k + 2) X.A) (tk : Takes X W) (neg : Bool) {pins : List (Addr × Obj)} {s : Shared} {σ : L2.St} {H : Hp} {ρ : Nat → Addr} {st : Sto} {a b f : Nat} {xs ys : List D} {Q : Bool → Hp → Prop}
    (I : Inv X pins σ H s) (sr : SR X.K X.mg ρ st H) (hx : mLst st a = some xs) (hy : mLst st b = some ys) (po : Po X.K X.mg RB W σ ρ st.length H (if xs.length = ys.length then eqLoop cs tb a b f 0 st else .ok false st) Q) :
    wpAny (model X.prog X.w) X.A (richCompare (if neg then .NotEq else .Eq) (.ref (ρ a)) (.ref (ρ b))) (fun u s' => ∃ q, u = .bool (neg ^^ q) ∧ TP X pins σ Q q s') X.xe s := by
  obtain ⟨vs, h1, r1⟩ := sr.ob a _ (mLst_at hx)
  obtain ⟨ws, h2, r2⟩ := sr.ob b _ (mLst_at hy)
  obtain ⟨z1, its1, n1, q1, l1, g1⟩ := I.lstM h1
  obtain ⟨z2, its2, n2, q2, l2, g2⟩ := I.lstM h2
  have L1 : its1.length = xs.length := by rw [← l1, r1.length]
  have L2' : its2.length = ys.length := by rw [← l2, r2.length]
  have body : ∀ {Rr : Result → Shared → Prop}, (∀ q s', TP X pins σ Q q s' → Rr (.ok (.ret (.bool (neg ^^ q)))) s') → (∀ e s', X.xe e s' → Rr (.error e) s') →
      wpAny (model X.prog X.w) X.A.in1 ((if neg then Builtin.«list.__ne__» else Builtin.«list.__eq__») ⟨[.ref (ρ a), .ref (ρ b)], []⟩) (GQ.FinOf X.prog X.w X.A Rr) (fun e s' => Rr (.error e) s') s := fun {Rr} hR hE => by
    have loop : xs.length = ys.length → wpAny (model X.prog X.w) X.A.in1 (Builtin.«list.__eq__.loop» ⟨[.ref (ρ a), .ref (ρ b), rawInt 0, rawInt (cmpCode neg)], []⟩) (GQ.FinOf X.prog X.w X.A Rr) (fun e s' => Rr (.error e) s') s := fun e => by
      rw [if_pos e] at po
      exact eq_loopO F T T2 rfl hr tk neg hR hE f 0 s H ρ st I sr po
    have f3 := AutoSeq1.sub_list_list
    by_cases e : xs.length = ys.length
    · have hl := loop e
      obtain ⟨hp, g, d, tk0, os⟩ := s
      have hne : ¬ (its1.toArray.size != its2.toArray.size) = true := by simp [L1, L2', e]
      cases neg
      · show wpAny _ _ (Builtin.«list.__eq__» ⟨[.ref (ρ a), .ref (ρ b)], []⟩) _ _ _
        wp_walk using wpAny_loadPart' g1, wpAny_loadPart' g2
        refine ⟨plainId_quiet plain_eq_loop _, codeAny_builtin entry_eq_loop ?_⟩
        rw [Around.under_plainId plain_eq_loop _]
        exact hl
      · show wpAny _ _ (Builtin.«list.__ne__» ⟨[.ref (ρ a), .ref (ρ b)], []⟩) _ _ _
        wp_walk using wpAny_loadPart' g1, wpAny_loadPart' g2
        refine ⟨plainId_quiet plain_eq_loop _, codeAny_builtin entry_eq_loop ?_⟩
        rw [Around.under_plainId plain_eq_loop _]
        exact hl
    · rw [if_neg e] at po
      have hq := hR false s ⟨H, I, po ρ H false Ext.refl sr rfl⟩
      obtain ⟨hp, g, d, tk0, os⟩ := s
      have hne : (its1.toArray.size != its2.toArray.size) = true := by simp [L1, L2', e]
      cases neg
      · show wpAny _ _ (Builtin.«list.__eq__» ⟨[.ref (ρ a), .ref (ρ b)], []⟩) _ _ _
        wp_walk using wpAny_loadPart' g1, wpAny_loadPart' g2
        exact hq
      · show wpAny _ _ (Builtin.«list.__ne__» ⟨[.ref (ρ a), .ref (ρ b)], []⟩) _ _ _
        wp_walk using wpAny_loadPart' g1, wpAny_loadPart' g2
        exact hq
  cases neg
  · refine wpAny_richCompare_same_room (op := .Eq) ⟨_, g1, rfl⟩ ⟨_, g2, rfl⟩ PySem.F.slot_list_eq (GQ.call_here PySem.F.slot_list_eq ⟨_, g1, rfl⟩ PySem.F.entry_list_eq (PySem.F.args_list_eq_2 _ _) ?_) hr.room.units0
    exact body (fun q s' h => ⟨(fun x => nomatch x), q, rfl, h⟩) fun e s' h => h
  · refine wpAny_richCompare_same_room (op := .NotEq) ⟨_, g1, rfl⟩ ⟨_, g2, rfl⟩ PySem.F.slot_list_ne (GQ.call_here PySem.F.slot_list_ne ⟨_, g1, rfl⟩ PySem.F.entry_list_ne (PySem.F.args_list_ne_2 _ _) ?_) hr.room.units0
    exact body (fun q s' h => ⟨(fun x => nomatch x), q, rfl, h⟩) fun e s' h => h
/-! ### == and != of any two values -/
def dEqO (cs : List Str) (tb : Tb) (neg : Bool) (x y : D) (s : Sto) : Rs D := match insC s x with
  | some c => match tb.lookup c, clD s y with
    | some G, some t => if clOk cs t then (G [x, y] s).bind fun d s1 => match d with | .bl b => .ok (.bl (neg ^^ b)) s1 | _ => .no else .no
    | _, _ => .no
  | none => match x, y with
    | .ref a, .ref b => match mLst s a, mLst s b with
      | some xs, some ys => if (shp s x).isSome && (shp s y).isSome then dEqB neg x y s else if a = b then .no else
          (if xs.length = ys.length then eqLoop cs tb a b (xs.length + 1) 0 s else .ok false s).bind fun q s1 => .ok (.bl (neg ^^ q)) s1
      | _, _ => dEqB neg x y s
    | _, _ => dEqB neg x y s
theorem opd_eqO (F : ClsF X.K X.mg cs) (T : MTab X.prog X.w X.K X.mg X.base k tb "__eq__") (T2 : ETab X.K X.mg cs tb) (hr : Rm (k + 2) X.A) (tk : Takes X W) (neg : Bool) (hB : OpD X W (compareOp (if neg then .NotEq else .Eq)) (dEqB neg)) : OpD X W (compareOp (if neg then .NotEq else .Eq)) (dEqO cs tb neg) := by
  have rc : ∀ a b, compareOp (if neg then .NotEq else .Eq) a b = richCompare (if neg then .NotEq else .Eq) a b := fun a b => by cases neg <;> rfl
  intro pins s σ H ρ st x y vx vy ux uy Q I sr rx ry e1 e2 po
  unfold dEqO at po
  split at po
  · rename_i c hc
    split at po
    · rename_i G t hG ht
      obtain ⟨hk, po⟩ := Po.ite po
      obtain ⟨n, fs, rfl, hs⟩ := insC_some hc
      rw [VR] at rx
      obtain ⟨hn, rfl⟩ := rx
      obtain rfl : ux = Value.ref (ρ n) := e1
      rw [rc]
      refine thn (eq_inst (Q := fun b H' => Q (.bl (neg ^^ b)) H') (neg := neg) F T T2 rfl (hr.mono (Nat.le_succ _)) tk I sr hs hG hn ry e2 ht hk ?_) fun u s' ⟨b, e, H', I', q⟩ => ?_
      · have po2 := po
        revert po2
        cases G [.ref n, y] st with
        | ok d s1 =>
          intro po2
          cases d with
          | bl b =>
            intro ρ' H' v e sr r
            obtain rfl : b = v := r
            exact po2 ρ' H' (.bl (neg ^^ b)) e sr rfl
          | _ => exact po2.elim
        | ex c f d s1 => exact fun po2 => po2
        | no => exact fun po2 => po2
      · subst e
        exact ⟨.bl (neg ^^ b), H', I', rfl, q⟩
    · exact po.elim
  · rename_i hin
    split at po
    · rename_i a b
      split at po
      · rename_i xs ys hx hy
        split at po
        · exact hB pins s σ H ρ st _ _ vx vy ux uy Q I sr rx ry e1 e2 po
        · split at po
          · exact po.elim
          · rw [VR] at rx ry
            obtain ⟨la, rfl⟩ := rx
            obtain ⟨lb, rfl⟩ := ry
            obtain rfl : ux = Value.ref (ρ a) := e1
            obtain rfl : uy = Value.ref (ρ b) := e2
            rw [rc]
            refine thn (eq_lstO (Q := fun q H' => Q (.bl (neg ^^ q)) H') F T T2 hr tk neg I sr hx hy (f := xs.length + 1) ?_) fun u s' ⟨q, e, H', I', hq⟩ => ?_
            · have po2 := po
              revert po2
              cases (if xs.length = ys.length then eqLoop cs tb a b (xs.length + 1) 0 st else .ok false st) with
              | ok d s1 =>
                intro po2 ρ' H' v e sr r
                obtain rfl : d = v := r
                exact po2 ρ' H' (.bl (neg ^^ d)) e sr rfl
              | ex c f d s1 => exact fun po2 => po2
              | no => exact fun po2 => po2
            · subst e
              exact ⟨.bl (neg ^^ q), H', I', rfl, hq⟩
      · exact hB pins s σ H ρ st _ _ vx vy ux uy Q I sr rx ry e1 e2 po
    · exact hB pins s σ H ρ st _ _ vx vy ux uy Q I sr rx ry e1 e2 po
end
end Z

set_option Elab.async false
set_option linter.all false
set_option maxRecDepth 100000
set_option maxHeartbeats 4000000
namespace Z
open PySem PySem.Spec PyProof.Rows L2
variable [Row]
/-! ### list.extend by a list or a tuple -/
def rExtA (K : PySem.W.Frag) : V → List V → Hp → VK → Prop := fun x vs H Q => ∃ l b xs zs, x = .ref l ∧ vs = [.ref b] ∧ H l = some (.lst xs) ∧ (SqL K H b zs ∨ SqT K H b zs) ∧ xs.length + zs.length ≤ sizeLine ∧ Q .non (upd H l (.lst (xs ++ zs)))
theorem meets_extend (T : String) (hT : T = "list" ∨ T = "tuple") (l : Addr) (items : Array Value) (n : Nat) (b : Addr) (items2 : Array Value) (n2 : Nat) (dd : Option Addr) (sl : Array (Option Value)) (hs0 : ¬(!items.isEmpty && Builtin.List.listTooLong (items.size + items2.size)) = true) (hs1 : items.size ≤ sizeLine) (hs2 : items.size + items2.size ≤ sizeLine + 1) :
    Meets (Builtin.«list.extend» ⟨[.ref l, .ref b], []⟩) (fun _ R s => s.heap.get? l = some { cls := .type "list", dict := none, data := .seq items n, slots := #[] } ∧ s.heap.get? b = some { cls := .type T, dict := dd, data := .seq items2 n2, slots := sl } ∧ R (.ok (.ret Value.none)) { s with heap := s.heap.update l (Obj.mapSeq fun x => x ++ items2), toks := s.toks }) :=
  .of_wp fun prog w A R s h => by
    obtain ⟨hp, g, d, tk, os⟩ := s
    obtain ⟨hl, hb, h⟩ := h
    have f1 := AutoSeq1.idx_int
    have f2 := AutoSeq1.sub_tuple_tuple
    have f3 := AutoSeq1.sub_list_list
    have f4 := AutoSeq1.sub_tuple_list
    have f5 := AutoSeq1.sub_list_tuple
    have hz' : (items ++ items2).size ≤ sizeLine + 1 := by rw [Array.size_append]; exact hs2
    rcases hT with rfl | rfl <;> (wp_walk using (wpAny_updateSeq hl rfl (hz := hs1) (_hz' := hz')), AutoSeq1.wpAny_loadPart' hl, AutoSeq1.wpAny_loadPart' hb; exact ⟨_, rfl, h⟩)
section
variable {X : Cx} {W : WX}
theorem mt_extA : MtR X "list.extend" (rExtA X.K) := by
  intro pins s σ H x vs v us Q I rx rv h
  obtain ⟨l, b, xs, zs, rfl, rfl, hH, hB, hz, q⟩ := h
  cases rx
  obtain ⟨u, rfl, ru⟩ := rv.one
  cases ru
  obtain ⟨z, its, n, r, hl, e⟩ := I.lstM hH
  have key : ∀ (T : String) (hT : T = "list" ∨ T = "tuple") (its2 : List Value) (n2 : Nat) (dd : Option Addr) (sl : Array (Option Value)), Vals zs its2 → s.heap.get? b = some { cls := .type T, dict := dd, data := .seq its2.toArray n2, slots := sl } → wpAny (model X.prog X.w) X.A (call (.builtin "list.extend") [.ref l, .ref b]) (EP X pins σ Q) X.xe s := by
    intro T hT its2 n2 dd sl r2 e2
    have hl2 := r2.length
    have hsz : its.toArray.size + its2.toArray.size ≤ sizeLine := by rw [List.size_toArray, List.size_toArray]; omega
    have hlong : ¬ (!its.toArray.isEmpty && Builtin.List.listTooLong (its.toArray.size + its2.toArray.size)) = true := by
      rw [notLongL hsz, Bool.and_false]
      exact Bool.false_ne_true
    refine call_meets PySem.F.slot_list_extend ⟨_, e, rfl⟩ PySem.F.entry_list_extend (PySem.F.args_list_extend_2 _ _) (meets_extend T hT l its.toArray n b its2.toArray n2 dd sl hlong (by rw [List.size_toArray]; omega) (by omega)) ⟨e, e2, ?_⟩
    refine ⟨.non, _, I.lset (its' := its ++ its2) hH e (by simp) (r.append r2) ?_, rfl, q⟩
    rw [List.length_append]
    omega
  rcases hB with hB | hB
  · obtain ⟨its2, r2, p, hz2⟩ := I.list hB
    obtain ⟨⟨c, dd, dt, sl⟩, e2, hc, n2, hd⟩ := p.isList
    dsimp only at hc hd
    subst hc hd
    exact key "list" (.inl rfl) its2 n2 dd sl r2 e2
  · obtain ⟨its2, r2, ⟨⟨c, dd, dt, sl⟩, e2, hc, n2, hd⟩, hz2⟩ := I.tuple hB
    dsimp only at hc hd
    subst hc hd
    exact key "tuple" (.inr rfl) its2 n2 dd sl r2 e2
def lExtend (x : D) (ds : List D) (s : Sto) : Rs D := match x, ds with
  | .ref n, [d] => match s[n]?, seqD s d with
    | some (.lst xs), some ys => if xs.length + ys.length ≤ sizeLine then .ok .non (s.set n (.lst (xs ++ ys))) else .no
    | _, _ => .no
  | _, _ => .no
theorem pm_extend : PrM X W lExtend (rExtA X.K) := by
  intro ρ s H σ x ds vx vs Q sr rx rv po
  unfold lExtend at po
  split at po
  · rename_i n d
    split at po
    · rename_i xs ys h1 h2
      obtain ⟨hl, po⟩ := Po.ite po
      rw [VR] at rx
      obtain ⟨hn, rfl⟩ := rx
      obtain ⟨v, rfl, rv1⟩ := rv.one
      obtain ⟨ws, hw, rw1⟩ := sr.ob _ _ h1
      obtain ⟨b, us, rfl, sq, ru⟩ := vr_seq sr rv1 (xs := ys) (by unfold seqD at h2; cases d <;> first | exact h2 | cases h2)
      have e1 := rw1.length
      have e2 := ru.length
      refine ⟨ρ n, b, ws, us, rfl, rfl, hw, sq, by omega, ?_⟩
      have ext : Ext ρ s.length H ρ s.length (upd H (ρ n) (.lst (ws ++ us))) := Ext.write (sr.ob _ _ h1) rfl
      refine po ρ _ .non (by rw [List.length_set]; exact ext) (sr.write h1 rfl rfl ⟨_, upd_same, (rw1.append ru).mono ext⟩) ?_
      rw [VR]
    · exact po.elim
  · exact po.elim
/-! ### texts in their order -/
def dLtS (x y : D) (s : Sto) : Rs D := match x, y with
  | .str a, .str b => .ok (.bl (decide (a.cps.toList < b.cps.toList))) s
  | _, _ => dLt x y s
theorem opd_ltS : OpD X W (compareOp .Lt) dLtS := by
  intro pins s σ H ρ st x y vx vy ux uy Q I sr rx ry e1 e2 po
  unfold dLtS at po
  split at po
  · rename_i a b
    obtain rfl : vx = .str a := rx
    obtain rfl : vy = .str b := ry
    exact op_lt_str pins s σ H _ _ ux uy Q I e1 e2 ⟨a, b, rfl, rfl, po ρ H (.bl _) Ext.refl sr (by rw [VR])⟩
  · exact OpD.of op_lt pr_lt pins s σ H ρ st x y vx vy ux uy Q I sr rx ry e1 e2 po
end
end Z

set_option Elab.async false
set_option linter.all false
set_option maxRecDepth 100000
set_option maxHeartbeats 4000000
namespace Z
open PySem PySem.Spec PyProof.Rows L2
/-! ### dicts: keys ints and texts -/
def getK (kvs : List (D × D)) (k : Key) : Option D := (kvs.find? fun p => decide (keyD p.1 = some k)).map (·.2)
def putKd (kvs : List (D × D)) (d : D) (k : Key) (v : D) : List (D × D) :=
  if (kvs.any fun p => decide (keyD p.1 = some k)) = true then kvs.map (fun p => if keyD p.1 = some k then (p.1, v) else p) else kvs ++ [(d, v)]
def mDN : EM D := fun _ s => .ok (.ref s.length) (s ++ [.dict false []])
def dctAt (s : Sto) (n : Nat) : Option (List (D × D)) := match s[n]? with
  | some (.dict false kvs) => some kvs
  | some (.lck false kvs) => some kvs
  | _ => none
def dGetD (x y : D) (s : Sto) : Rs D := match x, keyD y with
  | .ref n, some k => match dctAt s n with
    | some kvs => match getK kvs k with | some v => .ok v s | none => .no
    | none => .no
  | _, _ => .no
def dInD (neg : Bool) (y x : D) (s : Sto) : Rs D := match x, keyD y with
  | .ref n, some k => match dctAt s n with
    | some kvs => .ok (.bl (neg ^^ (getK kvs k).isSome)) s
    | none => .no
  | _, _ => .no
def dGet2 (x y z : D) (s : Sto) : Rs D := match x, keyD y with
  | .ref n, some k => match dctAt s n with
    | some kvs => .ok ((getK kvs k).getD z) s
    | none => .no
  | _, _ => .no
def m3 (f : D → D → D → Sto → Rs D) (ma mb mc : EM D) : EM D := fun env s => (ma env s).bind fun x s1 => (mb env s1).bind fun y s2 => (mc env s2).bind fun z s3 => f x y z s3
def xSetD (o i x : D) (s : Sto) : Option Sto := match o, keyD i with
  | .ref n, some k => match s[n]? with
    | some (.dict false kvs) => if kvs.length < sizeLine then some (s.set n (.dict false (putKd kvs i k x))) else none
    | _ => none
  | _, _ => none
/-! the walk over the keys, the pairs: the dict is locked -/
def jKey (n : Nat) : Stp := fun i s => match s[n]? with
  | some (.lck false kvs) => some ((kvs[i]?).map (·.1))
  | _ => none
def jItm (n : Nat) : Stp := fun i s => match s[n]? with
  | some (.lck false kvs) => some ((kvs[i]?).map fun p => .tup [p.1, p.2])
  | _ => none
def iKy (j : Nat → Stp) (m : EM D) : EM (Nat × Stp) := fun e s => (m e s).bind fun d s1 => match d with
  | .ref n => match s1[n]? with
    | some (.lck false kvs) => .ok (kvs.length, j n) s1
    | _ => .no
  | _ => .no
def unlS (n : Nat) (s : Sto) : Option Sto := match s[n]? with
  | some (.lck false kvs) => some (s.set n (.dict false kvs))
  | _ => none
def RS.unl (n : Nat) (r : RS) : RS := match r with
  | .nx e s => match unlS n s with | some s' => .nx e s' | none => .no
  | .rt d s => match unlS n s with | some s' => .rt d s' | none => .no
  | .bk e s => match unlS n s with | some s' => .bk e s' | none => .no
  | .ct e s => match unlS n s with | some s' => .ct e s' | none => .no
  | .ex c f v e s => .ex c f v e s
  | .no => .no
/-- a loop over a dict: it is locked meanwhile -/
def sLk (m : EM D) (b : SM) : SM := fun e s => match m e s with
  | .ok (.ref n) _ => match s[n]? with
    | some (.dict false kvs) => (b e (s.set n (.lck false kvs))).unl n
    | _ => .no
  | _ => .no
variable [Row]
section
variable {K : PySem.W.Frag} {mg : Str → Option Value} {ρ : Nat → Addr} {n : Nat} {H : Hp}
theorem keyD_vr {d : D} {k : Key} (h : keyD d = some k) {v : V} (r : VR K ρ n H d v) : v = kV k := by
  unfold keyD at h
  split at h
  · cases h
    exact r
  · cases h
    exact r
  · cases h
theorem vr_keyD {d : D} {k : Key} (h : keyD d = some k) : VR K ρ n H d (kV k) := by
  unfold keyD at h
  split at h
  · cases h
    rw [VR]
    rfl
  · cases h
    rw [VR]
    rfl
  · cases h
theorem KR.len {κ : Type} {key : D → Option κ} : ∀ {kvs : List (D × D)} {vs : List (κ × V)}, KR key K ρ n H kvs vs → vs.length = kvs.length
  | [], _, h => by
    have h : _ = ([] : List (κ × V)) := h
    rw [h] <;> rfl
  | _ :: _, _, ⟨k, v, r, e, _, _, t⟩ => by rw [e, List.length_cons, List.length_cons, KR.len t]
theorem KR.at {κ : Type} {key : D → Option κ} : ∀ {kvs : List (D × D)} {vs : List (κ × V)} {i : Nat} {p : D × D}, KR key K ρ n H kvs vs → kvs[i]? = some p → ∃ k v, vs[i]? = some (k, v) ∧ key p.1 = some k ∧ VR K ρ n H p.2 v
  | [], _, _, _, _, h => by simp at h
  | q :: _, _, 0, p, ⟨k, v, r, e, h1, h2, t⟩, h => by
    simp at h
    subst h e
    exact ⟨k, v, rfl, h1, h2⟩
  | q :: qs, _, i + 1, p, ⟨k, v, r, e, h1, h2, t⟩, h => by
    subst e
    simp at h
    obtain ⟨k', v', a, b, c⟩ := KR.at t h
    exact ⟨k', v', by simpa using a, b, c⟩
theorem KR.val {k : Key} : ∀ {kvs : List (D × D)} {vs : List (Key × V)}, KR keyD K ρ n H kvs vs → match getK kvs k with | some d => ∃ v, valV vs k = some v ∧ VR K ρ n H d v | none => valV vs k = none
  | [], _, h => by
    have h : _ = ([] : List (Key × V)) := h
    subst h
    rfl
  | q :: qs, _, ⟨j, v, r, e, h1, h2, t⟩ => by
    subst e
    unfold getK
    rw [List.find?_cons]
    by_cases hk : j = k
    · rw [show decide (keyD q.1 = some k) = true from by rw [h1, hk]; simp]
      exact ⟨v, valV_pos hk, h2⟩
    · rw [show decide (keyD q.1 = some k) = false from by rw [h1]; simp [hk]]
      rw [valV_neg (p := (j, v)) hk]
      exact KR.val t
theorem KR.any {k : Key} : ∀ {kvs : List (D × D)} {vs : List (Key × V)}, KR keyD K ρ n H kvs vs → (kvs.any fun p => decide (keyD p.1 = some k)) = vs.any fun kv => decide (kv.1 = k)
  | [], _, h => by
    have h : _ = ([] : List (Key × V)) := h
    subst h
    rfl
  | q :: qs, _, ⟨j, v, r, e, h1, h2, t⟩ => by
    subst e
    rw [List.any_cons, List.any_cons, KR.any t, h1]
    by_cases hk : j = k <;> simp [hk]
theorem KR.snoc {d x : D} {k : Key} {vx : V} (hk : keyD d = some k) (hx : VR K ρ n H x vx) : ∀ {kvs : List (D × D)} {vs : List (Key × V)}, KR keyD K ρ n H kvs vs → KR keyD K ρ n H (kvs ++ [(d, x)]) (vs ++ [(k, vx)])
  | [], _, h => by
    have h : _ = ([] : List (Key × V)) := h
    subst h
    exact ⟨k, vx, [], rfl, hk, hx, rfl⟩
  | q :: qs, _, ⟨j, v, r, e, h1, h2, t⟩ => by
    subst e
    exact ⟨j, v, _, rfl, h1, h2, KR.snoc hk hx t⟩
theorem KR.mapk {x : D} {k : Key} {vx : V} (hx : VR K ρ n H x vx) : ∀ {kvs : List (D × D)} {vs : List (Key × V)}, KR keyD K ρ n H kvs vs → KR keyD K ρ n H (kvs.map fun p => if keyD p.1 = some k then (p.1, x) else p) (vs.map fun kv => if kv.1 = k then (kv.1, vx) else kv)
  | [], _, h => by
    have h : _ = ([] : List (Key × V)) := h
    subst h
    rfl
  | q :: qs, _, ⟨j, v, r, e, h1, h2, t⟩ => by
    subst e
    rw [List.map_cons, List.map_cons]
    by_cases hk : j = k
    · rw [if_pos (show keyD q.1 = some k by rw [h1, hk]), if_pos hk]
      exact ⟨j, vx, _, rfl, h1, hx, KR.mapk hx t⟩
    · rw [if_neg (show ¬ keyD q.1 = some k by rw [h1]; simp [hk]), if_neg hk]
      exact ⟨j, v, _, rfl, h1, h2, KR.mapk hx t⟩
theorem KR.put {d x : D} {k : Key} {vx : V} (hk : keyD d = some k) (hx : VR K ρ n H x vx) {kvs : List (D × D)} {vs : List (Key × V)} (r : KR keyD K ρ n H kvs vs) : KR keyD K ρ n H (putKd kvs d k x) (putK vs k vx) := by
  unfold putKd putK
  rw [r.any]
  split
  · exact r.mapk hx
  · exact r.snoc hk hx
/-- a dict that is read -/
theorem SR.dct {s : Sto} (sr : SR K mg ρ s H) {m : Nat} {kvs : List (D × D)} (h : dctAt s m = some kvs) : ∃ vs, Rd H (ρ m) (.dK vs) ∧ KR keyD K ρ s.length H kvs vs := by
  unfold dctAt at h
  split at h
  · rename_i k e
    cases h
    obtain ⟨vs, h1, h2⟩ := sr.ob _ _ e
    exact ⟨vs, .inl h1, h2⟩
  · rename_i k e
    cases h
    obtain ⟨od, vs, h1, h2⟩ := sr.ob _ _ e
    exact ⟨vs, .inr ⟨od, h1⟩, h2⟩
  · cases h
end
section
variable {X : Cx} {W : WX} {pos apos cpos : Pos} {o e f i y : Expr} {mo me mf ma mb : EM D}
theorem je_dnew : JE X W (.Dict [] [] pos) mDN := PE_imp pe_dnewK fun σ H Q ⟨ρ, env, s, sr, er, po⟩ => fun p hp => by
  have st : ∀ b o, H b = some o → upd H p (.dK []) b = some o := fun b o e => by rw [upd_ne (ne_of_none e hp)]; exact e
  have w := sr.alloc (o := .dict false []) hp st ⟨[], upd_same, rfl⟩
  have len : (s ++ [SO.dict false []]).length = s.length + 1 := by rw [List.length_append] <;> rfl
  refine po _ _ _ (by rw [len]; exact Ext.alloc st) w ?_
  rw [VR, len]
  exact ⟨Nat.lt_succ_self _, by rw [ρup_same]⟩
theorem dget_of {ρ : Nat → Addr} {s : Sto} {H : Hp} (sr : SR X.K X.mg ρ s H) {n : Nat} {kvs : List (D × D)} {k : Key} (h : dctAt s n = some kvs) : match getK kvs k with | some d => ∃ v, DGet H (ρ n) (kV k) (some v) ∧ VR X.K ρ s.length H d v | none => DGet H (ρ n) (kV k) none := by
  obtain ⟨vs, h1, h2⟩ := sr.dct h
  have hv := h2.val (k := k)
  split
  · rename_i d hd
    rw [hd] at hv
    obtain ⟨v, e1, e2⟩ := hv
    exact ⟨v, .inl ⟨vs, k, h1, rfl, e1.symm⟩, e2⟩
  · rename_i hd
    rw [hd] at hv
    exact .inl ⟨vs, k, h1, rfl, hv.symm⟩
theorem je_dget (hu : X.A.units + 1 < cLine) (ha : JE X W o ma) (hb : JE X W i mb) (hs : NoSl i := by exact fun _ _ => rfl) : JE X W (.Subscript o i pos) (m2 dGetD ma mb) :=
  PE_imp (pe_dget hu ha hb hs) fun σ H Q ⟨ρ, env, s, sr, er, po⟩ => ⟨ρ, env, s, sr, er, (Po.bind po).imp fun v H1 ⟨ρ1, s1, d1, e1, sr1, r1, po1⟩ => ⟨ρ1, env, s1, sr1, er.mono e1, (Po.bind po1).imp fun v2 H2 ⟨ρ2, s2, d2, e2, sr2, r2, po2⟩ => by
    unfold dGetD at po2
    have r1' := r1.mono e2
    cases d1 with
    | ref n =>
      cases hk : keyD d2 with
      | none => rw [hk] at po2; exact po2.elim
      | some k =>
        rw [hk] at po2
        dsimp only at po2
        split at po2
        · rename_i kvs hd
          have hg := dget_of sr2 (k := k) hd
          split at po2
          · rename_i d hv
            rw [hv] at hg
            obtain ⟨w, g, rw1⟩ := hg
            rw [VR] at r1'
            obtain ⟨_, rfl⟩ := r1'
            rw [keyD_vr hk r2]
            exact ⟨ρ2 n, w, rfl, g, po2 ρ2 H2 w Ext.refl sr2 rw1⟩
          · exact po2.elim
        · exact po2.elim
    | _ => exact po2.elim⟩⟩
theorem je_dget2 (hu : X.A.units + 1 < cLine) (ho : JE X W o mo) (he : JE X W e me) (hf : JE X W f mf) (m : M2 X o "get" apos e f cpos) (hro : True := trivial) :
    JE X W (.Call (.Attribute o "get" apos) [e, f] [] cpos) (fun env s => (mo env s).bind fun x s1 => match x with | .ref n => (match dctAt s1 n with | some _ => (me env s1).bind fun y s2 => (mf env s2).bind fun z s3 => dGet2 x y z s3 | none => .no) | _ => .no) :=
  PE_imp (pe_dget2 hu ho he hf m) fun σ H Q ⟨ρ, env, s, sr, er, po⟩ => ⟨ρ, env, s, sr, er, (Po.bind po).imp fun v H1 ⟨ρ1, s1, d1, e1, sr1, r1, po1⟩ => by
    dsimp only at po1
    split at po1
    · rename_i n
      split at po1
      · rename_i kvs0 hd0
        have r1' := r1
        rw [VR] at r1
        obtain ⟨hn, rfl⟩ := r1
        obtain ⟨vs0, h0, _⟩ := sr1.dct hd0
        refine ⟨ρ1 n, rfl, .inl ⟨vs0, h0⟩, ρ1, env, s1, sr1, er.mono e1, (Po.bind po1).imp fun v2 H2 ⟨ρ2, s2, d2, e2, sr2, r2, po2⟩ => ⟨ρ2, env, s2, sr2, (er.mono e1).mono e2, (Po.bind po2).imp fun v3 H3 ⟨ρ3, s3, d3, e3, sr3, r3, po3⟩ => ?_⟩⟩
        unfold dGet2 at po3
        cases hk : keyD d2 with
        | none => rw [hk] at po3; exact po3.elim
        | some k =>
          rw [hk] at po3
          dsimp only at po3
          split at po3
          · rename_i kvs hd
            have hg := dget_of sr3 (k := k) hd
            have ea : ρ3 n = ρ1 n := by rw [e3.ag n (e2.lt hn), e2.ag n hn]
            rw [keyD_vr hk r2, ← ea]
            cases hv : getK kvs k with
            | none =>
              rw [hv] at hg po3
              exact ⟨none, hg, po3 ρ3 H3 v3 Ext.refl sr3 r3⟩
            | some d =>
              rw [hv] at hg po3
              obtain ⟨w, g, rw1⟩ := hg
              exact ⟨some w, g, po3 ρ3 H3 w Ext.refl sr3 rw1⟩
          · exact po3.elim
      · exact po1.elim
    · exact po1.elim⟩
theorem ld_in {neg : Bool} {t : TE} (ht : ∀ σ H Q, (lE X.K X.mg W me σ H fun y H1 => lE X.K X.mg W mo σ H1 fun x H2 => ∃ a ov, x = .ref a ∧ DGet H2 a y ov ∧ Q (.bl (neg ^^ ov.isSome)) H2) → t σ H Q) {σ : L2.St} {H : Hp} {Q : VK} (h : lE X.K X.mg W (m2 (dInD neg) me mo) σ H Q) : t σ H Q := by
  obtain ⟨ρ, env, s, sr, er, po⟩ := h
  refine ht σ H Q ⟨ρ, env, s, sr, er, (Po.bind po).imp fun v H1 ⟨ρ1, s1, d1, e1, sr1, r1, po1⟩ => ⟨ρ1, env, s1, sr1, er.mono e1, (Po.bind po1).imp fun v2 H2 ⟨ρ2, s2, d2, e2, sr2, r2, po2⟩ => ?_⟩⟩
  unfold dInD at po2
  dsimp only at po2
  split at po2
  · rename_i n k hk
    split at po2
    · rename_i kvs hd
      have hg := dget_of sr2 (k := k) hd
      rw [VR] at r2
      obtain ⟨_, rfl⟩ := r2
      rw [keyD_vr hk (r1.mono e2)]
      cases hv : getK kvs k with
      | none =>
        rw [hv] at hg po2
        exact ⟨_, none, rfl, hg, po2 ρ2 H2 _ Ext.refl sr2 (by rw [VR]; rfl)⟩
      | some d =>
        rw [hv] at hg po2
        obtain ⟨w, g, _⟩ := hg
        exact ⟨_, some w, rfl, g, po2 ρ2 H2 _ Ext.refl sr2 (by rw [VR]; rfl)⟩
    · exact po2.elim
  · exact po2.elim
theorem je_din (hu : X.A.units + 1 < cLine) (he : JE X W e me) (ho : JE X W o mo) (hm : behindInMarks .In o = false) : JE X W (.Compare e [.In] [o] pos) (m2 (dInD false) me mo) :=
  PE_imp (pe_cmp (pc_din hu he ho) hm) fun _ _ _ h => ld_in (neg := false) (fun σ H Q q => by simpa [tDIn, tDNotIn] using q) h
theorem je_dnotin (hu : X.A.units + 1 < cLine) (he : JE X W e me) (ho : JE X W o mo) (hm : behindInMarks .NotIn o = false) : JE X W (.Compare e [.NotIn] [o] pos) (m2 (dInD true) me mo) :=
  PE_imp (pe_cmp (pc_dnotin hu he ho) hm) fun _ _ _ h => ld_in (neg := true) (fun σ H Q q => by simpa [tDIn, tDNotIn] using q) h
theorem jt_din (hu : X.A.units + 1 < cLine) (he : JE X W e me) (ho : JE X W o mo) (hm : behindInMarks .In o = false) : JT X W (.Compare e [.In] [o] pos) (toB (m2 (dInD false) me mo)) :=
  PT_imp (pt_cmp (pc_din hu he ho) hm) fun _ _ _ h => ltoB (t := tDIn (lE X.K X.mg W me) (lE X.K X.mg W mo)) (fun _ q => ld_in (neg := false) (fun σ H Q q => by simpa [tDIn, tDNotIn] using q) q) h
theorem jt_dnotin (hu : X.A.units + 1 < cLine) (he : JE X W e me) (ho : JE X W o mo) (hm : behindInMarks .NotIn o = false) : JT X W (.Compare e [.NotIn] [o] pos) (toB (m2 (dInD true) me mo)) :=
  PT_imp (pt_cmp (pc_dnotin hu he ho) hm) fun _ _ _ h => ltoB (t := tDNotIn (lE X.K X.mg W me) (lE X.K X.mg W mo)) (fun _ q => ld_in (neg := true) (fun σ H Q q => by simpa [tDIn, tDNotIn] using q) q) h
theorem px_setD : PrSet X xSetD rSetD := by
  intro ρ s s' H o i x vo vi vx Q sr ro ri rx e q
  unfold xSetD at e
  split at e
  · rename_i n k hk
    split at e
    · rename_i kvs hs
      split at e
      · rename_i hl
        cases e
        rw [VR] at ro
        obtain ⟨hn, rfl⟩ := ro
        rw [keyD_vr hk ri]
        obtain ⟨vs, h1, h2⟩ := sr.ob _ _ hs
        have ext : Ext ρ s.length H ρ s.length (upd H (ρ n) (.dK (putK vs k vx))) := Ext.write (sr.ob _ _ hs) rfl
        refine ⟨ρ n, _, rfl, .inl ⟨vs, k, h1, rfl, by rw [h2.len]; exact hl, rfl⟩, ?_⟩
        exact q ρ _ (by rw [List.length_set]; exact ext) (sr.write hs rfl rfl ⟨_, upd_same, (h2.put hk rx).mono ext⟩)
      · cases e
    · cases e
  · cases e
end
end Z

set_option Elab.async false
set_option linter.all false
set_option maxRecDepth 100000
set_option maxHeartbeats 4000000
namespace Z
open PySem PySem.Spec PyProof.Rows L2
variable [Row]
section
variable {X : Cx} {W : WX} {pos apos cpos : Pos} {tg e : Expr} {m : EM D} {st : Stmt} {b : SM}
theorem lck_at {s : Sto} {n : Nat} {kvs : List (D × D)} {ρ : Nat → Addr} {H : Hp} (sr : SR X.K X.mg ρ s H) (h : s[n]? = some (.lck false kvs)) : ∃ od vs, H (ρ n) = some (.frz od (.dK vs)) ∧ KR keyD X.K ρ s.length H kvs vs := sr.ob _ _ h
theorem ri_key {ρ : Nat → Addr} {n m : Nat} {H : Hp} {N : Nat} {od : Obj} {vs : List (Key × V)} (hm : m < n) (hH : H (ρ m) = some (.frz od (.dK vs))) : RI X.K X.mg ρ n H (N, jKey m) (Itk (ρ m) od vs) := by
  intro ρ' s' H' i ext sr
  dsimp only
  unfold jKey
  split
  · trivial
  · rename_i h
    split at h
    · rename_i kvs hs
      obtain ⟨od', vs', h1, h2⟩ := lck_at sr hs
      rw [ext.ag m hm, ext.fz _ _ _ hH] at h1
      cases h1
      refine ⟨ext.fz _ _ _ hH, ?_⟩
      cases hk : kvs[i]? with
      | none =>
        have := h2.len
        have := List.getElem?_eq_none_iff.mp hk
        omega
      | some p => rw [hk] at h; cases h
    · cases h
  · rename_i d h
    split at h
    · rename_i kvs hs
      obtain ⟨od', vs', h1, h2⟩ := lck_at sr hs
      rw [ext.ag m hm, ext.fz _ _ _ hH] at h1
      cases h1
      cases hk : kvs[i]? with
      | none => rw [hk] at h; cases h
      | some p =>
        rw [hk] at h
        cases h
        obtain ⟨k, v, e1, e2, e3⟩ := h2.at hk
        refine ⟨⟨ext.fz _ _ _ hH, (List.getElem?_eq_some_iff.mp e1).1⟩, fun x H'' ⟨eH, k', v', e1', ex⟩ => ?_⟩
        rw [e1] at e1'
        cases e1'
        subst eH ex
        exact ⟨Ext.refl, sr, vr_keyD e2⟩
    · cases h
theorem ri_itm {ρ : Nat → Addr} {n m : Nat} {H : Hp} {N : Nat} {od : Obj} {vs : List (Key × V)} (hm : m < n) (hH : H (ρ m) = some (.frz od (.dK vs))) : RI X.K X.mg ρ n H (N, jItm m) (Iti (ρ m) od vs) := by
  intro ρ' s' H' i ext sr
  dsimp only
  unfold jItm
  split
  · trivial
  · rename_i h
    split at h
    · rename_i kvs hs
      obtain ⟨od', vs', h1, h2⟩ := lck_at sr hs
      rw [ext.ag m hm, ext.fz _ _ _ hH] at h1
      cases h1
      refine ⟨ext.fz _ _ _ hH, ?_⟩
      cases hk : kvs[i]? with
      | none =>
        have := h2.len
        have := List.getElem?_eq_none_iff.mp hk
        omega
      | some p => rw [hk] at h; cases h
    · cases h
  · rename_i d h
    split at h
    · rename_i kvs hs
      obtain ⟨od', vs', h1, h2⟩ := lck_at sr hs
      rw [ext.ag m hm, ext.fz _ _ _ hH] at h1
      cases h1
      cases hk : kvs[i]? with
      | none => rw [hk] at h; cases h
      | some p =>
        rw [hk] at h
        cases h
        obtain ⟨k, v, e1, e2, e3⟩ := h2.at hk
        refine ⟨⟨ext.fz _ _ _ hH, (List.getElem?_eq_some_iff.mp e1).1⟩, fun x H'' ⟨T, k', v', e1', ex, hT, eH⟩ => ?_⟩
        rw [e1] at e1'
        cases e1'
        subst eH ex
        obtain ⟨x1, x2, x3⟩ := new_tup (ds := [p.1, p.2]) (vs := [kV k, v]) sr hT (VRs.cons (vr_keyD e2) (VRs.cons e3 VRs.nil))
        exact ⟨x1, x2, x3⟩
    · cases h
theorem ji_keys (he : JE X W e m) : JI X W tg e (iKy jKey m) := PI_imp (pi_keys he) fun σ H Q ⟨ρ, env, s, sr, er, po⟩ => ⟨ρ, env, s, sr, er, (Po.bind po).imp fun v H1 ⟨ρ1, s1, d1, e1, sr1, r1, po1⟩ => by
  dsimp only at po1
  cases d1 with
  | ref n =>
    rw [VR] at r1
    obtain ⟨hn, rfl⟩ := r1
    dsimp only at po1
    split at po1
    · rename_i kvs hs
      obtain ⟨od, vs, h1, h2⟩ := lck_at sr1 hs
      exact ⟨ρ1 n, od, rfl, .inl ⟨vs, h1, po1 ρ1 H1 _ Ext.refl sr1 (ri_key hn h1)⟩⟩
    · exact po1.elim
  | _ => exact po1.elim⟩
theorem ji_items {elts : List Expr} {kk : Nat} {tpos : Pos} (he : JE X W e m) (hbase : attributeBase e "items" X.env (eval e X.env) = eval e X.env := by rfl) (hline : (apos.endLine == cpos.line) = true := by rfl) :
    JI X W (.Tuple elts kk tpos) (.Call (.Attribute e "items" apos) [] [] cpos) (iKy jItm m) := PI_imp (pi_items he hbase hline) fun σ H Q ⟨ρ, env, s, sr, er, po⟩ => ⟨ρ, env, s, sr, er, (Po.bind po).imp fun v H1 ⟨ρ1, s1, d1, e1, sr1, r1, po1⟩ => by
  dsimp only at po1
  cases d1 with
  | ref n =>
    rw [VR] at r1
    obtain ⟨hn, rfl⟩ := r1
    dsimp only at po1
    split at po1
    · rename_i kvs hs
      obtain ⟨od, vs, h1, h2⟩ := lck_at sr1 hs
      exact ⟨ρ1 n, od, vs, rfl, h1, po1 ρ1 H1 _ Ext.refl sr1 (ri_itm hn h1)⟩
    · exact po1.elim
  | _ => exact po1.elim⟩
/-! ### locking -/
theorem lock_sr {ρ : Nat → Addr} {s : Sto} {H : Hp} {n : Nat} {kvs : List (D × D)} {vs : List (Key × V)} {od : Obj} (sr : SR X.K X.mg ρ s H) (hs : s[n]? = some (.dict false kvs)) (hH : H (ρ n) = some (.dK vs)) (hk : KR keyD X.K ρ s.length H kvs vs) :
    SR X.K X.mg ρ (s.set n (.lck false kvs)) (upd H (ρ n) (.frz od (.dK vs))) ∧ Ext ρ s.length H ρ s.length (upd H (ρ n) (.frz od (.dK vs))) := by
  have ext : Ext ρ s.length H ρ s.length (upd H (ρ n) (.frz od (.dK vs))) := Ext.write (sr.ob _ _ hs) rfl
  exact ⟨sr.write hs rfl rfl ⟨od, vs, upd_same, hk.mono ext⟩, ext⟩
theorem unlock_sr {ρ : Nat → Addr} {s : Sto} {H : Hp} {n : Nat} {kvs : List (D × D)} {vs : List (Key × V)} {od : Obj} (sr : SR X.K X.mg ρ s H) (hs : s[n]? = some (.lck false kvs)) (hH : H (ρ n) = some (.frz od (.dK vs))) :
    SR X.K X.mg ρ (s.set n (.dict false kvs)) (upd H (ρ n) (.dK vs)) ∧ ∀ a us, SqT X.K H a us → SqT X.K (upd H (ρ n) (.dK vs)) a us := by
  obtain ⟨od', vs', h1, h2⟩ := lck_at sr hs
  rw [hH] at h1
  cases h1
  have tp : ∀ a us, SqT X.K H a us → SqT X.K (upd H (ρ n) (.dK vs)) a us := fun a us r => by
    refine r.elim (fun r => .inl ?_) .inr
    rcases r with r | ⟨ob, r⟩
    · refine .inl ?_
      rw [upd_ne]
      · exact r
      · intro z
        rw [z, hH] at r
        cases r
    · refine .inr ⟨ob, ?_⟩
      rw [upd_ne]
      · exact r
      · intro z
        rw [z, hH] at r
        cases r
  exact ⟨sr.put hs rfl rfl ⟨vs, upd_same, h2.tp tp⟩, tp⟩
/-- from the outer world to the unlocked one behind the locked one -/
theorem ext_unl {ρ ρ' : Nat → Addr} {n n' j : Nat} {H H' : Hp} {vs : List (Key × V)} {od : Obj} (hH : H (ρ j) = some (.dK vs)) (hj : j < n) (e : Ext ρ n (upd H (ρ j) (.frz od (.dK vs))) ρ' n' H') (h' : H' (ρ' j) = some (.frz od (.dK vs))) :
    Ext ρ n H ρ' n' (upd H' (ρ' j) (.dK vs)) := by
  have ea : ρ' j = ρ j := e.ag j hj
  rw [ea] at h' ⊢
  have ne : ∀ {a : Addr} {u : HO}, H a = some u → u ≠ .dK vs → a ≠ ρ j := fun {a u} h z q => by
    rw [q, hH] at h
    exact z (Option.some.inj h).symm
  refine ⟨e.le, e.ag, fun a us r => ?_, fun a o k r => ?_, fun a o k r => ?_⟩
  · have r0 : Rd (upd H (ρ j) (.frz od (.dK vs))) a (.tup us) := by
      rcases r with r | ⟨ob, r⟩
      · refine .inl ?_
        rw [upd_ne (ne r fun z => nomatch z)]
        exact r
      · refine .inr ⟨ob, ?_⟩
        rw [upd_ne (ne r fun z => nomatch z)]
        exact r
    have r1 := e.tp a us r0
    rcases r1 with r1 | ⟨ob, r1⟩
    · refine .inl ?_
      rw [upd_ne]
      · exact r1
      · intro z
        rw [z, h'] at r1
        cases r1
    · refine .inr ⟨ob, ?_⟩
      rw [upd_ne]
      · exact r1
      · intro z
        rw [z, h'] at r1
        cases r1
  · have na := ne r fun z => nomatch z
    have := e.fz a o k (by rw [upd_ne na]; exact r)
    rw [upd_ne na]
    exact this
  · have na := ne r fun z => nomatch z
    have := e.fzT a o k (by rw [upd_ne na]; exact r)
    rw [upd_ne na]
    exact this
theorem unlS_some {n : Nat} {s s' : Sto} (h : unlS n s = some s') : ∃ kvs, s[n]? = some (.lck false kvs) ∧ s' = s.set n (.dict false kvs) := by
  unfold unlS at h
  split at h
  · rename_i kvs e
    cases h
    exact ⟨kvs, e, rfl⟩
  · cases h
/-- a statement that runs while the dict that m tells is locked -/
theorem js_lk (hb : JS X W st b) : JS X W st (sLk m b) := by
  refine PS_imp (ps_lock hb) fun σ H D ⟨ρ, env, s, sr, er, po⟩ => ?_
  unfold sLk at po
  split at po
  · rename_i n s9 hm
    split at po
    · rename_i kvs hs
      obtain ⟨vs, hH, hk⟩ := sr.ob _ _ hs
      have hn : n < s.length := (List.getElem?_eq_some_iff.mp hs).1
      refine ⟨ρ n, .dK vs, hH, trivial, fun od => ?_⟩
      obtain ⟨sr1, ext1⟩ := lock_sr (od := od) sr hs hH hk
      refine ⟨ρ, env, _, sr1, by rw [List.length_set]; exact er.mono ext1, ?_⟩
      -- what each end asks
      have back : ∀ {ρ' : Nat → Addr} {s1 s2 : Sto} {H' : Hp}, unlS n s1 = some s2 → Ext ρ (s.set n (.lck false kvs)).length (upd H (ρ n) (.frz od (.dK vs))) ρ' s1.length H' → SR X.K X.mg ρ' s1 H' →
          H' (ρ n) = some (.frz od (.dK vs)) ∧ SR X.K X.mg ρ' s2 (upd H' (ρ n) (.dK vs)) ∧ Ext ρ s.length H ρ' s2.length (upd H' (ρ n) (.dK vs)) ∧ s2.length = s1.length ∧ ∀ a us, SqT X.K H' a us → SqT X.K (upd H' (ρ n) (.dK vs)) a us := by
        intro ρ' s1 s2 H' hu e2 sr2
        rw [List.length_set] at e2
        obtain ⟨kvs', h1, rfl⟩ := unlS_some hu
        have ea : ρ' n = ρ n := e2.ag n hn
        have hfz : H' (ρ n) = some (.frz od (.dK vs)) := e2.fz _ _ _ upd_same
        obtain ⟨a, bb⟩ := unlock_sr (vs := vs) (od := od) sr2 h1 (by rw [ea]; exact hfz)
        rw [ea] at a bb
        have := ext_unl (ρ' := ρ') (n' := s1.length) hH hn e2 (by rw [ea]; exact hfz)
        rw [ea] at this
        exact ⟨hfz, a, by rw [List.length_set]; exact this, by rw [List.length_set], bb⟩
      have ertp : ∀ {ρ' : Nat → Addr} {N : Nat} {H1 H2 : Hp} {ev : Ev} {σ' : L2.St}, (∀ a us, SqT X.K H1 a us → SqT X.K H2 a us) → EnvR X.K ρ' N H1 ev σ' → EnvR X.K ρ' N H2 ev σ' := fun tp h => ⟨h.1, fun i d q => let ⟨v, e1, r⟩ := h.2 i d q; ⟨v, e1, r.tp tp⟩⟩
      have po2 := po
      clear po
      revert po2
      cases b env (s.set n (.lck false kvs)) with
      | nx e1 s1 =>
        intro po2 ρ' H' σ' e2 sr2 er2
        unfold RS.unl at po2
        dsimp only at po2
        split at po2
        · rename_i s2 hu
          obtain ⟨z1, z2, z3, z4, z5⟩ := back hu e2 sr2
          exact ⟨z1, po2 ρ' _ σ' z3 z2 (by rw [z4]; exact ertp z5 er2)⟩
        · exact po2.elim
      | rt d1 s1 =>
        intro po2 ρ' H' v e2 sr2 r2
        unfold RS.unl at po2
        dsimp only at po2
        split at po2
        · rename_i s2 hu
          obtain ⟨z1, z2, z3, z4, z5⟩ := back hu e2 sr2
          exact ⟨z1, po2 ρ' _ v z3 z2 (by rw [z4]; exact r2.tp z5)⟩
        · exact po2.elim
      | bk e1 s1 =>
        intro po2 ρ' H' σ' e2 sr2 er2
        unfold RS.unl at po2
        dsimp only at po2
        split at po2
        · rename_i s2 hu
          obtain ⟨z1, z2, z3, z4, z5⟩ := back hu e2 sr2
          exact ⟨z1, po2 ρ' _ σ' z3 z2 (by rw [z4]; exact ertp z5 er2)⟩
        · exact po2.elim
      | ct e1 s1 =>
        intro po2 ρ' H' σ' e2 sr2 er2
        unfold RS.unl at po2
        dsimp only at po2
        split at po2
        · rename_i s2 hu
          obtain ⟨z1, z2, z3, z4, z5⟩ := back hu e2 sr2
          exact ⟨z1, po2 ρ' _ σ' z3 z2 (by rw [z4]; exact ertp z5 er2)⟩
        · exact po2.elim
      | ex c f v e1 s1 =>
        intro po2 ρ' H' σ' C dx u e2 sr2 er2
        rw [List.length_set] at e2
        exact po2 ρ' H' σ' C dx u (ext1.trans e2) sr2 er2
      | no => exact fun po2 => po2.elim
    · exact po.elim
  · exact po.elim
end
end Z

set_option Elab.async false
set_option linter.all false
set_option maxRecDepth 100000
set_option maxHeartbeats 4000000
namespace Z
open PySem PySem.Spec PyProof.Rows L2
/-! ### sets of keys -/
def mSet0 : EM D := fun _ s => .ok (.ref s.length) (s ++ [.set []])
def inKs (xs : List D) (k : Key) : Bool := xs.any fun y => decide (keyD y = some k)
def setAt (s : Sto) (n : Nat) : Option (List D) := match s[n]? with
  | some (.set xs) => some xs
  | _ => none
def mSAdd (mo : EM D) (ms : EM (List D)) : EM D := fun e s => (mo e s).bind fun d s1 => match d with
  | .ref n => match setAt s1 n with
    | some _ => (ms e s1).bind fun ds s2 => match ds, setAt s2 n with
      | [y], some xs => match keyD y with
        | some k => if xs.length + 1 < 4096 then .ok .non (s2.set n (.set (if inKs xs k then xs else xs ++ [y]))) else .no
        | none => .no
      | _, _ => .no
    | none => .no
  | _ => .no
/-- k in s, k not in s; else B -/
def dInSt (neg : Bool) (B : D → D → Sto → Rs D) (x y : D) (s : Sto) : Rs D := match y with
  | .ref n => match setAt s n with
    | some xs => match keyD x with
      | some k => .ok (.bl (neg ^^ inKs xs k)) s
      | none => .no
    | none => B x y s
  | _ => B x y s
theorem keysD_any {xs : List D} : ∀ {ks : List Key}, keysD xs = some ks → ∀ k, inKs xs k = true ↔ k ∈ ks := by
  induction xs with
  | nil =>
    intro ks h k
    cases h
    simp [inKs]
  | cons x xs ih =>
    intro ks h k
    unfold keysD at h
    split at h
    · rename_i j js h1 h2
      cases h
      have := ih h2 k
      unfold inKs at this ⊢
      rw [List.any_cons, Bool.or_eq_true, this, h1, List.mem_cons]
      simp only [decide_eq_true_eq, Option.some.injEq]
      constructor
      · rintro (rfl | h)
        · exact .inl rfl
        · exact .inr h
      · rintro (rfl | h)
        · exact .inl rfl
        · exact .inr h
    · cases h
theorem keysD_snoc {xs : List D} {y : D} {k : Key} (hk : keyD y = some k) : ∀ {ks : List Key}, keysD xs = some ks → keysD (xs ++ [y]) = some (ks ++ [k]) := by
  induction xs with
  | nil =>
    intro ks h
    cases h
    show keysD [y] = some [k]
    simp [keysD, hk]
  | cons x xs ih =>
    intro ks h
    unfold keysD at h
    split at h
    · rename_i j js h1 h2
      cases h
      show keysD (x :: (xs ++ [y])) = some (j :: (js ++ [k]))
      simp [keysD, h1, ih h2]
    · cases h
variable [Row]
section
variable {X : Cx} {W : WX} {p pos apos cpos : Pos} {o e : Expr} {es : List Expr} {mo : EM D} {ms : EM (List D)}
def IsRow (X : Cx) : Prop := X.prog = Row.prog ∧ X.w = Row.w
theorem set_of {ρ : Nat → Addr} {s : Sto} {H : Hp} (hX : IsRow X) (sr : SR X.K X.mg ρ s H) {n : Nat} {xs : List D} (h : setAt s n = some xs) : ∃ S m, H (ρ n) = some (SetK X.prog X.w (ρ n) S m) ∧ SetRl xs S m := by
  unfold setAt at h
  split at h
  · rename_i ys e
    cases h
    obtain ⟨S, m, h1, h2⟩ := sr.ob _ _ e
    rw [hX.1, hX.2]
    exact ⟨S, m, h1, h2⟩
  · cases h
theorem je_set0 (hX : IsRow X) (hg : Gl X "set") (hm : X.mg "set" = none) : JE X W (.Call (.Name "set" p) [] [] pos) mSet0 :=
  PE_imp (pe_callTy0 cr_set0K hg hm (by decide +kernel)) fun σ H Q ⟨ρ, env, s, sr, er, po⟩ => ⟨rfl, fun q hq => by
    have st : ∀ b u, H b = some u → upd H q (SetK X.prog X.w q (fun _ => false) 0) b = some u := fun b u e => by rw [upd_ne (ne_of_none e hq)]; exact e
    have w := sr.alloc (o := .set []) hq st ⟨fun _ => false, 0, by rw [upd_same, hX.1, hX.2], rfl, [], rfl, List.nodup_nil, fun k => by simp⟩
    have len : (s ++ [SO.set []]).length = s.length + 1 := by rw [List.length_append] <;> rfl
    refine po _ _ _ (by rw [len]; exact Ext.alloc st) w ?_
    rw [VR, len]
    exact ⟨Nat.lt_succ_self _, by rw [ρup_same]⟩⟩
theorem scan_big : 4096 ≤ scanBound := by decide
theorem je_sadd (hX : IsRow X) (ho : JE X W o mo) (ha : JA X W (e :: es) ms)
    (hbase : attributeBase o "add" X.env (eval o X.env) = eval o X.env := by rfl)
    (hfew : ((backTo cpos (starEach (e :: es) X.env)).all (fun x => !x.1) && (backToKw cpos (keywordEach [] X.env)).all (fun x => x.1.isSome)
      && decide ((e :: es).length + ([] : List Keyword).length + (if ([] : List Keyword).isEmpty then 0 else 1) < 30)) = true := by rfl)
    (hline : (apos.endLine == cpos.line) = true := by rfl) (hs : starEach (e :: es) X.env = (false, eval e X.env) :: starEach es X.env := by rfl) (hplain : (backTo cpos (starEach es X.env)).any (·.1) = false := by rfl) :
    JE X W (.Call (.Attribute o "add" apos) (e :: es) [] cpos) (mSAdd mo ms) :=
  PE_imp (pe_saddK ho ha hbase hfew hline hs hplain) fun σ H Q ⟨ρ, env, s, sr, er, po⟩ => ⟨ρ, env, s, sr, er, (Po.bind po).imp fun v H1 ⟨ρ1, s1, d1, e1, sr1, r1, po1⟩ => by
    cases d1 with
    | ref n =>
      rw [VR] at r1
      obtain ⟨hn, rfl⟩ := r1
      dsimp only at po1
      split at po1
      · rename_i xs0 h0
        obtain ⟨S0, m0, g0, _⟩ := set_of hX sr1 h0
        refine ⟨⟨ρ1 n, S0, m0, rfl, g0⟩, ρ1, env, s1, sr1, er.mono e1, (Po.bind po1).imp fun vs H2 ⟨ρ2, s2, ds, e2, sr2, r2, po2⟩ => ?_⟩
        dsimp only at po2
        split at po2
        · rename_i y xs hx
          obtain ⟨vy, rfl, ry⟩ := r2.one
          split at po2
          · rename_i k hk
            obtain ⟨hl, po2⟩ := Po.ite po2
            obtain ⟨S, m, g, hm, ks, k1, k2, k3⟩ := set_of hX sr2 hx
            have hs2 : s2[n]? = some (.set xs) := by
              unfold setAt at hx
              split at hx
              · rename_i ys q
                cases hx
                exact q
              · cases hx
            have ea : ρ2 n = ρ1 n := e2.ag n hn
            have hb := scan_big
            refine ⟨ρ1 n, k, S, m, rfl, by rw [keyD_vr hk ry], by rw [← ea]; exact g, by omega, ?_⟩
            rw [← ea]
            have ext : Ext ρ2 s2.length H2 ρ2 s2.length (upd H2 (ρ2 n) (SetK X.prog X.w (ρ2 n) (fun j => S j || decide (j = k)) (if S k = true then m else m + 1))) := Ext.write (sr2.ob _ _ hs2) rfl
            refine po2 ρ2 _ .non (by rw [List.length_set]; exact ext) (sr2.write hs2 rfl rfl ⟨_, _, by rw [upd_same, hX.1, hX.2], ?_⟩) (by rw [VR])
            have ink := keysD_any k1 k
            by_cases q : S k = true
            · have q2 : inKs xs k = true := ink.mpr ((k3 k).mp q)
              rw [if_pos q, if_pos q2]
              refine ⟨hm, ks, k1, k2, fun j => ?_⟩
              rw [Bool.or_eq_true, k3 j, decide_eq_true_eq]
              exact ⟨fun h => h.elim id fun z => by rw [z]; exact (k3 k).mp q, .inl⟩
            · have nk : k ∉ ks := fun z => q ((k3 k).mpr z)
              have q2 : ¬ inKs xs k = true := fun z => nk (ink.mp z)
              rw [if_neg q, if_neg q2]
              refine ⟨by rw [List.length_append, hm] <;> rfl, ks ++ [k], keysD_snoc hk k1, ?_, fun j => ?_⟩
              · rw [List.nodup_append]
                refine ⟨k2, by simp, fun a ha b hb => ?_⟩
                rw [List.mem_singleton] at hb
                subst hb
                exact fun z => nk (z ▸ ha)
              · rw [Bool.or_eq_true, k3 j, decide_eq_true_eq, List.mem_append, List.mem_singleton]
          · exact po2.elim
        · exact po2.elim
      · exact po1.elim
    | _ => exact po1.elim⟩
theorem opd_inSt {op : CmpOp} {neg : Bool} {B : D → D → Sto → Rs D} (hX : IsRow X) (hop : (op = .In ∧ neg = false) ∨ (op = .NotIn ∧ neg = true)) (hB : OpD X W (compareOp op) B) : OpD X W (compareOp op) (dInSt neg B) := by
  intro pins s σ H ρ st x y vx vy ux uy Q I sr rx ry e1 e2 po
  unfold dInSt at po
  split at po
  · rename_i n
    split at po
    · rename_i xs hx
      split at po
      · rename_i k hk
        obtain ⟨S, m, g, hm, ks, k1, k2, k3⟩ := set_of hX sr hx
        rw [VR] at ry
        obtain ⟨hn, rfl⟩ := ry
        have eq : inKs xs k = S k := by
          have := keysD_any k1 k
          rw [Bool.eq_iff_iff, this, k3]
        rw [eq] at po
        have vk := keyD_vr hk rx
        rcases hop with ⟨rfl, rfl⟩ | ⟨rfl, rfl⟩
        · exact or_sinK pins s σ H vx _ ux uy Q I e1 e2 ⟨k, ρ n, S, m, vk, rfl, g, by simpa using po ρ H (.bl (S k)) Ext.refl sr (by rw [VR]; simp)⟩
        · exact or_snotinK pins s σ H vx _ ux uy Q I e1 e2 ⟨k, ρ n, S, m, vk, rfl, g, by simpa using po ρ H (.bl (!S k)) Ext.refl sr (by rw [VR]; simp)⟩
      · exact po.elim
    · exact hB pins s σ H ρ st _ _ vx vy ux uy Q I sr rx ry e1 e2 po
  · exact hB pins s σ H ρ st _ _ vx vy ux uy Q I sr rx ry e1 e2 po
end
end Z

set_option Elab.async false
set_option linter.all false
set_option maxRecDepth 100000
set_option maxHeartbeats 4000000
namespace Z
open PySem PySem.Spec PySem.Calls PyProof.Rows L2
variable [Row]
section
variable {X : Cx} {W : WX}
open PySem.W in
theorem sorted_any {prog : Program} {w : World} {A : Around} {E : Value → Shared → Prop} {s : Shared} {β : Type} {vs : List Value} {bs : List β} {enc : β → PyData} {R : Value → β → Prop} {x : Value} {Q : Value → Shared → Prop}
    (hc : ∀ Q' : List Value → Shared → Prop, (∀ h', (∀ b o, s.heap.get? b = some o → h'.get? b = some o) → Q' vs { s with heap := h' }) → wpAny (model prog w) A.in1 (collect x) Q' E s)
    (e : EachIs R vs bs) (er : EachIs (fun v b => ∃ as, Reads s.heap v (enc b) as) vs bs) (hal : AllAlike (bs.map enc)) (hk : Sortable (bs.map enc)) (hL : bs.length ≤ sizeLine)
    (hu : ∀ b, b ∈ bs → A.units + 2 + (enc b).depth < cLine)
    (h : ∀ (h1 : Heap) (out : List Value) (a : Addr) (h' : Heap) (ep : Nat), (∀ b o, s.heap.get? b = some o → h1.get? b = some o) → out.length = bs.length → EachIs R out (bs.mergeSort (dataLe false enc)) → (∀ b o, h1.get? b = some o → h'.get? b = some o) → h1.objs.size ≤ a → h'.get? a = some (seqObj "list" out.toArray ep) → Q (.ref a) { s with heap := h' }) :
    wpAny (model prog w) A (call (.builtin "sorted") [x]) Q E s := by
  refine call_function_entry kind_sorted plain_sorted entry_sorted (args_sorted1 _) ?_
  unfold Builtin.«sorted»
  refine wpAny_bind (m := checkCount "sorted" 1 1 _) (wpAny_pure ?_)
  refine wpAny_bind (hc _ fun h' kp => ?_)
  have hl := e.length
  refine wpAny_bind (wpAny_newList ?_ (by rw [hl]; exact hL))
  have kp2 : ∀ b o, h'.get? b = some o → (h'.push { cls := .type "list", data := .seq vs.toArray }).get? b = some o := fun b o q => Heap.get?_push_of_some _ q
  have er2 : EachIs (fun v b => ∃ as, Reads (sortingHeap (h'.push { cls := .type "list", data := .seq vs.toArray }) h'.objs.size vs) v (enc b) as) vs bs := er.mono fun _ _ ⟨as, r⟩ => ⟨as, PyProof.Rows.Reads.keeps (fun b o q => sortingHeap_old (Nat.ne_of_lt (Heap.lt_size (kp b o q))) (kp2 b o (kp b o q))) r⟩
  have ho : (h'.push ({ cls := .type "list", data := .seq vs.toArray } : Obj)).get? h'.objs.size = some (seqObj "list" vs.toArray 0) := Heap.get?_push_size _ rfl
  refine wpAny_bind (wpAny_holding (wpAny_call_entry slot_list_sort ⟨_, ho, rfl⟩ entry_list_sort (list_sort_vals (κ := dataKind (sortingHeap (h'.push { cls := .type "list", data := .seq vs.toArray }) h'.objs.size vs) (bs.map enc))
    (s := { s with heap := h'.push { cls := .type "list", data := .seq vs.toArray } }) ho
    (SortsAt.data (s := { s with heap := sortingHeap (h'.push { cls := .type "list", data := .seq vs.toArray }) h'.objs.size vs }) (each_map (R := fun v d => ∃ as, Reads (sortingHeap (h'.push { cls := .type "list", data := .seq vs.toArray }) h'.objs.size vs) v d as) enc er2) hal hk (bound_map hu)) (by rw [hl]; exact hL) ⟨.none, rfl, ?_⟩) (args_list_sort _)))
  refine wpAny_pure ⟨_, rfl, ?_⟩
  have hs := sortVals_data (h' := sortingHeap (h'.push { cls := .type "list", data := .seq vs.toArray }) h'.objs.size vs) (R := R) (enc := enc) false e er2 hal
  obtain ⟨ep, hat⟩ := sortedHeap_at (out := (sortVals (dataKind (sortingHeap (h'.push { cls := .type "list", data := .seq vs.toArray }) h'.objs.size vs) (bs.map enc)) false vs vs).toArray) ho
  refine h h' _ h'.objs.size _ ep kp (by rw [sortVals_length false rfl]; exact hl) hs (fun b o q => ?_) (Nat.le_refl _) hat
  have lt : b < h'.objs.size := Heap.lt_size q
  exact (sortedHeap_old (Nat.ne_of_lt lt) (by rw [size_push']; exact Nat.lt_succ_of_lt lt)).trans (kp2 b o q)
open PySem.W in
def rSrtA (X : Cx) : List V → Hp → VK → Prop := fun vs H Q => ∃ (a : Addr) (ps : List (D × V)) (enc : D → PyData), vs = [.ref a] ∧ (SqL X.K H a (ps.map (·.2)) ∨ SqT X.K H a (ps.map (·.2))) ∧ (∀ p ∈ ps, Dp X.K H p.2 (enc p.1)) ∧
  AllAlike (ps.map fun p => enc p.1) ∧ Sortable (ps.map fun p => enc p.1) ∧ (∀ p ∈ ps, X.A.units + 2 + (enc p.1).depth < cLine) ∧ ∀ q, H q = none → Q (.ref q) (upd H q (.lst ((ps.mergeSort (dataLe false fun p => enc p.1)).map (·.2))))
theorem call_srtA : CallR X (.builtin "sorted") (rSrtA X) := by
  intro pins s σ H vs us Q I r h
  obtain ⟨a, ps, enc, rfl, hs, hd, hal, hk, hu, q⟩ := h
  rw [Vals.ref1 r]
  have er : ∀ {qs : List (D × V)} {ws : List Value}, (∀ p ∈ qs, Dp X.K H p.2 (enc p.1)) → PySem.W.EachIs (fun u (p : D × V) => RelV p.2 u) ws qs → PySem.W.EachIs (fun v (p : D × V) => ∃ as, Reads s.heap v (enc p.1) as) ws qs := by
    intro qs
    induction qs with
    | nil =>
      intro ws _ h
      cases h
      exact .nil
    | cons p qs ih =>
      intro ws hp h
      cases h with
      | cons h1 h2 => exact .cons (Dp.reads I _ _ _ (hp p List.mem_cons_self) h1) (ih (fun z hz => hp z (List.mem_cons_of_mem _ hz)) h2)
  obtain ⟨T, hT, its, rv, o, ho, hc, n, hdd, hz⟩ : ∃ T, (T = "list" ∨ T = "tuple") ∧ ∃ (its : List Value), Vals (ps.map (·.2)) its ∧ ∃ o, s.heap.get? a = some o ∧ o.cls = .type T ∧ ∃ n, o.data = .seq its.toArray n ∧ (ps.map (·.2)).length ≤ sizeLine := by
    rcases hs with hs | hs
    · obtain ⟨its, rv, hl, hz⟩ := I.list hs
      obtain ⟨o, ho, hc, n, hd⟩ := hl.isList
      exact ⟨"list", .inl rfl, its, rv, o, ho, hc, n, hd, hz⟩
    · obtain ⟨its, rv, hl, hz⟩ := I.tuple hs
      obtain ⟨o, ho, hc, n, hd⟩ := hl
      exact ⟨"tuple", .inr rfl, its, rv, o, ho, hc, n, hd, hz⟩
  have e1 := vals_each rv
  have hz2 : its.toArray.size ≤ sizeLine := by
    have := rv.length
    rw [List.size_toArray, ← this]
    exact hz
  refine sorted_any (vs := its) (R := fun u (p : D × V) => RelV p.2 u) (enc := fun p => enc p.1) (bs := ps) (fun Q' hq => wpAny_collect_seq a hT ho hc hdd hq hz2) e1 (er hd e1) hal hk (by rw [List.length_map] at hz; exact hz) hu fun h1 out a2 h' ep kp1 ho2 eo kp ha he => ?_
  · have I1 := I.kept (t' := s.toks) kp1
    have hv := each_vals eo
    have hlen : ((ps.mergeSort (PySem.W.dataLe false fun p => enc p.1)).map (·.2)).length ≤ sizeLine := by rw [hv.length, ho2]; rw [List.length_map] at hz; exact hz
    exact ⟨.ref _, upd H a2 (.lst ((ps.mergeSort (PySem.W.dataLe false fun p => enc p.1)).map (·.2))), I1.laid (s := { s with heap := h1 }) (t' := s.toks) kp ha ⟨hlen, out, ep, hv, he⟩, rfl, q _ (I1.hok.fresh ha)⟩
/-- sorted of a list or a tuple -/
def fSortA (ds : List D) (s : Sto) : Rs D := match ds with
  | [d] => match seqD s d with
    | some xs => if canSort s xs = true then .ok (.ref s.length) (s ++ [.lst (sortD s xs)]) else .no
    | none => .no
  | _ => .no
theorem pn_sortA (hu : X.A.units + 66 < cLine) : PrN X W fSortA (rSrtA X) := by
  intro ρ s H σ xs vs Q sr r po
  unfold fSortA at po
  split at po
  · rename_i d
    obtain ⟨v, rfl, rv⟩ := r.one
    split at po
    · rename_i ys h1
      obtain ⟨hc, po⟩ := Po.ite po
      obtain ⟨a, ws, rfl, sq, rr⟩ := vr_seq sr rv (xs := ys) (by unfold seqD at h1; cases d <;> first | exact h1 | cases h1)
      obtain ⟨ps, e1, e2, e3⟩ := rr.pairs
      obtain ⟨hc, c3⟩ := Bool.and_eq_true_iff.mp hc
      obtain ⟨c1, c2⟩ := Bool.and_eq_true_iff.mp hc
      have mem1 : ∀ p ∈ ps, p.1 ∈ ys := fun p hp => by rw [← e1]; exact List.mem_map_of_mem hp
      have get : ∀ {P : PyData → Prop}, (∀ x ∈ ys, P (encD s x)) → ∀ d ∈ ps.map fun p => encD s p.1, P d := fun h d hd => by
        obtain ⟨p, hp, rfl⟩ := List.mem_map.mp hd
        exact h _ (mem1 p hp)
      refine ⟨a, ps, encD s, rfl, by rw [e2]; exact sq, fun p hp => pyd_dp sr 30 p.1 p.2 _ (shp_enc (List.all_eq_true.mp c1 p.1 (mem1 p hp))).1 (e3 p hp), ?_, ?_, fun p hp => ?_, fun q hq => ?_⟩
      · exact get (P := fun d => ∀ d', d' ∈ (ps.map fun p => encD s p.1) → PySem.W.alike d d' = true) fun x hx => get fun y hy => List.all_eq_true.mp (List.all_eq_true.mp c2 x hx) y hy
      · rcases Bool.or_eq_true_iff.mp c3 with c3 | c3
        · refine .inl (get fun x hx => ?_)
          have := List.all_eq_true.mp c3 x hx
          revert this
          cases encD s x with
          | tuple l => cases l with
            | nil => exact fun h => nomatch h
            | cons y r => exact fun _ => ⟨y, r, rfl⟩
          | _ => exact fun h => nomatch h
        · refine .inr (get fun x hx => ?_)
          have := List.all_eq_true.mp c3 x hx
          revert this
          cases encD s x with
          | tuple l => exact fun h => nomatch h
          | none => exact fun h => nomatch h
          | _ => exact fun _ => ⟨(fun h => nomatch h), fun l h => nomatch h⟩
      · have := SeqAt.depth_of_shaped (shp_enc (List.all_eq_true.mp c1 p.1 (mem1 p hp))).2
        omega
      · have em : (ps.mergeSort (PySem.W.dataLe false fun p => encD s p.1)).map (·.1) = sortD s ys := by
          unfold sortD
          rw [← e1]
          exact List.map_mergeSort fun a _ b _ => rfl
        have rs : VRs X.K ρ s.length H (sortD s ys) ((ps.mergeSort (PySem.W.dataLe false fun p => encD s p.1)).map (·.2)) := by
          rw [← em]
          exact VRs.of_pairs fun p hp => e3 p ((List.mergeSort_perm _ _).mem_iff.mp hp)
        obtain ⟨x1, sr1, v1⟩ := new_lst sr hq rs
        exact po _ _ _ x1 sr1 v1
    · exact po.elim
  · exact po.elim
end
end Z

set_option Elab.async false
set_option linter.all false
set_option maxRecDepth 100000
set_option maxHeartbeats 4000000
namespace Z
open PySem PySem.Spec PyProof.Rows L2
variable [Row]
section
variable {K : PySem.W.Frag} {mg : Str → Option Value} {cs : List Str} {tb : Tb} {m c : Str} {F : MF} {C g : Addr}
theorem ltab_nil : LTab K mg [] := fun _ _ h => by cases h
theorem ltab_cons (h1 : mg c = some (.ref C)) (h2 : PySem.W.selfFirst K C = true) (t : LTab K mg tb) : LTab K mg ((c, F) :: tb) := fun d G h => by
  rw [List.lookup_cons] at h
  split at h
  · rename_i q
    intro C' h'
    rw [eq_of_beq q, h1] at h'
    cases h'
    exact h2
  · exact t d G h
theorem fntab_nil : FnTab K mg [] m := fun _ _ h => by cases h
theorem fntab_cons (h1 : mg c = some (.ref C)) (h3 : Meth K C m g) (h2 : PySem.W.fnIn K g = true) (t : FnTab K mg tb m) : FnTab K mg ((c, F) :: tb) m := fun d G h => by
  rw [List.lookup_cons] at h
  split at h
  · rename_i q
    intro C' g' h' h4
    rw [eq_of_beq q, h1] at h'
    cases h'
    have e := h3.at_.symm.trans h4.at_
    cases e
    exact h2
  · exact t d G h
theorem etab_nil : ETab K mg cs [] := fun _ _ h => by cases h
theorem etab_cons (h1 : c ∈ cs) (h2 : PySem.W.findIn K (.ref (He.ga K c)) "__ne__" = some (some (.builtin "object.__ne__"))) (t : ETab K mg cs tb) : ETab K mg cs ((c, F) :: tb) := fun d G h => by
  rw [List.lookup_cons] at h
  split at h
  · rename_i q
    obtain rfl : d = c := eq_of_beq q
    exact ⟨h1, h2⟩
  · exact t d G h
end
section
variable {X : Cx} {W : WX}
theorem ixd_no : IxD X W dNo2 := fun _ _ _ _ _ _ _ _ _ _ _ _ _ _ _ _ _ _ _ _ _ po => po.elim
end
theorem hu1 {a c : Nat} (h : a + 100 < c) : a + 1 < c := by omega
end Z

set_option Elab.async false
set_option linter.all false
set_option maxRecDepth 100000
set_option maxHeartbeats 4000000
namespace Z
open PySem PySem.Spec PyProof.Rows L2
variable [Row]
section
variable {X : Cx} {W : WX} {pos : Pos}
def sP3 (i j l : Nat) (ms : EM (List D)) : SM := fun e s => (ms e s).st e fun ds s1 => match ds with
  | [x, y, z] => .nx (((e.set i (some x)).set j (some y)).set l (some z)) s1
  | _ => .no
theorem js_par3 {i j l : Nat} {x y z : Str} {ea eb ec : Expr} {ms : EM (List D)} {px py pz pt : Pos} {kt k2 pt2} (hc : X.calm = true) (hN : X.N.Nodup) (hi : X.N[i]? = some x) (hj : X.N[j]? = some y) (hl : X.N[l]? = some z) (hij : i ≠ j) (hil : i ≠ l) (hjl : j ≠ l)
    (hx : X.env.scope.names.lookup x = some .local) (hy : X.env.scope.names.lookup y = some .local) (hz : X.env.scope.names.lookup z = some .local) (ha : JA X W [ea, eb, ec] ms)
    (hw : swappedStores [.Tuple [.Name x px, .Name y py, .Name z pz] kt pt] (.Tuple [ea, eb, ec] k2 pt2) X.env = pure (some [x, y, z]))
    (hs : swapsWithSole [.Tuple [.Name x px, .Name y py, .Name z pz] kt pt] (.Tuple [ea, eb, ec] k2 pt2) pos.line X.env = pure false := by rfl) :
    JS X W (.Assign [.Tuple [.Name x px, .Name y py, .Name z pz] kt pt] (.Tuple [ea, eb, ec] k2 pt2) pos) (sP3 i j l ms) := PS_imp (ps_par3 hc hN hi hj hl hij hil hjl hx hy hz ha hw hs) fun σ H D ⟨ρ, env, s, sr, er, po⟩ =>
  ⟨ρ, env, s, sr, er, (PoS.st (R := VRs X.K) er po).imp fun v H1 ⟨ρ1, s1, d1, e1, sr1, r1, er1, po1⟩ => by
    split at po1
    · obtain ⟨v1, vr, rfl, r2, r3⟩ := r1.uncons
      obtain ⟨v2, vr2, rfl, r4, r5⟩ := r3.uncons
      obtain ⟨v3, rfl, r6⟩ := r5.one
      exact ⟨v1, v2, v3, rfl, po1 ρ1 H1 _ Ext.refl sr1 (((er1.set r2).set r4).set r6)⟩
    · exact po1.elim⟩
end
end Z

set_option Elab.async false
set_option linter.all false
set_option maxRecDepth 100000
set_option maxHeartbeats 4000000
namespace Z
open PySem PySem.Spec PyProof.Rows L2
/-! ### the later steps of a mirror, for simp -/
section
variable {P : D → Sto → Prop} {PL : List D → Sto → Prop} {PB : Bool → Sto → Prop} {PI : Nat × Stp → Sto → Prop} {E : Str → Str → D → Sto → Prop} {Q : En} {e : Ev} {s : Sto}
variable {a b c : EM D} {ms : EM (List D)} {i n : Nat} {d x y : D} {f nm : Str} {fN F : MF} {cs : List Str} {fs : List (Str × D)} {tb : Tb} {itb : Itb}
def optP {α : Type} (o : Option α) (P : α → Prop) : Prop := match o with
  | some a => P a
  | none => False
@[simp ↓] theorem optP_some {α : Type} {a : α} {P : α → Prop} : optP (some a) P = P a := nr rfl
@[simp ↓] theorem optP_none {α : Type} {P : α → Prop} : optP (none : Option α) P = False := nr rfl
def refP (d : D) (P : Nat → Prop) : Prop := match d with
  | .ref n => P n
  | _ => False
@[simp ↓] theorem refP_ref {P : Nat → Prop} : refP (.ref n) P = P n := nr rfl
def insP (o : Option SO) (P : Str → List (Str × D) → Prop) : Prop := match o with
  | some (.ins c fs) => P c fs
  | _ => False
@[simp ↓] theorem insP_some {c : Str} {P : Str → List (Str × D) → Prop} : insP (some (.ins c fs)) P = P c fs := nr rfl
@[simp ↓] theorem z_mFld : (mFld cs f a e s).wp P E = (a e s).wp (fun d s1 => (gFld cs f d s1).wp P E) E := by
  unfold mFld; rw [z_bind]
@[simp ↓] theorem z_gFld : (gFld cs f (.ref n) s).wp P E = insP s[n]? fun c fs => c ∈ cs ∧ optP (fs.lookup f) fun v => P v s := by
  unfold gFld insP
  dsimp only
  cases s[n]? with
  | none => rfl
  | some o =>
    cases o with
    | ins c fs =>
      dsimp only
      rw [z_iteN]
      cases fs.lookup f <;> rfl
    | _ => rfl
/-- o.f = v -/
def fldP (cs : List Str) (f : Str) (v d : D) (s : Sto) (P : Sto → Prop) : Prop := refP d fun n => insP s[n]? fun c fs => (c ∈ cs ∧ fs.length < 1000) ∧ P (s.set n (.ins c (putD f v fs)))
@[simp ↓] theorem z_sFldD : (sFldD cs f a b e s).wp Q = (b e s).wp (fun v s1 => (a e s1).wp (fun d s2 => fldP cs f v d s2 fun s3 => Q.nx e s3) fun c f v s => Q.ex c f v e s) (fun c f v s => Q.ex c f v e s) := by
  unfold sFldD
  rw [z_st]
  congr 1
  funext v s1
  rw [z_st]
  congr 1
  funext d s2
  unfold fldP refP insP
  cases d with
  | ref n =>
    dsimp only
    cases s2[n]? with
    | none => rfl
    | some o =>
      cases o with
      | ins c fs =>
        dsimp only
        by_cases q : c ∈ cs ∧ fs.length < 1000
        · rw [if_pos q]
          simp [q]
        · rw [if_neg q]
          simp only [z_rno, eq_iff_iff, false_iff]
          exact fun h => q h.1
      | _ => rfl
  | _ => rfl
@[simp ↓] theorem z_mkD {c : Str} {ds : List D} : (mkD c F ds s).wp P E = (F (.ref s.length :: ds) (s ++ [.ins c []])).wp (fun d s2 => d = .non ∧ P (.ref s.length) s2) E := by
  unfold mkD
  rw [z_bind]
  congr 1
  funext d s2
  cases d <;> simp
@[simp ↓] theorem z_starF {k : Nat} {ds : List D} : (starF k F ds s).wp P E = ((k ≤ ds.length ∧ ds.length ≤ sizeLine) ∧ (F (ds.take k ++ [.tup (ds.drop k)]) s).wp P E) := by
  unfold starF
  rw [z_iteN]
@[simp ↓] theorem z_aS : (aS a ms e s).wp PL E = (a e s).wp (fun x s1 => optP (seqD s1 x) fun xs => (ms e s1).wp (fun ys s2 => PL (xs ++ ys) s2) E) E := by
  unfold aS
  rw [z_bind]
  congr 1
  funext x s1
  cases seqD s1 x with
  | none => rfl
  | some xs => simp only [z_bind, z_ok, optP_some]
@[simp ↓] theorem z_aS1 : (aS1 a e s).wp PL E = (a e s).wp (fun x s1 => optP (seqD s1 x) fun xs => PL xs s1) E := by
  unfold aS1
  rw [z_bind]
  congr 1
  funext x s1
  cases seqD s1 x <;> rfl
@[simp ↓] theorem seqD_tup {xs : List D} : seqD s (.tup xs) = some xs := nr rfl
@[simp ↓] theorem seqD_ref : seqD s (.ref n) = lstAt s n := nr rfl
@[simp ↓] theorem z_mMeth : (mMeth tb nm a ms e s).wp P E = (a e s).wp (fun d s1 => refP d fun n => insP s1[n]? fun c fs => optP (tb.lookup c) fun F => (fs.lookup nm).isNone = true ∧ (ms e s1).wp (fun ds s2 => (F (.ref n :: ds) s2).wp P E) E) E := by
  unfold mMeth
  rw [z_bind]
  congr 1
  funext d s1
  unfold refP
  cases d with
  | ref n =>
    dsimp only
    unfold insP
    cases s1[n]? with
    | none => rfl
    | some o =>
      cases o with
      | ins c fs =>
        dsimp only
        cases tb.lookup c with
        | none => rfl
        | some F =>
          dsimp only [optP]
          rw [z_iteN, z_bind]
      | _ => rfl
  | _ => rfl
/-- by the class of d, if it is an instance -/
def clsP (o : Option Str) (f : Str → Prop) (b : Prop) : Prop := match o with
  | some c => f c
  | none => b
@[simp ↓] theorem clsP_some {c : Str} {f : Str → Prop} {b : Prop} : clsP (some c) f b = f c := nr rfl
@[simp ↓] theorem clsP_none {f : Str → Prop} {b : Prop} : clsP none f b = b := nr rfl
theorem insC_ins {c : Str} (h : s[n]? = some (.ins c fs)) : insC s (.ref n) = some c := by
  unfold insC
  dsimp only
  rw [h]
theorem insC_lst {xs : List D} (h : lstAt s n = some xs) : insC s (.ref n) = none := by
  unfold insC
  dsimp only
  unfold lstAt at h
  split at h <;> simp_all
@[simp ↓] theorem insC_str {z : Str} : insC s (.str z) = none := nr rfl
@[simp ↓] theorem insC_tup {xs : List D} : insC s (.tup xs) = none := nr rfl
@[simp ↓] theorem insC_int {j : Int} : insC s (.int j) = none := nr rfl
@[simp ↓] theorem insC_bl {q : Bool} : insC s (.bl q) = none := nr rfl
@[simp ↓] theorem insC_non : insC s .non = none := nr rfl
@[simp ↓] theorem z_inO {neg : Bool} {B : D → D → Sto → Rs D} : (dInO neg tb B x y s).wp P E = clsP (insC s y) (fun c => optP (tb.lookup c) fun F => (F [y, x] s).wp (fun d s1 => blP d fun b => P (.bl (neg ^^ b)) s1) E) ((B x y s).wp P E) := by
  unfold dInO
  cases insC s y with
  | none => rfl
  | some c =>
    dsimp only [clsP]
    cases tb.lookup c with
    | none => rfl
    | some F =>
      dsimp only [optP]
      rw [z_bind]
      congr 1
      funext d s1
      cases d <;> rfl
@[simp ↓] theorem z_ixO {B : D → D → Sto → Rs D} : (dIxO tb B x y s).wp P E = clsP (insC s x) (fun c => optP (tb.lookup c) fun F => (F [x, y] s).wp P E) ((B x y s).wp P E) := by
  unfold dIxO
  cases insC s x with
  | none => rfl
  | some c =>
    dsimp only [clsP]
    cases tb.lookup c <;> rfl
@[simp ↓] theorem z_ownL {rs : List Str} {st : Bool} {B : D → D → Sto → Rs D} : (dOwnL tb rs st B x y s).wp P E = clsP (insC s x) (fun c => optP (tb.lookup c) fun F => rightOk rs st s y = true ∧ (F [x, y] s).wp P E) ((B x y s).wp P E) := by
  unfold dOwnL
  cases insC s x with
  | none => rfl
  | some c =>
    dsimp only [clsP]
    cases tb.lookup c with
    | none => rfl
    | some F =>
      dsimp only [optP]
      rw [z_iteN]
theorem z_lenO {B : MF} : (fLenO tb B [d] s).wp P E = clsP (insC s d) (fun c => optP (tb.lookup c) fun F => (F [d] s).wp (fun d1 s1 => intP d1 fun i => (0 ≤ i ∧ i < 2 ^ 63) ∧ P (.int i) s1) E) ((B [d] s).wp P E) := by
  unfold fLenO
  dsimp only
  cases insC s d with
  | none => rfl
  | some c =>
    dsimp only [clsP]
    cases tb.lookup c with
    | none => rfl
    | some F =>
      dsimp only [optP]
      rw [z_bind]
      congr 1
      funext d1 s1
      cases d1 with
      | int j => exact z_iteN
      | _ => rfl
/-- what a walk over an own instance, a list or a tuple goes through -/
def walkP (o : Option (Option (List D))) (s : Sto) (d : D) (P : Nat × Stp → Prop) : Prop := match o with
  | some (some xs) => P (xs.length, jTup xs)
  | some none => False
  | none => match d with
    | .tup ds => P (ds.length, jTup ds)
    | .ref n => lstP (lstAt s n) fun xs => P (xs.length, jLst n)
    | _ => False
@[simp ↓] theorem z_iOwn : (iOwn itb a e s).wp PI E = (a e s).wp (fun d s1 => walkP (itsO itb s1 d) s1 d fun j => PI j s1) E := by
  unfold iOwn
  rw [z_bind]
  congr 1
  funext d s1
  unfold walkP
  split <;> simp_all
  unfold walkD
  cases d with
  | ref n =>
    dsimp only
    unfold lstAt
    split <;> simp_all [lstP]
  | _ => rfl
@[simp ↓] theorem walkP_ins {xs : List D} {PJ : Nat × Stp → Prop} : walkP (some (some xs)) s d PJ = PJ (xs.length, jTup xs) := nr rfl
theorem itsO_ins {c : Str} {xs : List D} (h : s[n]? = some (.ins c fs)) (h1 : itb.lookup c = some f) (h2 : fs.lookup f = some (.tup xs)) : itsO itb s (.ref n) = some (some xs) := by
  unfold itsO
  dsimp only
  rw [h]
  dsimp only
  rw [h1]
  dsimp only
  rw [h2]
@[simp ↓] theorem itsO_tup {xs : List D} : itsO itb s (.tup xs) = none := nr rfl
theorem itsO_lst {xs : List D} (h : lstAt s n = some xs) : itsO itb s (.ref n) = none := by
  unfold itsO
  dsimp only
  unfold lstAt at h
  split at h <;> simp_all
@[simp ↓] theorem walkP_tup {xs : List D} {PJ : Nat × Stp → Prop} : walkP none s (.tup xs) PJ = PJ (xs.length, jTup xs) := nr rfl
@[simp ↓] theorem walkP_ref {PJ : Nat × Stp → Prop} : walkP none s (.ref n) PJ = lstP (lstAt s n) fun xs => PJ (xs.length, jLst n) := nr rfl
theorem z_isiA {T : String} : (mIsiA cs T a e s).wp P E = (a e s).wp (fun d s1 => optP (clD s1 d) fun t => clOk cs t = true ∧ optP (isiT T t) fun q => P (.bl q) s1) E := by
  unfold mIsiA
  rw [z_bind]
  congr 1
  funext d s1
  cases clD s1 d with
  | none => rfl
  | some t =>
    dsimp only [optP]
    rw [z_iteN]
    cases isiT T t <;> rfl
theorem z_isiC {c : Str} : (mIsiC cs c a e s).wp P E = (a e s).wp (fun d s1 => optP (clD s1 d) fun t => clOk cs t = true ∧ P (.bl (isiC c t)) s1) E := by
  unfold mIsiC
  rw [z_bind]
  congr 1
  funext d s1
  cases clD s1 d with
  | none => rfl
  | some t =>
    dsimp only [optP]
    rw [z_iteN]
    rfl
@[simp ↓] theorem z_extend {k : Nat} : (lExtend (.ref n) [d] s).wp P E = lstP (mlAt s n) fun xs => optP (seqD s d) fun ys => xs.length + ys.length ≤ sizeLine ∧ P .non (s.set n (.lst (xs ++ ys))) := by
  unfold lExtend mlAt lstP
  dsimp only
  cases s[n]? with
  | none => rfl
  | some o =>
    cases o with
    | lst xs =>
      cases seqD s d with
      | none => rfl
      | some ys => exact z_iteN
    | _ => rfl
@[simp ↓] theorem z_ltS {u v : Str} : (dLtS (.str u) (.str v) s).wp P E = P (.bl (decide (u.cps.toList < v.cps.toList))) s := nr rfl
/-! dicts -/
@[simp ↓] theorem z_mDN : (mDN e s).wp P E = P (.ref s.length) (s ++ [.dict false []]) := nr rfl
@[simp ↓] theorem z_getD : (dGetD (.ref n) x s).wp P E = optP (keyD x) fun k => optP (dctAt s n) fun kvs => optP (getK kvs k) fun v => P v s := by
  unfold dGetD optP
  cases keyD x with
  | none => rfl
  | some k =>
    dsimp only
    cases dctAt s n with
    | none => rfl
    | some kvs =>
      dsimp only
      cases getK kvs k <;> rfl
@[simp ↓] theorem z_inD {neg : Bool} : (dInD neg y (.ref n) s).wp P E = optP (keyD y) fun k => optP (dctAt s n) fun kvs => P (.bl (neg ^^ (getK kvs k).isSome)) s := by
  unfold dInD optP
  cases keyD y with
  | none => rfl
  | some k =>
    dsimp only
    cases dctAt s n <;> rfl
@[simp ↓] theorem z_get2 : (dGet2 (.ref n) x y s).wp P E = optP (keyD x) fun k => optP (dctAt s n) fun kvs => P ((getK kvs k).getD y) s := by
  unfold dGet2 optP
  cases keyD x with
  | none => rfl
  | some k =>
    dsimp only
    cases dctAt s n <;> rfl
@[simp ↓] theorem z_m3 {f3 : D → D → D → Sto → Rs D} : (m3 f3 a b c e s).wp P E = (a e s).wp (fun x s1 => (b e s1).wp (fun y s2 => (c e s2).wp (fun z s3 => (f3 x y z s3).wp P E) E) E) E := by
  unfold m3; simp only [z_bind]
def dctP (o : Option SO) (P : List (D × D) → Prop) : Prop := match o with
  | some (.dict false kvs) => P kvs
  | _ => False
@[simp ↓] theorem dctP_some {kvs : List (D × D)} {P : List (D × D) → Prop} : dctP (some (.dict false kvs)) P = P kvs := nr rfl
@[simp ↓] theorem z_setD {v : D} {PS : Sto → Prop} : stoP (xSetD (.ref n) x v s) PS = optP (keyD x) fun k => dctP s[n]? fun kvs => kvs.length < sizeLine ∧ PS (s.set n (.dict false (putKd kvs x k v))) := by
  unfold xSetD optP
  cases keyD x with
  | none => rfl
  | some k =>
    dsimp only
    unfold dctP
    cases s[n]? with
    | none => rfl
    | some o =>
      cases o with
      | dict b kvs =>
        cases b with
        | true => rfl
        | false =>
          dsimp only
          by_cases q : kvs.length < sizeLine <;> simp [q, stoP]
      | _ => rfl
def lckP (o : Option SO) (P : List (D × D) → Prop) : Prop := match o with
  | some (.lck false kvs) => P kvs
  | _ => False
@[simp ↓] theorem lckP_some {kvs : List (D × D)} {P : List (D × D) → Prop} : lckP (some (.lck false kvs)) P = P kvs := nr rfl
@[simp ↓] theorem z_iKy {j : Nat → Stp} : (iKy j a e s).wp PI E = (a e s).wp (fun d s1 => refP d fun n => lckP s1[n]? fun kvs => PI (kvs.length, j n) s1) E := by
  unfold iKy
  rw [z_bind]
  congr 1
  funext d s1
  unfold refP
  cases d with
  | ref n =>
    dsimp only
    unfold lckP
    cases s1[n]? with
    | none => rfl
    | some o =>
      cases o with
      | lck b kvs => cases b <;> rfl
      | _ => rfl
  | _ => rfl
theorem z_unl {r : RS} : (r.unl n).wp Q = r.wp { nx := fun e s => stoP (unlS n s) fun s => Q.nx e s, rt := fun d s => stoP (unlS n s) fun s => Q.rt d s, bk := fun e s => stoP (unlS n s) fun s => Q.bk e s, ct := fun e s => stoP (unlS n s) fun s => Q.ct e s, ex := Q.ex } := by
  unfold RS.unl
  cases r with
  | nx e s => simp only [z_nx, stoP]; cases unlS n s <;> rfl
  | rt e s => simp only [z_rt, stoP]; cases unlS n s <;> rfl
  | bk e s => simp only [z_bk, stoP]; cases unlS n s <;> rfl
  | ct e s => simp only [z_ct, stoP]; cases unlS n s <;> rfl
  | ex c f v e s => rfl
  | no => rfl
/-- a loop over a dict that stands in a slot -/
theorem z_sLk {B : SM} {kvs : List (D × D)} (h : e[i]? = some (some (.ref n))) (hs : s[n]? = some (.dict false kvs)) : (sLk (mV i) B e s).wp Q = (B e (s.set n (.lck false kvs))).wp { nx := fun e s => stoP (unlS n s) fun s => Q.nx e s, rt := fun d s => stoP (unlS n s) fun s => Q.rt d s, bk := fun e s => stoP (unlS n s) fun s => Q.bk e s, ct := fun e s => stoP (unlS n s) fun s => Q.ct e s, ex := Q.ex } := by
  unfold sLk mV
  rw [h]
  dsimp only
  rw [hs]
  dsimp only
  exact z_unl
theorem unl_of {kvs : List (D × D)} {PS : Sto → Prop} (h : s[n]? = some (.lck false kvs)) : stoP (unlS n s) PS = PS (s.set n (.dict false kvs)) := by
  unfold unlS
  rw [h]
  rfl
/-! sets -/
@[simp ↓] theorem z_mSet0 : (mSet0 e s).wp P E = P (.ref s.length) (s ++ [.set []]) := nr rfl
@[simp ↓] theorem z_mSAdd : (mSAdd a ms e s).wp P E = (a e s).wp (fun d s1 => refP d fun n => optP (setAt s1 n) fun _ => (ms e s1).wp (fun ds s2 => ∃ y xs k, ds = [y] ∧ setAt s2 n = some xs ∧ keyD y = some k ∧ xs.length + 1 < 4096 ∧ P .non (s2.set n (.set (if inKs xs k then xs else xs ++ [y])))) E) E := by
  unfold mSAdd
  rw [z_bind]
  congr 1
  funext d s1
  unfold refP
  cases d with
  | ref n =>
    dsimp only
    cases setAt s1 n with
    | none => rfl
    | some zs =>
      dsimp only [optP]
      rw [z_bind]
      congr 1
      funext ds s2
      split
      · rename_i y xs h
        rw [h]
        cases hk : keyD y with
        | none => simp [hk]
        | some k =>
          dsimp only
          rw [z_iteN, z_ok]
          simp [hk]
      · rename_i h
        rw [z_no]
        simp only [eq_iff_iff, false_iff]
        rintro ⟨y, xs, k, rfl, h2, _⟩
        exact h y xs rfl h2
  | _ => rfl
theorem z_inSt {neg : Bool} {xs : List D} {B : D → D → Sto → Rs D} (h : setAt s n = some xs) : (dInSt neg B x (.ref n) s).wp P E = optP (keyD x) fun k => P (.bl (neg ^^ inKs xs k)) s := by
  unfold dInSt
  dsimp only
  rw [h]
  dsimp only
  cases keyD x <;> rfl
@[simp ↓] theorem z_sP3 {i j l : Nat} : (sP3 i j l ms e s).wp Q = (ms e s).wp (fun ds s1 => ∃ x y z, ds = [x, y, z] ∧ Q.nx (((e.set i (some x)).set j (some y)).set l (some z)) s1) (fun c f v s => Q.ex c f v e s) := by
  unfold sP3
  rw [z_st]
  congr 1
  funext ds s1
  split
  · rw [z_nx, eq_iff_iff]
    refine ⟨fun h => ⟨_, _, _, rfl, h⟩, ?_⟩
    rintro ⟨x, y, z, h1, h2⟩
    cases h1
    exact h2
  · rename_i h
    simp only [z_rno, eq_iff_iff, false_iff]
    rintro ⟨x, y, z, rfl, _⟩
    exact h x y z rfl
@[simp ↓] theorem z_sortT {xs : List D} : (fSortA [.tup xs] s).wp P E = (canSort s xs = true ∧ P (.ref s.length) (s ++ [.lst (sortD s xs)])) := by
  show (if _ then _ else _ : Rs D).wp P E = _
  rw [z_iteN, z_ok]
@[simp ↓] theorem z_sortL : (fSortA [.ref n] s).wp P E = lstP (lstAt s n) fun xs => canSort s xs = true ∧ P (.ref s.length) (s ++ [.lst (sortD s xs)]) := by
  unfold fSortA
  dsimp only [seqD_ref]
  cases h : lstAt s n with
  | none => simp [seqD, h, lstP]
  | some xs =>
    simp only [seqD, h, lstP]
    rw [z_iteN, z_ok]
end
end Z

set_option Elab.async false
set_option linter.all false
set_option maxRecDepth 100000
set_option maxHeartbeats 4000000
namespace Z
open PySem PySem.Spec PyProof.Rows L2
/-! ### loops, comprehensions: more rules -/
section
variable {P : D → Sto → Prop} {E : Str → Str → D → Sto → Prop} {Q : En} {e : Ev} {s s0 s2 t : Sto} {j : Stp} {g g1 : GN} {body : SM} {N : Nat} {ks : List Nat} {xs : List D} {tt t1 : EM Bool} {mm : EM D} {mi1 : EM (Nat × Stp)} {vs vs1 : List Nat} {l : Nat}
/-- a for over known items -/
theorem for_it (it : ItOk ks s0 j N xs) (I : Nat → Ev → Sto → Prop) (hI : ∀ i e s, I i e s → Eff ks s0 s) (st : ∀ i d e s, xs[i]? = some d → I i e s → ∃ e1, g d e = some e1 ∧ (body e1 s).wp { nx := I (i + 1), ct := I (i + 1), bk := Q.nx, rt := Q.rt, ex := Q.ex })
    (h0 : I 0 e s) (fin : ∀ e s, I xs.length e s → Q.nx e s) : (forL j g body N 0 e s).wp Q := by
  refine forL_wp (N := N) I (fun i e s hi h => ⟨fun hN => ?_, fun hN => ?_⟩) N 0 e s (Nat.zero_add _) h0
  · subst hN
    exact ⟨by rw [it.2 i s (hI _ _ _ h), List.getElem?_eq_none (by rw [← it.1]; exact Nat.le_refl _)], fin _ _ (by rw [← it.1]; exact h)⟩
  · have hx : xs[i]? = some (xs[i]'(by rw [← it.1]; exact hN)) := List.getElem?_eq_getElem _
    obtain ⟨e1, h1, h2⟩ := st i _ e s hx h
    exact ⟨_, e1, by rw [it.2 i s (hI _ _ _ h), hx], h1, h2⟩
theorem lcI_wp (I : Nat → List D → Sto → Prop) {e : Ev} (st : ∀ i acc s, i ≤ N → I i acc s → s[l]? = some (.lst acc) → LcStep j g tt mm l I N i acc e s) : ∀ (f i : Nat) (acc : List D) (s : Sto), i + f = N → I i acc s → s[l]? = some (.lst acc) →
    (lcI j g tt mm l f i e s).wp fun _ s' => ∃ ys, s'[l]? = some (.lst ys) ∧ I N ys s'
  | 0, i, acc, s, h, hi, hl => by
    have h1 := (st i acc s (by omega) hi hl).1 (by omega)
    unfold lcI
    rw [h1]
    have e1 : i = N := by omega
    subst e1
    exact ⟨acc, hl, hi⟩
  | f + 1, i, acc, s, h, hi, hl => by
    obtain ⟨d, e1, h1, h2, h3⟩ := (st i acc s (by omega) hi hl).2 (by omega)
    unfold lcI
    rw [h1]
    dsimp only
    rw [h2]
    dsimp only
    rw [z_bind, z_nox]
    refine wp_mono h3 (fun q s1 h4 => ?_) fun _ _ _ _ z => z.elim
    cases q with
    | true =>
      rw [if_pos rfl] at h4 ⊢
      rw [z_bind, z_nox]
      refine wp_mono h4 (fun y s2 h5 => ?_) fun _ _ _ _ z => z.elim
      obtain ⟨h6, h7, h8⟩ := h5
      rw [h6]
      dsimp only
      rw [if_pos h7]
      have hl2 : l < s2.length := (List.getElem?_eq_some_iff.mp h6).1
      exact lcI_wp I st f (i + 1) _ _ (by omega) h8 (by rw [List.getElem?_set_self hl2])
    | false =>
      simp only [Bool.false_eq_true, ↓reduceIte] at h4 ⊢
      exact lcI_wp I st f (i + 1) _ _ (by omega) h4.2 h4.1
@[simp ↓] theorem z_mL2 {mi : EM (Nat × Stp)} : (mL2 mi g tt mi1 g1 t1 mm vs vs1 e s).wp P E = (mi e s).wp (fun jt s1 => (lcL2 jt.2 g tt mi1 g1 t1 mm vs1 s1.length jt.1 0 (wipeD e vs) (s1 ++ [.lst []])).wp P E) E := by
  unfold mL2; rw [z_bind]
/-- a walk that keeps as long as nothing but the places l and ks changes -/
def JOk (l : Nat) (ks : List Nat) (s2 : Sto) (jt : Nat × Stp) (zs : List D) : Prop := jt.1 = zs.length ∧ ∀ i s3, (∀ n, n < s2.length → n ≠ l → n ∉ ks → s3[n]? = s2[n]?) → jt.2 i s3 = some zs[i]?
theorem jok_tup {zs : List D} {n : Nat} (h : n = zs.length := by rfl) : JOk l ks s2 (n, jTup zs) zs := ⟨h, fun i s3 _ => rfl⟩
theorem jok_lst {p n : Nat} {zs : List D} (h : lstAt s2 p = some zs) (hp : p ≠ l) (hk : p ∉ ks) (hn : n = zs.length := by rfl) : JOk l ks s2 (n, jLst p) zs := ⟨hn, fun i s3 hs => by
  have e := hs p (lstAt_lt h) hp hk
  show jLst p i s3 = _
  rw [jLst_eq]
  have h' : lstAt s3 p = some zs := by
    unfold lstAt at h ⊢
    rw [e]
    exact h
  rw [h']
  rfl⟩
theorem lc2_gen (it : ItOk ks s0 j N xs) (hb : ∀ k ∈ ks, Bag s0 k) (F : Nat → List D) (hl : ((List.range xs.length).flatMap F).length < sizeLine)
    (st : ∀ i d s, xs[i]? = some d → Eff ks s0 s → (∀ k ∈ ks, Bag s k) → s0.length < s.length → ∃ e1, g d e = some e1 ∧ (tt e1 s).wp fun q s1 => Eff ks s s1 ∧ (q = false → F i = []) ∧ (q = true → (mi1 e1 s1).wp fun jt s2 => Eff ks s1 s2 ∧ ∃ (zs : List D) (os : List (Option D)), zs.length = os.length ∧ F i = os.filterMap id ∧ JOk s0.length ks s2 jt zs ∧
      ∀ (k : Nat) (d2 : D) (o : Option D) (s3 : Sto), zs[k]? = some d2 → os[k]? = some o → Eff ks s0 s3 → (∀ k ∈ ks, Bag s3 k) → s0.length < s3.length → ∃ e2, g1 d2 (wipeD e1 vs1) = some e2 ∧ (t1 e2 s3).wp fun q s4 => Eff ks s3 s4 ∧ q = o.isSome ∧ (q = true → (mm e2 s4).wp fun y s5 => Eff ks s4 s5 ∧ o = some y))) :
    (lcL2 j g tt mi1 g1 t1 mm vs1 s0.length N 0 e (s0 ++ [.lst []])).wp fun d s' => d = .ref s0.length ∧ Eff ks s0 s' ∧ s0.length < s'.length ∧ mlAt s' s0.length = some ((List.range xs.length).flatMap F) := by
  have lks : s0.length ∉ ks := fun h => Nat.lt_irrefl _ (hb _ h).lt
  have main : ∀ (f i : Nat) (s : Sto), i + f = N → Eff ks s0 s → s0.length < s.length → s[s0.length]? = some (.lst ((List.range i).flatMap F)) →
      (lcL2 j g tt mi1 g1 t1 mm vs1 s0.length f i e s).wp fun d s' => d = .ref s0.length ∧ Eff ks s0 s' ∧ s0.length < s'.length ∧ mlAt s' s0.length = some ((List.range xs.length).flatMap F) := by
    intro f
    induction f with
    | zero =>
      intro i s hi ef hlt hs
      unfold lcL2
      have : i = xs.length := by rw [← it.1]; omega
      rw [it.2 i s ef, List.getElem?_eq_none (by omega)]
      subst this
      exact ⟨rfl, ef, hlt, mlAt_some hs⟩
    | succ f ih =>
      intro i s hi ef hlt hs
      have hix : i < xs.length := by rw [← it.1]; omega
      have hx : xs[i]? = some xs[i] := List.getElem?_eq_getElem hix
      have tk : (List.range (i + 1)).flatMap F = (List.range i).flatMap F ++ F i := by
        rw [List.range_succ, List.flatMap_append]
        simp
      have pre : ((List.range (i + 1)).flatMap F).length ≤ ((List.range xs.length).flatMap F).length := by
        have e : List.range (i + 1) = (List.range xs.length).take (i + 1) := by rw [List.take_range, Nat.min_eq_left (by omega)]
        rw [e]
        conv => rhs; rw [← List.take_append_drop (i + 1) (List.range xs.length), List.flatMap_append, List.length_append]
        omega
      unfold lcL2
      rw [it.2 i s ef, hx]
      dsimp only
      obtain ⟨e1, h1, h2⟩ := st i xs[i] s hx ef (fun k hk => ef.bag k hk (hb k hk)) hlt
      rw [h1]
      dsimp only
      rw [z_bind, z_nox]
      refine wp_ne h2 fun q s1 ⟨ef1, hf, h3⟩ => ?_
      have efa := ef.trans ef1
      have hs1 := ef1.get hs lks
      cases q with
      | false =>
        rw [if_neg Bool.false_ne_true]
        refine ih (i + 1) s1 (by omega) efa (Nat.lt_of_lt_of_le hlt ef1.le) ?_
        rw [tk, hf rfl, List.append_nil]
        exact hs1
      | true =>
        rw [if_pos rfl, z_bind, z_nox]
        refine wp_ne (h3 rfl) fun jt s2 ⟨ef2, zs, os, hzo, hF, jok, hin⟩ => ?_
        have efb := efa.trans ef2
        have hs2 := ef2.get hs1 lks
        have hlt2 : s0.length < s2.length := Nat.lt_of_lt_of_le hlt (Nat.le_trans ef1.le ef2.le)
        rw [z_bind]
        refine wp_ne (lcI_wp (N := zs.length) (e := wipeD e1 vs1) (fun k acc s3 => Eff ks s0 s3 ∧ s0.length < s3.length ∧ (∀ n, n < s2.length → n ≠ s0.length → n ∉ ks → s3[n]? = s2[n]?) ∧ s2.length ≤ s3.length ∧ acc = (List.range i).flatMap F ++ (os.take k).filterMap id) ?_ jt.1 0 ((List.range i).flatMap F) s2 (by rw [jok.1]; omega) ⟨efb, hlt2, fun _ _ _ _ => rfl, Nat.le_refl _, by simp⟩ hs2) ?_
        · rintro k acc s3 hk ⟨ef3, hlt3, keep, hle, rfl⟩ hs3
          refine ⟨fun hN => ?_, fun hN => ?_⟩
          · rw [jok.2 k s3 keep, List.getElem?_eq_none (by omega)]
          · have hz : zs[k]? = some zs[k] := List.getElem?_eq_getElem hN
            have hz2 : os[k]? = some (os[k]'(by omega)) := List.getElem?_eq_getElem _
            generalize os[k]'(by omega) = o at hz2
            obtain ⟨e2, h4, h5⟩ := hin k zs[k] o s3 hz hz2 ef3 (fun k hk => ef3.bag k hk (hb k hk)) hlt3
            refine ⟨zs[k], e2, by rw [jok.2 k s3 keep, hz], h4, wp_ne h5 fun q s4 ⟨ef4, hq, h6⟩ => ?_⟩
            have hs4 := ef4.get hs3 lks
            have keep4 : ∀ n, n < s2.length → n ≠ s0.length → n ∉ ks → s4[n]? = s2[n]? := fun n hn h1 h2 => (ef4.eq n (by omega) h2).trans (keep n hn h1 h2)
            cases q with
            | false =>
              rw [if_neg Bool.false_ne_true]
              have hn : o = none := by
                cases o with
                | none => rfl
                | some y => cases hq
              exact ⟨hs4, ef3.trans ef4, Nat.lt_of_lt_of_le hlt3 ef4.le, keep4, Nat.le_trans hle ef4.le, by rw [List.take_add_one, hz2, List.filterMap_append]; simp [hn]⟩
            | true =>
              rw [if_pos rfl]
              refine wp_ne (h6 rfl) fun y s5 ⟨ef5, hy⟩ => ?_
              have hs5 := ef5.get hs4 lks
              refine ⟨hs5, ?_, ((ef3.trans ef4).trans ef5).set (Nat.le_refl _), by rw [List.length_set]; have := ef4.le; have := ef5.le; omega, fun n hn h1 h2 => ?_, by rw [List.length_set]; have := ef4.le; have := ef5.le; omega, by rw [List.take_add_one, hz2, List.filterMap_append]; simp [hy]⟩
              · have e5 : (os.take (k + 1)).filterMap id = (os.take k).filterMap id ++ [y] := by rw [List.take_add_one, hz2, List.filterMap_append]; simp [hy]
                have e6 : os.filterMap id = (os.take (k + 1)).filterMap id ++ (os.drop (k + 1)).filterMap id := by rw [← List.filterMap_append, List.take_append_drop]
                rw [tk, hF, e6, e5] at pre
                simp only [List.length_append, List.length_singleton] at pre ⊢
                omega
              · rw [List.getElem?_set_ne (by omega), ef5.eq n (by have := ef4.le; omega) h2]
                exact keep4 n hn h1 h2
        · rintro _ s3 ⟨ys, hs3, ef3, hlt3, keep, hle, rfl⟩
          refine ih (i + 1) s3 (by omega) ef3 hlt3 ?_
          rw [tk, hF, hs3, List.take_of_length_le (l := os) (by omega)]
  exact main N 0 _ (by omega) Eff.push (by simp) (by simp)
/-! ### item by item -/
def AllR {α : Type} (R : D → α → Prop) (ds : List D) (as : List α) : Prop := ds.length = as.length ∧ ∀ (i : Nat) (d : D) (a : α), ds[i]? = some d → as[i]? = some a → R d a
theorem AllR.nil {α : Type} {R : D → α → Prop} : AllR R [] [] := ⟨rfl, fun i d a h => by simp at h⟩
theorem AllR.mono {α : Type} {R R' : D → α → Prop} {ds : List D} {as : List α} (h : AllR R ds as) (hR : ∀ d a, R d a → R' d a) : AllR R' ds as := ⟨h.1, fun i d a h1 h2 => hR _ _ (h.2 i d a h1 h2)⟩
theorem AllR.get {α : Type} {R : D → α → Prop} {ds : List D} {as : List α} (h : AllR R ds as) {i : Nat} {d : D} (hd : ds[i]? = some d) : ∃ a, as[i]? = some a ∧ R d a := by
  have hi : i < as.length := by rw [← h.1]; exact (List.getElem?_eq_some_iff.mp hd).1
  exact ⟨as[i], List.getElem?_eq_getElem hi, h.2 i d _ hd (List.getElem?_eq_getElem hi)⟩
theorem AllR.mem {α : Type} {R : D → α → Prop} {ds : List D} {as : List α} (h : AllR R ds as) {d : D} (hd : d ∈ ds) : ∃ a ∈ as, R d a := by
  obtain ⟨i, hi, rfl⟩ := List.getElem_of_mem hd
  obtain ⟨a, h1, h2⟩ := h.get (List.getElem?_eq_getElem hi)
  exact ⟨a, List.mem_of_getElem? h1, h2⟩
theorem AllR.app {α : Type} {R : D → α → Prop} {ds es : List D} {as bs : List α} (h : AllR R ds as) (h2 : AllR R es bs) : AllR R (ds ++ es) (as ++ bs) := by
  refine ⟨by simp [h.1, h2.1], fun i d a hd ha => ?_⟩
  by_cases hi : i < ds.length
  · rw [List.getElem?_append_left hi] at hd
    rw [List.getElem?_append_left (by rw [← h.1]; exact hi)] at ha
    exact h.2 i d a hd ha
  · rw [List.getElem?_append_right (by omega)] at hd
    rw [List.getElem?_append_right (by have := h.1; omega), ← h.1] at ha
    exact h2.2 _ d a hd ha
theorem AllR.one {α : Type} {R : D → α → Prop} {d : D} {a : α} (h : R d a) : AllR R [d] [a] := ⟨rfl, fun i d' a' h1 h2 => by
  cases i with
  | zero => cases h1; cases h2; exact h
  | succ i => simp at h1⟩
/-- a value of each item, told by what it stands for -/
theorem AllR.map {α : Type} {R : D → α → Prop} {ds : List D} {as : List α} (h : AllR R ds as) {f : D → D} {k : α → D} (hf : ∀ d a, R d a → f d = k a) : ds.map f = as.map k := by
  refine List.ext_getElem (by simp [h.1]) fun i h1 h2 => ?_
  rw [List.getElem_map, List.getElem_map]
  exact hf _ _ (h.2 i _ _ (List.getElem?_eq_getElem (by simpa using h1)) (List.getElem?_eq_getElem (by simpa using h2)))
theorem AllR.flat {α : Type} {as : List α} {k : α → List D} : as.flatMap k = (List.range as.length).flatMap fun i => ((as[i]?).map k).getD [] := by
  induction as with
  | nil => rfl
  | cons a as ih =>
    rw [List.flatMap_cons, List.length_cons, List.range_succ_eq_map, List.flatMap_cons, ih, List.flatMap_map]
    rfl
/-- two walks over what stands for something -/
theorem lc2RR {α β : Type} (R : D → α → Prop) (k : α → List D) {as : List α} (hR : AllR R xs as) (it : ItOk ks s0 j N xs) (hb : ∀ k ∈ ks, Bag s0 k) (hl : (as.flatMap k).length < sizeLine)
    (st : ∀ d a s, R d a → a ∈ as → Eff ks s0 s → (∀ k ∈ ks, Bag s k) → s0.length < s.length → ∃ e1, g d e = some e1 ∧ (tt e1 s).wp fun q s1 => Eff ks s s1 ∧ (q = false → k a = []) ∧ (q = true → (mi1 e1 s1).wp fun jt s2 => Eff ks s1 s2 ∧ ∃ (zs : List D) (bs : List β) (R2 : D → β → Prop) (h : β → Option D), AllR R2 zs bs ∧ k a = bs.filterMap h ∧ JOk s0.length ks s2 jt zs ∧
      ∀ d2 b s3, R2 d2 b → b ∈ bs → Eff ks s0 s3 → (∀ k ∈ ks, Bag s3 k) → s0.length < s3.length → ∃ e2, g1 d2 (wipeD e1 vs1) = some e2 ∧ (t1 e2 s3).wp fun q s4 => Eff ks s3 s4 ∧ q = (h b).isSome ∧ (q = true → (mm e2 s4).wp fun y s5 => Eff ks s4 s5 ∧ h b = some y))) :
    (lcL2 j g tt mi1 g1 t1 mm vs1 s0.length N 0 e (s0 ++ [.lst []])).wp fun d s' => d = .ref s0.length ∧ Eff ks s0 s' ∧ s0.length < s'.length ∧ mlAt s' s0.length = some (as.flatMap k) := by
  have hF : (List.range xs.length).flatMap (fun i => ((as[i]?).map k).getD []) = as.flatMap k := by rw [hR.1, ← AllR.flat]
  have := lc2_gen (e := e) (g := g) (tt := tt) (mi1 := mi1) (g1 := g1) (t1 := t1) (mm := mm) (vs1 := vs1) it hb (fun i => ((as[i]?).map k).getD []) (by rw [hF]; exact hl) fun i d s hx ef hbs hlt => by
    obtain ⟨a, ha, hr⟩ := hR.get hx
    rw [ha]
    obtain ⟨e1, h1, h2⟩ := st d a s hr (List.mem_of_getElem? ha) ef hbs hlt
    refine ⟨e1, h1, wp_ne h2 fun q s1 ⟨h3, h4, h5⟩ => ⟨h3, h4, fun hq => wp_ne (h5 hq) fun jt s2 ⟨h6, zs, bs, R2, h, h7, h8, h9, h10⟩ => ⟨h6, zs, bs.map h, by rw [List.length_map, h7.1], ?_, h9, fun k2 d2 o s3 hz ho ef3 hb3 hlt3 => ?_⟩⟩⟩
    · show k a = _
      rw [h8, List.filterMap_map]
      rfl
    · rw [List.getElem?_map] at ho
      obtain ⟨b, hb1, rfl⟩ := Option.map_eq_some_iff.mp ho
      exact h10 d2 b s3 (h7.2 k2 d2 b hz hb1) (List.mem_of_getElem? hb1) ef3 hb3 hlt3
  rw [hF] at this
  exact this
theorem lc2R {α : Type} (R : D → α → Prop) (k : α → List D) {as : List α} (hR : AllR R xs as) (it : ItOk ks s0 j N xs) (hb : ∀ k ∈ ks, Bag s0 k) (hl : (as.flatMap k).length < sizeLine)
    (st : ∀ d a s, R d a → a ∈ as → Eff ks s0 s → (∀ k ∈ ks, Bag s k) → s0.length < s.length → ∃ e1, g d e = some e1 ∧ (tt e1 s).wp fun q s1 => Eff ks s s1 ∧ (q = false → k a = []) ∧ (q = true → (mi1 e1 s1).wp fun jt s2 => Eff ks s1 s2 ∧ ∃ (zs : List D) (h : D → Option D), k a = zs.filterMap h ∧ JOk s0.length ks s2 jt zs ∧
      ∀ d2 s3, d2 ∈ zs → Eff ks s0 s3 → (∀ k ∈ ks, Bag s3 k) → s0.length < s3.length → ∃ e2, g1 d2 (wipeD e1 vs1) = some e2 ∧ (t1 e2 s3).wp fun q s4 => Eff ks s3 s4 ∧ q = (h d2).isSome ∧ (q = true → (mm e2 s4).wp fun y s5 => Eff ks s4 s5 ∧ h d2 = some y))) :
    (lcL2 j g tt mi1 g1 t1 mm vs1 s0.length N 0 e (s0 ++ [.lst []])).wp fun d s' => d = .ref s0.length ∧ Eff ks s0 s' ∧ s0.length < s'.length ∧ mlAt s' s0.length = some (as.flatMap k) :=
  lc2RR (β := D) R k hR it hb hl fun d a s h1 h2 h3 h4 h5 => by
    obtain ⟨e1, h6, h7⟩ := st d a s h1 h2 h3 h4 h5
    refine ⟨e1, h6, wp_ne h7 fun q s1 ⟨h8, h9, h10⟩ => ⟨h8, h9, fun hq => wp_ne (h10 hq) fun jt s2 ⟨h11, zs, h, h12, h13, h14⟩ => ⟨h11, zs, zs, (· = ·), h, ⟨rfl, fun i d a e1 e2 => Option.some.inj (e1.symm.trans e2)⟩, h12, h13, fun d2 b s3 e hb => ?_⟩⟩⟩
    subst e
    exact h14 d2 s3 hb
end
end Z

set_option Elab.async false
set_option linter.all false
set_option maxRecDepth 100000
set_option maxHeartbeats 4000000
namespace Z
open PySem PySem.Spec PyProof.Rows L2 TL
open PySem.PyData (strOk)
/-! ### names, kinds, bodies -/
theorem IsName.ok {x : Str} (h : IsName x) : strOk x = true := by
  unfold PyData.strOk
  rw [Array.all_eq_true']
  intro c hc
  have := h.low c (by simpa using hc)
  unfold isLow at this
  simp
  omega
theorem IsName.l8 {x : Str} (h : IsName x) : x.length ≤ 8 := by rw [len_tl]; exact h.len
theorem size_line : sizeLine = 16777216 := by decide
theorem kit_str : kitB "str" "str" = some true := by rfl
theorem kit_int : kitB "int" "int" = some true := by rfl
theorem kit_ib : kitB "int" "bool" = some false := by decide +kernel
theorem isi_str {P : D → Sto → Prop} {E : Str → Str → D → Sto → Prop} {s : Sto} {e : Ev} {i : Nat} {x : Str} (h : e[i]? = some (some (.str x))) (hP : P (.bl true) s) : (mIsi "str" (mV i) e s).wp P E := by
  rw [z_isi, z_mV, h, slotP_some]
  exact ⟨"str", true, rfl, kit_str, hP⟩
theorem isi_int {P : D → Sto → Prop} {E : Str → Str → D → Sto → Prop} {s : Sto} {e : Ev} {i : Nat} {x : Int} (h : e[i]? = some (some (.int x))) (hP : P (.bl true) s) : (mIsi "int" (mV i) e s).wp P E := by
  rw [z_isi, z_mV, h, slotP_some]
  exact ⟨"int", true, rfl, kit_int, hP⟩
theorem isi_nb {P : D → Sto → Prop} {E : Str → Str → D → Sto → Prop} {s : Sto} {e : Ev} {i : Nat} {x : Int} (h : e[i]? = some (some (.int x))) (hP : P (.bl false) s) : (mIsi "bool" (mV i) e s).wp P E := by
  rw [z_isi, z_mV, h, slotP_some]
  exact ⟨"int", false, rfl, kit_ib, hP⟩
theorem mapM_bl : ∀ bs : List Bool, (bs.map D.bl).mapM blD = some bs
  | [] => rfl
  | b :: bs => by
    rw [List.map_cons, List.mapM_cons, mapM_bl bs]
    rfl
theorem map_tt {xs : List D} : xs.map (fun _ => D.bl true) = (List.replicate xs.length true).map D.bl := by simp [List.map_const', List.map_replicate]
def tIsName : SM := (sC (sI (bOr (bNot (toT (mIsi "str" (mV 0)))) (bNot (toB (mCh dLe dLe (mC (.int 1)) (mN fLen (aC (mV 0) aN)) (mC (.int 8)))))) (sR (mC (.bl false))) sN) (sR (mN (fAllAny true) (aC (mL (iSt (mV 0)) (gN 1) tY (m2 (dInB false) (mV 1) (mC (.str "abcdefghijklmnopqrstuvwxyz"))) [1]) aN))))
def IsNameOk (F : MF) : Prop := ∀ {s : Sto} {x : Str}, IsName x → (F [.str x] s).wp fun d s' => d = .bl true ∧ Eff [] s s'
theorem is_name_gen : IsNameOk (fnM 1 2 tIsName) := by
  intro s x h
  refine wp_of fun P hP => ?_
  unfold tIsName
  rw [z_fnM (by rfl)]
  have h8 := h.l8
  have h1 : 1 ≤ x.length := by rw [len_tl]; exact h.pos
  have hl : x.length ≤ sizeLine := by rw [size_line]; omega
  simp
  refine isi_str rfl ?_
  simp [trD, hl]
  have e1 : (1 : Int) ≤ x.length := by omega
  have e2 : (x.length : Int) ≤ 8 := by omega
  simp [e1, e2]
  refine wp_ne (lc_map (ks := []) (xs := strDs x) (fun d => .bl true) it_str (by simp) (by unfold strDs; rw [List.length_map, size_line]; have := len_tl x; unfold tl at this; omega) fun d s1 hd ef _ => ?_) ?_
  · obtain ⟨c, hc, rfl⟩ := List.mem_map.mp hd
    refine ⟨_, rfl, ?_⟩
    have hlow := h.low c hc
    have hin : c ∈ tl abc := by
      rw [abc_tl]
      unfold isLow at hlow
      exact List.mem_map.mpr ⟨c - 97, by simp; omega, by omega⟩
    simp
    show (dInB false (.str (one c)) (.str abc) s1).wp _ _
    rw [z_inS]
    simp [hin, Eff.refl]
  rintro d s1 ⟨rfl, ef, hlt, hm⟩
  rw [z_all]
  rw [map_tt] at hm
  refine ⟨_, _, lstAt_ml hm, mapM_bl _, ?_⟩
  rw [if_pos rfl]
  exact hP _ _ ⟨by simp, ef⟩
def tLook (F : MF) : SM := (sI (bNot (toT (mN F (aC (mV 0) aN)))) sNo sN)
def LookOk (p : D → Prop) (F : MF) : Prop := ∀ {s : Sto} {d : D}, p d → (F [d] s).wp fun d' s' => d' = .non ∧ Eff [] s s'
theorem look_gen {F : MF} {p : D → Prop} (h : ∀ {s : Sto} {d : D}, p d → (F [d] s).wp fun d' s' => d' = .bl true ∧ Eff [] s s') : LookOk p (fnM 1 1 (tLook F)) := by
  intro s d hd
  unfold tLook
  rw [z_fnM (by rfl)]
  simp
  refine wp_ne (h hd) ?_
  rintro d' s' ⟨rfl, ef⟩
  simp [ef]
def nameD (d : D) : Prop := ∃ x, d = .str x ∧ IsName x
theorem look_name_gen {F : MF} (h : IsNameOk F) : LookOk nameD (fnM 1 1 (tLook F)) := look_gen fun ⟨x, e, hx⟩ => by subst e; exact h hx
def kinds : List Str := ["weak", "common", "strong"]
def kindD (d : D) : Prop := ∃ k, d = .str k ∧ k ∈ kinds
theorem kinds_ok {k : Str} (h : k ∈ kinds) : strOk k = true := by
  unfold kinds at h
  simp only [List.mem_cons, List.not_mem_nil, or_false] at h
  rcases h with rfl | rfl | rfl <;> decide +kernel
def tIsKind (c : D) : SM := (sR (mAnd (mIsi "str" (mV 0)) (m2 (dInB false) (mV 0) (mC c))))
theorem is_kind_gen {s : Sto} {d : D} (h : kindD d) : (fnM 1 1 (tIsKind (.tup [.str "weak", .str "common", .str "strong"])) [d] s).wp fun d' s' => d' = .bl true ∧ Eff [] s s' := by
  obtain ⟨k, rfl, hk⟩ := h
  unfold tIsKind
  rw [z_fnM (by rfl)]
  simp
  refine isi_str rfl ?_
  simp
  have e : (D.tup [.str "weak", .str "common", .str "strong"]) = .tup (kinds.map D.str) := rfl
  rw [e, z_inT_yes (by rw [plain]; exact kinds_ok hk) (plains_strs fun x hx => kinds_ok hx) (List.mem_map_of_mem hk)]
  simp [Eff.refl]
def bodyD (d : D) : Prop := ∃ i : Int, d = .int i ∧ 0 ≤ i ∧ i ≤ 999999
def tLookBody : SM := (sI (bOr (bNot (toT (mIsi "int" (mV 0)))) (bOr (toT (mIsi "bool" (mV 0))) (bNot (toB (mCh dLe dLe (mC (.int 0)) (mV 0) (mC (.int 999999))))))) sNo sN)
theorem look_body_gen : LookOk bodyD (fnM 1 1 tLookBody) := by
  intro s d h
  obtain ⟨i, rfl, h0, h1⟩ := h
  unfold tLookBody
  rw [z_fnM (by rfl)]
  simp
  refine isi_int rfl ?_
  simp
  refine isi_nb rfl ?_
  simp [h0, h1, Eff.refl]
def tTwice : SM := (sC (sA 1 (mN fLst aN)) (sC (sF (iSq (mV 0)) (gN 2) (sC (sI (toB (m2 (dInB false) (mV 2) (mV 1))) (sR (mV 2)) sN) (sE (mBM "list" (mtL lAppend) (mV 1) (aC (mV 2) aN))))) (sR (mC .non))))
def TwiceOk (F : MF) : Prop := ∀ {s : Sto} {n : Nat} {ms : List Str}, lstAt s n = some (ms.map D.str) → ms.Nodup → (∀ x ∈ ms, strOk x = true) → ms.length ≤ 1000 → (F [.ref n] s).wp fun d s' => d = .non ∧ Eff [] s s'
theorem twice_gen : TwiceOk (fnM 1 3 tTwice) := by
  intro s n ms hx hd hok hl
  refine wp_of fun P hP => ?_
  unfold tTwice
  rw [z_fnM (by rfl)]
  have hn := lstAt_lt hx
  simp [lstAt_app hn, hx]
  refine for_it (ks := []) (s0 := s) (xs := ms.map D.str) (it_lst hx (by simp)) (fun i e s1 => Eff [] s s1 ∧ mlAt s1 s.length = some ((ms.take i).map D.str) ∧ ∃ o, e = [some (.ref n), some (.ref s.length), o]) (fun _ _ _ h => h.1) ?_ ⟨Eff.push, by simp, none, rfl⟩ ?_
  · rintro i d e s1 hd1 ⟨ef, hm, o, rfl⟩
    obtain ⟨x, hx1, rfl⟩ : ∃ x, ms[i]? = some x ∧ d = .str x := by
      rw [List.getElem?_map] at hd1
      obtain ⟨x, h1, h2⟩ := Option.map_eq_some_iff.mp hd1
      exact ⟨x, h1, h2.symm⟩
    have hi : i < ms.length := (List.getElem?_eq_some_iff.mp hx1).1
    have hxe : ms[i] = x := (List.getElem?_eq_some_iff.mp hx1).2
    refine ⟨_, rfl, ?_⟩
    have hs := plains_strs (n := 20) (ms := ms.take i) fun x hx => hok x (List.mem_of_mem_take hx)
    have ni2 : ¬ (D.str x) ∈ (ms.take i).map D.str := fun hmem => by
      obtain ⟨y, hy, e⟩ := List.mem_map.mp hmem
      cases e
      obtain ⟨j, hj2, e⟩ := List.getElem_of_mem hy
      rw [List.length_take] at hj2
      rw [List.getElem_take] at e
      exact (List.pairwise_iff_getElem.mp hd) j i (by omega) hi (by omega) (e.trans hxe.symm)
    simp
    rw [z_inL_no (by rw [plain]; exact hok _ (List.mem_of_getElem? hx1)) (lstAt_ml hm) hs ni2]
    have hlt : s.length < s1.length := lstAt_lt (lstAt_ml hm)
    simp [hm, hlt]
    refine ⟨isTy_ml hm, by rw [size_line]; omega, ef.set (Nat.le_refl _), ?_⟩
    rw [List.take_add_one, hd1]
    simp
  · rintro e s1 ⟨ef, hm, o, rfl⟩
    simp
    exact hP _ _ ⟨rfl, ef⟩
end Z

set_option Elab.async false
set_option linter.all false
set_option maxRecDepth 100000
set_option maxHeartbeats 4000000
namespace Z
open PySem PySem.Spec PyProof.Rows L2 TL
open PySem.PyData (strOk)
/-! ### members, archives, stores: what stands for them -/
abbrev DefA := Str × Str × Int
structure MemA where
  name : Str
  defs : List DefA
  wants : List Str
structure ArcA where
  name : Str
  mems : List MemA
def defD (p : DefA) : D := .tup [.str p.1, .str p.2.1, .int p.2.2]
def IsMem (s : Sto) (d : D) (m : MemA) : Prop := ∃ n, d = .ref n ∧ s[n]? = some (.ins "Member" [("name", .str m.name), ("defines", .tup (m.defs.map defD)), ("wants", .tup (m.wants.map D.str))])
def IsArc (s : Sto) (d : D) (a : ArcA) : Prop := ∃ n ds, d = .ref n ∧ s[n]? = some (.ins "Archive" [("name", .str a.name), ("members", .tup ds)]) ∧ AllR (IsMem s) ds a.mems
def IsSto (s : Sto) (d : D) (as : List ArcA) : Prop := ∃ n ds, d = .ref n ∧ s[n]? = some (.ins "Store" [("archives", .tup ds)]) ∧ AllR (IsArc s) ds as
def Bags (s : Sto) (ks : List Nat) : Prop := ∀ k ∈ ks, Bag s k
theorem bags_nil {s : Sto} : Bags s [] := fun _ h => by simp at h
theorem Bags.eff {s t : Sto} {ks : List Nat} (h : Bags s ks) (e : Eff ks s t) : Bags t ks := fun k hk => e.bag k hk (h k hk)
/-- an instance is no bag -/
theorem ins_no {s : Sto} {ks : List Nat} {n : Nat} {c : Str} {fs : List (Str × D)} (hb : Bags s ks) (h : s[n]? = some (.ins c fs)) : n ∉ ks := fun hk => by
  obtain ⟨a, b, e⟩ := hb n hk
  rw [h] at e
  cases e
theorem IsMem.eff {s t : Sto} {ks : List Nat} {d : D} {m : MemA} (h : IsMem s d m) (e : Eff ks s t) (hb : Bags s ks) : IsMem t d m := by
  obtain ⟨n, h1, h2⟩ := h
  exact ⟨n, h1, e.get h2 (ins_no hb h2)⟩
theorem IsArc.eff {s t : Sto} {ks : List Nat} {d : D} {m : ArcA} (h : IsArc s d m) (e : Eff ks s t) (hb : Bags s ks) : IsArc t d m := by
  obtain ⟨n, ds, h1, h2, h3⟩ := h
  exact ⟨n, ds, h1, e.get h2 (ins_no hb h2), h3.mono fun _ _ h => h.eff e hb⟩
theorem IsSto.eff {s t : Sto} {ks : List Nat} {d : D} {m : List ArcA} (h : IsSto s d m) (e : Eff ks s t) (hb : Bags s ks) : IsSto t d m := by
  obtain ⟨n, ds, h1, h2, h3⟩ := h
  exact ⟨n, ds, h1, e.get h2 (ins_no hb h2), h3.mono fun _ _ h => h.eff e hb⟩
theorem IsMem.eff0 {s t : Sto} {d : D} {m : MemA} (h : IsMem s d m) (e : Eff [] s t) : IsMem t d m := h.eff e bags_nil
theorem IsArc.eff0 {s t : Sto} {d : D} {m : ArcA} (h : IsArc s d m) (e : Eff [] s t) : IsArc t d m := h.eff e bags_nil
theorem IsSto.eff0 {s t : Sto} {d : D} {m : List ArcA} (h : IsSto s d m) (e : Eff [] s t) : IsSto t d m := h.eff e bags_nil
/-! attributes -/
section
variable {P : D → Sto → Prop} {E : Str → Str → D → Sto → Prop} {s : Sto} {d : D} {cs : List Str}
theorem g_ins {n : Nat} {c f : Str} {fs : List (Str × D)} {v : D} (h : s[n]? = some (.ins c fs)) (hl : fs.lookup f = some v) (hc : c ∈ cs) : gFld cs f (.ref n) s = .ok v s := by
  unfold gFld
  dsimp only
  rw [h]
  dsimp only
  rw [if_pos hc, hl]
theorem IsMem.gname {m : MemA} (h : IsMem s d m) (hc : ("Member" : Str) ∈ cs := by decide) : gFld cs "name" d s = .ok (.str m.name) s := by
  obtain ⟨n, rfl, h⟩ := h
  exact g_ins h rfl hc
theorem IsMem.gdefs {m : MemA} (h : IsMem s d m) (hc : ("Member" : Str) ∈ cs := by decide) : gFld cs "defines" d s = .ok (.tup (m.defs.map defD)) s := by
  obtain ⟨n, rfl, h⟩ := h
  exact g_ins h rfl hc
theorem IsMem.gwants {m : MemA} (h : IsMem s d m) (hc : ("Member" : Str) ∈ cs := by decide) : gFld cs "wants" d s = .ok (.tup (m.wants.map D.str)) s := by
  obtain ⟨n, rfl, h⟩ := h
  exact g_ins h rfl hc
theorem IsArc.gname {a : ArcA} (h : IsArc s d a) (hc : ("Archive" : Str) ∈ cs := by decide) : gFld cs "name" d s = .ok (.str a.name) s := by
  obtain ⟨n, ds, rfl, h, _⟩ := h
  exact g_ins h rfl hc
theorem IsArc.gmems {a : ArcA} (h : IsArc s d a) (hc : ("Archive" : Str) ∈ cs := by decide) : ∃ ds, gFld cs "members" d s = .ok (.tup ds) s ∧ AllR (IsMem s) ds a.mems := by
  obtain ⟨n, ds, rfl, h, h2⟩ := h
  exact ⟨ds, g_ins h rfl hc, h2⟩
theorem IsSto.garcs {a : List ArcA} (h : IsSto s d a) (hc : ("Store" : Str) ∈ cs := by decide) : ∃ ds, gFld cs "archives" d s = .ok (.tup ds) s ∧ AllR (IsArc s) ds a := by
  obtain ⟨n, ds, rfl, h, h2⟩ := h
  exact ⟨ds, g_ins h rfl hc, h2⟩
theorem IsMem.ins {m : MemA} (h : IsMem s d m) : insC s d = some ("Member" : Str) := by
  obtain ⟨n, rfl, h⟩ := h
  exact insC_ins h
theorem IsArc.ins {m : ArcA} (h : IsArc s d m) : insC s d = some ("Archive" : Str) := by
  obtain ⟨n, ds, rfl, h, _⟩ := h
  exact insC_ins h
theorem IsSto.ins {m : List ArcA} (h : IsSto s d m) : insC s d = some ("Store" : Str) := by
  obtain ⟨n, ds, rfl, h, _⟩ := h
  exact insC_ins h
end
/-! ### sorted definitions, wants -/
def encP (p : DefA) : PyData := .tuple [.str p.1, .str p.2.1, .int p.2.2]
def leP (a b : DefA) : Bool := PySem.W.dataLe false encP a b
def sortP (ps : List DefA) : List DefA := ps.mergeSort leP
theorem sortP_perm (ps : List DefA) : (sortP ps).Perm ps := List.mergeSort_perm _ _
theorem enc_defD {p : DefA} : enc (defD p) = encP p := by
  unfold defD encP
  rw [enc, encs, encs, encs, encs, enc, enc, enc]
def okP (p : DefA) : Prop := strOk p.1 = true ∧ strOk p.2.1 = true
theorem plain_defD {n : Nat} {p : DefA} (h : okP p) : plain (n + 1) (defD p) = true := by
  unfold defD
  rw [plain, plains_iff]
  intro x hx
  simp only [List.mem_cons, List.not_mem_nil, or_false] at hx
  rcases hx with rfl | rfl | rfl
  · rw [plain]; exact h.1
  · rw [plain]; exact h.2
  · rw [plain]
theorem plains_defs {n : Nat} {ps : List DefA} (h : ∀ p ∈ ps, okP p) : plains (n + 1) (ps.map defD) = true := plains_iff.mpr fun d hd => by
  obtain ⟨p, hp, rfl⟩ := List.mem_map.mp hd
  exact plain_defD (h p hp)
theorem encD_def {s : Sto} {p : DefA} (h : okP p) : encD s (defD p) = encP p := by
  unfold encD
  rw [pyd_le (pyd_plain s 20 (defD p) (plain_defD h)) (by omega), enc_defD]
  rfl
theorem sortD_defs {s : Sto} {ps : List DefA} (h : ∀ p ∈ ps, okP p) : canSort s (ps.map defD) = true ∧ sortD s (ps.map defD) = (sortP ps).map defD := by
  constructor
  · unfold canSort
    simp only [List.all_map, Bool.and_eq_true, Bool.or_eq_true, List.all_eq_true, Function.comp_apply]
    refine ⟨⟨fun x hx => ?_, fun x hx y hy => ?_⟩, .inl fun x hx => ?_⟩
    · rw [shp_plain (plain_defD (h x hx))]
      rfl
    · rw [encD_def (h x hx), encD_def (h y hy)]
      simp [PySem.W.alike, PySem.W.alikeAll, encP]
    · rw [encD_def (h x hx)]
      rfl
  · unfold sortD sortP
    refine (List.map_mergeSort fun a ha b hb => ?_).symm
    rw [leP, PySem.W.dataLe_eq, PySem.W.dataLe_eq]
    simp only [encD_def (h a ha), encD_def (h b hb)]
theorem sortD_strs {s : Sto} {ms : List Str} (h : ∀ x ∈ ms, strOk x = true) : canSort s (ms.map D.str) = true ∧ sortD s (ms.map D.str) = (sortS ms).map D.str := by
  constructor
  · unfold canSort
    simp only [List.all_map, Bool.and_eq_true, Bool.or_eq_true, List.all_eq_true, Function.comp_apply]
    refine ⟨⟨fun x hx => ?_, fun x hx y hy => ?_⟩, .inr fun x hx => ?_⟩
    · rw [shp_plain (by rw [plain]; exact h x hx)]
      rfl
    · rw [encD_str, encD_str]
      simp [PySem.W.alike]
    · rw [encD_str]
      rfl
  · unfold sortD sortS
    refine (List.map_mergeSort fun a _ b _ => ?_).symm
    rw [PySem.W.dataLe_eq]
    have := congrFun (congrFun (PySem.W.dataLe_str (fun x : Str => x)) a) b
    rw [PySem.W.dataLe_eq] at this
    simp only [encD_str, cond_false] at this ⊢
    rw [this]
    rfl
/-! ### Member(name, defines = .., wants = ..) -/
structure GoodM (nm : Str) (ps : List DefA) (ws : List Str) : Prop where
  nm : IsName nm
  defs : ∀ p ∈ ps, IsName p.1 ∧ p.2.1 ∈ kinds ∧ 0 ≤ p.2.2 ∧ p.2.2 ≤ 999999
  wants : ∀ w ∈ ws, IsName w
  nd : (ps.map (·.1) ++ ws).Nodup
  l1 : ps.length ≤ 6
  l2 : ws.length ≤ 6
theorem GoodM.okp {nm : Str} {ps : List DefA} {ws : List Str} (h : GoodM nm ps ws) : ∀ p ∈ ps, okP p := fun p hp => ⟨(h.defs p hp).1.ok, kinds_ok (h.defs p hp).2.1⟩
def tMember (lname lkind lbody twice : MF) (cs : List Str) : SM := (sC (sE (mN lname (aC (mV 1) aN))) (sC (sF (iSq (mV 2)) (gT [(gN 6), (gN 7), (gN 8)]) (sC (sE (mN lname (aC (mV 6) aN))) (sC (sE (mN lkind (aC (mV 7) aN))) (sE (mN lbody (aC (mV 8) aN)))))) (sC (sF (iSq (mV 3)) (gN 4) (sE (mN lname (aC (mV 4) aN)))) (sC (sA 5 (mN twice (aC (m2 dAdd (mL (iSq (mV 2)) (gN 9) tY (m2 dIx (mV 9) (mC (.int 0))) [9]) (mN fList (aC (mV 3) aN))) aN))) (sC (sI (toB (m2 dNotN2 (mV 5) (mC .non))) sNo sN) (sC (sI (bOr (toB (m2 dGt (mN fLen (aC (mV 2) aN)) (mC (.int 6)))) (toB (m2 dGt (mN fLen (aC (mV 3) aN)) (mC (.int 6))))) sNo sN) (sC (sFldD cs "name" (mV 0) (mV 1)) (sC (sFldD cs "defines" (mV 0) (mN fTuple (aC (mN fSortA (aC (mV 2) aN)) aN))) (sFldD cs "wants" (mV 0) (mN fTuple (aC (mN fSortA (aC (mV 3) aN)) aN)))))))))))
/-- a list or a tuple of items that stays -/
def SeqOf (s : Sto) (d : D) (xs : List D) : Prop := d = .tup xs ∨ ∃ n, d = .ref n ∧ lstAt s n = some xs
theorem SeqOf.eff0 {s t : Sto} {d : D} {xs : List D} (h : SeqOf s d xs) (e : Eff [] s t) : SeqOf t d xs := by
  rcases h with h | ⟨n, h1, h2⟩
  · exact .inl h
  · exact .inr ⟨n, h1, e.lst h2 (by simp)⟩
theorem z_iSqS {PI : Nat × Stp → Sto → Prop} {E : Str → Str → D → Sto → Prop} {s : Sto} {e : Ev} {i : Nat} {d : D} {xs : List D} (he : e[i]? = some (some d)) (h : SeqOf s d xs) (hP : ∀ j, ItOk [] s j xs.length xs → PI (xs.length, j) s) : (iSq (mV i) e s).wp PI E := by
  rw [z_iSq, z_mV, he, slotP_some]
  rcases h with rfl | ⟨n, rfl, h2⟩
  · exact hP _ (it_tup rfl)
  · show lstP _ _
    rw [h2, lstP_some]
    exact hP _ (it_lst h2 (by simp) rfl)
end Z

set_option Elab.async false
set_option linter.all false
set_option maxRecDepth 100000
set_option maxHeartbeats 4000000
namespace Z
open PySem PySem.Spec PyProof.Rows L2 TL
open PySem.PyData (strOk)
theorem SeqOf.len {s : Sto} {d : D} {xs : List D} (h : SeqOf s d xs) {P : D → Sto → Prop} {E : Str → Str → D → Sto → Prop} : (fLen [d] s).wp P E = P (.int xs.length) s := by
  rcases h with rfl | ⟨n, rfl, h2⟩
  · rw [z_lenT]
  · rw [z_lenL, h2, lstP_some]
theorem SeqOf.list {s : Sto} {d : D} {xs : List D} (h : SeqOf s d xs) {P : D → Sto → Prop} {E : Str → Str → D → Sto → Prop} : (fList [d] s).wp P E = (xs.length ≤ sizeLine ∧ P (.ref s.length) (s ++ [.lst xs])) := by
  rcases h with rfl | ⟨n, rfl, h2⟩
  · rw [z_listT]
  · rw [z_listL, h2, lstP_some]
theorem SeqOf.sort {s : Sto} {d : D} {xs : List D} (h : SeqOf s d xs) {P : D → Sto → Prop} {E : Str → Str → D → Sto → Prop} : (fSortA [d] s).wp P E = (canSort s xs = true ∧ P (.ref s.length) (s ++ [.lst (sortD s xs)])) := by
  rcases h with rfl | ⟨n, rfl, h2⟩
  · rw [z_sortT]
  · rw [z_sortL, h2, lstP_some]
theorem fldP_ins {cs : List Str} {f c : Str} {v : D} {s : Sto} {n : Nat} {fs : List (Str × D)} {PS : Sto → Prop} (h : s[n]? = some (.ins c fs)) (hc : c ∈ cs) (hl : fs.length < 1000) (hP : PS (s.set n (.ins c (putD f v fs)))) : fldP cs f v (.ref n) s PS := by
  unfold fldP
  rw [refP_ref, h, insP_some]
  exact ⟨⟨hc, hl⟩, hP⟩
theorem member_gen {lname lkind lbody twice : MF} {cs : List Str} (h1 : LookOk nameD lname) (h2 : LookOk kindD lkind) (h3 : LookOk bodyD lbody) (h4 : TwiceOk twice) (hc : ("Member" : Str) ∈ cs)
    {s : Sto} {nm : Str} {dd dw : D} {ps : List DefA} {ws : List Str} (g : GoodM nm ps ws) (hd : SeqOf s dd (ps.map defD)) (hw : SeqOf s dw (ws.map D.str)) :
    (mkD "Member" (fnM 4 10 (tMember lname lkind lbody twice cs)) [.str nm, dd, dw] s).wp fun d s' => IsMem s' d ⟨nm, sortP ps, sortS ws⟩ ∧ Eff [] s s' := by
  refine wp_of fun P hP => ?_
  rw [z_mkD, z_fnM (by rfl)]
  have e1 : Eff [] s (s ++ [SO.ins "Member" []]) := Eff.push
  have n1 : (s ++ [SO.ins "Member" []])[s.length]? = some (.ins "Member" []) := by simp
  generalize s ++ [SO.ins "Member" []] = s1 at e1 n1 ⊢
  show (tMember lname lkind lbody twice cs [some (.ref s.length), some (.str nm), some dd, some dw, none, none, none, none, none, none] s1).wp _
  unfold tMember
  rw [z_sCn]
  simp
  refine wp_ne (h1 ⟨nm, rfl, g.nm⟩) ?_
  rintro d s2 ⟨rfl, ef2⟩
  have n2 := ef2.get n1 (by simp)
  have e2 := e1.trans ef2
  clear ef2 n1 e1
  show nxt _ _ _ _
  rw [z_nxC]
  simp [-z_iSq]
  refine z_iSqS rfl (hd.eff0 e2) fun j it => ?_
  refine for_it (it.later Eff.refl) (fun i e s3 => Eff [] s2 s3 ∧ ∃ o6 o7 o8, e = [some (.ref s.length), some (.str nm), some dd, some dw, none, none, o6, o7, o8, none]) (fun _ _ _ h => h.1) ?_ ⟨Eff.refl, _, _, _, rfl⟩ ?_
  · rintro i d e s3 hdi ⟨ef, o6, o7, o8, rfl⟩
    obtain ⟨p, hp, rfl⟩ := List.mem_map.mp (List.mem_of_getElem? hdi)
    have gp := g.defs p hp
    refine ⟨[some (.ref s.length), some (.str nm), some dd, some dw, none, none, some (.str p.1), some (.str p.2.1), some (.int p.2.2), none], rfl, ?_⟩
    simp
    refine wp_ne (h1 ⟨_, rfl, gp.1⟩) ?_
    rintro d s4 ⟨rfl, ef4⟩
    refine wp_ne (h2 ⟨_, rfl, gp.2.1⟩) ?_
    rintro d s5 ⟨rfl, ef5⟩
    refine wp_ne (h3 ⟨_, rfl, gp.2.2.1, gp.2.2.2⟩) ?_
    rintro d s6 ⟨rfl, ef6⟩
    exact ((ef.trans ef4).trans ef5).trans ef6
  rintro e s3 ⟨ef3, o6, o7, o8, rfl⟩
  have n3 := ef3.get n2 (by simp)
  have e3 := e2.trans ef3
  clear ef3 n2 e2 it
  show nxt _ _ _ _
  rw [z_nxC]
  simp [-z_iSq]
  refine z_iSqS rfl (hw.eff0 e3) fun j it => ?_
  refine for_it (it.later Eff.refl) (fun i e s4 => Eff [] s3 s4 ∧ ∃ o4, e = [some (.ref s.length), some (.str nm), some dd, some dw, o4, none, o6, o7, o8, none]) (fun _ _ _ h => h.1) ?_ ⟨Eff.refl, _, rfl⟩ ?_
  · rintro i d e s4 hdi ⟨ef, o4, rfl⟩
    obtain ⟨w, hw1, rfl⟩ := List.mem_map.mp (List.mem_of_getElem? hdi)
    refine ⟨_, rfl, ?_⟩
    simp
    refine wp_ne (h1 ⟨_, rfl, g.wants w hw1⟩) ?_
    rintro d s5 ⟨rfl, ef5⟩
    exact ef.trans ef5
  rintro e s4 ⟨ef4, o4, rfl⟩
  have n4 := ef4.get n3 (by simp)
  have e4 := e3.trans ef4
  clear ef4 n3 e3 it
  show nxt _ _ _ _
  rw [z_nxC]
  have l1 := g.l1
  have l2 := g.l2
  simp [-z_iSq]
  refine z_iSqS rfl (hd.eff0 e4) fun j it => ?_
  refine wp_ne (lc_map (ks := []) (fun d => match d with | .tup (x :: _) => x | _ => .non) (it.later Eff.refl) (by simp) (by rw [List.length_map, size_line]; omega) fun d s5 hdm ef _ => ?_) ?_
  · obtain ⟨p, hp, rfl⟩ := List.mem_map.mp hdm
    refine ⟨_, rfl, ?_⟩
    simp [defD, Eff.refl]
  rintro d s5 ⟨rfl, ef5, hlt5, hm5⟩
  have hm5 : mlAt s5 s4.length = some ((ps.map (·.1)).map D.str) := by
    rw [hm5, List.map_map, List.map_map]
    rfl
  have n5 := ef5.get n4 (by simp)
  have e5 := e4.trans ef5
  clear ef5 n4 e4 it
  rw [(hw.eff0 e5).list]
  refine ⟨by rw [List.length_map, size_line]; omega, ?_⟩
  simp [hlt5, hm5]
  refine ⟨by rw [size_line]; omega, ?_⟩
  have e6 : Eff [] s5 (s5 ++ [SO.lst (ws.map D.str), SO.lst ((ps.map (D.str ∘ fun x => x.1)) ++ ws.map D.str)]) := by
    have := (Eff.push (ks := []) (s := s5) (o := SO.lst (ws.map D.str))).trans (Eff.push (o := SO.lst ((ps.map (D.str ∘ fun x => x.1)) ++ ws.map D.str)))
    simpa using this
  have hok : ∀ x ∈ ps.map (·.1) ++ ws, strOk x = true := fun x hx => by
    rcases List.mem_append.mp hx with hx | hx
    · obtain ⟨p, hp, rfl⟩ := List.mem_map.mp hx
      exact (g.defs p hp).1.ok
    · exact (g.wants x hx).ok
  refine wp_ne (h4 (ms := ps.map (·.1) ++ ws) (lstAt_some (by rw [List.getElem?_append_right (by omega)]; simp)) g.nd hok (by simp; omega)) ?_
  rintro d s6 ⟨rfl, ef6⟩
  have n6 := ef6.get (e6.get n5 (by simp)) (by simp)
  have e7 := (e5.trans e6).trans ef6
  clear ef6 e6 e5 n5 hm5 hlt5
  show nxt _ _ _ _
  rw [z_nxC]
  simp [isNon]
  show nxt _ _ _ _
  rw [z_nxC]
  simp
  have c1 : ¬ (6 : Int) < ps.length := by omega
  have c2 : ¬ (6 : Int) < ws.length := by omega
  rw [(hd.eff0 e7).len]
  simp [c1]
  rw [(hw.eff0 e7).len]
  simp [c2]
  show nxt _ _ _ _
  rw [z_nxC]
  simp
  refine fldP_ins n6 hc (by decide) ?_
  have hlt6 : s.length < s6.length := (List.getElem?_eq_some_iff.mp n6).1
  have n7 : (s6.set s.length (.ins "Member" (putD "name" (.str nm) [])))[s.length]? = some (.ins "Member" [("name", .str nm)]) := by rw [List.getElem?_set_self hlt6]; rfl
  have e8 := e7.set (n := s.length) (o := .ins "Member" (putD "name" (.str nm) [])) (Nat.le_refl _)
  clear e7 n6
  generalize s6.set s.length (.ins "Member" (putD "name" (.str nm) [])) = s7 at n7 e8 ⊢
  show nxt _ _ _ _
  rw [z_nxC]
  simp
  have sd := sortD_defs (s := s7) g.okp
  rw [(hd.eff0 e8).sort]
  refine ⟨sd.1, ?_⟩
  rw [sd.2]
  simp
  have n8 : (s7 ++ [SO.lst ((sortP ps).map defD)])[s.length]? = some (.ins "Member" [("name", .str nm)]) := Eff.push.get (ks := []) n7 (by simp)
  have e9 : Eff [] s (s7 ++ [SO.lst ((sortP ps).map defD)]) := e8.trans Eff.push
  refine fldP_ins n8 hc (by simp) ?_
  have hlt8 : s.length < (s7 ++ [SO.lst ((sortP ps).map defD)]).length := (List.getElem?_eq_some_iff.mp n8).1
  have n9 : ((s7 ++ [SO.lst ((sortP ps).map defD)]).set s.length (.ins "Member" (putD "defines" (.tup ((sortP ps).map defD)) [("name", .str nm)])))[s.length]? = some (.ins "Member" [("name", .str nm), ("defines", .tup ((sortP ps).map defD))]) := by rw [List.getElem?_set_self hlt8]; rfl
  have e10 := e9.set (n := s.length) (o := .ins "Member" (putD "defines" (.tup ((sortP ps).map defD)) [("name", .str nm)])) (Nat.le_refl _)
  clear e9 e8 n8 n7
  generalize (s7 ++ [SO.lst ((sortP ps).map defD)]).set s.length (.ins "Member" (putD "defines" (.tup ((sortP ps).map defD)) [("name", .str nm)])) = s8 at n9 e10 ⊢
  show nxt _ _ _ _
  rw [z_nxt]
  simp
  have sw := sortD_strs (s := s8) (ms := ws) fun x hx => (g.wants x hx).ok
  rw [(hw.eff0 e10).sort]
  refine ⟨sw.1, ?_⟩
  rw [sw.2]
  simp
  have n10 : (s8 ++ [SO.lst ((sortS ws).map D.str)])[s.length]? = some (.ins "Member" [("name", .str nm), ("defines", .tup ((sortP ps).map defD))]) := Eff.push.get (ks := []) n9 (by simp)
  have e11 : Eff [] s (s8 ++ [SO.lst ((sortS ws).map D.str)]) := e10.trans Eff.push
  refine fldP_ins n10 hc (by simp) ?_
  have hlt10 : s.length < (s8 ++ [SO.lst ((sortS ws).map D.str)]).length := (List.getElem?_eq_some_iff.mp n10).1
  refine hP _ _ ⟨⟨s.length, rfl, ?_⟩, e11.set (Nat.le_refl _)⟩
  rw [List.getElem?_set_self hlt10]
  rfl
/-! ### comprehensions over what stands for something -/
section
variable {E : Str → Str → D → Sto → Prop} {e : Ev} {s s0 : Sto} {j : Stp} {g : GN} {N : Nat} {ks : List Nat} {xs : List D} {tt : EM Bool} {mm : EM D}
theorem lc_mapR {α : Type} (R : D → α → Prop) (k : α → D) {as : List α} (hR : AllR R xs as) (it : ItOk ks s0 j N xs) (hb : Bags s0 ks) (hl : as.length < sizeLine)
    (body : ∀ d a s, R d a → a ∈ as → Eff ks s0 s → Bags s ks → ∃ e1, g d e = some e1 ∧ (mm e1 s).wp fun y s2 => Eff ks s s2 ∧ y = k a) :
    (lcL j g tY mm s0.length N 0 e (s0 ++ [.lst []])).wp fun d s' => d = .ref s0.length ∧ Eff ks s0 s' ∧ s0.length < s'.length ∧ mlAt s' s0.length = some (as.map k) := by
  refine wp_ne (lc_all it hb (by rw [hR.1]; exact hl) (fun i d y => ∃ a, as[i]? = some a ∧ y = k a) fun i d s hx ef hbs => ?_) ?_
  · obtain ⟨a, ha, hr⟩ := hR.get hx
    obtain ⟨e1, h1, h2⟩ := body d a s hr (List.mem_of_getElem? ha) ef hbs
    exact ⟨e1, h1, wp_ne h2 fun y s2 ⟨h3, h4⟩ => ⟨h3, a, ha, h4⟩⟩
  · rintro d s' ⟨rfl, ef, hlt, ys, h1, h2, h3⟩
    refine ⟨rfl, ef, hlt, ?_⟩
    rw [h2]
    congr 1
    refine List.ext_getElem (by rw [List.length_map, h1, hR.1]) fun i hi hi2 => ?_
    obtain ⟨a, h4, h5⟩ := h3 i (xs[i]'(by omega)) ys[i] (List.getElem?_eq_getElem (by omega)) (List.getElem?_eq_getElem hi)
    rw [List.getElem_map, h5]
    congr 1
    exact ((List.getElem?_eq_some_iff.mp h4).2).symm
/-- with a test: what is kept stands for what is kept -/
theorem lc_filtR {α : Type} (R : D → α → Prop) (R2 : D → α → Prop) (p : α → Bool) {as : List α} (hR : AllR R xs as) (it : ItOk ks s0 j N xs) (hb : Bags s0 ks) (hl : as.length < sizeLine)
    (body : ∀ d a s, R d a → a ∈ as → Eff ks s0 s → Bags s ks → ∃ e1, g d e = some e1 ∧ (tt e1 s).wp fun q s1 => Eff ks s s1 ∧ q = p a ∧ (q = true → (mm e1 s1).wp fun y s2 => Eff ks s1 s2 ∧ R2 y a)) :
    (lcL j g tt mm s0.length N 0 e (s0 ++ [.lst []])).wp fun d s' => d = .ref s0.length ∧ Eff ks s0 s' ∧ s0.length < s'.length ∧ ∃ ys, mlAt s' s0.length = some ys ∧ AllR R2 ys (as.filter p) := by
  refine wp_ne (lc_gen it hb (by rw [hR.1]; exact hl) (fun i d o _ => ∃ a, as[i]? = some a ∧ (if p a then ∃ y, o = some y ∧ R2 y a else o = none)) (fun _ _ _ _ _ h _ _ => h) fun i d s hx ef hbs _ => ?_) ?_
  · obtain ⟨a, ha, hr⟩ := hR.get hx
    obtain ⟨e1, h1, h2⟩ := body d a s hr (List.mem_of_getElem? ha) ef hbs
    refine ⟨e1, h1, wp_ne h2 fun q s1 ⟨h3, h4, h5⟩ => ⟨h3, ?_⟩⟩
    subst h4
    cases hp : p a with
    | true =>
      rw [if_pos rfl]
      exact wp_ne (h5 hp) fun y s2 ⟨h6, h7⟩ => ⟨h6, a, ha, by rw [hp, if_pos rfl]; exact ⟨y, rfl, h7⟩⟩
    | false =>
      rw [if_neg Bool.false_ne_true]
      exact ⟨a, ha, by rw [hp, if_neg Bool.false_ne_true]⟩
  · rintro d s' ⟨rfl, ef, hlt, zs, hz, hm, hR2⟩
    refine ⟨rfl, ef, hlt, _, hm, ?_⟩
    have key : ∀ (as : List α) (zs : List (Option D)), zs.length = as.length → (∀ (i : Nat) (a : α) (o : Option D), as[i]? = some a → zs[i]? = some o → (if p a then ∃ y, o = some y ∧ R2 y a else o = none)) → AllR R2 (zs.filterMap id) (as.filter p) := by
      intro as
      induction as with
      | nil =>
        intro zs h1 _
        have : zs = [] := List.eq_nil_of_length_eq_zero h1
        subst this
        exact AllR.nil
      | cons a as ih =>
        intro zs h1 h2
        cases zs with
        | nil => cases h1
        | cons z zs =>
          have h3 := h2 0 a z rfl rfl
          have h4 := ih zs (by simpa using h1) fun i b o hb ho => h2 (i + 1) b o (by simpa using hb) (by simpa using ho)
          cases hp : p a with
          | true =>
            rw [hp, if_pos rfl] at h3
            obtain ⟨y, rfl, hy⟩ := h3
            rw [List.filter_cons_of_pos hp]
            exact (AllR.one hy).app h4
          | false =>
            rw [hp, if_neg Bool.false_ne_true] at h3
            subst h3
            rw [List.filter_cons_of_neg (by rw [hp]; exact Bool.false_ne_true)]
            exact h4
    refine key as zs (by rw [hz, hR.1]) fun i a o ha ho => ?_
    have hi : i < xs.length := by rw [hR.1]; exact (List.getElem?_eq_some_iff.mp ha).1
    obtain ⟨a', h1, h2⟩ := hR2 i (xs[i]) o (List.getElem?_eq_getElem hi) ho
    rw [ha] at h1
    cases h1
    exact h2
end
end Z

set_option Elab.async false
set_option linter.all false
set_option maxRecDepth 100000
set_option maxHeartbeats 4000000
namespace Z
open PySem PySem.Spec PyProof.Rows L2 TL
open PySem.PyData (strOk)
/-! ### Archive(name, *members) -/
structure GoodA (nm : Str) (ms : List MemA) : Prop where
  nm : IsName nm
  names : ∀ m ∈ ms, IsName m.name
  nd : (ms.map (·.name)).Nodup
  len : ms.length ≤ 8
def tArchive (lname twice : MF) (cs csM : List Str) : SM := (sC (sE (mN lname (aC (mV 1) aN))) (sC (sA 3 (mN twice (aC (mL (iSq (mV 2)) (gN 4) tY (mFld csM "name" (mV 4)) [4]) aN))) (sC (sI (toB (m2 dNotN2 (mV 3) (mC .non))) sNo sN) (sC (sI (toB (m2 dGt (mN fLen (aC (mV 2) aN)) (mC (.int 8)))) sNo sN) (sC (sFldD cs "name" (mV 0) (mV 1)) (sFldD cs "members" (mV 0) (mV 2)))))))
theorem map_names {ms : List MemA} : ms.map (fun m => D.str m.name) = (ms.map (·.name)).map D.str := by rw [List.map_map]; rfl
theorem archive_gen {lname twice : MF} {cs csM : List Str} (h1 : LookOk nameD lname) (h4 : TwiceOk twice) (hc : ("Archive" : Str) ∈ cs) (hM : ("Member" : Str) ∈ csM)
    {s : Sto} {nm : Str} {ds : List D} {ms : List MemA} (g : GoodA nm ms) (hd : AllR (IsMem s) ds ms) :
    (mkD "Archive" (starF 2 (fnM 3 5 (tArchive lname twice cs csM))) (.str nm :: ds) s).wp fun d s' => IsArc s' d ⟨nm, ms⟩ ∧ Eff [] s s' := by
  refine wp_of fun P hP => ?_
  have hlen := g.len
  have hl := hd.1
  rw [z_mkD, z_starF]
  refine ⟨⟨by simp, by simp only [List.length_cons, size_line]; omega⟩, ?_⟩
  rw [z_fnM (by rfl)]
  have e1 : Eff [] s (s ++ [SO.ins "Archive" []]) := Eff.push
  have n1 : (s ++ [SO.ins "Archive" []])[s.length]? = some (.ins "Archive" []) := by simp
  generalize s ++ [SO.ins "Archive" []] = s1 at e1 n1 ⊢
  show (tArchive lname twice cs csM [some (.ref s.length), some (.str nm), some (.tup ds), none, none] s1).wp _
  unfold tArchive
  rw [z_sCn]
  simp
  refine wp_ne (h1 ⟨nm, rfl, g.nm⟩) ?_
  rintro d s2 ⟨rfl, ef2⟩
  have n2 := ef2.get n1 (by simp)
  have e2 := e1.trans ef2
  show nxt _ _ _ _
  rw [z_nxC]
  simp
  refine wp_ne (lc_mapR (ks := []) (IsMem s2) (fun m => D.str m.name) (hd.mono fun _ _ h => h.eff0 e2) (it_tup rfl) bags_nil (by rw [size_line]; omega) fun d m s3 hm _ ef _ => ?_) ?_
  · refine ⟨_, rfl, ?_⟩
    simp only [z_mFld, z_mV]
    simp
    rw [(hm.eff0 ef).gname hM, z_ok]
    exact ⟨Eff.refl, rfl⟩
  rintro d s3 ⟨rfl, ef3, hlt3, hm3⟩
  rw [map_names] at hm3
  refine wp_ne (h4 (lstAt_ml hm3) g.nd (fun x hx => by
    obtain ⟨m, hm, rfl⟩ := List.mem_map.mp hx
    exact (g.names m hm).ok) (by rw [List.length_map]; omega)) ?_
  rintro d s4 ⟨rfl, ef4⟩
  have n4 := ef4.get (ef3.get n2 (by simp)) (by simp)
  have e4 := (e2.trans ef3).trans ef4
  clear ef4 ef3 ef2 e1 e2 n1 n2 hm3 hlt3
  show nxt _ _ _ _
  rw [z_nxC]
  simp [isNon]
  show nxt _ _ _ _
  rw [z_nxC]
  have c1 : ¬ (8 : Int) < ds.length := by omega
  simp [c1]
  show nxt _ _ _ _
  rw [z_nxC]
  simp
  refine fldP_ins n4 hc (by decide) ?_
  have hlt4 : s.length < s4.length := (List.getElem?_eq_some_iff.mp n4).1
  have n5 : (s4.set s.length (.ins "Archive" (putD "name" (.str nm) [])))[s.length]? = some (.ins "Archive" [("name", .str nm)]) := by rw [List.getElem?_set_self hlt4]; rfl
  have e5 := e4.set (n := s.length) (o := .ins "Archive" (putD "name" (.str nm) [])) (Nat.le_refl _)
  generalize s4.set s.length (.ins "Archive" (putD "name" (.str nm) [])) = s5 at n5 e5 ⊢
  show nxt _ _ _ _
  rw [z_nxt]
  simp
  refine fldP_ins n5 hc (by simp) ?_
  have hlt5 : s.length < s5.length := (List.getElem?_eq_some_iff.mp n5).1
  have e6 := e5.set (n := s.length) (o := .ins "Archive" (putD "members" (.tup ds) [("name", .str nm)])) (Nat.le_refl _)
  refine hP _ _ ⟨⟨s.length, ds, rfl, ?_, hd.mono fun _ _ h => h.eff0 e6⟩, e6⟩
  rw [List.getElem?_set_self hlt5]
  rfl
/-! ### archive + member -/
def tAdd (init : MF) (cs : List Str) : SM := (sR (mN (mkD "Archive" init) (aC (mFld cs "name" (mV 0)) (aS (mFld cs "members" (mV 0)) (aC (mV 1) aN)))))
theorem add_gen {lname twice : MF} {cs csM cs2 : List Str} (h1 : LookOk nameD lname) (h4 : TwiceOk twice) (hc : ("Archive" : Str) ∈ cs) (hM : ("Member" : Str) ∈ csM) (hc2 : ("Archive" : Str) ∈ cs2)
    {s : Sto} {da dm : D} {a : ArcA} {m : MemA} (g : GoodA a.name (a.mems ++ [m])) (ha : IsArc s da a) (hm : IsMem s dm m) :
    (fnM 2 2 (tAdd (starF 2 (fnM 3 5 (tArchive lname twice cs csM))) cs2) [da, dm] s).wp fun d s' => IsArc s' d ⟨a.name, a.mems ++ [m]⟩ ∧ Eff [] s s' := by
  refine wp_of fun P hP => ?_
  rw [z_fnM (by rfl)]
  unfold tAdd
  simp only [z_sR, z_mN, z_aC, z_aS, z_aN, z_mFld, z_mV]
  simp [-z_mkD]
  rw [ha.gname hc2, z_ok]
  obtain ⟨ds, e, hds⟩ := ha.gmems hc2
  rw [e, z_ok, seqD_tup, optP_some]
  exact wp_ne (archive_gen h1 h4 hc hM g (hds.app (AllR.one hm))) fun d s' h => hP _ _ h
end Z

set_option Elab.async false
set_option linter.all false
set_option maxRecDepth 100000
set_option maxHeartbeats 4000000
namespace Z
open PySem PySem.Spec PyProof.Rows L2 TL
open PySem.PyData (strOk)
theorem IsArc.its {s : Sto} {d : D} {a : ArcA} {itb : Itb} (h : IsArc s d a) (hi : itb.lookup ("Archive" : Str) = some ("members" : Str)) : ∃ ds, itsO itb s d = some (some ds) ∧ AllR (IsMem s) ds a.mems := by
  obtain ⟨n, ds, rfl, h, h2⟩ := h
  exact ⟨ds, itsO_ins h hi rfl, h2⟩
theorem IsSto.its {s : Sto} {d : D} {a : List ArcA} {itb : Itb} (h : IsSto s d a) (hi : itb.lookup ("Store" : Str) = some ("archives" : Str)) : ∃ ds, itsO itb s d = some (some ds) ∧ AllR (IsArc s) ds a := by
  obtain ⟨n, ds, rfl, h, h2⟩ := h
  exact ⟨ds, itsO_ins h hi rfl, h2⟩
/-! ### Store(*archives) -/
abbrev KeyA := Str × Int
def kP (p : DefA) : KeyA := (p.1, p.2.2)
def kM (m : MemA) : List KeyA := m.defs.map kP
def kA (a : ArcA) : List KeyA := a.mems.flatMap kM
def kS (as : List ArcA) : List KeyA := as.flatMap kA
def pairD (k : KeyA) : D := .tup [.str k.1, .int k.2]
theorem pairD_inj {a b : KeyA} (h : pairD a = pairD b) : a = b := by
  obtain ⟨a1, a2⟩ := a
  obtain ⟨b1, b2⟩ := b
  unfold pairD at h
  simp at h
  exact Prod.ext h.1 h.2
theorem plain_pair {n : Nat} {k : KeyA} (h : strOk k.1 = true) : plain (n + 1) (pairD k) = true := by
  unfold pairD
  rw [plain, plains_iff]
  intro x hx
  simp only [List.mem_cons, List.not_mem_nil, or_false] at hx
  rcases hx with rfl | rfl
  · rw [plain]; exact h
  · rw [plain]
theorem plains_pairs {n : Nat} {ks : List KeyA} (h : ∀ k ∈ ks, strOk k.1 = true) : plains (n + 1) (ks.map pairD) = true := plains_iff.mpr fun d hd => by
  obtain ⟨k, hk, rfl⟩ := List.mem_map.mp hd
  exact plain_pair (h k hk)
structure GoodS (as : List ArcA) : Prop where
  names : ∀ a ∈ as, IsName a.name
  nd : (as.map (·.name)).Nodup
  ok : ∀ k ∈ kS as, strOk k.1 = true
  kd : (kS as).Nodup
  kl : (kS as).length ≤ 10000
  len : as.length ≤ 6
def tStore (twice : MF) (cs csA csM : List Str) (itb : Itb) : SM := (sC (sA 2 (mN twice (aC (mL (iSq (mV 1)) (gN 4) tY (mFld csA "name" (mV 4)) [4]) aN))) (sC (sI (toB (m2 dNotN2 (mV 2) (mC .non))) sNo sN) (sC (sA 3 (mN fLst aN)) (sC (sF (iSq (mV 1)) (gN 4) (sF (iOwn itb (mV 4)) (gN 5) (sF (iSq (mFld csM "defines" (mV 5))) (gT [(gN 6), (gN 7), (gN 8)]) (sC (sI (toB (m2 (dInB false) (mN fTup (aC (mV 6) (aC (mV 8) aN))) (mV 3))) sNo sN) (sE (mBM "list" (mtL lAppend) (mV 3) (aC (mN fTup (aC (mV 6) (aC (mV 8) aN))) aN))))))) (sC (sI (toB (m2 dGt (mN fLen (aC (mV 1) aN)) (mC (.int 6)))) sNo sN) (sFldD cs "archives" (mV 0) (mV 1)))))))
theorem map_anames {ms : List ArcA} : ms.map (fun m => D.str m.name) = (ms.map (·.name)).map D.str := by rw [List.map_map]; rfl
theorem take_split1 {α : Type} {l : List α} {i : Nat} {a : α} (h : l[i]? = some a) : l = l.take i ++ a :: l.drop (i + 1) := by
  have hi := (List.getElem?_eq_some_iff.mp h).1
  have e := (List.getElem?_eq_some_iff.mp h).2
  conv => lhs; rw [← List.take_append_drop i l]
  rw [← e, List.getElem_cons_drop]
theorem take_snoc {α : Type} {l : List α} {i : Nat} {a : α} (h : l[i]? = some a) : l.take (i + 1) = l.take i ++ [a] := by
  rw [List.take_add_one, h]
  rfl
/-- the keys so far, and one more -/
theorem keys_at {as : List ArcA} {i k q : Nat} {a : ArcA} {m : MemA} {p : DefA} (h1 : as[i]? = some a) (h2 : a.mems[k]? = some m) (h3 : m.defs[q]? = some p) :
    ∃ rest, kS as = ((as.take i).flatMap kA ++ (a.mems.take k).flatMap kM ++ (m.defs.take q).map kP) ++ kP p :: rest := by
  refine ⟨(m.defs.drop (q + 1)).map kP ++ (a.mems.drop (k + 1)).flatMap kM ++ (as.drop (i + 1)).flatMap kA, ?_⟩
  have e1 : kM m = (m.defs.take q).map kP ++ kP p :: (m.defs.drop (q + 1)).map kP := by
    unfold kM
    conv => lhs; rw [take_split1 h3]
    simp
  have e2 : kA a = (a.mems.take k).flatMap kM ++ kM m ++ (a.mems.drop (k + 1)).flatMap kM := by
    unfold kA
    conv => lhs; rw [take_split1 h2]
    simp
  have e3 : kS as = (as.take i).flatMap kA ++ kA a ++ (as.drop (i + 1)).flatMap kA := by
    unfold kS
    conv => lhs; rw [take_split1 h1]
    simp
  rw [e3, e2, e1]
  simp
theorem store_gen {twice : MF} {cs csA csM : List Str} {itb : Itb} (h4 : TwiceOk twice) (hc : ("Store" : Str) ∈ cs) (hA : ("Archive" : Str) ∈ csA) (hM : ("Member" : Str) ∈ csM) (hi : itb.lookup ("Archive" : Str) = some ("members" : Str))
    {s : Sto} {ds : List D} {as : List ArcA} (g : GoodS as) (hd : AllR (IsArc s) ds as) :
    (mkD "Store" (starF 1 (fnM 2 9 (tStore twice cs csA csM itb))) ds s).wp fun d s' => IsSto s' d as ∧ Eff [] s s' := by
  refine wp_of fun P hP => ?_
  have hlen := g.len
  have hl := hd.1
  rw [z_mkD, z_starF]
  refine ⟨⟨by simp, by simp only [List.length_cons, size_line]; omega⟩, ?_⟩
  rw [z_fnM (by rfl)]
  have e1 : Eff [] s (s ++ [SO.ins "Store" []]) := Eff.push
  have n1 : (s ++ [SO.ins "Store" []])[s.length]? = some (.ins "Store" []) := by simp
  generalize s ++ [SO.ins "Store" []] = s1 at e1 n1 ⊢
  show (tStore twice cs csA csM itb [some (.ref s.length), some (.tup ds), none, none, none, none, none, none, none] s1).wp _
  unfold tStore
  rw [z_sCn]
  simp
  refine wp_ne (lc_mapR (ks := []) (IsArc s1) (fun m => D.str m.name) (hd.mono fun _ _ h => h.eff0 e1) (it_tup rfl) bags_nil (by rw [size_line]; omega) fun d m s3 hm _ ef _ => ?_) ?_
  · refine ⟨_, rfl, ?_⟩
    simp only [z_mFld, z_mV]
    simp
    rw [(hm.eff0 ef).gname hA, z_ok]
    exact ⟨Eff.refl, rfl⟩
  rintro d s3 ⟨rfl, ef3, hlt3, hm3⟩
  rw [map_anames] at hm3
  refine wp_ne (h4 (lstAt_ml hm3) g.nd (fun x hx => by
    obtain ⟨m, hm, rfl⟩ := List.mem_map.mp hx
    exact (g.names m hm).ok) (by rw [List.length_map]; omega)) ?_
  rintro d s4 ⟨rfl, ef4⟩
  have n4 := ef4.get (ef3.get n1 (by simp)) (by simp)
  have e4 := (e1.trans ef3).trans ef4
  clear ef4 ef3 e1 n1 hm3 hlt3
  show nxt _ _ _ _
  rw [z_nxC]
  simp [isNon]
  show nxt _ _ _ _
  rw [z_nxC]
  simp
  show nxt _ _ _ _
  rw [z_nxC]
  have hd4 := hd.mono fun _ _ h => h.eff0 e4
  have inv0 : Eff [] s4 (s4 ++ [SO.lst []]) := Eff.push
  rw [z_sF]
  simp
  refine for_it (ks := []) (s0 := s4) (xs := ds) (it_tup rfl) (fun i e s5 => Eff [] s4 s5 ∧ mlAt s5 s4.length = some (((as.take i).flatMap kA).map pairD) ∧ ∃ o4 o5 o6 o7 o8, e = [some (.ref s.length), some (.tup ds), some .non, some (.ref s4.length), o4, o5, o6, o7, o8]) (fun _ _ _ h => h.1) ?_ ⟨inv0, by simp, _, _, _, _, _, rfl⟩ ?_
  · rintro i d e s5 hdi ⟨ef5, hm5, o4, o5, o6, o7, o8, rfl⟩
    obtain ⟨a, hai, ha⟩ := hd4.get hdi
    obtain ⟨n, ms, rfl, hn, hms⟩ := ha
    refine ⟨_, rfl, ?_⟩
    simp
    rw [itsO_ins (ef5.get hn (by simp)) hi rfl, walkP_ins]
    refine for_it (ks := []) (s0 := s4) (xs := ms) (it_tup rfl) (fun k e s6 => Eff [] s4 s6 ∧ mlAt s6 s4.length = some (((as.take i).flatMap kA ++ (a.mems.take k).flatMap kM).map pairD) ∧ ∃ o5 o6 o7 o8, e = [some (.ref s.length), some (.tup ds), some .non, some (.ref s4.length), some (.ref n), o5, o6, o7, o8]) (fun _ _ _ h => h.1) ?_ ⟨ef5, by simpa using hm5, _, _, _, _, rfl⟩ ?_
    · rintro k d2 e s6 hdk ⟨ef6, hm6, o5, o6, o7, o8, rfl⟩
      obtain ⟨m, hmk, hm⟩ := hms.get hdk
      refine ⟨_, rfl, ?_⟩
      simp
      rw [(hm.eff0 ef6).gdefs hM, z_ok]
      refine for_it (ks := []) (s0 := s4) (xs := m.defs.map defD) (it_tup rfl) (fun q e s7 => Eff [] s4 s7 ∧ mlAt s7 s4.length = some (((as.take i).flatMap kA ++ (a.mems.take k).flatMap kM ++ (m.defs.take q).map kP).map pairD) ∧ ∃ o6 o7 o8, e = [some (.ref s.length), some (.tup ds), some .non, some (.ref s4.length), some (.ref n), some d2, o6, o7, o8]) (fun _ _ _ h => h.1) ?_ ⟨ef6, by simpa using hm6, _, _, _, rfl⟩ ?_
      · rintro q d3 e s7 hdq ⟨ef7, hm7, o6, o7, o8, rfl⟩
        obtain ⟨p, hp, rfl⟩ : ∃ p, m.defs[q]? = some p ∧ d3 = defD p := by
          rw [List.getElem?_map] at hdq
          obtain ⟨p, h1, h2⟩ := Option.map_eq_some_iff.mp hdq
          exact ⟨p, h1, h2.symm⟩
        obtain ⟨rest, hk⟩ := keys_at hai hmk hp
        refine ⟨[some (.ref s.length), some (.tup ds), some .non, some (.ref s4.length), some (.ref n), some d2, some (.str p.1), some (.str p.2.1), some (.int p.2.2)], rfl, ?_⟩
        have two : 2 ≤ sizeLine := by decide
        simp [two]
        have kd := g.kd
        have kl := g.kl
        have ok := g.ok
        rw [hk] at kd kl ok
        show (dInB false (pairD (kP p)) (.ref s4.length) s7).wp _ _
        rw [z_inL_no (plain_pair (ok (kP p) (by simp))) (lstAt_ml hm7) (plains_pairs fun x hx => ok x (List.mem_append_left _ hx)) (fun hmem => by
          obtain ⟨y, hy, e⟩ := List.mem_map.mp hmem
          rw [pairD_inj e] at hy
          exact (List.nodup_append.mp kd).2.2 _ hy _ (List.mem_cons_self) rfl)]
        have hlt7 : s4.length < s7.length := lstAt_lt (lstAt_ml hm7)
        simp [hm7]
        have hq : q < m.defs.length := (List.getElem?_eq_some_iff.mp hp).1
        refine ⟨isTy_ml hm7, ?_, ef7.set (Nat.le_refl _), ?_⟩
        · have kl2 := kl
          simp at kl2
          rw [size_line]
          omega
        · rw [mlAt_set_self hlt7, take_snoc (show (m.defs.map (pairD ∘ kP))[q]? = some (pairD (kP p)) by rw [List.getElem?_map, hp]; rfl)]
          rfl
      · rintro e s7 ⟨ef7, hm7, o6, o7, o8, rfl⟩
        refine ⟨ef7, ?_, _, _, _, _, rfl⟩
        rw [hm7, take_snoc hmk, List.length_map, List.take_of_length_le (Nat.le_refl _)]
        simp [kM]
    · rintro e s6 ⟨ef6, hm6, o5, o6, o7, o8, rfl⟩
      refine ⟨ef6, ?_, _, _, _, _, _, rfl⟩
      rw [hm6, take_snoc hai, List.take_of_length_le (l := a.mems) (by rw [hms.1]; exact Nat.le_refl _)]
      simp [kA]
  · rintro e s5 ⟨ef5, hm5, o4, o5, o6, o7, o8, rfl⟩
    have n5 := ef5.get n4 (by simp)
    have e5 := e4.trans ef5
    show nxt _ _ _ _
    rw [z_nxC]
    have c1 : ¬ (6 : Int) < ds.length := by omega
    simp [c1]
    show nxt _ _ _ _
    rw [z_nxt]
    simp
    refine fldP_ins n5 hc (by simp) ?_
    have hlt5 : s.length < s5.length := (List.getElem?_eq_some_iff.mp n5).1
    have e6 := e5.set (n := s.length) (o := .ins "Store" (putD "archives" (.tup ds) [])) (Nat.le_refl _)
    refine hP _ _ ⟨⟨s.length, ds, rfl, ?_, hd.mono fun _ _ h => h.eff0 e6⟩, e6⟩
    rw [List.getElem?_set_self hlt5]
    rfl
end Z

set_option Elab.async false
set_option linter.all false
set_option maxRecDepth 100000
set_option maxHeartbeats 4000000
namespace Z
open PySem PySem.Spec PyProof.Rows L2 TL
open PySem.PyData (strOk)
/-! ### in, [] -/
def tCont (cs csI : List Str) (f : Str) : SM := (sR (mAnd (mIsi "str" (mV 1)) (m2 (dInB false) (mV 1) (mL (iSq (mFld cs f (mV 0))) (gN 2) tY (mFld csI "name" (mV 2)) [2]))))
theorem mem_strs {x : Str} {ms : List Str} : D.str x ∈ ms.map D.str ↔ x ∈ ms := by
  rw [List.mem_map]
  constructor
  · rintro ⟨y, hy, e⟩
    cases e
    exact hy
  · exact fun h => ⟨x, h, rfl⟩
theorem z_inStr {P : D → Sto → Prop} {E : Str → Str → D → Sto → Prop} {s : Sto} {n : Nat} {x : Str} {ms : List Str} {neg : Bool} (hx : strOk x = true) (hl : lstAt s n = some (ms.map D.str)) (hm : ∀ y ∈ ms, strOk y = true) : (dInB neg (.str x) (.ref n) s).wp P E = P (.bl (neg ^^ decide (x ∈ ms))) s := by
  classical
  rw [z_inL (by rw [plain]; exact hx) hl (plains_strs hm)]
  have e : decide (D.str x ∈ ms.map D.str) = decide (x ∈ ms) := by
    by_cases h : x ∈ ms
    · rw [decide_eq_true h, decide_eq_true (mem_strs.mpr h)]
    · rw [decide_eq_false h, decide_eq_false fun q => h (mem_strs.mp q)]
  rw [e]
theorem cont_arc {cs csI : List Str} (hc : ("Archive" : Str) ∈ cs) (hI : ("Member" : Str) ∈ csI) {s : Sto} {d : D} {x : Str} {a : ArcA} (ha : IsArc s d a) (hx : strOk x = true) (ho : ∀ m ∈ a.mems, strOk m.name = true) (hl : a.mems.length ≤ 1000) :
    (fnM 2 3 (tCont cs csI "members") [d, .str x] s).wp fun d' s' => d' = .bl (decide (x ∈ a.mems.map (·.name))) ∧ Eff [] s s' := by
  refine wp_of fun P hP => ?_
  rw [z_fnM (by rfl)]
  unfold tCont
  simp only [z_sR, z_mAnd]
  refine isi_str rfl ?_
  rw [blP_bl, if_pos rfl]
  obtain ⟨ds, e, hds⟩ := ha.gmems hc
  simp
  rw [e, z_ok]
  refine wp_ne (lc_mapR (ks := []) (IsMem s) (fun m => D.str m.name) hds (it_tup rfl) bags_nil (by rw [size_line]; omega) fun d m s3 hm _ ef _ => ?_) ?_
  · refine ⟨_, rfl, ?_⟩
    simp only [z_mFld, z_mV]
    simp
    rw [(hm.eff0 ef).gname hI, z_ok]
    exact ⟨Eff.refl, rfl⟩
  rintro d2 s2 ⟨rfl, ef, hlt, hm⟩
  rw [map_names] at hm
  rw [z_inStr hx (lstAt_ml hm) fun y hy => by
    obtain ⟨m, hm, rfl⟩ := List.mem_map.mp hy
    exact ho m hm]
  exact hP _ _ ⟨by rw [Bool.false_xor], ef⟩
theorem cont_sto {cs csI : List Str} (hc : ("Store" : Str) ∈ cs) (hI : ("Archive" : Str) ∈ csI) {s : Sto} {d : D} {x : Str} {as : List ArcA} (ha : IsSto s d as) (hx : strOk x = true) (ho : ∀ m ∈ as, strOk m.name = true) (hl : as.length ≤ 1000) :
    (fnM 2 3 (tCont cs csI "archives") [d, .str x] s).wp fun d' s' => d' = .bl (decide (x ∈ as.map (·.name))) ∧ Eff [] s s' := by
  refine wp_of fun P hP => ?_
  rw [z_fnM (by rfl)]
  unfold tCont
  simp only [z_sR, z_mAnd]
  refine isi_str rfl ?_
  rw [blP_bl, if_pos rfl]
  obtain ⟨ds, e, hds⟩ := ha.garcs hc
  simp
  rw [e, z_ok]
  refine wp_ne (lc_mapR (ks := []) (IsArc s) (fun m => D.str m.name) hds (it_tup rfl) bags_nil (by rw [size_line]; omega) fun d m s3 hm _ ef _ => ?_) ?_
  · refine ⟨_, rfl, ?_⟩
    simp only [z_mFld, z_mV]
    simp
    rw [(hm.eff0 ef).gname hI, z_ok]
    exact ⟨Eff.refl, rfl⟩
  rintro d2 s2 ⟨rfl, ef, hlt, hm⟩
  rw [map_anames] at hm
  rw [z_inStr hx (lstAt_ml hm) fun y hy => by
    obtain ⟨m, hm, rfl⟩ := List.mem_map.mp hy
    exact ho m hm]
  exact hP _ _ ⟨by rw [Bool.false_xor], ef⟩
/-- archive[name] -/
def tGetA (tb : Tb) (cs csI : List Str) : SM := (sC (sI (toB (m2 (dInO true tb dNo2) (mV 1) (mV 0))) sNo sN) (sR (m2 dIx (mL (iSq (mFld cs "members" (mV 0))) (gN 2) (toB (m2 dEq (mFld csI "name" (mV 2)) (mV 1))) (mV 2) [2]) (mC (.int 0)))))
theorem get_arc {F : MF} {tb : Tb} {cs csI : List Str} (hc : ("Archive" : Str) ∈ cs) (hI : ("Member" : Str) ∈ csI) (ht : tb.lookup ("Archive" : Str) = some F)
    {s : Sto} {d : D} {a : ArcA} {m : MemA} (hF : (F [d, .str m.name] s).wp fun d' s' => d' = .bl (decide (m.name ∈ a.mems.map (·.name))) ∧ Eff [] s s') (ha : IsArc s d a) (hm : m ∈ a.mems) (nd : (a.mems.map (·.name)).Nodup) (hl : a.mems.length ≤ 1000) :
    (fnM 2 3 (tGetA tb cs csI) [d, .str m.name] s).wp fun d' s' => IsMem s' d' m ∧ Eff [] s s' := by
  refine wp_of fun P hP => ?_
  rw [z_fnM (by rfl)]
  unfold tGetA
  rw [z_sCn]
  simp
  rw [ha.ins, clsP_some, ht, optP_some]
  refine wp_ne hF ?_
  rintro d' s1 ⟨rfl, ef1⟩
  have hin : m.name ∈ a.mems.map (·.name) := List.mem_map_of_mem hm
  simp [show ∃ x, x ∈ a.mems ∧ x.name = m.name from ⟨m, hm, rfl⟩]
  show nxt _ _ _ _
  rw [z_nxt]
  obtain ⟨ds, e, hds⟩ := (ha.eff0 ef1).gmems hc
  simp
  rw [e, z_ok]
  refine wp_ne (lc_filtR (ks := []) (IsMem s1) (IsMem s1) (fun m2 => decide (m2.name = m.name)) hds (it_tup rfl) bags_nil (by rw [size_line]; omega) fun d m2 s3 hm2 _ ef _ => ?_) ?_
  · refine ⟨_, rfl, ?_⟩
    simp
    rw [(hm2.eff0 ef).gname hI, z_ok, z_eqS, blP_bl]
    refine ⟨Eff.refl, rfl, fun _ => ⟨Eff.refl, hm2⟩⟩
  rintro d2 s2 ⟨rfl, ef, hlt, ys, hy, hR⟩
  have key : ∀ ms : List MemA, m ∈ ms → (ms.map (·.name)).Nodup → ms.filter (fun m2 => decide (m2.name = m.name)) = [m] := by
    intro ms
    induction ms with
    | nil => intro h; simp at h
    | cons x ms ih =>
      intro h nd
      rw [List.map_cons, List.nodup_cons] at nd
      rcases List.mem_cons.mp h with rfl | h
      · rw [List.filter_cons_of_pos (by simp)]
        congr 1
        rw [List.filter_eq_nil_iff]
        intro y hy
        simp only [decide_eq_true_eq]
        intro q
        exact nd.1 (q ▸ List.mem_map_of_mem hy)
      · rw [List.filter_cons_of_neg (by
          simp only [decide_eq_true_eq]
          intro q
          exact nd.1 (q ▸ List.mem_map_of_mem h))]
        exact ih h nd.2
  rw [key a.mems hm nd] at hR
  obtain ⟨y, rfl⟩ : ∃ y, ys = [y] := List.length_eq_one_iff.mp hR.1
  have hy1 := hR.2 0 y m rfl rfl
  rw [z_ixL, lstAt_ml hy]
  simp
  exact hP _ _ ⟨(hy1.eff0 ef), ef1.trans ef⟩
/-! ### store / archive: put in -/
def orA (as : List ArcA) (a : ArcA) : List ArcA := if a.name ∈ as.map (·.name) then as.map (fun o => if o.name = a.name then a else o) else as ++ [a]
def tOr (init : MF) (tb : Tb) (cs csA : List Str) : SM := (sC (sI (toB (m2 (dInO true tb dNo2) (mFld csA "name" (mV 1)) (mV 0))) (sR (mN (mkD "Store" init) (aS (mFld cs "archives" (mV 0)) (aC (mV 1) aN)))) sN) (sC (sA 2 (mL (iSq (mFld cs "archives" (mV 0))) (gN 3) tY (mIf (toB (m2 dEq (mFld csA "name" (mV 3)) (mFld csA "name" (mV 1)))) (mV 1) (mV 3)) [3])) (sR (mN (mkD "Store" init) (aS1 (mV 2))))))
/-- what Store(..) is known to do -/
def StoreOk (init : MF) : Prop := ∀ {s : Sto} {ds : List D} {as : List ArcA}, GoodS as → AllR (IsArc s) ds as → (mkD "Store" init ds s).wp fun d s' => IsSto s' d as ∧ Eff [] s s'
theorem lc_allR2 {α : Type} {e : Ev} {s0 : Sto} {j : Stp} {g : GN} {N : Nat} {ks : List Nat} {xs : List D} {mm : EM D} (R : D → α → Prop) (R2 : D → α → Prop) {as : List α} (hR : AllR R xs as) (it : ItOk ks s0 j N xs) (hb : Bags s0 ks) (hl : as.length < sizeLine)
    (body : ∀ d a s, R d a → a ∈ as → Eff ks s0 s → Bags s ks → ∃ e1, g d e = some e1 ∧ (mm e1 s).wp fun y s2 => Eff ks s s2 ∧ R2 y a) :
    (lcL j g tY mm s0.length N 0 e (s0 ++ [.lst []])).wp fun d s' => d = .ref s0.length ∧ Eff ks s0 s' ∧ s0.length < s'.length ∧ ∃ ys, mlAt s' s0.length = some ys ∧ AllR R2 ys as := by
  refine wp_ne (lc_filtR R R2 (fun _ => true) hR it hb hl fun d a s h1 h2 h3 h4 => ?_) ?_
  · obtain ⟨e1, h5, h6⟩ := body d a s h1 h2 h3 h4
    refine ⟨e1, h5, ?_⟩
    rw [z_tY]
    exact ⟨Eff.refl, rfl, fun _ => h6⟩
  · rintro d s' ⟨h1, h2, h3, ys, h4, h5⟩
    refine ⟨h1, h2, h3, ys, h4, ?_⟩
    rw [List.filter_eq_self.mpr (by simp)] at h5
    exact h5
theorem or_gen {init F : MF} {tb : Tb} {cs csA : List Str} (hS : StoreOk init) (hc : ("Store" : Str) ∈ cs) (hA : ("Archive" : Str) ∈ csA) (ht : tb.lookup ("Store" : Str) = some F)
    {s : Sto} {d da : D} {as : List ArcA} {a : ArcA} (hF : (F [d, .str a.name] s).wp fun d' s' => d' = .bl (decide (a.name ∈ as.map (·.name))) ∧ Eff [] s s') (hs : IsSto s d as) (ha : IsArc s da a) (g : GoodS (orA as a)) :
    (fnM 2 4 (tOr init tb cs csA) [d, da] s).wp fun d' s' => IsSto s' d' (orA as a) ∧ Eff [] s s' := by
  refine wp_of fun P hP => ?_
  rw [z_fnM (by rfl)]
  unfold tOr
  rw [z_sCn]
  simp [-z_mkD]
  rw [ha.gname hA, z_ok]
  rw [hs.ins, clsP_some, ht, optP_some]
  refine wp_ne hF ?_
  rintro d' s1 ⟨rfl, ef1⟩
  unfold orA at g hP
  by_cases hn : a.name ∈ as.map (·.name)
  · rw [if_pos hn] at g hP
    rw [decide_eq_true hn]
    simp [-z_mkD]
    show nxt _ _ _ _
    rw [z_nxC]
    obtain ⟨ds, e, hds⟩ := (hs.eff0 ef1).garcs hc
    have ha1 := ha.eff0 ef1
    simp [-z_mkD]
    rw [e, z_ok]
    have gl := g.len
    rw [List.length_map] at gl
    refine wp_ne (lc_allR2 (ks := []) (IsArc s1) (fun y o => IsArc s1 y (if o.name = a.name then a else o)) hds (it_tup rfl) bags_nil (by rw [size_line]; omega) fun d o s3 ho _ ef _ => ?_) ?_
    · refine ⟨_, rfl, ?_⟩
      simp
      rw [(ho.eff0 ef).gname hA, z_ok, (ha1.eff0 ef).gname hA, z_ok, z_eqS, blP_bl]
      by_cases q : o.name = a.name
      · simp [q]
        exact ⟨Eff.refl, ha1⟩
      · simp [q]
        exact ⟨Eff.refl, ho⟩
    rintro d2 s2 ⟨rfl, ef, hlt, ys, hy, hR⟩
    show nxt _ _ _ _
    rw [z_nxt]
    simp [-z_mkD]
    rw [lstAt_ml hy, optP_some]
    refine wp_ne (hS g (ds := ys) ?_) fun d3 s3 ⟨h1, h2⟩ => hP _ _ ⟨h1, (ef1.trans ef).trans h2⟩
    refine ⟨by rw [hR.1, List.length_map], fun i d o h1 h2 => ?_⟩
    rw [List.getElem?_map] at h2
    obtain ⟨o', h3, rfl⟩ := Option.map_eq_some_iff.mp h2
    exact (hR.2 i d o' h1 h3).eff0 ef
  · rw [if_neg hn] at g hP
    rw [decide_eq_false hn]
    obtain ⟨ds, e, hds⟩ := (hs.eff0 ef1).garcs hc
    simp [-z_mkD]
    rw [e, z_ok, seqD_tup, optP_some]
    exact wp_ne (hS g (hds.app (AllR.one (ha.eff0 ef1)))) fun d3 s3 ⟨h1, h2⟩ => hP _ _ ⟨h1, ef1.trans h2⟩
end Z

set_option Elab.async false
set_option linter.all false
set_option maxRecDepth 100000
set_option maxHeartbeats 4000000
namespace Z
open PySem PySem.Spec PyProof.Rows L2 TL
open PySem.PyData (strOk)
/-- a for whose items the invariant tells -/
theorem for_j {j : Stp} {g : GN} {body : SM} {Q : En} {N : Nat} {xs : List D} {e : Ev} {s : Sto} (hN : N = xs.length) (I : Nat → Ev → Sto → Prop) (hI : ∀ i e s, I i e s → j i s = some xs[i]?) (st : ∀ i d e s, xs[i]? = some d → I i e s → ∃ e1, g d e = some e1 ∧ (body e1 s).wp { nx := I (i + 1), ct := I (i + 1), bk := Q.nx, rt := Q.rt, ex := Q.ex })
    (h0 : I 0 e s) (fin : ∀ e s, I xs.length e s → Q.nx e s) : (forL j g body N 0 e s).wp Q := by
  refine forL_wp (N := N) I (fun i e s hi h => ⟨fun hN2 => ?_, fun hN2 => ?_⟩) N 0 e s (Nat.zero_add _) h0
  · subst hN2
    exact ⟨by rw [hI _ _ _ h, List.getElem?_eq_none (by omega)], fin _ _ (by rw [← hN]; exact h)⟩
  · have hx : xs[i]? = some (xs[i]'(by omega)) := List.getElem?_eq_getElem _
    obtain ⟨e1, h1, h2⟩ := st i _ e s hx h
    exact ⟨_, e1, by rw [hI _ _ _ h, hx], h1, h2⟩
theorem jlst_at {s : Sto} {p i : Nat} {xs : List D} (h : lstAt s p = some xs) : jLst p i s = some xs[i]? := by rw [jLst_eq, h]; rfl
theorem AllR.of_map {α : Type} {f : α → D} {as : List α} : AllR (fun d a => d = f a) (as.map f) as := ⟨List.length_map _, fun i d a h1 h2 => by
  rw [List.getElem?_map, h2] at h1
  exact (Option.some.inj h1).symm⟩
theorem AllR.eq_map {α : Type} {f : α → D} {ds : List D} {as : List α} (h : AllR (fun d a => d = f a) ds as) : ds = as.map f := by
  refine List.ext_getElem (by simp [h.1]) fun i h1 h2 => ?_
  rw [List.getElem_map]
  exact h.2 i _ _ (List.getElem?_eq_getElem h1) (List.getElem?_eq_getElem (by simpa using h2))
theorem setAt_some {s : Sto} {n : Nat} {xs : List D} (h : s[n]? = some (.set xs)) : setAt s n = some xs := by unfold setAt; rw [h]
theorem setAt_get {s : Sto} {n : Nat} {xs : List D} (h : setAt s n = some xs) : s[n]? = some (.set xs) := by
  unfold setAt at h
  split at h
  · rename_i ys e
    cases h
    exact e
  · cases h
theorem Eff.st {ks : List Nat} {s t : Sto} (h : Eff ks s t) {i : Nat} {xs : List D} (e : setAt s i = some xs) (hi : i ∉ ks) : setAt t i = some xs := setAt_some (h.get (setAt_get e) hi)
theorem fm_congr {α β : Type} {f g : α → Option β} : ∀ {l : List α}, (∀ x ∈ l, f x = g x) → l.filterMap f = l.filterMap g
  | [], _ => rfl
  | x :: l, h => by
    rw [List.filterMap_cons, List.filterMap_cons, h x List.mem_cons_self, fm_congr fun y hy => h y (List.mem_cons_of_mem _ hy)]
/-! ### live members -/
def dnames (m : MemA) : List Str := m.defs.map (·.1)
def isLive (seen : List Str) (m : MemA) : Bool := (dnames m).any fun x => !decide (x ∈ seen)
def liveA (ms : List MemA) : List MemA := (List.range ms.length).filterMap fun i => (ms[i]?).bind fun m => if isLive ((ms.take i).flatMap dnames) m then some m else none
theorem liveA_take {ms : List MemA} {i : Nat} {m : MemA} (h : ms[i]? = some m) : liveA (ms.take (i + 1)) = liveA (ms.take i) ++ if isLive ((ms.take i).flatMap dnames) m then [m] else [] := by
  have hi := (List.getElem?_eq_some_iff.mp h).1
  unfold liveA
  rw [List.length_take, List.length_take, Nat.min_eq_left (by omega), Nat.min_eq_left (by omega), List.range_succ, List.filterMap_append]
  congr 1
  · refine fm_congr fun j hj => ?_
    have hj : j < i := List.mem_range.mp hj
    rw [List.getElem?_take, List.getElem?_take, if_pos (by omega), if_pos hj, List.take_take, List.take_take, Nat.min_eq_left (by omega), Nat.min_eq_left (by omega)]
  · rw [List.filterMap_cons, List.filterMap_nil, List.getElem?_take, if_pos (by omega), h, List.take_take, Nat.min_eq_left (by omega), Option.bind_some]
    by_cases q : isLive ((ms.take i).flatMap dnames) m = true <;> simp [q]
theorem liveA_mem {ms : List MemA} {m : MemA} (h : m ∈ liveA ms) : m ∈ ms := by
  unfold liveA at h
  obtain ⟨i, _, h⟩ := List.mem_filterMap.mp h
  obtain ⟨m', h1, h2⟩ := Option.bind_eq_some_iff.mp h
  split at h2
  · cases h2
    exact List.mem_of_getElem? h1
  · cases h2
def tLive (csA csM csN : List Str) : SM := (sC (sA 1 (mN fLst aN)) (sC (sA 2 mSet0) (sC (sF (iSq (mFld csA "members" (mV 0))) (gN 3) (sC (sA 4 (mL (iSq (mFld csM "defines" (mV 3))) (gN 6) (toB (m2 (dInSt true (dInB true)) (m2 dIx (mV 6) (mC (.int 0))) (mV 2))) (m2 dIx (mV 6) (mC (.int 0))) [6])) (sC (sF (iSq (mV 4)) (gN 5) (sE (mSAdd (mV 2) (aC (mV 5) aN)))) (sI (toB (m2 dNe (mV 4) (mN fLst aN))) (sE (mBM "list" (mtL lAppend) (mV 1) (aC (mFld csN "name" (mV 3)) aN))) sN)))) (sR (mV 1)))))
/-- the set's keys are the texts -/
def SetIs (s : Sto) (l : Nat) (seen : List Str) : Prop := ∃ xs, setAt s l = some xs ∧ xs.length ≤ seen.length ∧ ∀ x : Str, inKs xs (.inr x) = decide (x ∈ seen)
theorem inKs_snoc {xs : List D} {x y : Str} : inKs (xs ++ [.str x]) (.inr y) = (inKs xs (.inr y) || decide (x = y)) := by
  unfold inKs
  rw [List.any_append]
  simp [keyD]
theorem SetIs.add {s : Sto} {l : Nat} {seen : List Str} {x : Str} (h : SetIs s l seen) (hl : seen.length + 1 < 4096) : ∃ xs, setAt s l = some xs ∧ xs.length + 1 < 4096 ∧ SetIs (s.set l (.set (if inKs xs (.inr x) then xs else xs ++ [.str x]))) l (seen ++ [x]) := by
  obtain ⟨xs, h1, h2, h3⟩ := h
  have hlt : l < s.length := (List.getElem?_eq_some_iff.mp (setAt_get h1)).1
  refine ⟨xs, h1, by omega, _, setAt_some (List.getElem?_set_self hlt), ?_, fun y => ?_⟩
  · split <;> simp <;> omega
  · rw [h3]
    by_cases q : x ∈ seen
    · rw [decide_eq_true q, if_pos rfl, h3]
      by_cases q2 : y ∈ seen
      · simp [q2]
      · have : y ≠ x := fun e => q2 (e ▸ q)
        simp [q2, this]
    · rw [decide_eq_false q, if_neg Bool.false_ne_true, inKs_snoc, h3]
      by_cases q2 : y ∈ seen
      · simp [q2]
      · by_cases q3 : x = y
        · simp [q2, q3]
        · have : y ≠ x := fun e => q3 e.symm
          simp [q2, q3, this]
theorem SetIs.mono {s t : Sto} {l : Nat} {seen seen' : List Str} (h : SetIs s l seen) (ht : t[l]? = s[l]?) (h1 : seen.length ≤ seen'.length) (h2 : ∀ x, x ∈ seen ↔ x ∈ seen') : SetIs t l seen' := by
  obtain ⟨xs, h3, h4, h5⟩ := h
  refine ⟨xs, setAt_some (by rw [ht]; exact setAt_get h3), by omega, fun x => ?_⟩
  rw [h5]
  exact decide_eq_decide.mpr (h2 x)
theorem flat_le {α β : Type} {f : α → List β} {a : α} : ∀ {l : List α}, a ∈ l → (f a).length ≤ (l.flatMap f).length
  | [], h => by simp at h
  | x :: l, h => by
    rw [List.flatMap_cons, List.length_append]
    rcases List.mem_cons.mp h with rfl | h
    · omega
    · have := flat_le (f := f) h
      omega
theorem flat_take {α β : Type} {f : α → List β} {l : List α} {i : Nat} : ((l.take i).flatMap f).length ≤ (l.flatMap f).length := by
  conv => rhs; rw [← List.take_append_drop i l, List.flatMap_append, List.length_append]
  omega
theorem live_gen {csA csM csN : List Str} (hA : ("Archive" : Str) ∈ csA) (hM : ("Member" : Str) ∈ csM) (hN : ("Member" : Str) ∈ csN)
    {s : Sto} {d : D} {a : ArcA} (ha : IsArc s d a) (ok : ∀ m ∈ a.mems, ∀ p ∈ m.defs, strOk p.1 = true) (hl : (a.mems.flatMap dnames).length ≤ 2000) (hl2 : a.mems.length ≤ 1000) :
    (fnM 1 7 (tLive csA csM csN) [d] s).wp fun d' s' => Eff [] s s' ∧ ∃ n, d' = .ref n ∧ mlAt s' n = some ((liveA a.mems).map fun m => .str m.name) := by
  refine wp_of fun P hP => ?_
  rw [z_fnM (by rfl)]
  unfold tLive
  rw [z_sCn]
  simp
  show nxt _ _ _ _
  rw [z_nxC]
  simp
  show nxt _ _ _ _
  rw [z_nxC]
  have ef0 : Eff [] s (s ++ [SO.lst [], SO.set []]) := by
    have := (Eff.push (ks := []) (s := s) (o := SO.lst [])).trans (Eff.push (o := SO.set []))
    simpa using this
  have hm0 : mlAt (s ++ [SO.lst [], SO.set []]) s.length = some [] := mlAt_some (by rw [List.getElem?_append_right (Nat.le_refl _)]; simp)
  have hs0 : SetIs (s ++ [SO.lst [], SO.set []]) (s.length + 1) [] := ⟨[], setAt_some (by rw [List.getElem?_append_right (by omega)]; simp), Nat.le_refl _, fun x => by simp [inKs]⟩
  have hz0 : (s ++ [SO.lst [], SO.set []]).length = s.length + 2 := by simp
  generalize s ++ [SO.lst [], SO.set []] = s0 at ef0 hm0 hs0 hz0 ⊢
  obtain ⟨n, ds, rfl, hn, hds⟩ := ha
  simp [-z_gFld]
  rw [g_ins (ef0.get hn (by simp)) rfl hA, z_ok]
  refine for_it (ks := []) (s0 := s) (xs := ds) (it_tup rfl) (fun i e s1 => Eff [] s s1 ∧ s.length + 2 ≤ s1.length ∧ mlAt s1 s.length = some ((liveA (a.mems.take i)).map fun m => .str m.name) ∧ SetIs s1 (s.length + 1) ((a.mems.take i).flatMap dnames) ∧ ∃ o3 o4 o5, e = [some (.ref n), some (.ref s.length), some (.ref (s.length + 1)), o3, o4, o5, none]) (fun _ _ _ h => h.1) ?_ ⟨ef0, by omega, by simpa [liveA] using hm0, by simpa using hs0, _, _, _, rfl⟩ ?_
  · rintro i d2 e s1 hdi ⟨ef, hz, hm, hset, o3, o4, o5, rfl⟩
    obtain ⟨m, hmi, hmm⟩ := hds.get hdi
    obtain ⟨xs, hx1, hx2, hx3⟩ := id hset
    refine ⟨_, rfl, ?_⟩
    rw [z_sCn]
    simp
    rw [(hmm.eff0 ef).gdefs hM, z_ok]
    have mm : m ∈ a.mems := List.mem_of_getElem? hmi
    have l1 : m.defs.length ≤ 2000 := by
      have := flat_le (f := dnames) mm
      unfold dnames at this hl
      rw [List.length_map] at this
      omega
    have l2 : ((a.mems.take (i + 1)).flatMap dnames).length ≤ 2000 := Nat.le_trans flat_take hl
    rw [take_snoc hmi, List.flatMap_append] at l2
    simp only [List.flatMap_cons, List.flatMap_nil, List.append_nil, List.length_append] at l2
    refine wp_ne (lc_filtR (ks := []) (fun d p => d = defD p) (fun y p => y = D.str p.1) (fun p : DefA => !decide (p.1 ∈ (a.mems.take i).flatMap dnames)) AllR.of_map (it_tup rfl) bags_nil (by rw [size_line]; omega) fun d3 p s3 hp hp2 ef3 _ => ?_) ?_
    · subst hp
      refine ⟨_, rfl, ?_⟩
      simp [defD]
      rw [z_inSt (ef3.st hx1 (by simp))]
      simp [keyD, hx3, Eff.refl]
    rintro d3 s3 ⟨rfl, ef3, hlt3, ys, hm3, hR⟩
    have hy := hR.eq_map
    subst hy
    have e5 : (m.defs.filter fun p : DefA => !decide (p.1 ∈ (a.mems.take i).flatMap dnames)).map (fun p => D.str p.1) = ((dnames m).filter fun x => !decide (x ∈ (a.mems.take i).flatMap dnames)).map D.str := by
      unfold dnames
      rw [List.filter_map, List.map_map]
      rfl
    rw [e5] at hm3
    have fl : ((dnames m).filter fun x => !decide (x ∈ (a.mems.take i).flatMap dnames)).length ≤ (dnames m).length := List.length_filter_le _ _
    have fok : ∀ x ∈ (dnames m).filter fun x => !decide (x ∈ (a.mems.take i).flatMap dnames), strOk x = true := fun x hx => by
      obtain ⟨p, hp, rfl⟩ := List.mem_map.mp (List.mem_filter.mp hx).1
      exact ok m mm p hp
    have fmem : ∀ x, x ∈ (a.mems.take i).flatMap dnames ++ ((dnames m).filter fun x => !decide (x ∈ (a.mems.take i).flatMap dnames)) ↔ x ∈ (a.mems.take i).flatMap dnames ++ dnames m := fun x => by
      simp only [List.mem_append, List.mem_filter, Bool.not_eq_true', decide_eq_false_iff_not]
      constructor
      · rintro (h | h)
        · exact .inl h
        · exact .inr h.1
      · rintro (h | h)
        · exact .inl h
        · by_cases q : x ∈ (a.mems.take i).flatMap dnames
          · exact .inl q
          · exact .inr ⟨h, q⟩
    have fne : isLive ((a.mems.take i).flatMap dnames) m = !decide (((dnames m).filter fun x => !decide (x ∈ (a.mems.take i).flatMap dnames)) = []) := by
      unfold isLive
      by_cases q : ((dnames m).filter fun x => !decide (x ∈ (a.mems.take i).flatMap dnames)) = []
      · rw [decide_eq_true q]
        rw [List.filter_eq_nil_iff] at q
        exact List.any_eq_false.mpr q
      · rw [decide_eq_false q]
        obtain ⟨x, hx⟩ := List.exists_mem_of_ne_nil _ q
        exact List.any_eq_true.mpr ⟨x, (List.mem_filter.mp hx).1, (List.mem_filter.mp hx).2⟩
    generalize hfr : ((dnames m).filter fun x => !decide (x ∈ (a.mems.take i).flatMap dnames)) = fresh at hm3 fl fok fmem fne
    show nxt _ _ _ _
    rw [z_nxC]
    simp
    rw [lstAt_ml hm3, lstP_some]
    have hm4 := ef3.ml hm (by simp)
    have hs4 : SetIs s3 (s.length + 1) ((a.mems.take i).flatMap dnames) := hset.mono (ef3.eq _ (by omega) (by simp)) (Nat.le_refl _) fun _ => Iff.rfl
    have e4 := ef.trans ef3
    refine for_j (xs := fresh.map D.str) rfl (fun k e s4 => Eff [] s s4 ∧ s3.length ≤ s4.length ∧ mlAt s4 s.length = some ((liveA (a.mems.take i)).map fun m => .str m.name) ∧ mlAt s4 s1.length = some (fresh.map D.str) ∧ SetIs s4 (s.length + 1) ((a.mems.take i).flatMap dnames ++ fresh.take k) ∧ ∃ o5, e = [some (.ref n), some (.ref s.length), some (.ref (s.length + 1)), some d2, some (.ref s1.length), o5, none]) (fun k e s4 h => jlst_at (lstAt_ml h.2.2.2.1)) ?_ ⟨e4, Nat.le_refl _, hm4, hm3, by simpa using hs4, _, rfl⟩ ?_
    · rintro k dx e s4 hdk ⟨ef4, hz4, hm4, hf4, hs4, o5, rfl⟩
      obtain ⟨x, hx, rfl⟩ : ∃ x, fresh[k]? = some x ∧ dx = .str x := by
        rw [List.getElem?_map] at hdk
        obtain ⟨p, h1, h2⟩ := Option.map_eq_some_iff.mp hdk
        exact ⟨p, h1, h2.symm⟩
      have hk := (List.getElem?_eq_some_iff.mp hx).1
      obtain ⟨xs2, h1, h2, h3⟩ := hs4.add (x := x) (by rw [List.length_append, List.length_take]; omega)
      refine ⟨_, rfl, ?_⟩
      simp [h1]
      refine ⟨.inr x, rfl, h2, ef4.set (by omega), hz4, ?_, ?_, ?_⟩
      · first | exact hm4 | (rw [mlAt_set_ne (by omega)]; exact hm4)
      · first | exact hf4 | (rw [mlAt_set_ne (by omega)]; exact hf4)
      · rw [take_snoc hx, ← List.append_assoc]
        exact h3
    · rintro e s4 ⟨ef4, hz4, hm4, hf4, hs4, o5, rfl⟩
      rw [List.length_map, List.take_length] at hs4
      have hs5 : SetIs s4 (s.length + 1) ((a.mems.take i).flatMap dnames ++ dnames m) := hs4.mono rfl (by simp only [List.length_append]; omega) fmem
      have tk : (a.mems.take (i + 1)).flatMap dnames = (a.mems.take i).flatMap dnames ++ dnames m := by rw [take_snoc hmi, List.flatMap_append]; simp
      dsimp only
      rw [z_nxt]
      simp
      classical
      rw [z_neL (xs := fresh.map D.str) (ys := []) (by rw [lstAt_app (lstAt_lt (lstAt_ml hf4))]; exact lstAt_ml hf4) lstAt_push (plains_strs fok) rfl]
      have ed : decide (fresh.map D.str = []) = decide (fresh = []) := decide_eq_decide.mpr (by simp)
      rw [ed, blP_bl, ← fne]
      have e6 : Eff [] s (s4 ++ [SO.lst []]) := ef4.trans Eff.push
      have hlt4 : s.length < s4.length := by omega
      have hm6 : mlAt (s4 ++ [SO.lst []]) s.length = some ((liveA (a.mems.take i)).map fun m => .str m.name) := by rw [mlAt_app hlt4]; exact hm4
      have hs6 : SetIs (s4 ++ [SO.lst []]) (s.length + 1) ((a.mems.take i).flatMap dnames ++ dnames m) := hs5.mono (List.getElem?_append_left (by omega)) (Nat.le_refl _) fun _ => Iff.rfl
      rw [liveA_take hmi, tk]
      cases isLive ((a.mems.take i).flatMap dnames) m with
      | false =>
        simp
        refine ⟨e6, by omega, by simpa using hm6, hs6⟩
      | true =>
        simp [hm6]
        refine ⟨isTy_ml hm6, ?_⟩
        rw [(hmm.eff0 e6).gname hN, z_ok, hm6, lstP_some]
        have lv : (liveA (a.mems.take i)).length ≤ 1000 := by
          have h1 : (liveA (a.mems.take i)).length ≤ (a.mems.take i).length := by
            unfold liveA
            exact Nat.le_trans (List.length_filterMap_le _ _) (by rw [List.length_range]; exact Nat.le_refl _)
          rw [List.length_take] at h1
          omega
        refine ⟨by rw [List.length_map, size_line]; omega, e6.set (Nat.le_refl _), by simp; omega, ?_, ?_⟩
        · rw [mlAt_set_self (by rw [List.length_append]; omega)] <;> simp
        · exact hs6.mono (by rw [List.getElem?_set_ne (by omega)]) (Nat.le_refl _) fun _ => Iff.rfl
  · rintro e s1 ⟨ef, hz, hm, hs, o3, o4, o5, rfl⟩
    dsimp only
    rw [z_nxt]
    simp
    refine hP _ _ ⟨ef, s.length, rfl, ?_⟩
    rw [hm, hds.1, List.take_length]
end Z

set_option Elab.async false
set_option linter.all false
set_option maxRecDepth 100000
set_option maxHeartbeats 4000000
namespace Z
open PySem PySem.Spec PyProof.Rows L2 TL
open PySem.PyData (strOk)
/-! ### stores that are free -/
def dnA (a : ArcA) : List Str := a.mems.flatMap dnames
def lwA (a : ArcA) : List Str := (liveA a.mems).flatMap (·.wants)
structure OkA (a : ArcA) : Prop where
  nm : IsName a.name
  mem : ∀ m ∈ a.mems, IsName m.name
  nd : (a.mems.map (·.name)).Nodup
  defs : ∀ m ∈ a.mems, ∀ p ∈ m.defs, strOk p.1 = true
  wants : ∀ m ∈ a.mems, ∀ w ∈ m.wants, strOk w = true
  l1 : (a.mems.flatMap dnames).length ≤ 2000
  l2 : a.mems.length ≤ 1000
  l3 : ((liveA a.mems).flatMap (·.wants)).length ≤ 2000
def tDefN (itb : Itb) (csM : List Str) : SM := (sR (mL2 (iOwn itb (mV 0)) (gN 1) tY (iSq (mFld csM "defines" (mV 1))) (gN 2) tY (m2 dIx (mV 2) (mC (.int 0))) [1, 2] [2]))
theorem jok_of {l : Nat} {ks : List Nat} {s : Sto} {zs : List D} {n : Nat} (h : n = zs.length) : JOk l ks s (n, jTup zs) zs := ⟨h, fun i s3 _ => rfl⟩
theorem defn_gen {itb : Itb} {csM : List Str} (hM : ("Member" : Str) ∈ csM) (hi : itb.lookup ("Archive" : Str) = some ("members" : Str)) {s : Sto} {d : D} {a : ArcA} (ha : IsArc s d a) (ok : OkA a) :
    (fnM 1 3 (tDefN itb csM) [d] s).wp fun d' s' => Eff [] s s' ∧ ∃ n, d' = .ref n ∧ mlAt s' n = some ((dnA a).map D.str) := by
  refine wp_of fun P hP => ?_
  rw [z_fnM (by rfl)]
  unfold tDefN
  obtain ⟨ds, hits, hds⟩ := ha.its hi
  simp
  rw [hits, walkP_ins]
  have el : (a.mems.flatMap fun m => (dnames m).map D.str) = (dnA a).map D.str := by
    unfold dnA
    rw [List.map_flatMap]
  refine wp_ne (lc2R (ks := []) (IsMem s) (fun m => (dnames m).map D.str) hds (it_tup rfl) bags_nil (by rw [el, List.length_map, size_line]; have := ok.l1; unfold dnA; omega) fun d2 m s1 hm hmm ef _ hlt => ?_) ?_
  · refine ⟨_, rfl, ?_⟩
    rw [z_tY]
    refine ⟨Eff.refl, (fun h => by cases h), fun _ => ?_⟩
    simp
    rw [(hm.eff0 ef).gdefs hM, z_ok]
    refine ⟨Eff.refl, m.defs.map defD, fun d => match d with | .tup (x :: _) => some x | _ => none, ?_, jok_of (by simp), fun d3 s3 h3 ef3 _ => ?_⟩
    · unfold dnames
      rw [List.filterMap_map, List.map_map]
      have : ((fun d : D => match d with | .tup (x :: _) => some x | _ => none) ∘ defD) = (fun p : DefA => some (D.str p.1)) := by
        funext p
        rfl
      rw [this, List.filterMap_eq_map']
      rfl
    · obtain ⟨p, hp, rfl⟩ := List.mem_map.mp h3
      simp [defD, Eff.refl]
  rintro d' s' ⟨rfl, ef, hlt, hm⟩
  rw [el] at hm
  exact hP _ _ ⟨ef, _, rfl, hm⟩
def wantsOf (ms : List MemA) (d : D) : List D := match d with
  | .str x => ((ms.find? fun m => decide (m.name = x)).map fun m => m.wants.map D.str).getD []
  | _ => []
theorem find_name {ms : List MemA} {m : MemA} (h : m ∈ ms) (nd : (ms.map (·.name)).Nodup) : ms.find? (fun m2 => decide (m2.name = m.name)) = some m := by
  induction ms with
  | nil => simp at h
  | cons x ms ih =>
    rw [List.map_cons, List.nodup_cons] at nd
    rcases List.mem_cons.mp h with rfl | h
    · rw [List.find?_cons_of_pos (by simp)]
    · rw [List.find?_cons_of_neg (by
        simp only [decide_eq_true_eq]
        intro q
        exact nd.1 (q ▸ List.mem_map_of_mem h))]
      exact ih h nd.2
def tLiveW (tbL tbG : Tb) (csM : List Str) : SM := (sR (mL2 (iSq (mMeth tbL "live" (mV 0) aN)) (gN 1) tY (iSq (mFld csM "wants" (m2 (dIxO tbG dNo2) (mV 0) (mV 1)))) (gN 2) tY (mV 2) [1, 2] [2]))
/-- what archive.live(), archive[name] are known to do -/
def LiveOk (F : MF) : Prop := ∀ {s : Sto} {d : D} {a : ArcA}, IsArc s d a → OkA a → (F [d] s).wp fun d' s' => Eff [] s s' ∧ ∃ n, d' = .ref n ∧ mlAt s' n = some ((liveA a.mems).map fun m => .str m.name)
def GetOk (F : MF) : Prop := ∀ {s : Sto} {d : D} {a : ArcA} {m : MemA}, IsArc s d a → OkA a → m ∈ a.mems → (F [d, .str m.name] s).wp fun d' s' => IsMem s' d' m ∧ Eff [] s s'
theorem livew_gen {tbL tbG : Tb} {csM : List Str} {L G : MF} (hM : ("Member" : Str) ∈ csM) (h1 : tbL.lookup ("Archive" : Str) = some L) (h2 : tbG.lookup ("Archive" : Str) = some G) (hL : LiveOk L) (hG : GetOk G)
    {s : Sto} {d : D} {a : ArcA} (ha : IsArc s d a) (ok : OkA a) :
    (fnM 1 3 (tLiveW tbL tbG csM) [d] s).wp fun d' s' => Eff [] s s' ∧ ∃ n, d' = .ref n ∧ mlAt s' n = some ((lwA a).map D.str) := by
  refine wp_of fun P hP => ?_
  rw [z_fnM (by rfl)]
  unfold tLiveW
  obtain ⟨n, ds, rfl, hn, hds⟩ := id ha
  simp [-z_iSq]
  rw [z_iSq, z_mMeth]
  simp [-z_iSq]
  rw [hn, insP_some, h1, optP_some]
  refine ⟨fun x b h => ?_, ?_⟩
  · simp only [List.mem_cons, List.not_mem_nil, or_false, Prod.mk.injEq] at h
    rcases h with ⟨rfl, _⟩ | ⟨rfl, _⟩ <;> decide
  refine wp_ne (hL ha ok) ?_
  rintro d1 s1 ⟨ef1, n1, rfl, hm1⟩
  simp [-z_iSq]
  rw [lstAt_ml hm1, lstP_some]
  have lv : ∀ m ∈ liveA a.mems, m ∈ a.mems := fun m => liveA_mem
  have el : ((liveA a.mems).flatMap fun m => m.wants.map D.str) = (lwA a).map D.str := by
    unfold lwA
    rw [List.map_flatMap]
  refine wp_ne (lc2R (ks := []) (fun (d : D) (m : MemA) => d = D.str m.name) (fun m => m.wants.map D.str) AllR.of_map (it_lst (lstAt_ml hm1) (by simp) rfl) bags_nil (by rw [el, List.length_map, size_line]; have := ok.l3; unfold lwA; omega) fun d2 m s2 hd2 hmm ef _ hlt => ?_) ?_
  · subst hd2
    refine ⟨_, rfl, ?_⟩
    rw [z_tY]
    refine ⟨Eff.refl, (fun h => by cases h), fun _ => ?_⟩
    have ha2 := (ha.eff0 ef1).eff0 ef
    simp
    rw [ha2.ins, clsP_some, h2, optP_some]
    refine wp_ne (hG ha2 ok (lv m hmm)) ?_
    rintro d3 s3 ⟨hm3, ef3⟩
    rw [hm3.gwants hM, z_ok]
    refine ⟨ef3, m.wants.map D.str, some, by simp, jok_of (by simp), fun d3 s3 h3 ef3 _ => ⟨Eff.refl, rfl, Eff.refl, rfl⟩⟩
  rintro d' s' ⟨rfl, ef, hlt, hm⟩
  rw [el] at hm
  exact hP _ _ ⟨ef1.trans ef, _, rfl, hm⟩
/-! are_free, is_free -/
theorem lc_mapR2 {α : Type} {e : Ev} {j : Stp} {g : GN} {N l : Nat} {ks : List Nat} {xs : List D} {mm : EM D} {t : Sto} (s0 : Sto) (R : D → α → Prop) (k : α → D) {as : List α} (hs : l = s0.length) (ht : t = s0 ++ [.lst []]) (hR : AllR R xs as) (it : ItOk ks s0 j N xs) (hb : Bags s0 ks) (hl : as.length < sizeLine)
    (body : ∀ d a s, R d a → a ∈ as → Eff ks s0 s → Bags s ks → ∃ e1, g d e = some e1 ∧ (mm e1 s).wp fun y s2 => Eff ks s s2 ∧ y = k a) :
    (lcL j g tY mm l N 0 e t).wp fun d s' => d = .ref s0.length ∧ Eff ks s0 s' ∧ s0.length < s'.length ∧ mlAt s' s0.length = some (as.map k) := by
  subst hs ht
  exact lc_mapR R k hR it hb hl body
def freeB (a b : ArcA) : Bool := !((dnA a ++ lwA a).any fun x => decide (x ∈ dnA b)) && !((lwA b).any fun x => decide (x ∈ dnA a))
theorem OkA.okd {a : ArcA} (h : OkA a) : ∀ x ∈ dnA a, strOk x = true := fun x hx => by
  unfold dnA dnames at hx
  obtain ⟨m, hm, hx⟩ := List.mem_flatMap.mp hx
  obtain ⟨p, hp, rfl⟩ := List.mem_map.mp hx
  exact h.defs m hm p hp
theorem OkA.okw {a : ArcA} (h : OkA a) : ∀ x ∈ lwA a, strOk x = true := fun x hx => by
  unfold lwA at hx
  obtain ⟨m, hm, hx⟩ := List.mem_flatMap.mp hx
  exact h.wants m (liveA_mem hm) x hx
def NamesOfOk (F : MF) (k : ArcA → List Str) : Prop := ∀ {s : Sto} {d : D} {a : ArcA}, IsArc s d a → OkA a → (F [d] s).wp fun d' s' => Eff [] s s' ∧ ∃ n, d' = .ref n ∧ mlAt s' n = some ((k a).map D.str)
def tAreFree (dn lw : MF) : SM := (sC (sG (gT [(gN 2), (gN 3)]) (mN fTup (aC (mN dn (aC (mV 0) aN)) (aC (mN dn (aC (mV 1) aN)) aN)))) (sC (sI (toT (mN (fAllAny false) (aC (mL (iSq (m2 dAdd (mV 2) (mN lw (aC (mV 0) aN)))) (gN 4) tY (m2 (dInB false) (mV 4) (mV 3)) [4]) aN))) (sR (mC (.bl false))) sN) (sR (mNot (mN (fAllAny false) (aC (mL (iSq (mN lw (aC (mV 1) aN))) (gN 4) tY (m2 (dInB false) (mV 4) (mV 2)) [4]) aN))))))
theorem map_bls {α : Type} {ms : List α} {f : α → Bool} : ms.map (fun x => D.bl (f x)) = (ms.map f).map D.bl := by rw [List.map_map]; rfl
theorem arefree_gen {dn lw : MF} (hd : NamesOfOk dn dnA) (hw : NamesOfOk lw lwA) {s : Sto} {d1 d2 : D} {a b : ArcA} (ha : IsArc s d1 a) (hb : IsArc s d2 b) (oa : OkA a) (ob : OkA b) :
    (fnM 2 5 (tAreFree dn lw) [d1, d2] s).wp fun d' s' => Eff [] s s' ∧ d' = .bl (freeB a b) := by
  refine wp_of fun P hP => ?_
  have two : 2 ≤ sizeLine := by decide
  have la := oa.l1
  have lb := ob.l1
  have wa := oa.l3
  have wb := ob.l3
  change (dnA a).length ≤ _ at la
  change (dnA b).length ≤ _ at lb
  change (lwA a).length ≤ _ at wa
  change (lwA b).length ≤ _ at wb
  rw [z_fnM (by rfl)]
  unfold tAreFree
  rw [z_sCn]
  simp [two]
  refine wp_ne (hd ha oa) ?_
  rintro _ s1 ⟨ef1, n1, rfl, hm1⟩
  refine wp_ne (hd (hb.eff0 ef1) ob) ?_
  rintro _ s2 ⟨ef2, n2, rfl, hm2⟩
  have hm1 := ef2.ml hm1 (by simp)
  have e2 := ef1.trans ef2
  show nxt _ _ _ _
  rw [z_nxC]
  simp [-z_iSq]
  rw [z_iSq]
  simp
  refine wp_ne (hw (ha.eff0 e2) oa) ?_
  rintro _ s3 ⟨ef3, n3, rfl, hm3⟩
  have hm1 := ef3.ml hm1 (by simp)
  have hm2 := ef3.ml hm2 (by simp)
  have e3 := e2.trans ef3
  simp
  rw [hm1, lstP_some, hm3, lstP_some]
  refine ⟨by simp only [List.length_map, size_line]; omega, ?_⟩
  have ej : (dnA a).map D.str ++ (lwA a).map D.str = (dnA a ++ lwA a).map D.str := by rw [List.map_append]
  rw [ej]
  have ef4 : Eff [] s3 (s3 ++ [SO.lst ((dnA a ++ lwA a).map D.str)]) := Eff.push
  have hm4 : mlAt (s3 ++ [SO.lst ((dnA a ++ lwA a).map D.str)]) s3.length = some ((dnA a ++ lwA a).map D.str) := mlAt_push
  have hm1 := ef4.ml hm1 (by simp)
  have hm2 := ef4.ml hm2 (by simp)
  have e4 := e3.trans ef4
  have hz4 : (s3 ++ [SO.lst ((dnA a ++ lwA a).map D.str)]).length = s3.length + 1 := by simp
  have ht4 : s3 ++ [SO.lst ((dnA a ++ lwA a).map D.str), SO.lst []] = (s3 ++ [SO.lst ((dnA a ++ lwA a).map D.str)]) ++ [SO.lst []] := by simp
  rw [ht4]
  generalize s3 ++ [SO.lst ((dnA a ++ lwA a).map D.str)] = s4 at ef4 hm4 hm1 hm2 e4 hz4 ⊢
  refine wp_ne (lc_mapR2 (ks := []) s4 (fun (d : D) (x : Str) => d = D.str x) (fun x => D.bl (decide (x ∈ dnA b))) (as := dnA a ++ lwA a) hz4.symm rfl AllR.of_map (it_lst (lstAt_ml hm4) (by simp) (by simp)) bags_nil (by rw [size_line, List.length_append]; omega) fun d x s5 hx hxm ef _ => ?_) ?_
  · subst hx
    refine ⟨_, rfl, ?_⟩
    simp
    rw [z_inStr (by
      rcases List.mem_append.mp hxm with h | h
      · exact oa.okd _ h
      · exact oa.okw _ h) (ef.lst (lstAt_ml hm2) (by simp)) ob.okd, Bool.false_xor]
    exact ⟨Eff.refl, rfl⟩
  rintro _ s5 ⟨rfl, ef5, hlt5, hm5⟩
  have hm1 := ef5.ml hm1 (by simp)
  have e5 := e4.trans ef5
  rw [map_bls] at hm5
  rw [z_all]
  refine ⟨_, _, lstAt_ml hm5, mapM_bl _, ?_⟩
  rw [if_neg Bool.false_ne_true]
  have e6 : ((dnA a ++ lwA a).map fun x => decide (x ∈ dnA b)).any id = (dnA a ++ lwA a).any fun x => decide (x ∈ dnA b) := by rw [List.any_map]; rfl
  rw [e6]
  unfold freeB at hP
  cases q : (dnA a ++ lwA a).any fun x => decide (x ∈ dnA b) with
  | true =>
    rw [q] at hP
    simp
    exact hP _ _ ⟨e5, rfl⟩
  | false =>
    rw [q] at hP
    simp
    show nxt _ _ _ _
    rw [z_nxt]
    simp [-z_iSq]
    rw [z_iSq]
    simp
    refine wp_ne (hw (hb.eff0 e5) ob) ?_
    rintro _ s6 ⟨ef6, n6, rfl, hm6⟩
    have hm1 := ef6.ml hm1 (by simp)
    simp
    rw [lstAt_ml hm6, lstP_some]
    simp only [List.length_map]
    refine wp_ne (lc_mapR (ks := []) (fun (d : D) (x : Str) => d = D.str x) (fun x => D.bl (decide (x ∈ dnA a))) (as := lwA b) AllR.of_map (it_lst (lstAt_ml hm6) (by simp) (by simp)) bags_nil (by rw [size_line]; omega) fun d x s7 hx hxm ef _ => ?_) ?_
    · subst hx
      refine ⟨_, rfl, ?_⟩
      simp
      rw [z_inStr (ob.okw _ hxm) (ef.lst (lstAt_ml hm1) (by simp)) oa.okd, Bool.false_xor]
      exact ⟨Eff.refl, rfl⟩
    rintro _ s7 ⟨rfl, ef7, hlt7, hm7⟩
    rw [map_bls] at hm7
    rw [z_all]
    refine ⟨_, _, lstAt_ml hm7, mapM_bl _, ?_⟩
    rw [if_neg Bool.false_ne_true]
    have e8 : ((lwA b).map fun x => decide (x ∈ dnA a)).any id = (lwA b).any fun x => decide (x ∈ dnA a) := by rw [List.any_map]; rfl
    rw [e8]
    exact hP _ _ ⟨(e5.trans ef6).trans ef7, rfl⟩
def ltN (a b : ArcA) : Bool := decide (a.name.cps.toList < b.name.cps.toList)
def freeRow (as : List ArcA) (a : ArcA) : List Bool := (as.filter (ltN a)).map (freeB a)
def isFreeB (as : List ArcA) : Bool := (as.flatMap (freeRow as)).all id
def tIsFree (itb : Itb) (cs : List Str) (af : MF) : SM := (sR (mN (fAllAny true) (aC (mL2 (iOwn itb (mV 0)) (gN 1) tY (iOwn itb (mV 0)) (gN 2) (toB (m2 dLtS (mFld cs "name" (mV 1)) (mFld cs "name" (mV 2)))) (mN af (aC (mV 1) (aC (mV 2) aN))) [1, 2] [2]) aN)))
def AreFreeOk (F : MF) : Prop := ∀ {s : Sto} {d1 d2 : D} {a b : ArcA}, IsArc s d1 a → IsArc s d2 b → OkA a → OkA b → (F [d1, d2] s).wp fun d' s' => Eff [] s s' ∧ d' = .bl (freeB a b)
theorem isfree_gen {itb : Itb} {cs : List Str} {af : MF} (hA : ("Archive" : Str) ∈ cs) (hi : itb.lookup ("Store" : Str) = some ("archives" : Str)) (hF : AreFreeOk af) {s : Sto} {d : D} {as : List ArcA} (hs : IsSto s d as) (ok : ∀ a ∈ as, OkA a) (hl : as.length ≤ 100) :
    (fnM 1 3 (tIsFree itb cs af) [d] s).wp fun d' s' => Eff [] s s' ∧ d' = .bl (isFreeB as) := by
  refine wp_of fun P hP => ?_
  rw [z_fnM (by rfl)]
  unfold tIsFree
  obtain ⟨n, ds, rfl, hn, hds⟩ := hs
  simp
  rw [itsO_ins hn hi rfl, walkP_ins]
  have ef0 : (as.flatMap fun a => (freeRow as a).map D.bl) = (as.flatMap (freeRow as)).map D.bl := by rw [List.map_flatMap]
  have len : ((as.flatMap fun a => (freeRow as a).map D.bl)).length ≤ 10000 := by
    have : ∀ l : List ArcA, (l.flatMap fun a => (freeRow as a).map D.bl).length ≤ l.length * 100 := by
      intro l
      induction l with
      | nil => simp
      | cons a l ih =>
        rw [List.flatMap_cons, List.length_append, List.length_cons]
        have : ((freeRow as a).map D.bl).length ≤ 100 := by
          unfold freeRow
          rw [List.length_map, List.length_map]
          exact Nat.le_trans (List.length_filter_le _ _) hl
        omega
    have := this as
    omega
  refine wp_ne (lc2RR (β := ArcA) (ks := []) (IsArc s) (fun a => (freeRow as a).map D.bl) hds (it_tup rfl) bags_nil (by rw [size_line]; omega) fun d1 a s1 ha ham ef1 _ hlt => ?_) ?_
  · refine ⟨_, rfl, ?_⟩
    rw [z_tY]
    refine ⟨Eff.refl, (fun h => by cases h), fun _ => ?_⟩
    simp
    rw [itsO_ins (ef1.get hn (by simp)) hi rfl, walkP_ins]
    refine ⟨Eff.refl, ds, as, IsArc s, hds, fun b => if ltN a b then some (D.bl (freeB a b)) else none, ?_, jok_of rfl, fun d2 b s3 hb hbm ef3 _ => ?_⟩
    · unfold freeRow
      generalize as = bs
      induction bs with
      | nil => rfl
      | cons b bs ih =>
        cases q : ltN a b <;> simp [q] <;> simpa using ih
    · rw [(ha.eff0 ef3).gname hA, z_ok, (hb.eff0 ef3).gname hA, z_ok, z_ltS, blP_bl]
      have e : ltN a b = decide (a.name.cps.toList < b.name.cps.toList) := rfl
      rw [← e]
      refine ⟨Eff.refl, ?_, fun h => ?_⟩
      · cases q : ltN a b <;> simp [q]
      · simp only [h, if_true]
        exact wp_ne (hF (ha.eff0 ef3) (hb.eff0 ef3) (ok a ham) (ok b hbm)) fun d9 s9 ⟨h1, h2⟩ => ⟨h1, by rw [h2]⟩
  rintro _ s1 ⟨rfl, ef1, hlt, hm⟩
  rw [ef0] at hm
  rw [z_all]
  refine ⟨_, _, lstAt_ml hm, mapM_bl _, ?_⟩
  rw [if_pos rfl]
  exact hP _ _ ⟨ef1, rfl⟩
end Z

set_option Elab.async false
set_option linter.all false
set_option maxRecDepth 100000
set_option maxHeartbeats 4000000
namespace Z
open PySem PySem.Spec PyProof.Rows L2 TL
open PySem.PyData (strOk)
/-! ### more of lists, dicts -/
section
variable {P : D → Sto → Prop} {E : Str → Str → D → Sto → Prop} {s : Sto} {n : Nat} {xs : List D}
theorem sq1 {i n : Nat} (hi : i < n) : seqIndex? (i : Int) n = some i := by
  unfold seqIndex?
  have h0 : ¬ ((i : Int) < 0) := by omega
  simp [h0, hi]
theorem lp1 {xs : List D} {i : Nat} {x : D} (hx : xs[i]? = some x) (hl : (i : Int) < 2 ^ 63) : lPopAt xs [.int i] = some (xs.eraseIdx i, x) := by
  have hi := (List.getElem?_eq_some_iff.mp hx).1
  unfold lPopAt
  dsimp only
  rw [if_pos ⟨Int.le_trans (by decide) (Int.natCast_nonneg i), hl⟩, sq1 hi, Option.bind_some, hx, Option.map_some]
theorem small63 {i n : Nat} (h : i < n) (hn : n < 1000000) : (i : Int) < 2 ^ 63 := by omega
theorem z_mtL {f : List D → List D → Option (List D × D)} {ds ys : List D} {d : D} (h : mlAt s n = some xs) (e : f xs ds = some (ys, d)) : (mtL f (.ref n) ds s).wp P E = P d (s.set n (.lst ys)) := by
  unfold mtL
  simp only [mlAt_get h, e]
  rw [z_ok]
theorem z_popN {i : Nat} {x : D} (h : mlAt s n = some xs) (hx : xs[i]? = some x) (hl : xs.length < 1000000) : (mtL lPopAt (.ref n) [.int i] s).wp P E = P x (s.set n (.lst (xs.eraseIdx i))) :=
  z_mtL h (lp1 hx (small63 (List.getElem?_eq_some_iff.mp hx).1 hl))
@[simp ↓] theorem z_fIntB {q : Bool} : (fInt [.bl q] s).wp P E = P (.int (if q then 1 else 0)) s := by
  cases q <;> rfl
theorem cutD_to {k : Nat} : cutD xs none (some (k : Int)) = xs.take k := by
  unfold cutD
  rw [HT.sIx_none, HT.sIx_nat, List.drop_zero, Nat.sub_zero]
  by_cases h : k ≤ xs.length
  · rw [Nat.min_eq_left h]
  · rw [Nat.min_eq_right (by omega), List.take_length, List.take_of_length_le (by omega)]
end
/-- a test that is drawn: some of the items that are K, in their order -/
theorem lc_subP {e : Ev} {s0 : Sto} {j : Stp} {g : GN} {N : Nat} {ks : List Nat} {xs : List D} {tt : EM Bool} {mm : EM D} (K : D → Prop) (it : ItOk ks s0 j N xs) (hb : Bags s0 ks) (hl : xs.length < sizeLine)
    (body : ∀ d s, d ∈ xs → Eff ks s0 s → Bags s ks → ∃ e1, g d e = some e1 ∧ (tt e1 s).wp fun q s1 => Eff ks s s1 ∧ (q = true → K d ∧ (mm e1 s1).wp fun y s2 => Eff ks s1 s2 ∧ y = d)) :
    (lcL j g tt mm s0.length N 0 e (s0 ++ [.lst []])).wp fun d s' => d = .ref s0.length ∧ Eff ks s0 s' ∧ s0.length < s'.length ∧ ∃ ys, mlAt s' s0.length = some ys ∧ ys.Sublist xs ∧ ∀ y ∈ ys, K y := by
  refine wp_ne (lc_gen it hb hl (fun i d o _ => o = none ∨ (o = some d ∧ K d)) (fun _ _ _ _ _ h _ _ => h) fun i d s hx ef hbs _ => ?_) ?_
  · obtain ⟨e1, h1, h2⟩ := body d s (List.mem_of_getElem? hx) ef hbs
    refine ⟨e1, h1, wp_ne h2 fun q s1 ⟨h3, h5⟩ => ⟨h3, ?_⟩⟩
    cases q with
    | true =>
      rw [if_pos rfl]
      exact wp_ne (h5 rfl).2 fun y s2 ⟨h6, h7⟩ => ⟨h6, .inr ⟨by rw [h7], (h5 rfl).1⟩⟩
    | false =>
      rw [if_neg Bool.false_ne_true]
      exact .inl rfl
  · rintro d s' ⟨rfl, ef, hlt, zs, hz, hm, hR⟩
    refine ⟨rfl, ef, hlt, _, hm, ?_⟩
    have key : ∀ (xs : List D) (zs : List (Option D)), zs.length = xs.length → (∀ (i : Nat) (d : D) (o : Option D), xs[i]? = some d → zs[i]? = some o → o = none ∨ (o = some d ∧ K d)) → (zs.filterMap id).Sublist xs ∧ ∀ y ∈ zs.filterMap id, K y := by
      intro xs
      induction xs with
      | nil =>
        intro zs h1 _
        have : zs = [] := List.eq_nil_of_length_eq_zero h1
        subst this
        exact ⟨List.Sublist.slnil, fun y h => by simp at h⟩
      | cons x xs ih =>
        intro zs h1 h2
        cases zs with
        | nil => cases h1
        | cons z zs =>
          have h4 := ih zs (by simpa using h1) fun i b o hb ho => h2 (i + 1) b o (by simpa using hb) (by simpa using ho)
          rcases h2 0 x z rfl rfl with rfl | ⟨rfl, hk⟩
          · exact ⟨h4.1.cons _, h4.2⟩
          · refine ⟨h4.1.cons_cons _, fun y hy => ?_⟩
            rcases List.mem_cons.mp hy with rfl | hy
            · exact hk
            · exact h4.2 y hy
    exact key xs zs hz fun i d o h1 h2 => hR i d o h1 h2
theorem lc_sub {e : Ev} {s0 : Sto} {j : Stp} {g : GN} {N : Nat} {ks : List Nat} {xs : List D} {tt : EM Bool} {mm : EM D} (it : ItOk ks s0 j N xs) (hb : Bags s0 ks) (hl : xs.length < sizeLine)
    (body : ∀ d s, d ∈ xs → Eff ks s0 s → Bags s ks → ∃ e1, g d e = some e1 ∧ (tt e1 s).wp fun q s1 => Eff ks s s1 ∧ (q = true → (mm e1 s1).wp fun y s2 => Eff ks s1 s2 ∧ y = d)) :
    (lcL j g tt mm s0.length N 0 e (s0 ++ [.lst []])).wp fun d s' => d = .ref s0.length ∧ Eff ks s0 s' ∧ s0.length < s'.length ∧ ∃ ys, mlAt s' s0.length = some ys ∧ ys.Sublist xs := by
  refine wp_ne (lc_subP (fun _ => True) it hb hl fun d s h1 h2 h3 => ?_) fun d s ⟨h1, h2, h3, ys, h4, h5, _⟩ => ⟨h1, h2, h3, ys, h4, h5⟩
  obtain ⟨e1, h4, h5⟩ := body d s h1 h2 h3
  exact ⟨e1, h4, wp_ne h5 fun q s1 ⟨h6, h7⟩ => ⟨h6, fun hq => ⟨trivial, h7 hq⟩⟩⟩
/-! ### dicts -/
theorem it_key {ks : List Nat} {s : Sto} {n : Nat} {kvs : List (D × D)} (h : s[n]? = some (.lck false kvs)) (hn : n ∉ ks) : ItOk ks s (jKey n) kvs.length (kvs.map (·.1)) := ⟨by simp, fun i t e => by
  unfold jKey
  rw [e.get h hn, List.getElem?_map]⟩
theorem Eff.unlock {ks : List Nat} {s t : Sto} {n : Nat} {o o' : SO} (h : s[n]? = some o) (hn : n ∉ ks) (e : Eff ks (s.set n o') t) : Eff ks s (t.set n o) := by
  have hlt := (List.getElem?_eq_some_iff.mp h).1
  have le := e.le
  rw [List.length_set] at le
  refine ⟨by rw [List.length_set]; exact le, fun i hi hk => ?_, fun k hk hb => ?_⟩
  · by_cases q : i = n
    · subst q
      rw [List.getElem?_set_self (by omega), h]
    · rw [List.getElem?_set_ne (by omega), e.eq i (by rw [List.length_set]; exact hi) hk, List.getElem?_set_ne (by omega)]
  · have kn : k ≠ n := fun q => hn (q ▸ hk)
    obtain ⟨a, b, hb⟩ := hb
    obtain ⟨a2, b2, h2⟩ := e.bag k hk ⟨a, b, by rw [List.getElem?_set_ne (by omega)]; exact hb⟩
    exact ⟨a2, b2, by rw [List.getElem?_set_ne (by omega)]; exact h2⟩
theorem dctAt_lck {s : Sto} {n : Nat} {kvs : List (D × D)} (h : s[n]? = some (.lck false kvs)) : dctAt s n = some kvs := by unfold dctAt; rw [h]
theorem dctAt_dict {s : Sto} {n : Nat} {kvs : List (D × D)} (h : s[n]? = some (.dict false kvs)) : dctAt s n = some kvs := by unfold dctAt; rw [h]
/-- the value of a name: names differ -/
theorem getK_at {kvs : List (D × D)} {i : Nat} {x : Str} {v : D} {ns : List Str} (h : kvs.map (·.1) = ns.map D.str) (nd : ns.Nodup) (hi : kvs[i]? = some (.str x, v)) : getK kvs (.inr x) = some v := by
  induction kvs generalizing ns i with
  | nil => simp at hi
  | cons p kvs ih =>
    cases ns with
    | nil => simp at h
    | cons y ns =>
      rw [List.map_cons, List.map_cons, List.cons.injEq] at h
      rw [List.nodup_cons] at nd
      unfold getK at ih ⊢
      cases i with
      | zero =>
        have : p = (.str x, v) := by simpa using hi
        subst this
        rw [List.find?_cons_of_pos (by simp [keyD])]
        rfl
      | succ i =>
        have hi2 : kvs[i]? = some (.str x, v) := by simpa using hi
        have hx : x ∈ ns := by
          have : D.str x ∈ ns.map D.str := by
            rw [← h.2]
            exact List.mem_map.mpr ⟨_, List.mem_of_getElem? hi2, rfl⟩
          exact mem_strs.mp this
        rw [List.find?_cons_of_neg (by
          rw [h.1]
          simp only [keyD, Option.some.injEq, Sum.inr.injEq, decide_eq_true_eq]
          rintro rfl
          exact nd.1 hx)]
        exact ih h.2 nd.2 hi2
/-- a new name -/
theorem putK_new {kvs : List (D × D)} {x : Str} {v : D} {ns : List Str} (h : kvs.map (·.1) = ns.map D.str) (hx : x ∉ ns) : putKd kvs (.str x) (.inr x) v = kvs ++ [(.str x, v)] := by
  unfold putKd
  rw [if_neg]
  rw [List.any_eq_true]
  rintro ⟨p, hp, hq⟩
  have : p.1 ∈ ns.map D.str := by
    rw [← h]
    exact List.mem_map_of_mem hp
  obtain ⟨y, hy, e⟩ := List.mem_map.mp this
  rw [← e] at hq
  simp only [keyD, Option.some.injEq, Sum.inr.injEq, decide_eq_true_eq] at hq
  subst hq
  exact hx hy
end Z

set_option Elab.async false
set_option linter.all false
set_option maxRecDepth 100000
set_option maxHeartbeats 4000000
namespace Z
open PySem PySem.Spec PyProof.Rows L2
/-! ### a walk over what may be a text, a list, a tuple or an own instance -/
def iAny (tb : Itb) (m : EM D) : EM (Nat × Stp) := fun e s => (m e s).bind fun d s1 => match d with
  | .str x => .ok (x.cps.size, jStr x) s1
  | d => match itsO tb s1 d with
    | some (some xs) => .ok (xs.length, jTup xs) s1
    | some none => .no
    | none => walkD s1 d
section
variable {P : D → Sto → Prop} {PI : Nat × Stp → Sto → Prop} {E : Str → Str → D → Sto → Prop} {e : Ev} {s : Sto} {a : EM D} {itb : Itb}
def anyP (itb : Itb) (s : Sto) (d : D) (P : Nat × Stp → Prop) : Prop := match d with
  | .str x => P (x.cps.size, jStr x)
  | d => walkP (itsO itb s d) s d P
@[simp ↓] theorem z_iAny : (iAny itb a e s).wp PI E = (a e s).wp (fun d s1 => anyP itb s1 d fun j => PI j s1) E := by
  unfold iAny
  rw [z_bind]
  congr 1
  funext d s1
  unfold anyP
  split
  · rfl
  · generalize itsO itb s1 _ = o
    unfold walkP
    cases o with
    | some o =>
      cases o <;> rfl
    | none =>
      unfold walkD
      cases d with
      | ref n =>
        dsimp only
        unfold lstAt
        cases s1[n]? with
        | none => rfl
        | some o => cases o <;> rfl
      | _ => rfl
@[simp ↓] theorem anyP_str {x : Str} {PJ : Nat × Stp → Prop} : anyP itb s (.str x) PJ = PJ (x.cps.size, jStr x) := nr rfl
@[simp ↓] theorem anyP_tup {xs : List D} {PJ : Nat × Stp → Prop} : anyP itb s (.tup xs) PJ = PJ (xs.length, jTup xs) := nr rfl
@[simp ↓] theorem anyP_ref {n : Nat} {PJ : Nat × Stp → Prop} : anyP itb s (.ref n) PJ = walkP (itsO itb s (.ref n)) s (.ref n) PJ := nr rfl
end
variable [Row]
section
variable {X : Cx} {W : WX} {k : Nat} {tb : Itb} {tg e : Expr} {m : EM D}
theorem own_start (T : ITab X.prog X.w X.K X.mg X.base k tb) (hr : Rm k X.A) {pins : List (Addr × Obj)} {s1 : Shared} {σ : L2.St} {H1 : Hp} {ρ1 : Nat → Addr} {st1 : Sto} {d1 : D} {v : V} {u : Value} {R : It → Hp → Prop} {W' : WX} (I1 : Inv X pins σ H1 s1) (sr1 : SR X.K X.mg ρ1 st1 H1) (vr1 : VR X.K ρ1 st1.length H1 d1 v) (r1 : RelV v u)
    (po1 : Po X.K X.mg (RI X.K X.mg) W' σ ρ1 st1.length H1 (match itsO tb st1 d1 with | some (some xs) => .ok (xs.length, jTup xs) st1 | some none => .no | none => walkD st1 d1) R) : wpAny (model X.prog X.w) X.A (pyIter u) (PIE X pins σ tg R) X.xe s1 := by
  split at po1
  · rename_i xs hx
    obtain ⟨n, c, fs, f, rfl, hs, hf, hl⟩ := itsO_some hx
    rw [VR] at vr1
    obtain ⟨hn, rfl⟩ := vr1
    obtain rfl : u = Value.ref (ρ1 n) := r1
    obtain ⟨C, dx, vs, g1, g2, g3⟩ := sr1.ob n _ hs
    obtain ⟨C', g, k1, k2, k3⟩ := T c f hf
    rw [g1] at k1
    cases k1
    obtain ⟨t, ht, vt⟩ := g3.lookup hl
    rw [VR] at vt
    obtain ⟨a, zs, rfl, sq, rr⟩ := vt
    obtain ⟨ox, od, J, _⟩ := inst_look I1 g2
    obtain ⟨m0, hFr⟩ := I1.fr
    refine PySem.W.owit_iter hFr I1.ok.mod.kin J k2.at_ k2.fn (wpAny_call (codeAny_mono (k3 X.A X.stack s1 H1 (ρ1 n) dx a vs zs hr I1.env0 g2 ht sq) fun r s2 ⟨it, e2, ce, hit, hsz⟩ => ?_))
    subst e2
    obtain ⟨v2, H2, I2, rv, eH⟩ := I1.after ce
    subst eH
    show PySem.W.OwitIt _ _ _ _ _ _
    unfold PySem.W.OwitIt
    refine wpAny_specialOf hit.typeIs PySem.F.slot_tuple_iterator_next.lookup ?_
    refine ⟨it, [it], _, _, H2, rfl, I2, turn_tuple a it, hit, fun b hb => ?_, po1 ρ1 H2 _ Ext.refl sr1 (ri_tup sq rr)⟩
    have e : b = it := by simpa using hb
    subst e
    exact I1.fpOk hsz (I1.hok.fresh hsz)
  · exact po1.elim
  · exact walk_start I1 sr1 vr1 r1 po1
theorem ji_any (T : ITab X.prog X.w X.K X.mg X.base k tb) (hr : Rm k X.A) (he : JE X W e m) : JI X W tg e (iAny tb m) := by
  refine ⟨fun pins s σ H R I ⟨ρ, env, st, sr, er, po⟩ => ?_⟩
  refine thn (he.run pins s σ H _ I ⟨ρ, env, st, sr, er, Po.bind po⟩) fun u s1 ⟨v, H1, I1, r1, ρ1, st1, d1, e1, sr1, vr1, po1⟩ => ?_
  cases d1 with
  | str x =>
    obtain rfl : v = .str x := vr1
    obtain ⟨t, rfl⟩ := r1
    have q := po1 ρ1 H1 _ Ext.refl sr1 ri_str
    cases ha : x.cps.all (· < 128)
    · exact wpAny_pyIter_wide ha (pi_one (tk := s1.toks) I1 _ (turn_str _ x t "str_iterator" (.inr rfl)) ⟨_, Heap.get?_push_size _ rfl, rfl, rfl⟩ q)
    · exact wpAny_pyIter_ascii ha (pi_one (tk := s1.toks) I1 _ (turn_str _ x t "str_ascii_iterator" (.inl rfl)) ⟨_, Heap.get?_push_size _ rfl, rfl, rfl⟩ q)
  | _ => exact own_start T hr I1 sr1 vr1 r1 po1
end
end Z

set_option Elab.async false
set_option linter.all false
set_option maxRecDepth 100000
set_option maxHeartbeats 4000000
namespace Z
open PySem PySem.Spec PyProof.Rows L2
/-- a statement that walks a dict: it is locked meanwhile, if it is not so yet -/
def sLkA (m : EM D) (b : SM) : SM := fun e s => match m e s with
  | .ok (.ref n) _ => match s[n]? with
    | some (.lck false _) => b e s
    | _ => sLk m b e s
  | _ => .no
section
variable {Q : En} {e : Ev} {s : Sto} {i n : Nat} {B : SM} {kvs : List (D × D)}
theorem z_sLkA (h : e[i]? = some (some (.ref n))) (hs : s[n]? = some (.dict false kvs)) : (sLkA (mV i) B e s).wp Q = (B e (s.set n (.lck false kvs))).wp { nx := fun e s => stoP (unlS n s) fun s => Q.nx e s, rt := fun d s => stoP (unlS n s) fun s => Q.rt d s, bk := fun e s => stoP (unlS n s) fun s => Q.bk e s, ct := fun e s => stoP (unlS n s) fun s => Q.ct e s, ex := Q.ex } := by
  have e1 : mV i e s = .ok (.ref n) s := by unfold mV; rw [h]
  have e2 : sLkA (mV i) B e s = sLk (mV i) B e s := by
    unfold sLkA
    rw [e1]
    dsimp only
    rw [hs]
  rw [e2, z_sLk h hs]
theorem z_sLkL (h : e[i]? = some (some (.ref n))) (hs : s[n]? = some (.lck false kvs)) : (sLkA (mV i) B e s).wp Q = (B e s).wp Q := by
  have e1 : mV i e s = .ok (.ref n) s := by unfold mV; rw [h]
  have e2 : sLkA (mV i) B e s = B e s := by
    unfold sLkA
    rw [e1]
    dsimp only
    rw [hs]
  rw [e2]
end
variable [Row]
section
variable {X : Cx} {W : WX} {st : Stmt} {m : EM D} {b : SM}
theorem js_lkA (hb : JS X W st b) : JS X W st (sLkA m b) := by
  refine ⟨fun pins s σ H D I ⟨ρ, env, sto, sr, er, po⟩ => ?_⟩
  unfold sLkA at po
  split at po
  · split at po
    · exact hb.run pins s σ H D I ⟨ρ, env, sto, sr, er, po⟩
    · exact (js_lk (m := m) hb).run pins s σ H D I ⟨ρ, env, sto, sr, er, po⟩
  · exact po.elim
end
end Z

namespace Z
open PySem PySem.Spec PyProof.Rows L2
def c_KINDS : D := .tup [.str "weak", .str "common", .str "strong"]
abbrev cls : List Str := ["Archive", "Member", "Store"]
abbrev itb_Archive : Itb := [("Archive", "members")]
abbrev itb_Store : Itb := [("Store", "archives")]
def s_twice_in : SM := (sC (sA 1 (mN fLst aN)) (sC (sF (iSq (mV 0)) (gN 2) (sC (sI (toB (m2 (dInB false) (mV 2) (mV 1))) (sR (mV 2)) sN) (sE (mBM "list" (mtL lAppend) (mV 1) (aC (mV 2) aN))))) (sR (mC .non))))
def m_twice_in : MF := fnM 1 3 s_twice_in
def s_Store___init__ : SM := (sC (sA 2 (mN m_twice_in (aC (mL (iSq (mV 1)) (gN 4) tY (mFld ["Archive"] "name" (mV 4)) [4]) aN))) (sC (sI (toB (m2 dNotN2 (mV 2) (mC .non))) sNo sN) (sC (sA 3 (mN fLst aN)) (sC (sF (iSq (mV 1)) (gN 4) (sF (iOwn itb_Archive (mV 4)) (gN 5) (sF (iSq (mFld ["Member"] "defines" (mV 5))) (gT [(gN 6), (gN 7), (gN 8)]) (sC (sI (toB (m2 (dInB false) (mN fTup (aC (mV 6) (aC (mV 8) aN))) (mV 3))) sNo sN) (sE (mBM "list" (mtL lAppend) (mV 3) (aC (mN fTup (aC (mV 6) (aC (mV 8) aN))) aN))))))) (sC (sI (toB (m2 dGt (mN fLen (aC (mV 1) aN)) (mC (.int 6)))) sNo sN) (sFldD ["Store"] "archives" (mV 0) (mV 1)))))))
def m_Store___init__ : MF := starF 1 (fnM 2 9 s_Store___init__)
def s__law_bag : SM := (sC (sA 2 (mIf (toB (m2 dLt (mV 1) (mN fLen (aC (mV 0) aN)))) (m2 dIx (mV 0) (mV 1)) (mC (.int 0)))) (sC (sA 3 (m2 dAdd (m2 dMul2 (mC (.int 6203)) (mV 1)) (mC (.int 379)))) (sC (sF (iEn (aC (mSl dSl (mV 0) oN (oS (mC (.int 40)))) aN)) (gT [(gN 4), (gN 5)]) (sA 3 (m2 dMod (mN fInt (aC (m2 dAdd (m2 dAdd (m2 dAdd (m2 dMul2 (mV 3) (mC (.int 44497))) (m2 dMod (mN fInt (aC (mV 5) aN)) (mC (.int 2147483549)))) (m2 dMul2 (mC (.int 71)) (mV 4))) (mC (.int 9))) aN)) (mC (.int 2147483549))))) (sR (mN fLst (aC (mIf (toB (m2 dGe (mN fAbs (aC (mV 2) aN)) (m2 dPow (mC (.int 10)) (mC (.int 18))))) (mN fAbs (aC (mV 2) aN)) (mC (.int 0))) (aC (mV 3) aN)))))))
def m__law_bag : MF := fnM 2 6 s__law_bag
def s__law_take : SM := (sC (sI (toB (m2 dGt (m2 dIx (mV 0) (mC (.int 0))) (mC (.int 0)))) (sC (sA 2 (m2 dMod (mN fInt (aC (m2 dIx (mV 0) (mC (.int 0))) aN)) (mV 1))) (sC (sX xSetL (mV 0) (mC (.int 0)) (m2 dDiv (m2 dIx (mV 0) (mC (.int 0))) (mV 1))) (sR (mV 2)))) sN) (sC (sX xSetL (mV 0) (mC (.int 1)) (m2 dMod (mN fInt (aC (m2 dAdd (m2 dMul2 (m2 dIx (mV 0) (mC (.int 1))) (mC (.int 38177))) (mC (.int 4001))) aN)) (mC (.int 2147483587)))) (sR (m2 dMod (m2 dDiv (m2 dMod (mN fInt (aC (m2 dMul2 (m2 dDiv (m2 dIx (mV 0) (mC (.int 1))) (mC (.int 11))) (mC (.int 52817))) aN)) (mC (.int 2147483629))) (mC (.int 32))) (mV 1)))))
def m__law_take : MF := fnM 2 3 s__law_take
def s__law_of : SM := (sR (m2 dIx (mV 1) (mN m__law_take (aC (mV 0) (aC (mN fLen (aC (mV 1) aN)) aN)))))
def m__law_of : MF := fnM 2 2 s__law_of
def s__law_member : SM := (sC (sP 7 8 (aC (mN fList (aC (mV 3) aN)) (aC (mN fLst aN) aN))) (sC (sF (iR1 (aC (m2 dAdd (mC (.int 1)) (mN fInt (aC (m2 dEq (mN m__law_take (aC (mV 0) (aC (mC (.int 3)) aN))) (mC (.int 0))) aN))) aN)) (gN 5) (sI (toB (m2 dNe (mV 7) (mN fLst aN))) (sC (sA 9 (mBM "list" (mtL lPopAt) (mV 7) (aC (mN m__law_take (aC (mV 0) (aC (mN fLen (aC (mV 7) aN)) aN))) aN))) (sE (mBM "list" (mtL lAppend) (mV 8) (aC (mN fTup (aC (mV 9) (aC (mN m__law_of (aC (mV 0) (aC (mN fLst (aC (mC (.str "weak")) (aC (mC (.str "weak")) (aC (mC (.str "common")) (aC (mC (.str "strong")) (aC (mC (.str "strong")) aN)))))) aN))) (aC (m2 dAdd (mV 4) (mV 5)) aN)))) aN)))) sN)) (sC (sA 6 (mSl dSl (mL (iSq (mV 7)) (gN 9) (toB (m2 dEq (mN m__law_take (aC (mV 0) (aC (mC (.int 3)) aN))) (mC (.int 0)))) (mV 9) [9]) oN (oS (mC (.int 2))))) (sR (mN fTup (aC (mV 1) (aC (mV 2) (aC (mN fTuple (aC (mN fSortA (aC (mV 8) aN)) aN)) (aC (mN fTuple (aC (mV 6) aN)) aN)))))))))
def m__law_member : MF := fnM 5 10 s__law_member
def s__law_drawn : SM := (sC (sP3 1 2 3 (aC (mSl dSl (mN fLst (aC (mC (.str "p")) (aC (mC (.str "q")) (aC (mC (.str "r")) (aC (mC (.str "s")) (aC (mC (.str "t")) (aC (mC (.str "u")) aN))))))) oN (oS (mN m__law_take (aC (mV 0) (aC (mC (.int 7)) aN))))) (aC mDN (aC (mC (.int 10)) aN)))) (sC (sF (iEn (aC (mV 1) aN)) (gT [(gN 4), (gN 5)]) (sC (sA 6 (mN fLst aN)) (sC (sF (iR1 (aC (mN m__law_take (aC (mV 0) (aC (mC (.int 5)) aN))) aN)) (gN 7) (sC (sA 8 (mIf (toB (m2 dEq (mN m__law_take (aC (mV 0) (aC (mC (.int 12)) aN))) (mC (.int 0)))) (mN m__law_take (aC (mV 0) (aC (mC (.int 6)) aN))) (mV 4))) (sC (sA 9 (m2 dIx (mN fLst (aC (mN fLst (aC (mC (.str "a")) (aC (mC (.str "b")) (aC (mC (.str "c")) aN)))) (aC (mN fLst (aC (mC (.str "d")) (aC (mC (.str "e")) (aC (mC (.str "f")) aN)))) (aC (mN fLst (aC (mC (.str "g")) (aC (mC (.str "h")) aN))) (aC (mN fLst (aC (mC (.str "i")) (aC (mC (.str "j")) (aC (mC (.str "k")) aN)))) (aC (mN fLst (aC (mC (.str "l")) (aC (mC (.str "m")) aN))) (aC (mN fLst (aC (mC (.str "n")) (aC (mC (.str "o")) aN))) aN))))))) (mV 8))) (sC (sA 10 (mN m__law_member (aC (mV 0) (aC (mV 5) (aC (m2 dIx (mN fLst (aC (mC (.str "one")) (aC (mC (.str "two")) (aC (mC (.str "three")) (aC (mC (.str "four")) aN))))) (mV 7)) (aC (mV 9) (aC (mV 3) aN))))))) (sC (sA 11 (mSl dSl (mL (iSq (mN fLst (aC (mC (.str "d")) (aC (mC (.str "g")) (aC (mC (.str "zz")) aN))))) (gN 12) (bAnd (toB (m2 dEq (mN m__law_take (aC (mV 0) (aC (mC (.int 9)) aN))) (mC (.int 0)))) (toB (m2 (dInB true) (mV 12) (mV 9)))) (mV 12) [12]) oN (oS (mC (.int 1))))) (sC (sE (mBM "list" (mtL lAppend) (mV 6) (aC (m2 dAdd (mSl dSl (mV 10) oN (oS (mC (.int 3)))) (mN fTup (aC (m2 dAdd (m2 dIx (mV 10) (mC (.int 3))) (mN fTuple (aC (mV 11) aN))) aN))) aN))) (sA 3 (m2 dAdd (mV 3) (mC (.int 2)))))))))) (sX xSetD (mV 2) (mV 5) (mV 6))))) (sR (mV 2))))
def m__law_drawn : MF := fnM 1 13 s__law_drawn
def s__law_live : SM := (sC (sG (gT [(gN 2), (gN 3)]) (mN fTup (aC (mN fLst aN) (aC (mN fLst aN) aN)))) (sC (sF (iSq (mV 0)) (gN 1) (sC (sA 4 (mL (iSq (m2 dIx (mV 1) (mC (.int 2)))) (gN 5) (toB (m2 (dInB true) (m2 dIx (mV 5) (mC (.int 0))) (mV 3))) (m2 dIx (mV 5) (mC (.int 0))) [5])) (sC (sA 3 (m2 dAdd (mV 3) (mV 4))) (sI (toB (m2 dNe (mV 4) (mN fLst aN))) (sE (mBM "list" (mtL lAppend) (mV 2) (aC (mV 1) aN))) sN)))) (sR (mV 2))))
def m__law_live : MF := fnM 1 6 s__law_live
def s__law_due : SM := (sC (sA 1 mDN) (sC (sLkA (mV 0) (sF (iKy jKey (mV 0)) (gN 2) (sC (sA 4 (mN fLst aN)) (sC (sF (iSq (m2 dGetD (mV 0) (mV 2))) (gN 5) (sE (mBM "list" lExtend (mV 4) (aC (mL (iSq (m2 dIx (mV 5) (mC (.int 2)))) (gN 3) tY (m2 dIx (mV 3) (mC (.int 0))) [3]) aN)))) (sX xSetD (mV 1) (mV 2) (mV 4)))))) (sC (sLkA (mV 0) (sF (iKy jKey (mV 0)) (gN 3) (sC (sA 6 (mN fLst aN)) (sC (sF (iSq (mN m__law_live (aC (m2 dGetD (mV 0) (mV 3)) aN))) (gN 5) (sE (mBM "list" lExtend (mV 6) (aC (m2 dIx (mV 5) (mC (.int 3))) aN)))) (sC (sA 7 (m2 dAdd (m2 dGetD (mV 1) (mV 3)) (mV 6))) (sLkA (mV 0) (sF (iKy jKey (mV 0)) (gN 8) (sI (bAnd (toB (m2 dNe (mV 3) (mV 8))) (toB (m2 dNe (mL (iSq (m2 dGetD (mV 1) (mV 8))) (gN 2) (toB (m2 (dInB false) (mV 2) (mV 7))) (mV 2) [2]) (mN fLst aN)))) (sR (mC (.bl false))) sN)))))))) (sR (mC (.bl true))))))
def m__law_due : MF := fnM 1 9 s__law_due
def s_is_name : SM := (sC (sI (bOr (bNot (toT (mIsi "str" (mV 0)))) (bNot (toB (mCh dLe dLe (mC (.int 1)) (mN fLen (aC (mV 0) aN)) (mC (.int 8)))))) (sR (mC (.bl false))) sN) (sR (mN (fAllAny true) (aC (mL (iSt (mV 0)) (gN 1) tY (m2 (dInB false) (mV 1) (mC (.str "abcdefghijklmnopqrstuvwxyz"))) [1]) aN))))
def m_is_name : MF := fnM 1 2 s_is_name
def s_look_name : SM := (sI (bNot (toT (mN m_is_name (aC (mV 0) aN)))) sNo sN)
def m_look_name : MF := fnM 1 1 s_look_name
def s_Archive___init__ : SM := (sC (sE (mN m_look_name (aC (mV 1) aN))) (sC (sA 3 (mN m_twice_in (aC (mL (iSq (mV 2)) (gN 4) tY (mFld ["Member"] "name" (mV 4)) [4]) aN))) (sC (sI (toB (m2 dNotN2 (mV 3) (mC .non))) sNo sN) (sC (sI (toB (m2 dGt (mN fLen (aC (mV 2) aN)) (mC (.int 8)))) sNo sN) (sC (sFldD ["Archive"] "name" (mV 0) (mV 1)) (sFldD ["Archive"] "members" (mV 0) (mV 2)))))))
def m_Archive___init__ : MF := starF 2 (fnM 3 5 s_Archive___init__)
def s_Archive___add__ : SM := (sR (mN (mkD "Archive" m_Archive___init__) (aC (mFld ["Archive"] "name" (mV 0)) (aS (mFld ["Archive"] "members" (mV 0)) (aC (mV 1) aN)))))
def m_Archive___add__ : MF := fnM 2 2 s_Archive___add__
def s_look_body : SM := (sI (bOr (bNot (toT (mIsi "int" (mV 0)))) (bOr (toT (mIsi "bool" (mV 0))) (bNot (toB (mCh dLe dLe (mC (.int 0)) (mV 0) (mC (.int 999999))))))) sNo sN)
def m_look_body : MF := fnM 1 1 s_look_body
def s_is_kind : SM := (sR (mAnd (mIsi "str" (mV 0)) (m2 (dInB false) (mV 0) (mC c_KINDS))))
def m_is_kind : MF := fnM 1 1 s_is_kind
def s_look_kind : SM := (sI (bNot (toT (mN m_is_kind (aC (mV 0) aN)))) sNo sN)
def m_look_kind : MF := fnM 1 1 s_look_kind
def s_Member___init__ : SM := (sC (sE (mN m_look_name (aC (mV 1) aN))) (sC (sF (iSq (mV 2)) (gT [(gN 6), (gN 7), (gN 8)]) (sC (sE (mN m_look_name (aC (mV 6) aN))) (sC (sE (mN m_look_kind (aC (mV 7) aN))) (sE (mN m_look_body (aC (mV 8) aN)))))) (sC (sF (iSq (mV 3)) (gN 4) (sE (mN m_look_name (aC (mV 4) aN)))) (sC (sA 5 (mN m_twice_in (aC (m2 dAdd (mL (iSq (mV 2)) (gN 9) tY (m2 dIx (mV 9) (mC (.int 0))) [9]) (mN fList (aC (mV 3) aN))) aN))) (sC (sI (toB (m2 dNotN2 (mV 5) (mC .non))) sNo sN) (sC (sI (bOr (toB (m2 dGt (mN fLen (aC (mV 2) aN)) (mC (.int 6)))) (toB (m2 dGt (mN fLen (aC (mV 3) aN)) (mC (.int 6))))) sNo sN) (sC (sFldD ["Member"] "name" (mV 0) (mV 1)) (sC (sFldD ["Member"] "defines" (mV 0) (mN fTuple (aC (mN fSortA (aC (mV 2) aN)) aN))) (sFldD ["Member"] "wants" (mV 0) (mN fTuple (aC (mN fSortA (aC (mV 3) aN)) aN)))))))))))
def m_Member___init__ : MF := fnM 4 10 s_Member___init__
def km_Member___init___2_defines_wants : MF := callF 2 (fun ds es => ds ++ es) m_Member___init__
def s_Store___contains__ : SM := (sR (mAnd (mIsi "str" (mV 1)) (m2 (dInB false) (mV 1) (mL (iSq (mFld ["Store"] "archives" (mV 0))) (gN 2) tY (mFld ["Archive"] "name" (mV 2)) [2]))))
def m_Store___contains__ : MF := fnM 2 3 s_Store___contains__
abbrev tb___contains___Store : Tb := [("Store", m_Store___contains__)]
def s_Store___or__ : SM := (sC (sI (toB (m2 (dInO true tb___contains___Store dNo2) (mFld ["Archive"] "name" (mV 1)) (mV 0))) (sR (mN (mkD "Store" m_Store___init__) (aS (mFld ["Store"] "archives" (mV 0)) (aC (mV 1) aN)))) sN) (sC (sA 2 (mL (iSq (mFld ["Store"] "archives" (mV 0))) (gN 3) tY (mIf (toB (m2 dEq (mFld ["Archive"] "name" (mV 3)) (mFld ["Archive"] "name" (mV 1)))) (mV 1) (mV 3)) [3])) (sR (mN (mkD "Store" m_Store___init__) (aS1 (mV 2))))))
def m_Store___or__ : MF := fnM 2 4 s_Store___or__
abbrev tb___add___Archive : Tb := [("Archive", m_Archive___add__)]
abbrev tb___or___Store : Tb := [("Store", m_Store___or__)]
def s__law_store : SM := (sC (sA 1 (mN (mkD "Store" m_Store___init__) aN)) (sC (sLkA (mV 0) (sF (iKy jKey (mV 0)) (gN 2) (sC (sA 3 (mN (mkD "Archive" m_Archive___init__) (aC (mV 2) aN))) (sC (sF (iSq (m2 dGetD (mV 0) (mV 2))) (gN 4) (sA 3 (m2 (dOwnL tb___add___Archive ["Member"] false dNo2) (mV 3) (mNk 1 2 (mkD "Member" km_Member___init___2_defines_wants) (aC (m2 dIx (mV 4) (mC (.int 1))) aN) (aC (m2 dIx (mV 4) (mC (.int 2))) (aC (m2 dIx (mV 4) (mC (.int 3))) aN)))))) (sA 1 (m2 (dOwnL tb___or___Store ["Archive"] false dNo2) (mV 1) (mV 3))))))) (sR (mV 1))))
def m__law_store : MF := fnM 1 5 s__law_store
def s_defined_names : SM := (sR (mL2 (iOwn itb_Archive (mV 0)) (gN 1) tY (iSq (mFld ["Member"] "defines" (mV 1))) (gN 2) tY (m2 dIx (mV 2) (mC (.int 0))) [1, 2] [2]))
def m_defined_names : MF := fnM 1 3 s_defined_names
def s_Archive___contains__ : SM := (sR (mAnd (mIsi "str" (mV 1)) (m2 (dInB false) (mV 1) (mL (iSq (mFld ["Archive"] "members" (mV 0))) (gN 2) tY (mFld ["Member"] "name" (mV 2)) [2]))))
def m_Archive___contains__ : MF := fnM 2 3 s_Archive___contains__
abbrev tb___contains___Archive : Tb := [("Archive", m_Archive___contains__)]
def s_Archive___getitem__ : SM := (sC (sI (toB (m2 (dInO true tb___contains___Archive dNo2) (mV 1) (mV 0))) sNo sN) (sR (m2 dIx (mL (iSq (mFld ["Archive"] "members" (mV 0))) (gN 2) (toB (m2 dEq (mFld ["Member"] "name" (mV 2)) (mV 1))) (mV 2) [2]) (mC (.int 0)))))
def m_Archive___getitem__ : MF := fnM 2 3 s_Archive___getitem__
def s_Archive_live : SM := (sC (sA 1 (mN fLst aN)) (sC (sA 2 mSet0) (sC (sF (iSq (mFld ["Archive"] "members" (mV 0))) (gN 3) (sC (sA 4 (mL (iSq (mFld ["Member"] "defines" (mV 3))) (gN 6) (toB (m2 (dInSt true (dInB true)) (m2 dIx (mV 6) (mC (.int 0))) (mV 2))) (m2 dIx (mV 6) (mC (.int 0))) [6])) (sC (sF (iSq (mV 4)) (gN 5) (sE (mSAdd (mV 2) (aC (mV 5) aN)))) (sI (toB (m2 dNe (mV 4) (mN fLst aN))) (sE (mBM "list" (mtL lAppend) (mV 1) (aC (mFld ["Member"] "name" (mV 3)) aN))) sN)))) (sR (mV 1)))))
def m_Archive_live : MF := fnM 1 7 s_Archive_live
abbrev tb_live_Archive : Tb := [("Archive", m_Archive_live)]
abbrev tb___getitem___Archive : Tb := [("Archive", m_Archive___getitem__)]
def s_live_wants : SM := (sR (mL2 (iSq (mMeth tb_live_Archive "live" (mV 0) aN)) (gN 1) tY (iSq (mFld ["Member"] "wants" (m2 (dIxO tb___getitem___Archive dNo2) (mV 0) (mV 1)))) (gN 2) tY (mV 2) [1, 2] [2]))
def m_live_wants : MF := fnM 1 3 s_live_wants
def s_are_free : SM := (sC (sG (gT [(gN 2), (gN 3)]) (mN fTup (aC (mN m_defined_names (aC (mV 0) aN)) (aC (mN m_defined_names (aC (mV 1) aN)) aN)))) (sC (sI (toT (mN (fAllAny false) (aC (mL (iSq (m2 dAdd (mV 2) (mN m_live_wants (aC (mV 0) aN)))) (gN 4) tY (m2 (dInB false) (mV 4) (mV 3)) [4]) aN))) (sR (mC (.bl false))) sN) (sR (mNot (mN (fAllAny false) (aC (mL (iSq (mN m_live_wants (aC (mV 1) aN))) (gN 4) tY (m2 (dInB false) (mV 4) (mV 2)) [4]) aN))))))
def m_are_free : MF := fnM 2 5 s_are_free
def s_is_free : SM := (sR (mN (fAllAny true) (aC (mL2 (iOwn itb_Store (mV 0)) (gN 1) tY (iOwn itb_Store (mV 0)) (gN 2) (toB (m2 dLtS (mFld ["Archive"] "name" (mV 1)) (mFld ["Archive"] "name" (mV 2)))) (mN m_are_free (aC (mV 1) (aC (mV 2) aN))) [1, 2] [2]) aN)))
def m_is_free : MF := fnM 1 3 s_is_free
def s_law : SM := (sC (sF (iR1 (aC (mN fMax2 (aC (mC (.int 1)) (aC (mN fMin2 (aC (mC (.int 5)) (aC (mN fLen (aC (mV 0) aN)) aN))) aN))) aN)) (gN 1) (sC (sA 2 (mN m__law_bag (aC (mV 0) (aC (mV 1) aN)))) (sF (iR1 (aC (mC (.int 4)) aN)) (gN 3) (sC (sA 4 (mN m__law_drawn (aC (mV 2) aN))) (sC (sA 5 (mN m_is_free (aC (mN m__law_store (aC (mV 4) aN)) aN))) (sI (bOr (bNot (toT (mIsi "bool" (mV 5)))) (toB (m2 dNe (mV 5) (mN m__law_due (aC (mV 4) aN))))) (sR (mC (.bl false))) sN)))))) (sR (mN m_is_free (aC (mN (mkD "Store" m_Store___init__) aN) aN))))
def m_law : MF := fnM 1 6 s_law
end Z
set_option Elab.async false
set_option linter.all false
set_option maxRecDepth 100000
set_option maxHeartbeats 4000000
namespace Z
open PySem PySem.Spec PyProof.Rows L2 TL
open PySem.PyData (strOk)
theorem take_ok : TakeOk m__law_take := take_gen (c1 := 38177) (c2 := 4001) (M := 2147483587) (d1 := 11) (c3 := 52817) (M2 := 2147483629) (d2 := 32) (by decide) (by decide) (by decide) (by decide) (by decide) (by decide)
theorem of_ok : OfOk m__law_of := of_gen take_ok
theorem bag_ok {s : Sto} {n : Nat} {ns : List Int} {a : Nat} (hx : lstAt s n = some (ns.map D.int)) : (m__law_bag [.ref n, .int a] s).wp fun d s' => ∃ k, d = .ref k ∧ s.length ≤ k ∧ Bag s' k ∧ Eff [] s s' :=
  bag_gen (c0 := 6203) (c1 := 379) (z := 40) (upd := updB 44497 2147483549 71 9) (M := 2147483549) (p := 18) (by decide) (by decide) (by unfold cPow; decide) (updB_ok (by decide) (by decide) (by decide)) hx
/-! ### a drawn row -/
structure RowA where
  arc : Str
  mem : Str
  gs : List DefA
  ws : List Str
def rowD (r : RowA) : D := .tup [.str r.arc, .str r.mem, .tup (r.gs.map defD), .tup (r.ws.map D.str)]
structure RowG (ps : List Str) (b : Int) (r : RowA) : Prop where
  nd : (r.gs.map (·.1) ++ r.ws).Nodup
  sub : ∀ x ∈ r.gs.map (·.1) ++ r.ws, x ∈ ps
  bd : ∀ p ∈ r.gs, p.2.1 ∈ kinds ∧ b ≤ p.2.2 ∧ p.2.2 ≤ b + 1
  l1 : r.gs.length ≤ 2
  l2 : r.ws.length ≤ 2
/-- what has been drawn, what is left -/
structure DrawG (ps : List Str) (b : Int) (i : Nat) (gs : List DefA) (left : List Str) : Prop where
  nd : (gs.map (·.1) ++ left).Nodup
  sub : ∀ x ∈ gs.map (·.1) ++ left, x ∈ ps
  bd : ∀ p ∈ gs, p.2.1 ∈ kinds ∧ b ≤ p.2.2 ∧ p.2.2 < b + i
  l1 : gs.length ≤ i
theorem DrawG.step {ps : List Str} {b : Int} {i q : Nat} {gs : List DefA} {left : List Str} {x k : Str} (h : DrawG ps b i gs left) (hq : left[q]? = some x) (hk : k ∈ kinds) : DrawG ps b (i + 1) (gs ++ [(x, k, b + i)]) (left.eraseIdx q) := by
  have e := take_split1 hq
  have e2 : left.eraseIdx q = left.take q ++ left.drop (q + 1) := List.eraseIdx_eq_take_drop_succ left q
  have pm : (gs.map (·.1) ++ [x] ++ left.eraseIdx q).Perm (gs.map (·.1) ++ left) := by
    rw [e2, List.append_assoc]
    refine List.Perm.append_left _ ?_
    conv => rhs; rw [e]
    show (x :: (left.take q ++ left.drop (q + 1))).Perm _
    exact (List.perm_middle).symm
  refine ⟨?_, fun y hy => ?_, fun p hp => ?_, by rw [List.length_append]; have := h.l1; simp; omega⟩
  · rw [List.map_append]
    exact pm.nodup_iff.mpr h.nd
  · rw [List.map_append] at hy
    exact h.sub y (pm.mem_iff.mp hy)
  · rcases List.mem_append.mp hp with hp | hp
    · have := h.bd p hp
      exact ⟨this.1, this.2.1, by have := this.2.2; push_cast; omega⟩
    · obtain rfl : p = (x, k, b + i) := by simpa using hp
      exact ⟨hk, by show b ≤ b + (i : Int); omega, by show b + (i : Int) < b + ((i + 1 : Nat) : Int); push_cast; omega⟩
theorem DrawG.mono {ps : List Str} {b : Int} {i : Nat} {gs : List DefA} {left : List Str} (h : DrawG ps b i gs left) : DrawG ps b (i + 1) gs left :=
  ⟨h.nd, h.sub, fun p hp => ⟨(h.bd p hp).1, (h.bd p hp).2.1, by have := (h.bd p hp).2.2; push_cast; omega⟩, Nat.le_succ_of_le h.l1⟩
theorem sublist_take {ps : List Str} {p : Str → Bool} {n : Nat} : ((ps.filter p).take n).Sublist ps := (List.take_sublist _ _).trans List.filter_sublist
theorem bags_one {s : Sto} {k : Nat} (h : Bag s k) : Bags s [k] := fun j hj => by
  rw [List.mem_singleton] at hj
  subst hj
  exact h
theorem pushes {ks : List Nat} {s : Sto} {a b : SO} : Eff ks s (s ++ [a, b]) := by
  have := (Eff.push (ks := ks) (s := s) (o := a)).trans (Eff.push (o := b))
  simpa using this
theorem five_kinds {d : D} (h : d ∈ [D.str "weak", D.str "weak", D.str "common", D.str "strong", D.str "strong"]) : ∃ k, d = .str k ∧ k ∈ kinds := by
  simp only [List.mem_cons, List.not_mem_nil, or_false] at h
  rcases h with rfl | rfl | rfl | rfl | rfl <;> exact ⟨_, rfl, by decide⟩
theorem nd_len {α : Type} [DecidableEq α] : ∀ {l m : List α}, l.Nodup → (∀ x ∈ l, x ∈ m) → l.length ≤ m.length
  | [], m, _, _ => Nat.zero_le _
  | a :: l, m, h, hs => by
    have ham := hs a List.mem_cons_self
    have h' := List.nodup_cons.mp h
    have := nd_len (l := l) (m := m.erase a) h'.2 (fun x hx => (List.mem_erase_of_ne (by rintro rfl; exact h'.1 hx)).mpr (hs x (List.mem_cons_of_mem _ hx)))
    rw [List.length_erase_of_mem ham] at this
    have := List.length_pos_of_mem ham
    simp only [List.length_cons]
    omega
theorem erase_map {α β : Type} {f : α → β} : ∀ {l : List α} {i : Nat}, (l.map f).eraseIdx i = (l.eraseIdx i).map f
  | [], _ => by simp
  | a :: l, 0 => rfl
  | a :: l, i + 1 => by
    show f a :: (l.map f).eraseIdx i = f a :: (l.eraseIdx i).map f
    rw [erase_map]
structure MInv (s : Sto) (k n : Nat) (arc mem : Str) (ps : List Str) (b : Int) (i : Nat) (e : Ev) (s2 : Sto) : Prop where
  ef : Eff [k] s s2
  hz : s.length + 2 ≤ s2.length
  ex : ∃ gs left o5 o9, mlAt s2 s.length = some (left.map D.str) ∧ mlAt s2 (s.length + 1) = some (gs.map defD) ∧ DrawG ps b i gs left ∧ e = [some (.ref k), some (.str arc), some (.str mem), some (.ref n), some (.int b), o5, none, some (.ref s.length), some (.ref (s.length + 1)), o9]
theorem member_wp {s : Sto} {k n : Nat} {arc mem : Str} {ps : List Str} {b : Int} (hb : Bag s k) (hn : mlAt s n = some (ps.map D.str)) (hnk : n ≠ k) (nd : ps.Nodup) (ok : ∀ x ∈ ps, IsName x) (len : ps.length ≤ 3) :
    (m__law_member [.ref k, .str arc, .str mem, .ref n, .int b] s).wp fun d s' => Eff [k] s s' ∧ ∃ r : RowA, d = rowD r ∧ r.arc = arc ∧ r.mem = mem ∧ RowG ps b r := by
  refine wp_of fun P hP => ?_
  unfold m__law_member
  rw [z_fnM (by rfl)]
  unfold s__law_member
  rw [z_sCn]
  simp [lstAt_ml hn]
  refine ⟨by rw [size_line]; omega, ?_⟩
  have ef0 : Eff [k] s (s ++ [SO.lst (ps.map D.str), SO.lst []]) := pushes
  have h7 : mlAt (s ++ [SO.lst (ps.map D.str), SO.lst []]) s.length = some (ps.map D.str) := mlAt_some (by rw [List.getElem?_append_right (Nat.le_refl _)]; simp)
  have h8 : mlAt (s ++ [SO.lst (ps.map D.str), SO.lst []]) (s.length + 1) = some [] := mlAt_some (by rw [List.getElem?_append_right (by omega)]; simp)
  have hz0 : (s ++ [SO.lst (ps.map D.str), SO.lst []]).length = s.length + 2 := by simp
  generalize s ++ [SO.lst (ps.map D.str), SO.lst []] = s0 at ef0 h7 h8 hz0 ⊢
  have hb0 := ef0.bag k (by simp) hb
  have hkl := hb.lt
  show nxt _ _ _ _
  rw [z_nxC]
  simp
  refine wp_ne (take_ok hb0 (by omega) (by omega)) ?_
  rintro _ s1 ⟨t, rfl, ht, ef1⟩
  have h7 := ef1.ml h7 (by simp; omega)
  have h8 := ef1.ml h8 (by simp; omega)
  have e1 := ef0.trans ef1
  have hz1 := ef1.le
  rw [z_eqI]
  simp
  obtain ⟨N, hN, hN1, hN2⟩ : ∃ N : Nat, (1 + if t = 0 then (1 : Int) else 0) = N ∧ 1 ≤ N ∧ N ≤ 2 := by
    by_cases q : t = 0
    · rw [if_pos q]; exact ⟨2, rfl, by omega, by omega⟩
    · rw [if_neg q]; exact ⟨1, rfl, by omega, by omega⟩
  rw [hN]
  refine ⟨by omega, ?_⟩
  rw [Int.toNat_natCast]
  have sok : ∀ {gs : List DefA} {left : List Str} {i : Nat}, DrawG ps b i gs left → ∀ x ∈ left, IsName x := fun h x hx => ok x (h.sub x (List.mem_append_right _ hx))
  have slen : ∀ {gs : List DefA} {left : List Str} {i : Nat}, DrawG ps b i gs left → left.length ≤ 3 := fun h =>
    Nat.le_trans (nd_len (List.nodup_append.mp h.nd).2.1 fun x hx => h.sub x (List.mem_append_right _ hx)) len
  refine for_it (ks := [k]) (s0 := s) (xs := rngD 0 N) it_rng (MInv s k n arc mem ps b) (fun _ _ _ h => h.ef) ?_ ⟨e1, by omega, [], ps, none, none, h7, h8, ⟨by simpa using nd, by simp, by simp, by simp⟩, rfl⟩ ?_
  · rintro i d e s2 hdi ⟨ef2, hz2, gs, left, o5, o9, h7, h8, dg, rfl⟩
    obtain ⟨hi, rfl⟩ := rngD_get hdi
    have hok := sok dg
    have hlen := slen dg
    have hl7 : s.length < s2.length := by omega
    refine ⟨_, rfl, ?_⟩
    simp
    classical
    rw [z_neL (xs := left.map D.str) (ys := []) (by rw [lstAt_app hl7]; exact lstAt_ml h7) lstAt_push (plains_strs fun x hx => (hok x hx).ok) rfl]
    have ef3 : Eff [k] s (s2 ++ [SO.lst []]) := ef2.trans Eff.push
    have h7 : mlAt (s2 ++ [SO.lst []]) s.length = some (left.map D.str) := by rw [mlAt_app hl7]; exact h7
    have h8 : mlAt (s2 ++ [SO.lst []]) (s.length + 1) = some (gs.map defD) := by rw [mlAt_app (by omega)]; exact h8
    have hz3 : s.length + 2 ≤ (s2 ++ [SO.lst []]).length := by simp; omega
    generalize s2 ++ [SO.lst []] = s3 at ef3 h7 h8 hz3 ⊢
    by_cases hl : left = []
    · subst hl
      simp
      exact ⟨ef3, hz3, gs, [], _, o9, h7, h8, dg.mono, rfl⟩
    · have hp : 0 < left.length := List.length_pos_iff.mpr hl
      simp [hl]
      rw [lstAt_ml h7]
      refine ⟨isTy_ml h7, ?_⟩
      rw [lstP_some, List.length_map]
      refine wp_ne (take_ok (ef3.bag k (by simp) hb) (by omega) (by omega)) ?_
      rintro _ s4 ⟨q, rfl, hq, ef4⟩
      have h7 := ef4.ml h7 (by simp; omega)
      have h8 := ef4.ml h8 (by simp; omega)
      have e4 := ef3.trans ef4
      have hz4 := ef4.le
      have hq2 : q < left.length := by omega
      have hx : left[q]? = some left[q] := List.getElem?_eq_getElem hq2
      generalize left[q] = x at hx
      rw [z_popN (x := .str x) h7 (by rw [List.getElem?_map, hx]; rfl) (by rw [List.length_map]; omega)]
      have h7' : mlAt (s4.set s.length (.lst ((left.map D.str).eraseIdx q))) s.length = some ((left.eraseIdx q).map D.str) := by
        rw [mlAt_set_self (by omega)]
        rw [erase_map]
      have h8' : mlAt (s4.set s.length (.lst ((left.map D.str).eraseIdx q))) (s.length + 1) = some (gs.map defD) := by
        rw [mlAt_set_ne (by omega)]
        exact h8
      have e5 := e4.set (n := s.length) (o := .lst ((left.map D.str).eraseIdx q)) (Nat.le_refl _)
      have hz5 : s.length + 2 ≤ (s4.set s.length (.lst ((left.map D.str).eraseIdx q))).length := by simp; omega
      generalize s4.set s.length (.lst ((left.map D.str).eraseIdx q)) = s5 at h7' h8' e5 hz5 ⊢
      refine ⟨isTy_ml h8', ?_⟩
      have l5 : 5 ≤ sizeLine := by decide
      refine ⟨l5, ?_⟩
      refine wp_ne (of_ok (s := s5 ++ [SO.lst [D.str "weak", D.str "weak", D.str "common", D.str "strong", D.str "strong"]]) (k := k) (x := .ref s5.length) ((e5.trans Eff.push).bag k (by simp) hb) lstAt_push (by simp; omega) (by simp) (by simp)) ?_
      rintro y s6 ⟨hy, ef6⟩
      obtain ⟨kd, rfl, hkd⟩ := five_kinds hy
      have h7 := ef6.ml (mlAt_app (t := [SO.lst [D.str "weak", D.str "weak", D.str "common", D.str "strong", D.str "strong"]]) (by omega) |>.trans h7') (by simp; omega)
      have h8 := ef6.ml (mlAt_app (t := [SO.lst [D.str "weak", D.str "weak", D.str "common", D.str "strong", D.str "strong"]]) (by omega) |>.trans h8') (by simp; omega)
      have hz6 := ef6.le
      have e6 := (e5.trans Eff.push).trans ef6
      simp only [List.length_append, List.length_singleton] at hz6
      rw [h8, lstP_some]
      have l1 := dg.l1
      refine ⟨by decide, by rw [List.length_map, size_line]; omega, e6.set (Nat.le_succ _), by rw [List.length_set]; omega, gs ++ [(x, kd, b + i)], left.eraseIdx q, _, _, ?_, ?_, dg.step hx hkd, rfl⟩
      · rw [mlAt_set_ne (by omega)]
        exact h7
      · rw [mlAt_set_self (by omega), List.map_append]
        rfl
  · rintro e s2 ⟨ef2, hz2, gs, left, o5, o9, h7, h8, dg, rfl⟩
    show nxt _ _ _ _
    rw [z_nxC]
    simp
    have hlen := slen dg
    have hok := sok dg
    rw [lstAt_ml h7, lstP_some]
    have hb2 := ef2.bag k (by simp) hb
    refine wp_ne (lc_sub (ks := [k]) (xs := left.map D.str) (it_lst (lstAt_ml h7) (by simp; omega) rfl) (bags_one hb2) (by rw [List.length_map, size_line]; omega) fun d s3 hd ef hbs => ?_) ?_
    · refine ⟨_, rfl, ?_⟩
      simp
      refine wp_ne (take_ok (hbs k (by simp)) (by omega) (by omega)) ?_
      rintro _ s4 ⟨q, rfl, hq, ef4⟩
      rw [z_eqI]
      simp [ef4, Eff.refl]
    rintro _ s3 ⟨rfl, ef3, hlt3, ys, hm3, hsub⟩
    obtain ⟨ws, hws, rfl⟩ := List.sublist_map_iff.mp hsub
    have h8 := ef3.ml h8 (by simp; omega)
    have e3 := ef2.trans ef3
    rw [z_slL, lstAt_ml hm3, lstP_some]
    have ec : cutD (ws.map D.str) none (some 2) = (ws.take 2).map D.str := by
      rw [List.map_take]
      exact cutD_to (k := 2)
    rw [ec]
    have h8 : mlAt (s3 ++ [SO.lst ((ws.take 2).map D.str)]) (s.length + 1) = some (gs.map defD) := by rw [mlAt_app (by have := ef3.le; omega)]; exact h8
    have h6 : mlAt (s3 ++ [SO.lst ((ws.take 2).map D.str)]) s3.length = some ((ws.take 2).map D.str) := mlAt_push
    have e4 : Eff [k] s (s3 ++ [SO.lst ((ws.take 2).map D.str)]) := e3.trans Eff.push
    have hz4 : s3.length < (s3 ++ [SO.lst ((ws.take 2).map D.str)]).length := by simp
    generalize s3 ++ [SO.lst ((ws.take 2).map D.str)] = s4 at h8 h6 e4 hz4 ⊢
    rw [z_nxt]
    have okp : ∀ p ∈ gs, okP p := fun p hp => ⟨(ok _ (dg.sub _ (List.mem_append_left _ (List.mem_map_of_mem hp)))).ok, kinds_ok (dg.bd p hp).1⟩
    have sd := sortD_defs (s := s4) okp
    simp
    rw [lstAt_ml h8, lstP_some]
    refine ⟨sd.1, ?_⟩
    rw [sd.2]
    simp [hz4]
    rw [lstAt_ml h6, lstP_some]
    have four : 4 ≤ sizeLine := by decide
    refine ⟨four, hP _ _ ⟨e4.trans Eff.push, ⟨arc, mem, sortP gs, ws.take 2⟩, rfl, rfl, rfl, ?_⟩⟩
    have pm : ((sortP gs).map (·.1)).Perm (gs.map (·.1)) := (sortP_perm gs).map _
    have sb : (ws.take 2).Sublist left := (List.take_sublist _ _).trans hws
    have hN3 : (rngD 0 N).length = N := rngD_len
    refine ⟨?_, fun x hx => ?_, fun p hp => ?_, ?_, ?_⟩
    · exact (List.Perm.append_right _ pm).nodup_iff.mpr (dg.nd.sublist ((List.Sublist.refl _).append sb))
    · rcases List.mem_append.mp hx with hx | hx
      · exact dg.sub x (List.mem_append_left _ (pm.mem_iff.mp hx))
      · exact dg.sub x (List.mem_append_right _ (sb.subset hx))
    · have := dg.bd p ((sortP_perm gs).mem_iff.mp hp)
      rw [hN3] at this
      exact ⟨this.1, this.2.1, by omega⟩
    · show (sortP gs).length ≤ 2
      rw [(sortP_perm gs).length_eq]
      have := dg.l1
      rw [hN3] at this
      omega
    · show (ws.take 2).length ≤ 2
      rw [List.length_take]
      omega
end Z

set_option Elab.async false
set_option linter.all false
set_option maxRecDepth 100000
set_option maxHeartbeats 4000000
namespace Z
open PySem PySem.Spec PyProof.Rows L2 TL
open PySem.PyData (strOk)
def memNames : List Str := ["one", "two", "three", "four"]
def arcNames : List Str := ["p", "q", "r", "s", "t", "u"]
def pools : List (List Str) := [["a", "b", "c"], ["d", "e", "f"], ["g", "h"], ["i", "j", "k"], ["l", "m"], ["n", "o"]]
def mores : List Str := ["d", "g", "zz"]
instance (x : Str) : Decidable (IsName x) := decidable_of_iff (1 ≤ (tl x).length ∧ (tl x).length ≤ 8 ∧ ∀ c ∈ tl x, isLow c) ⟨fun h => ⟨h.1, h.2.1, h.2.2⟩, fun h => ⟨h.pos, h.len, h.low⟩⟩
theorem memNames_ok : (∀ x ∈ memNames, IsName x) ∧ memNames.Nodup := by decide +kernel
theorem arcNames_ok : (∀ x ∈ arcNames, IsName x) ∧ arcNames.Nodup := by decide +kernel
theorem pools_ok : ∀ ps ∈ pools, ps.Nodup ∧ (∀ x ∈ ps, IsName x) ∧ ps.length ≤ 3 := by decide +kernel
theorem mores_ok : ∀ x ∈ mores, IsName x := by decide +kernel
/-- a row as it is told in the data -/
structure RowF (b : Int) (r : RowA) : Prop where
  nd : (r.gs.map (·.1) ++ r.ws).Nodup
  nm : ∀ x ∈ r.gs.map (·.1) ++ r.ws, IsName x
  bd : ∀ p ∈ r.gs, p.2.1 ∈ kinds ∧ b ≤ p.2.2 ∧ p.2.2 ≤ b + 1
  l1 : r.gs.length ≤ 2
  l2 : r.ws.length ≤ 3
structure RowsF (b : Int) (nm : Str) (rs : List RowA) : Prop where
  row : ∀ (j : Nat) (r : RowA), rs[j]? = some r → r.arc = nm ∧ memNames[j]? = some r.mem ∧ RowF (b + 2 * j) r
  len : rs.length ≤ 4
abbrev DatA := List (Str × List RowA)
/-- the data, body numbers from 10 on -/
inductive DG : DatA → Int → Prop
  | nil : DG [] 10
  | snoc {L : DatA} {b : Int} {nm : Str} {rs : List RowA} : DG L b → RowsF b nm rs → DG (L ++ [(nm, rs)]) (b + 2 * rs.length)
def KvR (s : Sto) (kvs : List (D × D)) (L : DatA) : Prop := kvs.length = L.length ∧ ∀ (i : Nat) (kv : D × D) (p : Str × List RowA), kvs[i]? = some kv → L[i]? = some p → kv.1 = .str p.1 ∧ ∃ l, kv.2 = .ref l ∧ mlAt s l = some (p.2.map rowD)
theorem KvR.keys {s : Sto} {kvs : List (D × D)} {L : DatA} (h : KvR s kvs L) : kvs.map (·.1) = (L.map (·.1)).map D.str := by
  refine List.ext_getElem (by simp [h.1]) fun i h1 h2 => ?_
  rw [List.getElem_map, List.getElem_map, List.getElem_map]
  exact (h.2 i _ _ (List.getElem?_eq_getElem (by simpa using h1)) (List.getElem?_eq_getElem (by simpa using h2))).1
theorem rows_nobag {s : Sto} {ks : List Nat} {l : Nat} {rs : List RowA} (hb : Bags s ks) (h : mlAt s l = some (rs.map rowD)) : l ∉ ks := fun hk => by
  obtain ⟨a, b, e⟩ := hb l hk
  rw [mlAt_get h] at e
  cases rs with
  | nil => cases e
  | cons r rs =>
    injection e with e
    injection e with e
    rw [List.map_cons] at e
    injection e with e _
    cases e
theorem KvR.eff {s t : Sto} {ks : List Nat} {kvs : List (D × D)} {L : DatA} (h : KvR s kvs L) (e : Eff ks s t) (hb : Bags s ks) : KvR t kvs L :=
  ⟨h.1, fun i kv p h1 h2 => by
    obtain ⟨h3, l, h4, h5⟩ := h.2 i kv p h1 h2
    exact ⟨h3, l, h4, e.ml h5 (rows_nobag hb h5)⟩⟩
theorem KvR.keep {s t : Sto} {kvs : List (D × D)} {L : DatA} (h : KvR s kvs L) (e : ∀ l xs, mlAt s l = some xs → mlAt t l = some xs) : KvR t kvs L :=
  ⟨h.1, fun i kv p h1 h2 => by
    obtain ⟨h3, l, h4, h5⟩ := h.2 i kv p h1 h2
    exact ⟨h3, l, h4, e _ _ h5⟩⟩
theorem KvR.snoc {s : Sto} {kvs : List (D × D)} {L : DatA} {nm : Str} {rs : List RowA} {l : Nat} (h : KvR s kvs L) (hl : mlAt s l = some (rs.map rowD)) : KvR s (kvs ++ [(.str nm, .ref l)]) (L ++ [(nm, rs)]) := by
  refine ⟨by simp [h.1], fun i kv p h1 h2 => ?_⟩
  by_cases hi : i < kvs.length
  · rw [List.getElem?_append_left hi] at h1
    rw [List.getElem?_append_left (by rw [← h.1]; exact hi)] at h2
    exact h.2 i kv p h1 h2
  · rw [List.getElem?_append_right (by omega)] at h1
    rw [List.getElem?_append_right (by have := h.1; omega), ← h.1] at h2
    cases q : i - kvs.length with
    | zero =>
      rw [q] at h1 h2
      cases h1
      cases h2
      exact ⟨rfl, l, rfl, hl⟩
    | succ n =>
      rw [q] at h1
      simp at h1
/-- a row with wants of others -/
theorem RowG.more {ps : List Str} {b : Int} {r : RowA} {ms : List Str} (h : RowG ps b r) (ok : ∀ x ∈ ps, IsName x) (hm : ∀ x ∈ ms, x ∈ mores ∧ x ∉ ps) (nd : ms.Nodup) (hl : ms.length ≤ 1) : RowF b ⟨r.arc, r.mem, r.gs, r.ws ++ ms⟩ := by
  refine ⟨?_, fun x hx => ?_, h.bd, h.l1, ?_⟩
  · show (r.gs.map (·.1) ++ (r.ws ++ ms)).Nodup
    rw [← List.append_assoc, List.nodup_append]
    exact ⟨h.nd, nd, fun a ha c hc e => (hm c hc).2 (e ▸ h.sub a ha)⟩
  · have hx : x ∈ r.gs.map (·.1) ++ (r.ws ++ ms) := hx
    rw [← List.append_assoc] at hx
    rcases List.mem_append.mp hx with hx | hx
    · exact ok x (h.sub x hx)
    · exact mores_ok x (hm x hx).1
  · show (r.ws ++ ms).length ≤ 3
    rw [List.length_append]
    have := h.l2
    omega
theorem RowsF.snoc {b : Int} {nm : Str} {rs : List RowA} {r : RowA} (h : RowsF b nm rs) (h1 : r.arc = nm) (h2 : memNames[rs.length]? = some r.mem) (h3 : RowF (b + 2 * rs.length) r) : RowsF b nm (rs ++ [r]) := by
  have hl : rs.length < 4 := (List.getElem?_eq_some_iff.mp h2).1
  refine ⟨fun j q hq => ?_, by simp; omega⟩
  by_cases hj : j < rs.length
  · rw [List.getElem?_append_left hj] at hq
    exact h.row j q hq
  · rw [List.getElem?_append_right (by omega)] at hq
    cases e : j - rs.length with
    | zero =>
      rw [e] at hq
      cases hq
      have : j = rs.length := by omega
      subst this
      exact ⟨h1, h2, h3⟩
    | succ n =>
      rw [e] at hq
      simp at hq
end Z

set_option Elab.async false
set_option linter.all false
set_option maxRecDepth 100000
set_option maxHeartbeats 4000000
namespace Z
open PySem PySem.Spec PyProof.Rows L2 TL
open PySem.PyData (strOk)
structure RInv (sR : Sto) (k la ld i : Nat) (nm : Str) (b : Int) (j : Nat) (e : Ev) (s2 : Sto) : Prop where
  ef : Eff [k] sR s2
  hz : sR.length < s2.length
  ex : ∃ rs o7 o8 o9 o10 o11, rs.length = j ∧ RowsF b nm rs ∧ mlAt s2 sR.length = some (rs.map rowD) ∧ e = [some (.ref k), some (.ref la), some (.ref ld), some (.int (b + 2 * (j : Int))), some (.int i), some (.str nm), some (.ref sR.length), o7, o8, o9, o10, o11, none]
def q8 : SM := (sA 8 (mIf (toB (m2 dEq (mN m__law_take (aC (mV 0) (aC (mC (.int 12)) aN))) (mC (.int 0)))) (mN m__law_take (aC (mV 0) (aC (mC (.int 6)) aN))) (mV 4)))
def q9 : SM := (sA 9 (m2 dIx (mN fLst (aC (mN fLst (aC (mC (.str "a")) (aC (mC (.str "b")) (aC (mC (.str "c")) aN)))) (aC (mN fLst (aC (mC (.str "d")) (aC (mC (.str "e")) (aC (mC (.str "f")) aN)))) (aC (mN fLst (aC (mC (.str "g")) (aC (mC (.str "h")) aN))) (aC (mN fLst (aC (mC (.str "i")) (aC (mC (.str "j")) (aC (mC (.str "k")) aN)))) (aC (mN fLst (aC (mC (.str "l")) (aC (mC (.str "m")) aN))) (aC (mN fLst (aC (mC (.str "n")) (aC (mC (.str "o")) aN))) aN))))))) (mV 8)))
def q10 : SM := (sA 10 (mN m__law_member (aC (mV 0) (aC (mV 5) (aC (m2 dIx (mN fLst (aC (mC (.str "one")) (aC (mC (.str "two")) (aC (mC (.str "three")) (aC (mC (.str "four")) aN))))) (mV 7)) (aC (mV 9) (aC (mV 3) aN)))))))
def q11 : SM := (sA 11 (mSl dSl (mL (iSq (mN fLst (aC (mC (.str "d")) (aC (mC (.str "g")) (aC (mC (.str "zz")) aN))))) (gN 12) (bAnd (toB (m2 dEq (mN m__law_take (aC (mV 0) (aC (mC (.int 9)) aN))) (mC (.int 0)))) (toB (m2 (dInB true) (mV 12) (mV 9)))) (mV 12) [12]) oN (oS (mC (.int 1)))))
def q12 : SM := (sE (mBM "list" (mtL lAppend) (mV 6) (aC (m2 dAdd (mSl dSl (mV 10) oN (oS (mC (.int 3)))) (mN fTup (aC (m2 dAdd (m2 dIx (mV 10) (mC (.int 3))) (mN fTuple (aC (mV 11) aN))) aN))) aN)))
def q3 : SM := (sA 3 (m2 dAdd (mV 3) (mC (.int 2))))
def rowBody : SM := sC q8 (sC q9 (sC q10 (sC q11 (sC q12 q3))))
def poolObjs : List SO := pools.map fun ps => SO.lst (ps.map D.str)
def poolAll (n : Nat) : List SO := poolObjs ++ [SO.lst ((List.range 6).map fun q => D.ref (n + q))]
theorem q9_wp {Q : En} {e : Ev} {s4 : Sto} {f : Nat} (he : e[8]? = some (some (.int f))) (hf : f < 6) (hQ : ∀ s5 n ps, Eff [] s4 s5 → s4.length ≤ n → ps ∈ pools → mlAt s5 n = some (ps.map D.str) → Q.nx (e.set 9 (some (.ref n))) s5) : (q9 e s4).wp Q := by
  have h3 : 3 ≤ sizeLine := by decide
  have h2 : 2 ≤ sizeLine := by decide
  have h6 : 6 ≤ sizeLine := by decide
  unfold q9
  simp [he]
  refine ⟨h3, h2, h3, h2, h6, ?_⟩
  have en : ∀ {ks : List Nat} {t : Sto} {l : List SO}, Eff ks t (t ++ l) := fun {ks} {t} {l} => ⟨by simp, fun i hi _ => List.getElem?_append_left hi, fun k _ hb => by
    obtain ⟨a, b, e⟩ := hb
    exact ⟨a, b, by rw [List.getElem?_append_left (List.getElem?_eq_some_iff.mp e).1]; exact e⟩⟩
  rw [lstAt_some (xs := (List.range 6).map fun q => D.ref (s4.length + q)) (by rw [List.getElem?_append_right (by omega)]; simp; rfl), lstP_some]
  rw [atI_of (i := f) (a := D.ref (s4.length + f)) (by rw [List.getElem?_map, List.getElem?_range hf]; rfl), datP_some]
  refine hQ _ _ pools[f] en (Nat.le_add_right _ _) (List.getElem_mem _) (mlAt_some ?_)
  rw [List.getElem?_append_right (by omega), Nat.add_sub_cancel_left]
  have : f = 0 ∨ f = 1 ∨ f = 2 ∨ f = 3 ∨ f = 4 ∨ f = 5 := by omega
  rcases this with rfl | rfl | rfl | rfl | rfl | rfl <;> rfl
theorem q8_wp {Q : En} {e : Ev} {s : Sto} {k i : Nat} (h0 : e[0]? = some (some (.ref k))) (h4 : e[4]? = some (some (.int i))) (hi : i < 6) (hb : Bag s k) (hQ : ∀ s' (f : Nat), Eff [k] s s' → f < 6 → Q.nx (e.set 8 (some (.int f))) s') : (q8 e s).wp Q := by
  unfold q8
  simp [h0, h4]
  refine wp_ne (take_ok hb (by omega) (by omega)) ?_
  rintro _ s3 ⟨t, rfl, ht, ef3⟩
  rw [z_eqI, blP_bl]
  by_cases q : (t : Int) = 0
  · rw [decide_eq_true q]
    simp
    refine wp_ne (take_ok (ef3.bag k (by simp) hb) (by omega) (by omega)) ?_
    rintro _ s4 ⟨f, rfl, hf, ef4⟩
    exact hQ _ f (ef3.trans ef4) (by omega)
  · rw [decide_eq_false q]
    simp
    exact hQ _ i ef3 hi
theorem q10_wp {Q : En} {e : Ev} {s : Sto} {k n j : Nat} {nm : Str} {ps : List Str} {b : Int} (h0 : e[0]? = some (some (.ref k))) (h5 : e[5]? = some (some (.str nm))) (h7 : e[7]? = some (some (.int j))) (h9 : e[9]? = some (some (.ref n))) (h3 : e[3]? = some (some (.int b))) (hj : j < 4) (hb : Bag s k) (hn : mlAt s n = some (ps.map D.str)) (hnk : n ≠ k) (hp : ps ∈ pools)
    (hQ : ∀ s' r, Eff [k] s s' → r.arc = nm → memNames[j]? = some r.mem → RowG ps b r → Q.nx (e.set 10 (some (rowD r))) s') : (q10 e s).wp Q := by
  obtain ⟨nd, ok, len⟩ := pools_ok ps hp
  have h4 : 4 ≤ sizeLine := by decide
  unfold q10
  simp [h0, h5, h7, h9, h3]
  refine ⟨h4, ?_⟩
  have hm : memNames[j]? = some memNames[j] := List.getElem?_eq_getElem (show j < memNames.length from hj)
  rw [atI_of (i := j) (a := D.str memNames[j]) (by
    show (memNames.map D.str)[j]? = _
    rw [List.getElem?_map, hm]
    rfl), datP_some]
  have ef : Eff [k] s (s ++ [SO.lst [D.str "one", D.str "two", D.str "three", D.str "four"]]) := Eff.push
  refine wp_ne (member_wp (ef.bag k (by simp) hb) (ef.ml hn (by simpa using hnk)) hnk nd ok len) ?_
  rintro _ s' ⟨ef2, r, rfl, h1, h2, h3⟩
  exact hQ _ r (ef.trans ef2) h1 (by rw [h2]; exact hm) h3
theorem q11_wp {Q : En} {e : Ev} {s : Sto} {k n : Nat} {ps : List Str} (h0 : e[0]? = some (some (.ref k))) (h9 : e[9]? = some (some (.ref n))) (h12 : e.length = 13) (hb : Bag s k) (hn : mlAt s n = some (ps.map D.str)) (hnk : n ≠ k) (hp : ∀ x ∈ ps, IsName x)
    (hQ : ∀ (s' : Sto) (m : Nat) (ms : List Str), Eff [k] s s' → s.length ≤ m → mlAt s' m = some (ms.map D.str) → (∀ x ∈ ms, x ∈ mores ∧ x ∉ ps) → ms.Nodup → ms.length ≤ 1 → Q.nx (e.set 11 (some (.ref m))) s') : (q11 e s).wp Q := by
  have h3 : 3 ≤ sizeLine := by decide
  unfold q11
  simp [h0, h9]
  refine ⟨h3, ?_⟩
  have ef : Eff [k] s (s ++ [SO.lst (mores.map D.str)]) := Eff.push
  have hm : mlAt (s ++ [SO.lst (mores.map D.str)]) s.length = some (mores.map D.str) := mlAt_push
  have hkl := hb.lt
  have hz : (s ++ [SO.lst (mores.map D.str)]).length = s.length + 1 := by simp
  have ht : s ++ [SO.lst [D.str "d", D.str "g", D.str "zz"], SO.lst []] = (s ++ [SO.lst (mores.map D.str)]) ++ [SO.lst []] := by
    rw [List.append_assoc]
    rfl
  rw [ht]
  have hn2 := ef.ml hn (by simpa using hnk)
  have hb2 := ef.bag k (by simp) hb
  generalize s ++ [SO.lst (mores.map D.str)] = s2 at ef hm hz hn2 hb2 ⊢
  rw [← hz]
  refine wp_ne (lc_subP (ks := [k]) (xs := mores.map D.str) (fun d => ∃ x, d = .str x ∧ x ∉ ps) (it_lst (lstAt_ml hm) (by simp; omega) rfl) (bags_one hb2) (by decide) fun d s3 hd ef3 hbs => ?_) ?_
  · obtain ⟨x, hx, rfl⟩ := List.mem_map.mp hd
    refine ⟨_, rfl, ?_⟩
    have h9' : ((e.set 12 none).set 12 (some (D.str x)))[9]? = some (some (.ref n)) := by
      rw [List.getElem?_set_ne (by omega), List.getElem?_set_ne (by omega)]
      exact h9
    have h0' : ((e.set 12 none).set 12 (some (D.str x)))[0]? = some (some (.ref k)) := by
      rw [List.getElem?_set_ne (by omega), List.getElem?_set_ne (by omega)]
      exact h0
    have h12' : ((e.set 12 none).set 12 (some (D.str x)))[12]? = some (some (.str x)) := List.getElem?_set_self (by rw [List.length_set]; omega)
    generalize (e.set 12 none).set 12 (some (D.str x)) = e2 at h9' h0' h12' ⊢
    simp [h0', h9', h12']
    refine wp_ne (take_ok (hbs k (by simp)) (by omega) (by omega)) ?_
    rintro _ s4 ⟨q, rfl, hq, ef4⟩
    rw [z_eqI, blP_bl]
    by_cases hq0 : (q : Int) = 0
    · rw [decide_eq_true hq0]
      simp
      rw [z_inStr (mores_ok x hx).ok ((ef3.trans ef4).lst (lstAt_ml hn2) (by simpa using hnk)) (fun y hy => (hp y hy).ok)]
      simp [ef4, Eff.refl]
    · rw [decide_eq_false hq0]
      simp [ef4]
  rintro _ s3 ⟨rfl, ef3, hlt3, ys, hm3, hsub, hK⟩
  obtain ⟨ws, hws, rfl⟩ := List.sublist_map_iff.mp hsub
  rw [z_slL, lstAt_ml hm3, lstP_some]
  have ec : cutD (ws.map D.str) none (some 1) = (ws.take 1).map D.str := by
    rw [List.map_take]
    exact cutD_to (k := 1)
  rw [ec]
  have ndm : mores.Nodup := by decide +kernel
  refine hQ _ _ (ws.take 1) ((ef.trans ef3).trans Eff.push) (by have := ef3.le; omega) mlAt_push (fun x hx => ?_) ((ndm.sublist hws).sublist (List.take_sublist _ _)) (by rw [List.length_take]; omega)
  have hx := List.mem_of_mem_take hx
  obtain ⟨y, hy, hy2⟩ := hK (.str x) (List.mem_map_of_mem hx)
  cases hy
  exact ⟨hws.subset hx, hy2⟩
theorem row_step {sR s2 : Sto} {k la ld i j : Nat} {nm : Str} {b : Int} {e : Ev} (hb : Bag sR k) (hi : i < 6) (hj : j < 4) (h : RInv sR k la ld i nm b j e s2) : (rowBody (e.set 7 (some (.int j))) s2).wp { nx := RInv sR k la ld i nm b (j + 1), rt := fun _ _ => False } := by
  obtain ⟨ef, hz, rs, o7, o8, o9, o10, o11, hrl, hrs, hm, rfl⟩ := h
  have hkR := hb.lt
  unfold rowBody
  rw [z_sCn]
  refine q8_wp (k := k) (i := i) rfl rfl hi (ef.bag k (by simp) hb) fun s3 f ef3 hf => ?_
  show nxt _ _ _ _
  rw [z_nxC]
  refine q9_wp (f := f) rfl hf fun s4 n ps ef4 hn hps hmn => ?_
  show nxt _ _ _ _
  rw [z_nxC]
  have e3 := ef.trans ef3
  have e4 := e3.trans ef4.nil
  have hz3 := ef3.le
  have hz4 := ef4.le
  have hnk : n ≠ k := by omega
  refine q10_wp (k := k) (n := n) (j := j) (nm := nm) (ps := ps) (b := b + 2 * (j : Int)) rfl rfl rfl rfl rfl hj (e4.bag k (by simp) hb) hmn hnk hps fun s5 r ef5 hr1 hr2 hr3 => ?_
  show nxt _ _ _ _
  rw [z_nxC]
  have e5 := e4.trans ef5
  have hmn5 := ef5.ml hmn (by simpa using hnk)
  have hz5 := ef5.le
  obtain ⟨_, pok, _⟩ := pools_ok ps hps
  refine q11_wp (k := k) (n := n) (ps := ps) rfl rfl rfl (e5.bag k (by simp) hb) hmn5 hnk pok fun s6 m ms ef6 hm6 hms h1 h2 h3 => ?_
  show nxt _ _ _ _
  rw [z_nxC]
  have e6 := e5.trans ef6
  have hz6 := ef6.le
  have hrR : mlAt s6 sR.length = some (rs.map rowD) := by
    have := ef3.ml hm (by simp; omega)
    have := ef4.ml this (by simp)
    have := ef5.ml this (by simp; omega)
    exact ef6.ml this (by simp; omega)
  unfold q12
  have h4 : 1 ≤ sizeLine := by decide
  simp [rowD]
  refine ⟨isTy_ml hrR, ?_⟩
  have ec : cutD [D.str r.arc, D.str r.mem, D.tup (r.gs.map defD), D.tup (r.ws.map D.str)] none (some 3) = [D.str r.arc, D.str r.mem, D.tup (r.gs.map defD)] := cutD_to (k := 3)
  have l2 := hr3.l2
  have lr := hrs.len
  rw [lstAt_ml hms, lstP_some, hrR, lstP_some, ec]
  refine ⟨by rw [List.length_map, size_line]; omega, h4, (show 4 ≤ sizeLine by decide), by rw [List.length_map, size_line]; omega, ?_⟩
  rw [z_nxt]
  unfold q3
  simp
  have hc : b + 2 * (j : Int) + 2 = b + 2 * ((j + 1 : Nat) : Int) := by push_cast; omega
  rw [hc]
  refine ⟨e6.set (Nat.le_refl _), by rw [List.length_set]; omega, rs ++ [⟨r.arc, r.mem, r.gs, r.ws ++ ms⟩], _, _, _, _, _, by simp [hrl], ?_, ?_, rfl⟩
  · refine hrs.snoc hr1 (by rw [hrl]; exact hr2) ?_
    have := hr3.more pok h1 h2 h3
    rw [hrl]
    exact this
  · rw [mlAt_set_self (by omega), List.map_append]
    simp [rowD]
end Z

set_option Elab.async false
set_option linter.all false
set_option maxRecDepth 100000
set_option maxHeartbeats 4000000
namespace Z
open PySem PySem.Spec PyProof.Rows L2 TL
open PySem.PyData (strOk)
/-- the data as they stand in the store -/
structure DataIs (s : Sto) (n : Nat) (kvs : List (D × D)) (L : DatA) : Prop where
  dict : s[n]? = some (.dict false kvs)
  rel : KvR s kvs L
  good : ∃ b, DG L b
  names : ∃ m, L.map (·.1) = arcNames.take m
structure OInv (s : Sto) (k la ld t : Nat) (i : Nat) (e : Ev) (s2 : Sto) : Prop where
  ef : Eff [k] s s2
  hla : mlAt s2 la = some ((arcNames.take t).map D.str)
  ex : ∃ L b kvs o4 o5 o6 o7 o8 o9 o10 o11, DG L b ∧ L.map (·.1) = (arcNames.take t).take i ∧ s2[ld]? = some (.dict false kvs) ∧ KvR s2 kvs L ∧ e = [some (.ref k), some (.ref la), some (.ref ld), some (.int b), o4, o5, o6, o7, o8, o9, o10, o11, none]
def arcBody : SM := sC (sA 6 (mN fLst aN)) (sC (sF (iR1 (aC (mN m__law_take (aC (mV 0) (aC (mC (.int 5)) aN))) aN)) (gN 7) rowBody) (sX xSetD (mV 2) (mV 5) (mV 6)))
theorem dict_noml {s : Sto} {n l : Nat} {kvs : List (D × D)} {xs : List D} (h : s[n]? = some (.dict false kvs)) (hl : mlAt s l = some xs) : l ≠ n := by
  rintro rfl
  rw [mlAt_get hl] at h
  cases h
theorem arc_step {s s2 : Sto} {k la ld t i : Nat} {nm : Str} {e : Ev} (hb : Bag s k) (hla : s.length ≤ la) (hld : s.length ≤ ld) (hne : la ≠ ld) (hnm : (arcNames.take t)[i]? = some nm) (h : OInv s k la ld t i e s2) :
    (arcBody ((e.set 4 (some (.int i))).set 5 (some (.str nm))) s2).wp { nx := OInv s k la ld t (i + 1), rt := fun _ _ => False } := by
  obtain ⟨ef, hl, L, b, kvs, o4, o5, o6, o7, o8, o9, o10, o11, hdg, hnames, hd, hkv, rfl⟩ := h
  have hk := hb.lt
  have hb2 := ef.bag k (by simp) hb
  have hi6 : i < 6 := by
    have h1 := (List.getElem?_eq_some_iff.mp hnm).1
    rw [List.length_take] at h1
    have : arcNames.length = 6 := rfl
    omega
  have hdl : ld < s2.length := (List.getElem?_eq_some_iff.mp hd).1
  unfold arcBody
  rw [z_sCn]
  simp
  show nxt _ _ _ _
  rw [z_nxC]
  have ep : Eff [k] s2 (s2 ++ [SO.lst []]) := Eff.push
  have hm0 : mlAt (s2 ++ [SO.lst []]) s2.length = some [] := mlAt_push
  have hz0 : s2.length < (s2 ++ [SO.lst []]).length := by simp
  generalize s2 ++ [SO.lst []] = s3 at ep hm0 hz0 ⊢
  simp
  refine wp_ne (take_ok (ep.bag k (by simp) hb2) (by omega) (by omega)) ?_
  rintro _ s4 ⟨N, rfl, hN, ef4⟩
  simp
  refine ⟨by omega, ?_⟩
  have hm4 := ef4.ml hm0 (by simp; omega)
  have e4 := ep.trans ef4
  have hz4 := ef4.le
  refine for_it (ks := [k]) (s0 := s2) (xs := rngD 0 N) it_rng (RInv s2 k la ld i nm b) (fun _ _ _ h => h.ef) ?_ ⟨e4, by omega, [], o7, o8, o9, o10, o11, rfl, ⟨fun j r h => by simp at h, by simp⟩, by simpa using hm4, ?_⟩ ?_
  · rintro j d e s5 hdj hr
    obtain ⟨hj, rfl⟩ := rngD_get hdj
    rw [Int.zero_add]
    refine ⟨_, rfl, ?_⟩
    exact RS.wp_mono (row_step hb2 hi6 (by omega) hr) (fun _ _ h => h) (fun _ _ h => h.elim) (fun _ _ h => h.elim) (fun _ _ h => h.elim) (fun _ _ _ _ _ h => h.elim)
  · simp
  · rintro e s5 ⟨ef5, hz5, rs, o7, o8, o9, o10, o11, hrl, hrs, hm5, rfl⟩
    rw [rngD_len] at hrl ⊢
    have hd5 := ef5.get hd (by simp; omega)
    have hla5 := ef5.ml hl (by simp; omega)
    have hkv5 := hkv.eff ef5 (bags_one hb2)
    have e5 := ef.trans ef5
    show nxt _ _ _ _
    rw [z_nxt]
    simp [keyD, hd5]
    have hlen : kvs.length ≤ 6 := by
      have h1 := congrArg List.length hnames
      rw [List.length_map, List.length_take, List.length_take] at h1
      have : arcNames.length = 6 := rfl
      have := hkv.1
      omega
    have hnot : nm ∉ L.map (·.1) := by
      rw [hnames]
      intro hm
      have nd : (arcNames.take t).Nodup := arcNames_ok.2.sublist (List.take_sublist _ _)
      have e := take_split1 hnm
      rw [e] at nd
      exact (List.nodup_append.mp nd).2.2 _ hm _ List.mem_cons_self rfl
    rw [putK_new hkv.keys hnot]
    have hlt5 : ld < s5.length := (List.getElem?_eq_some_iff.mp hd5).1
    have kp : ∀ l xs, mlAt s5 l = some xs → mlAt (s5.set ld (.dict false (kvs ++ [(.str nm, .ref s2.length)]))) l = some xs := fun l xs h => by
      rw [mlAt_set_ne (dict_noml hd5 h).symm]
      exact h
    have hg := DG.snoc hdg hrs
    rw [hrl] at hg
    exact ⟨by rw [size_line]; omega, e5.set hld, kp _ _ hla5, L ++ [(nm, rs)], _, _, _, _, _, _, _, _, _, _, hg, by rw [List.map_append, hnames, take_snoc hnm]; rfl, List.getElem?_set_self hlt5, (hkv5.keep kp).snoc (kp _ _ hm5), rfl⟩
theorem drawn_wp {s : Sto} {k : Nat} (hb : Bag s k) : (m__law_drawn [.ref k] s).wp fun d s' => Eff [k] s s' ∧ ∃ n kvs L, d = .ref n ∧ DataIs s' n kvs L := by
  refine wp_of fun P hP => ?_
  have hk := hb.lt
  have h6 : 6 ≤ sizeLine := by decide
  unfold m__law_drawn
  rw [z_fnM (by rfl)]
  show (sC _ (sC (sF (iEn (aC (mV 1) aN)) (gT [(gN 4), (gN 5)]) arcBody) (sR (mV 2))) _ _).wp _
  rw [z_sCn]
  simp [h6]
  have ep : Eff [k] s (s ++ [SO.lst (arcNames.map D.str)]) := Eff.push
  have hz0 : (s ++ [SO.lst (arcNames.map D.str)]).length = s.length + 1 := by simp
  have hm0 : mlAt (s ++ [SO.lst (arcNames.map D.str)]) s.length = some (arcNames.map D.str) := mlAt_push
  show (m__law_take _ (s ++ [SO.lst (arcNames.map D.str)])).wp _ _
  generalize s ++ [SO.lst (arcNames.map D.str)] = s0 at ep hz0 hm0 ⊢
  refine wp_ne (take_ok (ep.bag k (by simp) hb) (by omega) (by omega)) ?_
  rintro _ s1 ⟨t, rfl, ht, ef1⟩
  have hm1 := ef1.ml hm0 (by simp; omega)
  have hz1 := ef1.le
  simp
  rw [lstAt_ml hm1, lstP_some]
  rw [cutD_to, ← List.map_take]
  have hz2 : (s1 ++ [SO.lst ((arcNames.take t).map D.str), SO.dict false []]).length = s1.length + 2 := by simp
  have e2 : Eff [k] s (s1 ++ [SO.lst ((arcNames.take t).map D.str), SO.dict false []]) := (ep.trans ef1).trans pushes
  have hm2 : mlAt (s1 ++ [SO.lst ((arcNames.take t).map D.str), SO.dict false []]) s1.length = some ((arcNames.take t).map D.str) := mlAt_some (by rw [List.getElem?_append_right (Nat.le_refl _)]; simp)
  have hd2 : (s1 ++ [SO.lst ((arcNames.take t).map D.str), SO.dict false []])[s1.length + 1]? = some (.dict false []) := by rw [List.getElem?_append_right (by omega)]; simp
  generalize s1 ++ [SO.lst ((arcNames.take t).map D.str), SO.dict false []] = s2 at hz2 e2 hm2 hd2 ⊢
  refine ⟨_, _, _, ⟨rfl, rfl, rfl⟩, ?_⟩
  rw [z_nxC]
  simp
  rw [lstAt_ml hm2, lstP_some]
  refine for_j (xs := enD ((arcNames.take t).map D.str)) (by simp [enD]) (OInv s k s1.length (s1.length + 1) t) (fun i e s3 h => ?_) ?_ ⟨e2, hm2, [], 10, [], none, none, none, none, none, none, none, none, DG.nil, by simp, hd2, ⟨rfl, fun i kv p h => by simp at h⟩, rfl⟩ ?_
  · unfold jEn enD
    rw [lstAt_ml h.hla]
    simp
  · intro i d e s3 hdi h
    obtain ⟨nm, hnm, rfl⟩ : ∃ nm, (arcNames.take t)[i]? = some nm ∧ d = .tup [.int i, .str nm] := by
      unfold enD at hdi
      rw [List.getElem?_mapIdx, List.getElem?_map] at hdi
      cases q : (arcNames.take t)[i]? with
      | none => rw [q] at hdi; simp at hdi
      | some nm =>
        rw [q] at hdi
        exact ⟨nm, rfl, by simpa using hdi.symm⟩
    refine ⟨_, rfl, ?_⟩
    exact RS.wp_mono (arc_step hb (by omega) (by omega) (by omega) hnm h) (fun _ _ h => h) (fun _ _ h => h.elim) (fun _ _ h => h.elim) (fun _ _ h => h.elim) (fun _ _ _ _ _ h => h.elim)
  · rintro e s3 ⟨ef3, hl3, L, b, kvs, o4, o5, o6, o7, o8, o9, o10, o11, hdg, hnames, hd, hkv, rfl⟩
    dsimp only
    rw [z_nxt]
    simp
    refine hP _ _ ⟨ef3, s1.length + 1, kvs, L, rfl, hd, hkv, ⟨b, hdg⟩, t, ?_⟩
    rw [hnames, List.take_of_length_le (by simp [enD])]
end Z

set_option Elab.async false
set_option linter.all false
set_option maxRecDepth 100000
set_option maxHeartbeats 4000000
namespace Z
open PySem PySem.Spec PyProof.Rows L2 TL
open PySem.PyData (strOk)
def memOf (r : RowA) : MemA := ⟨r.mem, sortP r.gs, sortS r.ws⟩
def arcOf (p : Str × List RowA) : ArcA := ⟨p.1, p.2.map memOf⟩
theorem pmg (r : RowA) : ((sortP r.gs).map (·.1)).Perm (r.gs.map (·.1)) := (sortP_perm r.gs).map _
theorem RowF.goodM {b : Int} {r : RowA} {nm : Str} (h : RowF b r) (hn : IsName nm) (h0 : 0 ≤ b) (h1 : b ≤ 900000) : GoodM nm r.gs r.ws :=
  ⟨hn, fun p hp => ⟨h.nm _ (List.mem_append_left _ (List.mem_map_of_mem hp)), (h.bd p hp).1, by have := (h.bd p hp).2.1; omega, by have := (h.bd p hp).2.2; omega⟩, fun w hw => h.nm _ (List.mem_append_right _ hw), h.nd, by have := h.l1; omega, by have := h.l2; omega⟩
theorem map_mem_names {rs : List RowA} : (rs.map memOf).map (·.name) = rs.map (·.mem) := by rw [List.map_map]; rfl
theorem RowsF.mems {b : Int} {nm : Str} {rs : List RowA} (h : RowsF b nm rs) : rs.map (·.mem) = memNames.take rs.length := by
  have hl := h.len
  have e : memNames.length = 4 := rfl
  refine List.ext_getElem (by simp; omega) fun i h1 h2 => ?_
  rw [List.getElem_map, List.getElem_take]
  have := (h.row i (rs[i]'(by simpa using h1)) (List.getElem?_eq_getElem _)).2.1
  exact ((List.getElem?_eq_some_iff.mp this).2).symm
theorem RowsF.take {b : Int} {nm : Str} {rs : List RowA} (h : RowsF b nm rs) (i : Nat) : RowsF b nm (rs.take i) :=
  ⟨fun j r hj => h.row j r (by
    rw [List.getElem?_take] at hj
    split at hj
    · exact hj
    · cases hj), by rw [List.length_take]; have := h.len; omega⟩
theorem RowsF.goodA {b : Int} {nm : Str} {rs : List RowA} (h : RowsF b nm rs) (hn : IsName nm) : GoodA nm (rs.map memOf) := by
  refine ⟨hn, fun m hm => ?_, ?_, by rw [List.length_map]; have := h.len; omega⟩
  · obtain ⟨r, hr, rfl⟩ := List.mem_map.mp hm
    have : r.mem ∈ rs.map (·.mem) := List.mem_map_of_mem hr
    rw [h.mems] at this
    exact memNames_ok.1 _ (List.mem_of_mem_take this)
  · rw [map_mem_names, h.mems]
    exact memNames_ok.2.sublist (List.take_sublist _ _)
/-- keys of rows, body numbers from b on -/
theorem keys_rows : ∀ {rs : List RowA} {b : Int}, (∀ (j : Nat) (r : RowA), rs[j]? = some r → RowF (b + 2 * j) r) → ((rs.map memOf).flatMap kM).Nodup ∧ (∀ k ∈ (rs.map memOf).flatMap kM, b ≤ k.2 ∧ k.2 < b + 2 * rs.length ∧ strOk k.1 = true) ∧ ((rs.map memOf).flatMap kM).length ≤ 2 * rs.length
  | [], b, _ => by simp
  | r :: rs, b, h => by
    have h0 := h 0 r rfl
    have hb : b + 2 * ((0 : Nat) : Int) = b := by simp
    rw [hb] at h0
    obtain ⟨i1, i2, i3⟩ := keys_rows (rs := rs) (b := b + 2) fun j q hq => by
      have := h (j + 1) q (by simpa using hq)
      have e : b + 2 * ((j + 1 : Nat) : Int) = b + 2 + 2 * j := by push_cast; omega
      rwa [e] at this
    have nd : (kM (memOf r)).Nodup := by
      have h1 : ((sortP r.gs).map (·.1)).Nodup := (pmg r).nodup_iff.mpr (List.nodup_append.mp h0.nd).1
      have h2 : (kM (memOf r)).map (·.1) = (sortP r.gs).map (·.1) := by
        unfold kM memOf
        rw [List.map_map]
        rfl
      rw [← h2] at h1
      exact List.Pairwise.of_map _ (fun a b h e => h (by rw [e])) h1
    have bd : ∀ k ∈ kM (memOf r), b ≤ k.2 ∧ k.2 ≤ b + 1 ∧ strOk k.1 = true := fun k hk => by
      obtain ⟨p, hp, rfl⟩ := List.mem_map.mp hk
      have hp := (sortP_perm r.gs).mem_iff.mp hp
      have := h0.bd p hp
      exact ⟨this.2.1, this.2.2, (h0.nm _ (List.mem_append_left _ (List.mem_map_of_mem hp))).ok⟩
    rw [List.map_cons, List.flatMap_cons]
    refine ⟨List.nodup_append.mpr ⟨nd, i1, fun x hx y hy e => ?_⟩, fun k hk => ?_, ?_⟩
    · subst e
      have := (bd _ hx).2.1
      have := (i2 _ hy).1
      omega
    · simp only [List.length_cons]
      rcases List.mem_append.mp hk with hk | hk
      · have := bd k hk
        exact ⟨this.1, by push_cast; omega, this.2.2⟩
      · have := i2 k hk
        exact ⟨by omega, by push_cast; omega, this.2.2⟩
    · rw [List.length_append, List.length_cons]
      have : (kM (memOf r)).length ≤ 2 := by
        unfold kM memOf
        rw [List.length_map, (sortP_perm r.gs).length_eq]
        exact h0.l1
      omega
theorem RowsF.rows {b : Int} {nm : Str} {rs : List RowA} (h : RowsF b nm rs) : ∀ (j : Nat) (r : RowA), rs[j]? = some r → RowF (b + 2 * j) r := fun j r hj => (h.row j r hj).2.2
theorem DG.info {L : DatA} {b : Int} (h : DG L b) : 10 ≤ b ∧ b ≤ 10 + 8 * L.length ∧ (kS (L.map arcOf)).Nodup ∧ (∀ k ∈ kS (L.map arcOf), k.2 < b ∧ strOk k.1 = true) ∧ (kS (L.map arcOf)).length ≤ 8 * L.length ∧ (∀ p ∈ L, ∃ b0, 10 ≤ b0 ∧ b0 ≤ b ∧ RowsF b0 p.1 p.2) := by
  induction h with
  | nil => simp [kS]
  | snoc hdg hrs ih =>
    rename_i L b nm rs
    obtain ⟨h1, h2, h3, h4, h5, h6⟩ := ih
    obtain ⟨k1, k2, k3⟩ := keys_rows hrs.rows
    have hl := hrs.len
    have e : kS ((L ++ [(nm, rs)]).map arcOf) = kS (L.map arcOf) ++ (rs.map memOf).flatMap kM := by
      unfold kS
      rw [List.map_append, List.flatMap_append]
      simp [kA, arcOf]
    rw [e]
    simp only [List.length_append, List.length_singleton]
    refine ⟨by omega, by push_cast; omega, List.nodup_append.mpr ⟨h3, k1, fun x hx y hy q => ?_⟩, fun k hk => ?_, by omega, fun p hp => ?_⟩
    · subst q
      have := (h4 _ hx).1
      have := (k2 _ hy).1
      omega
    · rcases List.mem_append.mp hk with hk | hk
      · have := h4 k hk
        exact ⟨by omega, this.2⟩
      · have := k2 k hk
        exact ⟨this.2.1, this.2.2⟩
    · rcases List.mem_append.mp hp with hp | hp
      · obtain ⟨b0, q1, q2, q3⟩ := h6 p hp
        exact ⟨b0, q1, by omega, q3⟩
      · obtain rfl : p = (nm, rs) := by simpa using hp
        exact ⟨b, h1, by omega, hrs⟩
theorem map_arc_names {L : DatA} : (L.map arcOf).map (·.name) = L.map (·.1) := by rw [List.map_map]; rfl
theorem goodS_take {L : DatA} {b : Int} {m : Nat} (h : DG L b) (hn : L.map (·.1) = arcNames.take m) (i : Nat) : GoodS ((L.take i).map arcOf) := by
  obtain ⟨h1, h2, h3, h4, h5, h6⟩ := h.info
  have hl : L.length ≤ 6 := by
    have := congrArg List.length hn
    rw [List.length_map, List.length_take] at this
    have e : arcNames.length = 6 := rfl
    omega
  have sub : (kS ((L.take i).map arcOf)).Sublist (kS (L.map arcOf)) := by
    unfold kS
    conv => rhs; rw [← List.take_append_drop i L, List.map_append, List.flatMap_append]
    exact List.sublist_append_left _ _
  have nm : ∀ p ∈ L, IsName p.1 := fun p hp => by
    have : p.1 ∈ L.map (·.1) := List.mem_map_of_mem hp
    rw [hn] at this
    exact arcNames_ok.1 _ (List.mem_of_mem_take this)
  refine ⟨fun a ha => ?_, ?_, fun k hk => (h4 k (sub.subset hk)).2, h3.sublist sub, by have := sub.length_le; omega, by rw [List.length_map, List.length_take]; omega⟩
  · obtain ⟨p, hp, rfl⟩ := List.mem_map.mp ha
    exact nm p (List.mem_of_mem_take hp)
  · rw [map_arc_names, List.map_take, hn]
    exact (arcNames_ok.2.sublist (List.take_sublist _ _)).sublist (List.take_sublist _ _)
theorem orA_new {as : List ArcA} {a : ArcA} (h : a.name ∉ as.map (·.name)) : orA as a = as ++ [a] := by
  unfold orA
  rw [if_neg h]
/-! ### the program's functions in this row -/
theorem is_name_ok : IsNameOk m_is_name := is_name_gen
theorem look_name_ok : LookOk nameD m_look_name := look_name_gen is_name_ok
theorem look_kind_ok : LookOk kindD m_look_kind := look_gen (F := m_is_kind) fun h => is_kind_gen h
theorem look_body_ok : LookOk bodyD m_look_body := look_body_gen
theorem twice_ok : TwiceOk m_twice_in := twice_gen
theorem store_ok : StoreOk m_Store___init__ := fun g h => store_gen (cs := ["Store"]) (csA := ["Archive"]) (csM := ["Member"]) (itb := itb_Archive) twice_ok (by decide) (by decide) (by decide) rfl g h
theorem archive_ok {s : Sto} {nm : Str} {ds : List D} {ms : List MemA} (g : GoodA nm ms) (hd : AllR (IsMem s) ds ms) : (mkD "Archive" m_Archive___init__ (.str nm :: ds) s).wp fun d s' => IsArc s' d ⟨nm, ms⟩ ∧ Eff [] s s' :=
  archive_gen (cs := ["Archive"]) (csM := ["Member"]) look_name_ok twice_ok (by decide) (by decide) g hd
theorem add_ok {s : Sto} {da dm : D} {a : ArcA} {m : MemA} (g : GoodA a.name (a.mems ++ [m])) (ha : IsArc s da a) (hm : IsMem s dm m) : (m_Archive___add__ [da, dm] s).wp fun d s' => IsArc s' d ⟨a.name, a.mems ++ [m]⟩ ∧ Eff [] s s' :=
  add_gen (cs := ["Archive"]) (csM := ["Member"]) (cs2 := ["Archive"]) look_name_ok twice_ok (by decide) (by decide) (by decide) g ha hm
theorem memb_ok {s : Sto} {nm : Str} {dd dw : D} {ps : List DefA} {ws : List Str} (g : GoodM nm ps ws) (hd : SeqOf s dd (ps.map defD)) (hw : SeqOf s dw (ws.map D.str)) : (mkD "Member" km_Member___init___2_defines_wants [.str nm, dd, dw] s).wp fun d s' => IsMem s' d ⟨nm, sortP ps, sortS ws⟩ ∧ Eff [] s s' :=
  member_gen (cs := ["Member"]) look_name_ok look_kind_ok look_body_ok twice_ok (by decide) g hd hw
theorem cont_s {s : Sto} {d : D} {x : Str} {as : List ArcA} (ha : IsSto s d as) (hx : strOk x = true) (ho : ∀ m ∈ as, strOk m.name = true) (hl : as.length ≤ 1000) : (m_Store___contains__ [d, .str x] s).wp fun d' s' => d' = .bl (decide (x ∈ as.map (·.name))) ∧ Eff [] s s' :=
  cont_sto (cs := ["Store"]) (csI := ["Archive"]) (by decide) (by decide) ha hx ho hl
theorem or_ok {s : Sto} {d da : D} {as : List ArcA} {a : ArcA} (hs : IsSto s d as) (ha : IsArc s da a) (g : GoodS (orA as a)) (hx : strOk a.name = true) (ho : ∀ m ∈ as, strOk m.name = true) (hl : as.length ≤ 1000) : (m_Store___or__ [d, da] s).wp fun d' s' => IsSto s' d' (orA as a) ∧ Eff [] s s' :=
  or_gen (cs := ["Store"]) (csA := ["Archive"]) (tb := tb___contains___Store) store_ok (by decide) (by decide) rfl (cont_s hs hx ho hl) hs ha g
theorem rightOk_ref {rs : List Str} {st : Bool} {s : Sto} {n : Nat} {c : Str} {fs : List (Str × D)} (h : s[n]? = some (.ins c fs)) (hc : rs.contains c = true) : rightOk rs st s (.ref n) = true := by
  unfold rightOk
  dsimp only
  rw [h]
  exact hc
theorem IsMem.right {s : Sto} {d : D} {m : MemA} (h : IsMem s d m) : rightOk ["Member"] false s d = true := by
  obtain ⟨n, rfl, h⟩ := h
  exact rightOk_ref h (by decide)
theorem IsArc.right {s : Sto} {d : D} {a : ArcA} (h : IsArc s d a) : rightOk ["Archive"] false s d = true := by
  obtain ⟨n, ds, rfl, h, _⟩ := h
  exact rightOk_ref h (by decide)
theorem IsMem.keep {s t : Sto} {d : D} {m : MemA} (h : IsMem s d m) (k : ∀ (i : Nat) (c : Str) (fs : List (Str × D)), s[i]? = some (.ins c fs) → t[i]? = some (.ins c fs)) : IsMem t d m := by
  obtain ⟨n, h1, h2⟩ := h
  exact ⟨n, h1, k _ _ _ h2⟩
theorem IsArc.keep {s t : Sto} {d : D} {m : ArcA} (h : IsArc s d m) (k : ∀ (i : Nat) (c : Str) (fs : List (Str × D)), s[i]? = some (.ins c fs) → t[i]? = some (.ins c fs)) : IsArc t d m := by
  obtain ⟨n, ds, h1, h2, h3⟩ := h
  exact ⟨n, ds, h1, k _ _ _ h2, h3.mono fun _ _ h => h.keep k⟩
theorem IsSto.keep {s t : Sto} {d : D} {m : List ArcA} (h : IsSto s d m) (k : ∀ (i : Nat) (c : Str) (fs : List (Str × D)), s[i]? = some (.ins c fs) → t[i]? = some (.ins c fs)) : IsSto t d m := by
  obtain ⟨n, ds, h1, h2, h3⟩ := h
  exact ⟨n, ds, h1, k _ _ _ h2, h3.mono fun _ _ h => h.keep k⟩
theorem keep_set {s : Sto} {n : Nat} {o o' : SO} (h : s[n]? = some o) (ho : ∀ c fs, o ≠ .ins c fs) : ∀ (i : Nat) (c : Str) (fs : List (Str × D)), s[i]? = some (.ins c fs) → (s.set n o')[i]? = some (.ins c fs) := fun i c fs hi => by
  have : n ≠ i := by
    rintro rfl
    rw [h] at hi
    exact ho c fs (Option.some.inj hi)
  rw [List.getElem?_set_ne this]
  exact hi
/-! ### the store of the data -/
structure SInv (s : Sto) (n : Nat) (kvs : List (D × D)) (L : DatA) (i : Nat) (e : Ev) (s2 : Sto) : Prop where
  ef : Eff [] (s.set n (.lck false kvs)) s2
  ex : ∃ d o2 o3 o4, IsSto s2 d ((L.take i).map arcOf) ∧ e = [some (.ref n), some d, o2, o3, o4]
structure AInv (s1 : Sto) (n : Nat) (d : D) (x nm : Str) (rs : List RowA) (j : Nat) (e : Ev) (s2 : Sto) : Prop where
  ef : Eff [] s1 s2
  ex : ∃ da o4, IsArc s2 da ⟨nm, (rs.take j).map memOf⟩ ∧ e = [some (.ref n), some d, some (.str x), some da, o4]
theorem store_wp {s : Sto} {n : Nat} {kvs : List (D × D)} {L : DatA} (h : DataIs s n kvs L) : (m__law_store [.ref n] s).wp fun d s' => Eff [] s s' ∧ IsSto s' d (L.map arcOf) := by
  refine wp_of fun P hP => ?_
  obtain ⟨hd, hkv, ⟨b, hdg⟩, m, hnames⟩ := h
  obtain ⟨b1, b2, -, -, -, b6⟩ := hdg.info
  have hL : L.length ≤ 6 := by
    have := congrArg List.length hnames
    rw [List.length_map, List.length_take] at this
    have e : arcNames.length = 6 := rfl
    omega
  unfold m__law_store
  rw [z_fnM (by rfl)]
  unfold s__law_store
  rw [z_sCn]
  simp [-z_mkD]
  have g0 : GoodS [] := ⟨by simp, by simp, by simp [kS], by simp [kS], by simp [kS], by simp⟩
  refine wp_ne (store_ok g0 AllR.nil) ?_
  rintro d0 s1 ⟨hs1, ef1⟩
  have hd1 := ef1.get hd (by simp)
  have hkv1 := hkv.eff ef1 bags_nil
  have hn1 : n < s1.length := (List.getElem?_eq_some_iff.mp hd1).1
  show nxt _ _ _ _
  rw [z_nxC]
  rw [z_sLkA (n := n) (kvs := kvs) rfl hd1]
  have hlk : (s1.set n (.lck false kvs))[n]? = some (.lck false kvs) := List.getElem?_set_self hn1
  have hkvL : KvR (s1.set n (.lck false kvs)) kvs L := hkv1.keep fun l xs h => by
    rw [mlAt_set_ne (dict_noml hd1 h).symm]
    exact h
  have hsL : IsSto (s1.set n (.lck false kvs)) d0 [] := hs1.keep (keep_set hd1 fun c fs h => by cases h)
  simp [-z_mkD]
  rw [hlk, lckP_some]
  refine for_it (ks := []) (s0 := s1.set n (.lck false kvs)) (xs := kvs.map (·.1)) (it_key hlk (by simp)) (SInv s1 n kvs L) (fun _ _ _ h => h.ef) ?_ ⟨Eff.refl, d0, none, none, none, by simpa using hsL, rfl⟩ ?_
  · rintro i x e s2 hxi ⟨ef2, d, o2, o3, o4, hs2, rfl⟩
    obtain ⟨kv, hkvi, rfl⟩ : ∃ kv, kvs[i]? = some kv ∧ x = kv.1 := by
      rw [List.getElem?_map] at hxi
      obtain ⟨kv, h1, h2⟩ := Option.map_eq_some_iff.mp hxi
      exact ⟨kv, h1, h2.symm⟩
    have hiL : i < L.length := by rw [← hkv.1]; exact (List.getElem?_eq_some_iff.mp hkvi).1
    have hp : L[i]? = some L[i] := List.getElem?_eq_getElem hiL
    generalize L[i] = p at hp
    obtain ⟨hk1, l, hk2, hml⟩ := hkvL.2 i kv p hkvi hp
    obtain ⟨b0, q1, q2, hrs⟩ := b6 p (List.mem_of_getElem? hp)
    have hnm : IsName p.1 := by
      have : p.1 ∈ L.map (·.1) := List.mem_map_of_mem (List.mem_of_getElem? hp)
      rw [hnames] at this
      exact arcNames_ok.1 _ (List.mem_of_mem_take this)
    refine ⟨_, rfl, ?_⟩
    rw [z_sCn, hk1]
    simp [-z_mkD]
    refine wp_ne (archive_ok (ms := []) ⟨hnm, by simp, by simp, by simp⟩ AllR.nil) ?_
    rintro da s3 ⟨ha3, ef3⟩
    have e3 := ef2.trans ef3
    show nxt _ _ _ _
    rw [z_nxC]
    have hn3 := e3.get hlk (by simp)
    have hml3 := e3.ml hml (by simp)
    simp [-z_mkD, keyD]
    rw [dctAt_lck hn3, optP_some, getK_at (i := i) (v := .ref l) hkv.keys (by rw [hnames]; exact arcNames_ok.2.sublist (List.take_sublist _ _)) (by rw [hkvi, ← hk1, ← hk2]), optP_some]
    simp [-z_mkD]
    rw [lstAt_ml hml3, lstP_some]
    refine for_it (ks := []) (s0 := s3) (xs := p.2.map rowD) (it_lst (lstAt_ml hml3) (by simp) rfl) (AInv s3 n d p.1 p.1 p.2) (fun _ _ _ h => h.ef) ?_ ⟨Eff.refl, da, o4, by simpa using ha3, rfl⟩ ?_
    · rintro j rd e s4 hrj ⟨ef4, da4, o4', ha4, rfl⟩
      obtain ⟨r, hr, rfl⟩ : ∃ r, p.2[j]? = some r ∧ rd = rowD r := by
        rw [List.getElem?_map] at hrj
        obtain ⟨r, h1, h2⟩ := Option.map_eq_some_iff.mp hrj
        exact ⟨r, h1, h2.symm⟩
      obtain ⟨r1, r2, r3⟩ := hrs.row j r hr
      have hj4 : j < 4 := by
        have := (List.getElem?_eq_some_iff.mp hr).1
        have := hrs.len
        omega
      have hmn : IsName r.mem := memNames_ok.1 _ (List.mem_of_getElem? r2)
      refine ⟨_, rfl, ?_⟩
      simp [-z_mkD, rowD]
      refine wp_ne (memb_ok (r3.goodM hmn (by omega) (by omega)) (.inl rfl) (.inl rfl)) ?_
      rintro dm s5 ⟨hm5, ef5⟩
      have ha5 := ha4.eff0 ef5
      rw [ha5.ins, clsP_some]
      show optP (some m_Archive___add__) _
      rw [optP_some]
      refine ⟨hm5.right, ?_⟩
      have e6 : (p.2.take j).map memOf ++ [memOf r] = (p.2.take (j + 1)).map memOf := by rw [take_snoc hr, List.map_append]; rfl
      refine wp_ne (add_ok (a := ⟨p.1, (p.2.take j).map memOf⟩) (m := memOf r) (by
        show GoodA p.1 ((p.2.take j).map memOf ++ [memOf r])
        rw [e6]
        exact (hrs.take (j + 1)).goodA hnm) ha5 hm5) ?_
      rintro da6 s6 ⟨ha6, ef6⟩
      have ha6 : IsArc s6 da6 ⟨p.1, (p.2.take j).map memOf ++ [memOf r]⟩ := ha6
      rw [e6] at ha6
      exact ⟨(ef4.trans ef5).trans ef6, da6, _, ha6, rfl⟩
    · rintro e s4 ⟨ef4, da4, o4', ha4, rfl⟩
      have ha4 : IsArc s4 da4 (arcOf p) := by
        have : p.2.take (p.2.map rowD).length = p.2 := List.take_of_length_le (by simp)
        rw [this] at ha4
        exact ha4
      have hs4 := (hs2.eff0 ef3).eff0 ef4
      have hg := goodS_take hdg hnames (i + 1)
      have hg2 := goodS_take hdg hnames i
      have hnew : (arcOf p).name ∉ ((L.take i).map arcOf).map (·.name) := by
        have nd := hg.nd
        rw [take_snoc hp, List.map_append, List.map_append] at nd
        intro hm
        exact (List.nodup_append.mp nd).2.2 _ hm _ (by simp) rfl
      have eo : orA ((L.take i).map arcOf) (arcOf p) = (L.take (i + 1)).map arcOf := by
        rw [orA_new hnew, take_snoc hp, List.map_append]
        rfl
      show nxt _ _ _ _
      rw [z_nxt]
      simp [-z_mkD]
      rw [hs4.ins, clsP_some]
      show optP (some m_Store___or__) _
      rw [optP_some]
      refine ⟨ha4.right, ?_⟩
      refine wp_ne (or_ok hs4 ha4 (by rw [eo]; exact hg) hnm.ok (fun a ha => (hg2.names a ha).ok) (by rw [List.length_map, List.length_take]; omega)) ?_
      rintro d5 s5 ⟨hs5, ef5⟩
      rw [eo] at hs5
      exact ⟨(e3.trans ef4).trans ef5, d5, _, _, _, hs5, rfl⟩
  · rintro e s2 ⟨ef2, d, o2, o3, o4, hs2, rfl⟩
    have hn2 := ef2.get hlk (by simp)
    rw [List.length_map, hkv.1, List.take_length] at hs2
    dsimp only
    rw [unl_of hn2, z_nxt]
    simp
    exact hP _ _ ⟨ef1.trans (Eff.unlock hd1 (by simp) ef2), hs2.keep (keep_set hn2 fun c fs h => by cases h)⟩
end Z

set_option Elab.async false
set_option linter.all false
set_option maxRecDepth 100000
set_option maxHeartbeats 4000000
namespace Z
open PySem PySem.Spec PyProof.Rows L2 TL
open PySem.PyData (strOk)
def gnames (r : RowA) : List Str := r.gs.map (·.1)
def isLiveR (seen : List Str) (r : RowA) : Bool := (gnames r).any fun x => !decide (x ∈ seen)
def liveR (rs : List RowA) : List RowA := (List.range rs.length).filterMap fun i => (rs[i]?).bind fun r => if isLiveR ((rs.take i).flatMap gnames) r then some r else none
theorem liveR_take {ms : List RowA} {i : Nat} {m : RowA} (h : ms[i]? = some m) : liveR (ms.take (i + 1)) = liveR (ms.take i) ++ if isLiveR ((ms.take i).flatMap gnames) m then [m] else [] := by
  have hi := (List.getElem?_eq_some_iff.mp h).1
  unfold liveR
  rw [List.length_take, List.length_take, Nat.min_eq_left (by omega), Nat.min_eq_left (by omega), List.range_succ, List.filterMap_append]
  congr 1
  · refine fm_congr fun j hj => ?_
    have hj : j < i := List.mem_range.mp hj
    rw [List.getElem?_take, List.getElem?_take, if_pos (by omega), if_pos hj, List.take_take, List.take_take, Nat.min_eq_left (by omega), Nat.min_eq_left (by omega)]
  · rw [List.filterMap_cons, List.filterMap_nil, List.getElem?_take, if_pos (by omega), h, List.take_take, Nat.min_eq_left (by omega), Option.bind_some]
    by_cases q : isLiveR ((ms.take i).flatMap gnames) m = true <;> simp [q]
theorem gn_mem {r : RowA} {x : Str} : x ∈ dnames (memOf r) ↔ x ∈ gnames r := (pmg r).mem_iff
theorem gn_flat {rs : List RowA} {x : Str} : x ∈ (rs.map memOf).flatMap dnames ↔ x ∈ rs.flatMap gnames := by
  simp only [List.mem_flatMap, List.mem_map]
  constructor
  · rintro ⟨_, ⟨r, hr, rfl⟩, hx⟩
    exact ⟨r, hr, gn_mem.mp hx⟩
  · rintro ⟨r, hr, hx⟩
    exact ⟨_, ⟨r, hr, rfl⟩, gn_mem.mpr hx⟩
theorem isLive_eq {rs : List RowA} {r : RowA} : isLive ((rs.map memOf).flatMap dnames) (memOf r) = isLiveR (rs.flatMap gnames) r := by
  unfold isLive isLiveR
  rw [Bool.eq_iff_iff, List.any_eq_true, List.any_eq_true]
  simp only [Bool.not_eq_true', decide_eq_false_iff_not]
  constructor
  · rintro ⟨x, hx, hn⟩
    exact ⟨x, gn_mem.mp hx, fun h => hn (gn_flat.mpr h)⟩
  · rintro ⟨x, hx, hn⟩
    exact ⟨x, gn_mem.mpr hx, fun h => hn (gn_flat.mp h)⟩
theorem live_map (rs : List RowA) : liveA (rs.map memOf) = (liveR rs).map memOf := by
  unfold liveA liveR
  rw [List.length_map, List.map_filterMap]
  refine fm_congr fun i hi => ?_
  rw [List.getElem?_map, ← List.map_take]
  cases h : rs[i]? with
  | none => rfl
  | some r =>
    simp only [Option.map_some, Option.bind_some, isLive_eq]
    split <;> rfl
structure LInv (s : Sto) (n : Nat) (rs : List RowA) (i : Nat) (e : Ev) (s2 : Sto) : Prop where
  ef : Eff [] s s2
  ex : ∃ (ls : Nat) (seen : List Str) (o1 o4 : Option D), mlAt s2 s.length = some ((liveR (rs.take i)).map rowD) ∧ s.length < ls ∧ mlAt s2 ls = some (seen.map D.str) ∧ (∀ x, x ∈ seen ↔ x ∈ (rs.take i).flatMap gnames) ∧ seen.length ≤ 2 * i ∧ e = [some (.ref n), o1, some (.ref s.length), some (.ref ls), o4, none]
theorem rlive_wp {s : Sto} {n : Nat} {rs : List RowA} (hn : mlAt s n = some (rs.map rowD)) (ok : ∀ r ∈ rs, ∀ x ∈ gnames r, strOk x = true) (hl : rs.length ≤ 4) (hg : ∀ r ∈ rs, r.gs.length ≤ 2) :
    (m__law_live [.ref n] s).wp fun d s' => Eff [] s s' ∧ ∃ m, d = .ref m ∧ s.length ≤ m ∧ mlAt s' m = some ((liveR rs).map rowD) := by
  refine wp_of fun P hP => ?_
  have two : 2 ≤ sizeLine := by decide
  unfold m__law_live
  rw [z_fnM (by rfl)]
  unfold s__law_live
  rw [z_sCn]
  simp [two]
  have ep : Eff [] s (s ++ [SO.lst [], SO.lst []]) := pushes
  have hz : (s ++ [SO.lst [], SO.lst []]).length = s.length + 2 := by simp
  have h1 : mlAt (s ++ [SO.lst [], SO.lst []]) s.length = some [] := mlAt_some (by rw [List.getElem?_append_right (Nat.le_refl _)]; simp)
  have h2 : mlAt (s ++ [SO.lst [], SO.lst []]) (s.length + 1) = some [] := mlAt_some (by rw [List.getElem?_append_right (by omega)]; simp)
  have hn0 := ep.ml hn (by simp)
  generalize s ++ [SO.lst [], SO.lst []] = s0 at ep hz h1 h2 hn0 ⊢
  show nxt _ _ _ _
  rw [z_nxC]
  simp
  rw [lstAt_ml hn0, lstP_some]
  refine for_it (ks := []) (s0 := s) (xs := rs.map rowD) (it_lst (lstAt_ml hn) (by simp) rfl) (LInv s n rs) (fun _ _ _ h => h.ef) ?_ ⟨ep, s.length + 1, [], none, none, by simpa [liveR] using h1, by omega, by simpa using h2, by simp, by simp, rfl⟩ ?_
  · rintro i d e s2 hdi ⟨ef2, ls, seen, o1, o4, hf, hls, hs, hmem, hsl, rfl⟩
    obtain ⟨r, hr, rfl⟩ : ∃ r, rs[i]? = some r ∧ d = rowD r := by
      rw [List.getElem?_map] at hdi
      obtain ⟨r, q1, q2⟩ := Option.map_eq_some_iff.mp hdi
      exact ⟨r, q1, q2.symm⟩
    have hrm := List.mem_of_getElem? hr
    have hi4 : i < 4 := by
      have := (List.getElem?_eq_some_iff.mp hr).1
      omega
    have seenOk : ∀ x ∈ seen, strOk x = true := fun x hx => by
      obtain ⟨q, hq, hx⟩ := List.mem_flatMap.mp ((hmem x).mp hx)
      exact ok q (List.mem_of_mem_take hq) x hx
    have gl := hg r hrm
    refine ⟨_, rfl, ?_⟩
    rw [z_sCn]
    simp [rowD]
    refine wp_ne (lc_filtR (ks := []) (fun d p => d = defD p) (fun y p => y = D.str p.1) (fun p : DefA => !decide (p.1 ∈ seen)) AllR.of_map (it_tup (by simp)) bags_nil (by rw [size_line]; omega) fun d3 p s3 hp hp2 ef3 _ => ?_) ?_
    · subst hp
      refine ⟨_, rfl, ?_⟩
      simp [defD]
      rw [z_inStr (ok r hrm _ (List.mem_map_of_mem hp2)) (ef3.lst (lstAt_ml hs) (by simp)) seenOk]
      simp [Eff.refl]
    rintro _ s3 ⟨rfl, ef3, hlt3, ys, hm3, hR⟩
    have hy := hR.eq_map
    subst hy
    have e5 : (r.gs.filter fun p : DefA => !decide (p.1 ∈ seen)).map (fun p => D.str p.1) = ((gnames r).filter fun x => !decide (x ∈ seen)).map D.str := by
      unfold gnames
      rw [List.filter_map, List.map_map]
      rfl
    rw [e5] at hm3
    have fl : ((gnames r).filter fun x => !decide (x ∈ seen)).length ≤ 2 := by
      refine Nat.le_trans (List.length_filter_le _ _) ?_
      unfold gnames
      rw [List.length_map]
      exact gl
    have fok : ∀ x ∈ (gnames r).filter fun x => !decide (x ∈ seen), strOk x = true := fun x hx => ok r hrm x (List.mem_filter.mp hx).1
    have fmem : ∀ x, x ∈ seen ++ ((gnames r).filter fun x => !decide (x ∈ seen)) ↔ x ∈ (rs.take (i + 1)).flatMap gnames := fun x => by
      rw [take_snoc hr, List.flatMap_append]
      simp only [List.mem_append, List.mem_filter, Bool.not_eq_true', decide_eq_false_iff_not, List.flatMap_cons, List.flatMap_nil, List.append_nil, ← hmem]
      constructor
      · rintro (h | h)
        · exact .inl h
        · exact .inr h.1
      · rintro (h | h)
        · exact .inl h
        · by_cases q : x ∈ seen
          · exact .inl q
          · exact .inr ⟨h, q⟩
    have fne : isLiveR ((rs.take i).flatMap gnames) r = !decide (((gnames r).filter fun x => !decide (x ∈ seen)) = []) := by
      unfold isLiveR
      have e6 : ((gnames r).any fun x => !decide (x ∈ (rs.take i).flatMap gnames)) = (gnames r).any fun x => !decide (x ∈ seen) := by
        congr 1
        funext x
        rw [decide_eq_decide.mpr (hmem x)]
      rw [e6]
      by_cases q : ((gnames r).filter fun x => !decide (x ∈ seen)) = []
      · rw [decide_eq_true q]
        rw [List.filter_eq_nil_iff] at q
        exact List.any_eq_false.mpr q
      · rw [decide_eq_false q]
        obtain ⟨x, hx⟩ := List.exists_mem_of_ne_nil _ q
        exact List.any_eq_true.mpr ⟨x, (List.mem_filter.mp hx).1, (List.mem_filter.mp hx).2⟩
    generalize ((gnames r).filter fun x => !decide (x ∈ seen)) = fresh at hm3 fl fok fmem fne
    have hf3 := ef3.ml hf (by simp)
    have hs3 := ef3.ml hs (by simp)
    have e3 := ef2.trans ef3
    have hlt2 : s.length < s2.length := lstAt_lt (lstAt_ml hf)
    show nxt _ _ _ _
    rw [z_nxC]
    simp
    rw [hs3, lstP_some, hm3, lstP_some]
    refine ⟨by simp only [List.length_map, size_line]; omega, ?_⟩
    have em : seen.map D.str ++ fresh.map D.str = (seen ++ fresh).map D.str := by rw [List.map_append]
    rw [em]
    have e4 : Eff [] s (s3 ++ [SO.lst ((seen ++ fresh).map D.str)]) := e3.trans Eff.push
    have hs4 : mlAt (s3 ++ [SO.lst ((seen ++ fresh).map D.str)]) s3.length = some ((seen ++ fresh).map D.str) := mlAt_push
    have hlt3 : s2.length < s3.length := hlt3
    have hf4 : mlAt (s3 ++ [SO.lst ((seen ++ fresh).map D.str)]) s.length = some ((liveR (rs.take i)).map rowD) := by rw [mlAt_app (by omega)]; exact hf3
    have hm4 : mlAt (s3 ++ [SO.lst ((seen ++ fresh).map D.str)]) s2.length = some (fresh.map D.str) := by rw [mlAt_app hlt3]; exact hm3
    have hz4 : (s3 ++ [SO.lst ((seen ++ fresh).map D.str)]).length = s3.length + 1 := by simp
    generalize s3 ++ [SO.lst ((seen ++ fresh).map D.str)] = s4 at e4 hs4 hf4 hm4 hz4 ⊢
    show nxt _ _ _ _
    rw [z_nxt]
    simp
    classical
    rw [z_neL (xs := fresh.map D.str) (ys := []) (by rw [lstAt_app (by omega)]; exact lstAt_ml hm4) lstAt_push (plains_strs fok) rfl]
    have ed : decide (fresh.map D.str = []) = decide (fresh = []) := decide_eq_decide.mpr (by simp)
    rw [ed, blP_bl, ← fne]
    have e5 : Eff [] s (s4 ++ [SO.lst []]) := e4.trans Eff.push
    have hs5 : mlAt (s4 ++ [SO.lst []]) s3.length = some ((seen ++ fresh).map D.str) := by rw [mlAt_app (by omega)]; exact hs4
    have hf5 : mlAt (s4 ++ [SO.lst []]) s.length = some ((liveR (rs.take i)).map rowD) := by rw [mlAt_app (by omega)]; exact hf4
    have hz5 : s.length < (s4 ++ [SO.lst []]).length := by simp; omega
    generalize s4 ++ [SO.lst []] = s5 at e5 hs5 hf5 hz5 ⊢
    have lt := liveR_take hr
    have sl : (seen ++ fresh).length ≤ 2 * (i + 1) := by rw [List.length_append]; omega
    cases q : isLiveR ((rs.take i).flatMap gnames) r with
    | false =>
      rw [q] at lt
      simp
      refine ⟨e5, s3.length, seen ++ fresh, _, _, ?_, by omega, hs5, fmem, sl, rfl⟩
      rw [hf5, lt]
      simp
    | true =>
      rw [q] at lt
      simp
      rw [hf5, lstP_some]
      have lv : (liveR (rs.take i)).length ≤ 4 := by
        unfold liveR
        refine Nat.le_trans (List.length_filterMap_le _ _) ?_
        rw [List.length_range, List.length_take]
        omega
      refine ⟨isTy_ml hf5, by rw [List.length_map, size_line]; omega, e5.set (Nat.le_refl _), s3.length, seen ++ fresh, _, _, ?_, by omega, ?_, fmem, sl, rfl⟩
      · rw [mlAt_set_self hz5, lt]
        simp [rowD]
      · rw [mlAt_set_ne (by omega)]
        exact hs5
  · rintro e s2 ⟨ef2, ls, seen, o1, o4, hf, hls, hs, hmem, hsl, rfl⟩
    dsimp only
    rw [z_nxt]
    simp
    rw [List.length_map, List.take_length] at hf
    exact hP _ _ ⟨ef2, _, rfl, Nat.le_refl _, hf⟩
end Z

set_option Elab.async false
set_option linter.all false
set_option maxRecDepth 100000
set_option maxHeartbeats 4000000
namespace Z
open PySem PySem.Spec PyProof.Rows L2 TL
open PySem.PyData (strOk)
def givesN (rs : List RowA) : List Str := rs.flatMap gnames
def askN (rs : List RowA) : List Str := (liveR rs).flatMap (·.ws)
abbrev NamA := List (Str × List Str)
def KvN (s : Sto) (kvs : List (D × D)) (L : NamA) : Prop := kvs.length = L.length ∧ ∀ (i : Nat) (kv : D × D) (p : Str × List Str), kvs[i]? = some kv → L[i]? = some p → kv.1 = .str p.1 ∧ ∃ l, kv.2 = .ref l ∧ mlAt s l = some (p.2.map D.str)
theorem KvN.keys {s : Sto} {kvs : List (D × D)} {L : NamA} (h : KvN s kvs L) : kvs.map (·.1) = (L.map (·.1)).map D.str := by
  refine List.ext_getElem (by simp [h.1]) fun i h1 h2 => ?_
  rw [List.getElem_map, List.getElem_map, List.getElem_map]
  exact (h.2 i _ _ (List.getElem?_eq_getElem (by simpa using h1)) (List.getElem?_eq_getElem (by simpa using h2))).1
theorem KvN.keep {s t : Sto} {kvs : List (D × D)} {L : NamA} (h : KvN s kvs L) (e : ∀ l xs, mlAt s l = some xs → mlAt t l = some xs) : KvN t kvs L :=
  ⟨h.1, fun i kv p h1 h2 => by
    obtain ⟨h3, l, h4, h5⟩ := h.2 i kv p h1 h2
    exact ⟨h3, l, h4, e _ _ h5⟩⟩
theorem KvN.eff {s t : Sto} {kvs : List (D × D)} {L : NamA} (h : KvN s kvs L) (e : Eff [] s t) : KvN t kvs L := h.keep fun l xs h => e.ml h (by simp)
theorem KvN.snoc {s : Sto} {kvs : List (D × D)} {L : NamA} {nm : Str} {rs : List Str} {l : Nat} (h : KvN s kvs L) (hl : mlAt s l = some (rs.map D.str)) : KvN s (kvs ++ [(.str nm, .ref l)]) (L ++ [(nm, rs)]) := by
  refine ⟨by simp [h.1], fun i kv p h1 h2 => ?_⟩
  by_cases hi : i < kvs.length
  · rw [List.getElem?_append_left hi] at h1
    rw [List.getElem?_append_left (by rw [← h.1]; exact hi)] at h2
    exact h.2 i kv p h1 h2
  · rw [List.getElem?_append_right (by omega)] at h1
    rw [List.getElem?_append_right (by have := h.1; omega), ← h.1] at h2
    cases q : i - kvs.length with
    | zero =>
      rw [q] at h1 h2
      cases h1
      cases h2
      exact ⟨rfl, l, rfl, hl⟩
    | succ n =>
      rw [q] at h1
      simp at h1
def giv (L : DatA) : NamA := L.map fun p => (p.1, givesN p.2)
theorem giv_names {L : DatA} : (giv L).map (·.1) = L.map (·.1) := by unfold giv; rw [List.map_map]; rfl
/-- what the data's rows are known to be -/
structure Good (L : DatA) : Prop where
  nd : (L.map (·.1)).Nodup
  len : L.length ≤ 6
  nm : ∀ p ∈ L, IsName p.1
  row : ∀ p ∈ L, p.2.length ≤ 4 ∧ ∀ r ∈ p.2, (∀ x ∈ gnames r, strOk x = true) ∧ (∀ x ∈ r.ws, strOk x = true) ∧ r.gs.length ≤ 2 ∧ r.ws.length ≤ 3
theorem DataIs.good2 {s : Sto} {n : Nat} {kvs : List (D × D)} {L : DatA} (h : DataIs s n kvs L) : Good L := by
  obtain ⟨hd, hkv, ⟨b, hdg⟩, m, hn⟩ := h
  obtain ⟨h1, h2, h3, h4, h5, h6⟩ := hdg.info
  have nm : ∀ p ∈ L, IsName p.1 := fun p hp => by
    have : p.1 ∈ L.map (·.1) := List.mem_map_of_mem hp
    rw [hn] at this
    exact arcNames_ok.1 _ (List.mem_of_mem_take this)
  refine ⟨by rw [hn]; exact arcNames_ok.2.sublist (List.take_sublist _ _), ?_, nm, fun p hp => ?_⟩
  · have := congrArg List.length hn
    rw [List.length_map, List.length_take] at this
    have e : arcNames.length = 6 := rfl
    omega
  · obtain ⟨b0, _, _, hr⟩ := h6 p hp
    refine ⟨hr.len, fun r hrm => ?_⟩
    obtain ⟨j, hj, rfl⟩ := List.getElem_of_mem hrm
    have f := (hr.row j _ (List.getElem?_eq_getElem hj)).2.2
    exact ⟨fun x hx => (f.nm x (List.mem_append_left _ hx)).ok, fun x hx => (f.nm x (List.mem_append_right _ hx)).ok, f.l1, f.l2⟩
structure G2 (sR : Sto) (n ld : Nat) (nm : Str) (rs : List RowA) (j : Nat) (e : Ev) (s3 : Sto) : Prop where
  ef : Eff [] sR s3
  hz : sR.length < s3.length
  ex : ∃ o3 o5 o6 o7 o8, mlAt s3 sR.length = some ((givesN (rs.take j)).map D.str) ∧ e = [some (.ref n), some (.ref ld), some (.str nm), o3, some (.ref sR.length), o5, o6, o7, o8]
def mineBody : SM := (sE (mBM "list" lExtend (mV 4) (aC (mL (iSq (m2 dIx (mV 5) (mC (.int 2)))) (gN 3) tY (m2 dIx (mV 3) (mC (.int 0))) [3]) aN)))
theorem gl_le {rs : List RowA} (h : rs.length ≤ 4) (hg : ∀ r ∈ rs, r.gs.length ≤ 2) : (givesN rs).length ≤ 8 := by
  have : ∀ rs : List RowA, (∀ r ∈ rs, r.gs.length ≤ 2) → (givesN rs).length ≤ 2 * rs.length := by
    intro rs
    induction rs with
    | nil => simp [givesN]
    | cons r rs ih =>
      intro h
      have h1 := h r List.mem_cons_self
      have h2 := ih fun q hq => h q (List.mem_cons_of_mem _ hq)
      unfold givesN at h2 ⊢
      rw [List.flatMap_cons, List.length_append, List.length_cons]
      unfold gnames at h2 ⊢
      rw [List.length_map]
      omega
  have := this rs hg
  omega
theorem mine_step {sR s3 : Sto} {n ld j : Nat} {nm : Str} {rs : List RowA} {r : RowA} {e : Ev} (hr : rs[j]? = some r) (hl : rs.length ≤ 4) (hg : ∀ r ∈ rs, r.gs.length ≤ 2) (h : G2 sR n ld nm rs j e s3) : (mineBody (e.set 5 (some (rowD r))) s3).wp { nx := G2 sR n ld nm rs (j + 1), rt := fun _ _ => False } := by
  obtain ⟨ef, hz, o3, o5, o6, o7, o8, hm, rfl⟩ := h
  have g2 := hg r (List.mem_of_getElem? hr)
  have gt := gl_le (rs := rs.take j) (by rw [List.length_take]; omega) fun q hq => hg q (List.mem_of_mem_take hq)
  unfold mineBody
  simp [rowD]
  refine ⟨isTy_ml hm, ?_⟩
  refine wp_ne (lc_mapR (ks := []) (fun (d : D) (p : DefA) => d = defD p) (fun p => D.str p.1) AllR.of_map (it_tup (by simp)) bags_nil (by rw [size_line]; omega) fun d p s4 hp _ ef4 _ => ?_) ?_
  · subst hp
    refine ⟨_, rfl, ?_⟩
    simp [defD, Eff.refl]
  rintro _ s4 ⟨rfl, ef4, hlt4, hm4⟩
  have hmR := ef4.ml hm (by simp)
  rw [z_extend (k := 0), hmR, lstP_some, seqD_ref, lstAt_ml hm4, optP_some]
  have eg : r.gs.map (fun p => D.str p.1) = (gnames r).map D.str := by unfold gnames; rw [List.map_map]; rfl
  refine ⟨by simp only [List.length_map, size_line]; omega, (ef.trans ef4).set (Nat.le_refl _), by rw [List.length_set]; omega, _, _, _, _, _, ?_, rfl⟩
  have hlt : sR.length < s4.length := by omega
  rw [mlAt_set_self hlt, eg]
  unfold givesN
  rw [take_snoc hr, List.flatMap_append, List.map_append]
  simp
/-- the first loop: who gives what -/
structure G1 (s : Sto) (n : Nat) (kvs : List (D × D)) (L : DatA) (i : Nat) (e : Ev) (s2 : Sto) : Prop where
  ef : Eff [] (s.set n (.lck false kvs)) s2
  ex : ∃ kvs2 o2 o3 o4 o5 o6 o7 o8, s2[s.length]? = some (.dict false kvs2) ∧ KvN s2 kvs2 (giv (L.take i)) ∧ e = [some (.ref n), some (.ref s.length), o2, o3, o4, o5, o6, o7, o8]
def givBody : SM := (sC (sA 4 (mN fLst aN)) (sC (sF (iSq (m2 dGetD (mV 0) (mV 2))) (gN 5) mineBody) (sX xSetD (mV 1) (mV 2) (mV 4))))
theorem giv_step {s s2 : Sto} {n i : Nat} {kvs : List (D × D)} {L : DatA} {p : Str × List RowA} {e : Ev} (hd : s[n]? = some (.dict false kvs)) (hkv : KvR s kvs L) (g : Good L) (hp : L[i]? = some p) (h : G1 s n kvs L i e s2) : (givBody (e.set 2 (some (.str p.1))) s2).wp { nx := G1 s n kvs L (i + 1), rt := fun _ _ => False } := by
  obtain ⟨ef, kvs2, o2, o3, o4, o5, o6, o7, o8, hd2, hkv2, rfl⟩ := h
  have hn := (List.getElem?_eq_some_iff.mp hd).1
  have hlk : (s.set n (.lck false kvs))[n]? = some (.lck false kvs) := List.getElem?_set_self hn
  have hn2 := ef.get hlk (by simp)
  have hz2 := ef.le
  rw [List.length_set] at hz2
  have hlt2 : s.length < s2.length := (List.getElem?_eq_some_iff.mp hd2).1
  have hkvL : KvR (s.set n (.lck false kvs)) kvs L := hkv.keep fun l xs h => by
    rw [mlAt_set_ne (dict_noml hd h).symm]
    exact h
  have hil : i < L.length := (List.getElem?_eq_some_iff.mp hp).1
  have hkvi : kvs[i]? = some (kvs[i]'(by rw [hkv.1]; exact hil)) := List.getElem?_eq_getElem _
  generalize kvs[i]'(by rw [hkv.1]; exact hil) = kv at hkvi
  obtain ⟨hk1, l, hk2, hml⟩ := hkvL.2 i kv p hkvi hp
  obtain ⟨rl, rg⟩ := g.row p (List.mem_of_getElem? hp)
  unfold givBody
  rw [z_sCn]
  simp
  have ep : Eff [] (s.set n (.lck false kvs)) (s2 ++ [SO.lst []]) := ef.trans Eff.push
  have ep2 : Eff [] s2 (s2 ++ [SO.lst []]) := Eff.push
  have hm0 : mlAt (s2 ++ [SO.lst []]) s2.length = some [] := mlAt_push
  have hz0 : s2.length < (s2 ++ [SO.lst []]).length := by simp
  generalize s2 ++ [SO.lst []] = s3 at ep ep2 hm0 hz0 ⊢
  have hn3 := ep.get hlk (by simp)
  have hml3 := ep.ml hml (by simp)
  show nxt _ _ _ _
  rw [z_nxC]
  simp [keyD]
  rw [dctAt_lck hn3, optP_some, getK_at (i := i) (v := .ref l) hkv.keys g.nd (by rw [hkvi, ← hk1, ← hk2]), optP_some]
  simp
  rw [lstAt_ml hml3, lstP_some]
  refine for_it (ks := []) (s0 := s2) (xs := p.2.map rowD) (it_lst (lstAt_ml (ef.ml hml (by simp))) (by simp) rfl) (G2 s2 n s.length p.1 p.2) (fun _ _ _ h => h.ef) ?_ ⟨ep2, hz0, o3, o5, o6, o7, o8, by simpa [givesN] using hm0, rfl⟩ ?_
  · intro j rd e s4 hrj h4
    obtain ⟨r, hr, rfl⟩ : ∃ r, p.2[j]? = some r ∧ rd = rowD r := by
      rw [List.getElem?_map] at hrj
      obtain ⟨r, h1, h2⟩ := Option.map_eq_some_iff.mp hrj
      exact ⟨r, h1, h2.symm⟩
    exact ⟨_, rfl, RS.wp_mono (mine_step hr rl (fun q hq => (rg q hq).2.2.1) h4) (fun _ _ h => h) (fun _ _ h => h.elim) (fun _ _ h => h.elim) (fun _ _ h => h.elim) (fun _ _ _ _ _ h => h.elim)⟩
  · rintro e s4 ⟨ef4, hz4, o3, o5, o6, o7, o8, hm4, rfl⟩
    rw [List.length_map, List.take_length] at hm4
    have hd4 := ef4.get hd2 (by simp)
    have hkv4 := hkv2.eff ef4
    have hlen : kvs2.length ≤ 6 := by
      have := hkv2.1
      unfold giv at this
      rw [List.length_map, List.length_take] at this
      have := g.len
      omega
    show nxt _ _ _ _
    rw [z_nxt]
    simp [keyD, hd4]
    have hnames : (giv (L.take i)).map (·.1) = (L.map (·.1)).take i := by rw [giv_names, List.map_take]
    have hnot : p.1 ∉ (giv (L.take i)).map (·.1) := by
      rw [hnames]
      intro hm
      have e : (L.map (·.1))[i]? = some p.1 := by rw [List.getElem?_map, hp]; rfl
      have nd := g.nd
      rw [take_split1 e] at nd
      exact (List.nodup_append.mp nd).2.2 _ hm _ List.mem_cons_self rfl
    rw [putK_new hkv4.keys hnot]
    have hlt4 : s.length < s4.length := by omega
    have kp : ∀ l xs, mlAt s4 l = some xs → mlAt (s4.set s.length (.dict false (kvs2 ++ [(.str p.1, .ref s2.length)]))) l = some xs := fun l xs h => by
      rw [mlAt_set_ne (dict_noml hd4 h).symm]
      exact h
    refine ⟨by rw [size_line]; omega, (ef.trans ef4).set (by rw [List.length_set]; exact Nat.le_refl _), _, _, _, _, _, _, _, _, List.getElem?_set_self hlt4, ?_, rfl⟩
    have e : giv (L.take (i + 1)) = giv (L.take i) ++ [(p.1, givesN p.2)] := by
      unfold giv
      rw [take_snoc hp, List.map_append]
      rfl
    rw [e]
    exact (hkv4.keep kp).snoc (kp _ _ hm4)
end Z

set_option Elab.async false
set_option linter.all false
set_option maxRecDepth 100000
set_option maxHeartbeats 4000000
namespace Z
open PySem PySem.Spec PyProof.Rows L2 TL
open PySem.PyData (strOk)
def okPair (p q : Str × List RowA) : Bool := decide (p.1 = q.1) || (givesN q.2).all fun x => !decide (x ∈ givesN p.2 ++ askN p.2)
def okRow (L : DatA) (p : Str × List RowA) : Bool := L.all (okPair p)
def dueB (L : DatA) : Bool := L.all (okRow L)
theorem due_no {L : DatA} {p q : Str × List RowA} (hp : p ∈ L) (hq : q ∈ L) (h : okPair p q = false) : dueB L = false := by
  unfold dueB
  rw [List.all_eq_false]
  refine ⟨p, hp, ?_⟩
  rw [Bool.not_eq_true]
  unfold okRow
  rw [List.all_eq_false]
  exact ⟨q, hq, by rw [h]; exact Bool.false_ne_true⟩
theorem gives_ok {L : DatA} (g : Good L) {p : Str × List RowA} (hp : p ∈ L) : (∀ x ∈ givesN p.2, strOk x = true) ∧ (∀ x ∈ askN p.2, strOk x = true) ∧ (givesN p.2).length ≤ 8 ∧ (askN p.2).length ≤ 1000 ∧ (liveR p.2).length ≤ 4 := by
  obtain ⟨rl, rg⟩ := g.row p hp
  have lsub : ∀ r ∈ liveR p.2, r ∈ p.2 := fun r hr => by
    unfold liveR at hr
    obtain ⟨i, _, h⟩ := List.mem_filterMap.mp hr
    obtain ⟨m', h1, h2⟩ := Option.bind_eq_some_iff.mp h
    split at h2
    · cases h2
      exact List.mem_of_getElem? h1
    · cases h2
  have ll : (liveR p.2).length ≤ 4 := by
    unfold liveR
    refine Nat.le_trans (List.length_filterMap_le _ _) ?_
    rw [List.length_range]
    exact rl
  refine ⟨fun x hx => ?_, fun x hx => ?_, gl_le rl fun r hr => (rg r hr).2.2.1, ?_, ll⟩
  · obtain ⟨r, hr, hx⟩ := List.mem_flatMap.mp hx
    exact (rg r hr).1 x hx
  · obtain ⟨r, hr, hx⟩ := List.mem_flatMap.mp hx
    exact (rg r (lsub r hr)).2.1 x hx
  · have : ∀ rs : List RowA, (∀ r ∈ rs, r.ws.length ≤ 3) → (rs.flatMap (·.ws)).length ≤ 3 * rs.length := by
      intro rs
      induction rs with
      | nil => simp
      | cons r rs ih =>
        intro h
        have h1 := h r List.mem_cons_self
        have h2 := ih fun q hq => h q (List.mem_cons_of_mem _ hq)
        rw [List.flatMap_cons, List.length_append, List.length_cons]
        omega
    have := this (liveR p.2) fun r hr => (rg r (lsub r hr)).2.2.2
    unfold askN
    omega
structure G6 (sN : Sto) (n ld ln : Nat) (L : DatA) (p : Str × List RowA) (j : Nat) (e : Ev) (s : Sto) : Prop where
  ef : Eff [] sN s
  ok : ∀ q ∈ L.take j, okPair p q = true
  ex : ∃ o2 o4 o5 o6 o8, e = [some (.ref n), some (.ref ld), o2, some (.str p.1), o4, o5, o6, some (.ref ln), o8]
def pairBody : SM := (sI (bAnd (toB (m2 dNe (mV 3) (mV 8))) (toB (m2 dNe (mL (iSq (m2 dGetD (mV 1) (mV 8))) (gN 2) (toB (m2 (dInB false) (mV 2) (mV 7))) (mV 2) [2]) (mN fLst aN)))) (sR (mC (.bl false))) sN)
theorem pair_step {sN s : Sto} {n ld ln j : Nat} {L : DatA} {kvs2 : List (D × D)} {p q : Str × List RowA} {e : Ev} (g : Good L) (hp : p ∈ L) (hq : L[j]? = some q) (hd2 : sN[ld]? = some (.dict false kvs2)) (hkv2 : KvN sN kvs2 (giv L)) (hln : mlAt sN ln = some ((givesN p.2 ++ askN p.2).map D.str)) (h : G6 sN n ld ln L p j e s) :
    (pairBody (e.set 8 (some (.str q.1))) s).wp { nx := G6 sN n ld ln L p (j + 1), rt := fun d s' => d = .bl false ∧ dueB L = false ∧ Eff [] sN s' } := by
  obtain ⟨ef, ok, o2, o4, o5, o6, o8, rfl⟩ := h
  have hqm := List.mem_of_getElem? hq
  obtain ⟨p1, p2, p3, p4, _⟩ := gives_ok g hp
  obtain ⟨q1, q2, q3, q4, _⟩ := gives_ok g hqm
  have okn : (okPair p q = true) → ∀ r ∈ L.take (j + 1), okPair p r = true := fun h r hr => by
    rw [take_snoc hq] at hr
    rcases List.mem_append.mp hr with hr | hr
    · exact ok r hr
    · obtain rfl : r = q := by simpa using hr
      exact h
  unfold pairBody
  simp
  by_cases hpq : p.1 = q.1
  · rw [if_pos hpq]
    exact ⟨ef, okn (by unfold okPair; rw [decide_eq_true hpq]; rfl), _, _, _, _, _, rfl⟩
  · rw [if_neg hpq]
    have hd := ef.get hd2 (by simp)
    have hjl : j < kvs2.length := by
      rw [hkv2.1]
      unfold giv
      rw [List.length_map]
      exact (List.getElem?_eq_some_iff.mp hq).1
    have hkvi : kvs2[j]? = some kvs2[j] := List.getElem?_eq_getElem hjl
    generalize kvs2[j] = kv at hkvi
    have hgq : (giv L)[j]? = some (q.1, givesN q.2) := by unfold giv; rw [List.getElem?_map, hq]; rfl
    obtain ⟨hk1, l, hk2, hml⟩ := hkv2.2 j kv _ hkvi hgq
    have hml := ef.ml hml (by simp)
    have hln := ef.ml hln (by simp)
    rw [show keyD (.str q.1) = some (.inr q.1) from rfl, optP_some, dctAt_dict hd, optP_some, getK_at (i := j) (v := .ref l) hkv2.keys (by rw [giv_names]; exact g.nd) (by rw [hkvi, ← hk1, ← hk2]), optP_some]
    dsimp only
    rw [lstAt_ml hml, lstP_some]
    refine wp_ne (lc_filtR (ks := []) (fun (d : D) (x : Str) => d = .str x) (fun (y : D) (x : Str) => y = .str x) (fun x => decide (x ∈ givesN p.2 ++ askN p.2)) (as := givesN q.2) AllR.of_map (it_lst (lstAt_ml hml) (by simp) rfl) bags_nil (by rw [size_line]; omega) fun d x s3 hx hxm ef3 _ => ?_) ?_
    · subst hx
      refine ⟨_, rfl, ?_⟩
      simp
      rw [z_inStr (q1 x hxm) (ef3.lst (lstAt_ml hln) (by simp)) (fun y hy => (List.mem_append.mp hy).elim (p1 y) (p2 y))]
      simp [Eff.refl]
    rintro _ s3 ⟨rfl, ef3, hlt3, ys, hm3, hR⟩
    have hy := hR.eq_map
    subst hy
    have hlt : s.length < s3.length := hlt3
    classical
    rw [z_neL (xs := ((givesN q.2).filter fun x => decide (x ∈ givesN p.2 ++ askN p.2)).map D.str) (ys := []) (by rw [lstAt_app hlt]; exact lstAt_ml hm3) lstAt_push (plains_strs fun x hx => q1 x (List.mem_filter.mp hx).1) rfl]
    have ed : decide (((givesN q.2).filter fun x => decide (x ∈ givesN p.2 ++ askN p.2)).map D.str = []) = decide (((givesN q.2).filter fun x => decide (x ∈ givesN p.2 ++ askN p.2)) = []) := decide_eq_decide.mpr (by simp)
    rw [ed, blP_bl]
    have e5 : Eff [] sN (s3 ++ [SO.lst []]) := (ef.trans ef3).trans Eff.push
    by_cases hf : ((givesN q.2).filter fun x => decide (x ∈ givesN p.2 ++ askN p.2)) = []
    · have hok : okPair p q = true := by
        unfold okPair
        rw [Bool.or_eq_true]
        refine .inr (List.all_eq_true.mpr fun x hx => ?_)
        have := List.filter_eq_nil_iff.mp hf x hx
        simpa using this
      rw [decide_eq_true hf]
      simp
      exact ⟨e5, okn hok, _, _, _, _, _, rfl⟩
    · have hok : okPair p q = false := by
        unfold okPair
        rw [decide_eq_false hpq, Bool.false_or]
        obtain ⟨x, hx⟩ := List.exists_mem_of_ne_nil _ hf
        obtain ⟨h1, h2⟩ := List.mem_filter.mp hx
        exact List.all_eq_false.mpr ⟨x, h1, by rw [h2]; exact Bool.false_ne_true⟩
      rw [decide_eq_false hf]
      simp
      exact ⟨due_no hp hqm hok, e5⟩
structure G5 (sR : Sto) (n ld m : Nat) (nm : Str) (rs : List RowA) (j : Nat) (e : Ev) (s : Sto) : Prop where
  ef : Eff [] sR s
  hz : sR.length < s.length
  hm : mlAt s m = some ((liveR rs).map rowD)
  ex : ∃ o2 o4 o5 o7 o8, mlAt s sR.length = some ((((liveR rs).take j).flatMap (·.ws)).map D.str) ∧ e = [some (.ref n), some (.ref ld), o2, some (.str nm), o4, o5, some (.ref sR.length), o7, o8]
def askBody : SM := sE (mBM "list" lExtend (mV 6) (aC (m2 dIx (mV 5) (mC (.int 3))) aN))
theorem ask_step {sR s : Sto} {n ld m j : Nat} {nm : Str} {rs : List RowA} {r : RowA} {e : Ev} (hr : (liveR rs)[j]? = some r) (hne : m ≠ sR.length) (hl : (((liveR rs).take j).flatMap (·.ws)).length ≤ 1000) (hw : r.ws.length ≤ 3) (h : G5 sR n ld m nm rs j e s) : (askBody (e.set 5 (some (rowD r))) s).wp { nx := G5 sR n ld m nm rs (j + 1), rt := fun _ _ => False } := by
  obtain ⟨ef, hz, hm, o2, o4, o5, o7, o8, ha, rfl⟩ := h
  unfold askBody
  simp [rowD]
  refine ⟨isTy_ml ha, ?_⟩
  rw [z_extend (k := 0), ha, lstP_some, seqD_tup, optP_some]
  refine ⟨by simp only [List.length_map, size_line]; omega, ef.set (Nat.le_refl _), by rw [List.length_set]; omega, ?_, _, _, _, _, _, ?_, rfl⟩
  · rw [mlAt_set_ne (by omega)]
    exact hm
  · rw [mlAt_set_self hz, take_snoc hr, List.flatMap_append, List.map_append]
    simp
structure G3 (sL : Sto) (n ld : Nat) (L : DatA) (i : Nat) (e : Ev) (s : Sto) : Prop where
  ef : Eff [] sL s
  ok : ∀ p ∈ L.take i, okRow L p = true
  ex : ∃ o2 o3 o4 o5 o6 o7 o8, e = [some (.ref n), some (.ref ld), o2, o3, o4, o5, o6, o7, o8]
def dueBody : SM := (sC (sA 6 (mN fLst aN)) (sC (sF (iSq (mN m__law_live (aC (m2 dGetD (mV 0) (mV 3)) aN))) (gN 5) askBody) (sC (sA 7 (m2 dAdd (m2 dGetD (mV 1) (mV 3)) (mV 6))) (sLkA (mV 0) (sF (iKy jKey (mV 0)) (gN 8) pairBody)))))
theorem due_step {sL s : Sto} {n ld i : Nat} {L : DatA} {kvs kvs2 : List (D × D)} {p : Str × List RowA} {e : Ev} (g : Good L) (hp : L[i]? = some p) (hlk : sL[n]? = some (.lck false kvs)) (hkv : KvR sL kvs L) (hd2 : sL[ld]? = some (.dict false kvs2)) (hkv2 : KvN sL kvs2 (giv L)) (h : G3 sL n ld L i e s) :
    (dueBody (e.set 3 (some (.str p.1))) s).wp { nx := G3 sL n ld L (i + 1), rt := fun d s' => d = .bl false ∧ dueB L = false ∧ Eff [] sL s' } := by
  obtain ⟨ef, ok, o2, o3, o4, o5, o6, o7, o8, rfl⟩ := h
  have hpm := List.mem_of_getElem? hp
  obtain ⟨p1, p2, p3, p4, p5⟩ := gives_ok g hpm
  obtain ⟨rl, rg⟩ := g.row p hpm
  have lsub : ∀ r ∈ liveR p.2, r ∈ p.2 := fun r hr => by
    unfold liveR at hr
    obtain ⟨i, _, h⟩ := List.mem_filterMap.mp hr
    obtain ⟨m', h1, h2⟩ := Option.bind_eq_some_iff.mp h
    split at h2
    · cases h2
      exact List.mem_of_getElem? h1
    · cases h2
  have hil : i < L.length := (List.getElem?_eq_some_iff.mp hp).1
  have hkvi : kvs[i]? = some (kvs[i]'(by rw [hkv.1]; exact hil)) := List.getElem?_eq_getElem _
  generalize kvs[i]'(by rw [hkv.1]; exact hil) = kv at hkvi
  obtain ⟨hk1, l, hk2, hml⟩ := hkv.2 i kv p hkvi hp
  have hgp : (giv L)[i]? = some (p.1, givesN p.2) := by unfold giv; rw [List.getElem?_map, hp]; rfl
  have hkv2i : kvs2[i]? = some (kvs2[i]'(by rw [hkv2.1]; unfold giv; rw [List.length_map]; exact hil)) := List.getElem?_eq_getElem _
  generalize kvs2[i]'(by rw [hkv2.1]; unfold giv; rw [List.length_map]; exact hil) = kv2 at hkv2i
  obtain ⟨hj1, l2, hj2, hml2⟩ := hkv2.2 i kv2 _ hkv2i hgp
  unfold dueBody
  rw [z_sCn]
  simp
  have ep : Eff [] s (s ++ [SO.lst []]) := Eff.push
  have hm0 : mlAt (s ++ [SO.lst []]) s.length = some [] := mlAt_push
  have hz0 : (s ++ [SO.lst []]).length = s.length + 1 := by simp
  generalize s ++ [SO.lst []] = s0 at ep hm0 hz0 ⊢
  have e0 := ef.trans ep
  have hn0 := e0.get hlk (by simp)
  have hml0 := e0.ml hml (by simp)
  show nxt _ _ _ _
  rw [z_nxC]
  simp [-z_iSq]
  rw [z_iSq]
  simp
  rw [show keyD (.str p.1) = some (.inr p.1) from rfl, optP_some, dctAt_lck hn0, optP_some, getK_at (i := i) (v := .ref l) hkv.keys g.nd (by rw [hkvi, ← hk1, ← hk2]), optP_some]
  refine wp_ne (rlive_wp hml0 (fun r hr => (rg r hr).1) rl (fun r hr => (rg r hr).2.2.1)) ?_
  rintro _ s1 ⟨ef1, m, rfl, hm1, hml1⟩
  have hmR := ef1.ml hm0 (by simp)
  have hz1 := ef1.le
  dsimp only
  rw [lstAt_ml hml1, lstP_some]
  refine for_j (xs := (liveR p.2).map rowD) rfl (G5 s n ld m p.1 p.2) (fun i e s3 h => jlst_at (lstAt_ml h.hm)) ?_ ⟨ep.trans ef1, by omega, hml1, o2, o4, o5, o7, o8, by simpa using hmR, rfl⟩ ?_
  · intro j rd e s4 hrj h4
    obtain ⟨r, hr, rfl⟩ : ∃ r, (liveR p.2)[j]? = some r ∧ rd = rowD r := by
      rw [List.getElem?_map] at hrj
      obtain ⟨r, h1, h2⟩ := Option.map_eq_some_iff.mp hrj
      exact ⟨r, h1, h2.symm⟩
    have lt : (((liveR p.2).take j).flatMap (·.ws)).length ≤ 1000 := Nat.le_trans flat_take p4
    exact ⟨_, rfl, RS.wp_mono (ask_step hr (by omega) lt (rg r (lsub r (List.mem_of_getElem? hr))).2.2.2 h4) (fun _ _ h => h) (fun _ _ h => h.elim) (fun _ _ h => h.elim) (fun _ _ h => h.elim) (fun _ _ _ _ _ h => h.elim)⟩
  · rintro e s2 ⟨ef2, hz2, hm2, o2, o4, o5, o7, o8, ha2, rfl⟩
    rw [List.length_map, List.take_length] at ha2
    have ha2 : mlAt s2 s.length = some ((askN p.2).map D.str) := ha2
    have e2 := ef.trans ef2
    have hd := e2.get hd2 (by simp)
    have hml2 := e2.ml hml2 (by simp)
    have hn2 := e2.get hlk (by simp)
    dsimp only
    rw [z_nxC]
    simp
    rw [show keyD (.str p.1) = some (.inr p.1) from rfl, optP_some, dctAt_dict hd, optP_some, getK_at (i := i) (v := .ref l2) hkv2.keys (by rw [giv_names]; exact g.nd) (by rw [hkv2i, ← hj1, ← hj2]), optP_some]
    rw [z_addL, hml2, lstP_some, ha2, lstP_some]
    refine ⟨by simp only [List.length_map, size_line]; omega, ?_⟩
    have em : (givesN p.2).map D.str ++ (askN p.2).map D.str = (givesN p.2 ++ askN p.2).map D.str := by rw [List.map_append]
    rw [em]
    have e3 : Eff [] sL (s2 ++ [SO.lst ((givesN p.2 ++ askN p.2).map D.str)]) := e2.trans Eff.push
    have hln : mlAt (s2 ++ [SO.lst ((givesN p.2 ++ askN p.2).map D.str)]) s2.length = some ((givesN p.2 ++ askN p.2).map D.str) := mlAt_push
    generalize s2 ++ [SO.lst ((givesN p.2 ++ askN p.2).map D.str)] = s3 at e3 hln ⊢
    have hn3 := e3.get hlk (by simp)
    rw [z_nxt, z_sLkL (n := n) rfl hn3]
    simp
    rw [hn3, lckP_some]
    refine for_it (ks := []) (s0 := s3) (xs := kvs.map (·.1)) (it_key hn3 (by simp)) (G6 s3 n ld s2.length L p) (fun _ _ _ h => h.ef) ?_ ⟨Eff.refl, by simp, _, _, _, _, _, rfl⟩ ?_
    · intro j x e s4 hxj h6
      rw [hkv.keys, List.getElem?_map, List.getElem?_map] at hxj
      obtain ⟨q, hq, rfl⟩ : ∃ q, L[j]? = some q ∧ x = .str q.1 := by
        cases hq : L[j]? with
        | none => rw [hq] at hxj; simp at hxj
        | some q =>
          rw [hq] at hxj
          exact ⟨q, rfl, by simpa using hxj.symm⟩
      refine ⟨_, rfl, RS.wp_mono (pair_step g hpm hq (e3.get hd2 (by simp)) (hkv2.eff e3) hln h6) (fun _ _ h => h) (fun d s' h => ⟨h.1, h.2.1, e3.trans h.2.2⟩) (fun _ _ h => h.elim) (fun _ _ h => h.elim) (fun _ _ _ _ _ h => h.elim)⟩
    · rintro e s4 ⟨ef4, ok4, o2, o4, o5, o6, o8, rfl⟩
      rw [List.length_map, hkv.1, List.take_length] at ok4
      refine ⟨e3.trans ef4, fun q hq => ?_, _, _, _, _, _, _, _, rfl⟩
      rw [take_snoc hp] at hq
      rcases List.mem_append.mp hq with hq | hq
      · exact ok q hq
      · obtain rfl : q = p := by simpa using hq
        exact List.all_eq_true.mpr ok4
end Z

set_option Elab.async false
set_option linter.all false
set_option maxRecDepth 100000
set_option maxHeartbeats 4000000
namespace Z
open PySem PySem.Spec PyProof.Rows L2 TL
open PySem.PyData (strOk)
theorem lck_noml {s : Sto} {n l : Nat} {kvs : List (D × D)} {xs : List D} (h : s[n]? = some (.lck false kvs)) (hl : mlAt s l = some xs) : l ≠ n := by
  rintro rfl
  rw [mlAt_get hl] at h
  cases h
theorem key_item {s : Sto} {kvs : List (D × D)} {L : DatA} {i : Nat} {x : D} (hkv : KvR s kvs L) (h : (kvs.map (·.1))[i]? = some x) : ∃ p, L[i]? = some p ∧ x = .str p.1 := by
  rw [hkv.keys, List.getElem?_map, List.getElem?_map] at h
  cases hq : L[i]? with
  | none => rw [hq] at h; simp at h
  | some q =>
    rw [hq] at h
    exact ⟨q, rfl, by simpa using h.symm⟩
theorem due_wp {s : Sto} {n : Nat} {kvs : List (D × D)} {L : DatA} (h : DataIs s n kvs L) : (m__law_due [.ref n] s).wp fun d s' => Eff [] s s' ∧ d = .bl (dueB L) := by
  refine wp_of fun P hP => ?_
  have g := h.good2
  obtain ⟨hd, hkv, -, -⟩ := h
  have hn := (List.getElem?_eq_some_iff.mp hd).1
  unfold m__law_due
  rw [z_fnM (by rfl)]
  show (sC (sA 1 mDN) (sC (sLkA (mV 0) (sF (iKy jKey (mV 0)) (gN 2) givBody)) (sC (sLkA (mV 0) (sF (iKy jKey (mV 0)) (gN 3) dueBody)) (sR (mC (.bl true))))) [some (.ref n), none, none, none, none, none, none, none, none] s).wp _
  rw [z_sCn]
  simp
  show nxt _ _ _ _
  rw [z_nxC]
  rw [z_sLkA (n := n) (kvs := kvs) rfl (by rw [List.getElem?_append_left hn]; exact hd)]
  have es : (s ++ [SO.dict false []]).set n (.lck false kvs) = s.set n (.lck false kvs) ++ [SO.dict false []] := by rw [List.set_append, if_pos hn]
  rw [es]
  have hlk : (s.set n (.lck false kvs))[n]? = some (.lck false kvs) := List.getElem?_set_self hn
  have hlk1 : (s.set n (.lck false kvs) ++ [SO.dict false []])[n]? = some (.lck false kvs) := by rw [List.getElem?_append_left (by rw [List.length_set]; exact hn)]; exact hlk
  have hz : (s.set n (.lck false kvs)).length = s.length := by rw [List.length_set]
  simp
  rw [hlk1, lckP_some]
  refine for_it (ks := []) (s0 := s.set n (.lck false kvs)) (xs := kvs.map (·.1)) (it_key hlk (by simp)) (G1 s n kvs L) (fun _ _ _ h => h.ef) ?_ ⟨Eff.push, [], none, none, none, none, none, none, none, by rw [List.getElem?_append_right (by omega)]; simp, ⟨rfl, fun i kv p h => by simp at h⟩, rfl⟩ ?_
  · intro i x e s2 hxi h1
    obtain ⟨p, hp, rfl⟩ := key_item hkv hxi
    exact ⟨_, rfl, RS.wp_mono (giv_step hd hkv g hp h1) (fun _ _ h => h) (fun _ _ h => h.elim) (fun _ _ h => h.elim) (fun _ _ h => h.elim) (fun _ _ _ _ _ h => h.elim)⟩
  · rintro e s2 ⟨ef2, kvs2, o2, o3, o4, o5, o6, o7, o8, hd2, hkv2, rfl⟩
    rw [List.length_map, hkv.1, List.take_length] at hkv2
    have hn2 := ef2.get hlk (by simp)
    dsimp only
    rw [unl_of hn2]
    have ef3 : Eff [] s (s2.set n (.dict false kvs)) := Eff.unlock hd (by simp) ef2
    have hne : n ≠ s.length := by omega
    have hlt2 := ef2.le
    have hd3 : (s2.set n (.dict false kvs))[s.length]? = some (.dict false kvs2) := by rw [List.getElem?_set_ne hne]; exact hd2
    have hkv3 : KvN (s2.set n (.dict false kvs)) kvs2 (giv L) := hkv2.keep fun l xs h => by
      rw [mlAt_set_ne (lck_noml hn2 h).symm]
      exact h
    have hn3 : (s2.set n (.dict false kvs))[n]? = some (.dict false kvs) := List.getElem?_set_self (by omega)
    generalize s2.set n (.dict false kvs) = s3 at ef3 hd3 hkv3 hn3 ⊢
    have hkvR := hkv.eff ef3 bags_nil
    have hn3l := (List.getElem?_eq_some_iff.mp hn3).1
    rw [z_nxC]
    rw [z_sLkA (n := n) (kvs := kvs) rfl hn3]
    have hlk3 : (s3.set n (.lck false kvs))[n]? = some (.lck false kvs) := List.getElem?_set_self hn3l
    have hkvL : KvR (s3.set n (.lck false kvs)) kvs L := hkvR.keep fun l xs h => by
      rw [mlAt_set_ne (dict_noml hn3 h).symm]
      exact h
    have hkvN : KvN (s3.set n (.lck false kvs)) kvs2 (giv L) := hkv3.keep fun l xs h => by
      rw [mlAt_set_ne (dict_noml hn3 h).symm]
      exact h
    have hd4 : (s3.set n (.lck false kvs))[s.length]? = some (.dict false kvs2) := by rw [List.getElem?_set_ne hne]; exact hd3
    have fin : ∀ s5, Eff [] (s3.set n (.lck false kvs)) s5 → s5[n]? = some (.lck false kvs) ∧ Eff [] s (s5.set n (.dict false kvs)) := fun s5 e => ⟨e.get hlk3 (by simp), ef3.trans (Eff.unlock hn3 (by simp) e)⟩
    simp
    rw [hlk3, lckP_some]
    refine for_it (ks := []) (s0 := s3.set n (.lck false kvs)) (xs := kvs.map (·.1)) (it_key hlk3 (by simp)) (G3 (s3.set n (.lck false kvs)) n s.length L) (fun _ _ _ h => h.ef) ?_ ⟨Eff.refl, by simp, _, _, _, _, _, _, _, rfl⟩ ?_
    · intro i x e s4 hxi h3
      obtain ⟨p, hp, rfl⟩ := key_item hkvL hxi
      refine ⟨_, rfl, RS.wp_mono (due_step g hp hlk3 hkvL hd4 hkvN h3) (fun _ _ h => h) (fun d s5 h => ?_) (fun _ _ h => h.elim) (fun _ _ h => h.elim) (fun _ _ _ _ _ h => h.elim)⟩
      obtain ⟨rfl, h5, h6⟩ := h
      obtain ⟨f1, f2⟩ := fin s5 h6
      dsimp only
      rw [unl_of f1]
      exact hP _ _ ⟨f2, by rw [h5]⟩
    · rintro e s5 ⟨ef5, ok5, o2, o3, o4, o5, o6, o7, o8, rfl⟩
      rw [List.length_map, hkv.1, List.take_length] at ok5
      obtain ⟨f1, f2⟩ := fin s5 ef5
      dsimp only
      rw [unl_of f1, z_nxt]
      simp
      exact hP _ _ ⟨f2, by rw [show dueB L = true from List.all_eq_true.mpr ok5]⟩
end Z

set_option Elab.async false
set_option linter.all false
set_option maxRecDepth 100000
set_option maxHeartbeats 4000000
namespace Z
open PySem PySem.Spec PyProof.Rows L2 TL
open PySem.PyData (strOk)
theorem dn_mem {p : Str × List RowA} {x : Str} : x ∈ dnA (arcOf p) ↔ x ∈ givesN p.2 := gn_flat
theorem lw_mem {p : Str × List RowA} {x : Str} : x ∈ lwA (arcOf p) ↔ x ∈ askN p.2 := by
  unfold lwA askN arcOf
  rw [live_map]
  simp only [List.mem_flatMap, List.mem_map]
  constructor
  · rintro ⟨_, ⟨r, hr, rfl⟩, hx⟩
    exact ⟨r, hr, (sortS_perm r.ws).mem_iff.mp hx⟩
  · rintro ⟨r, hr, hx⟩
    exact ⟨_, ⟨r, hr, rfl⟩, (sortS_perm r.ws).mem_iff.mpr hx⟩
theorem free_iff {p q : Str × List RowA} : freeB (arcOf p) (arcOf q) = true ↔ (∀ x, x ∈ givesN p.2 ∨ x ∈ askN p.2 → x ∉ givesN q.2) ∧ (∀ x ∈ askN q.2, x ∉ givesN p.2) := by
  unfold freeB
  rw [Bool.and_eq_true, Bool.not_eq_true', Bool.not_eq_true', List.any_eq_false, List.any_eq_false]
  simp only [decide_eq_true_eq, List.mem_append, dn_mem, lw_mem]
theorem due_iff {L : DatA} : dueB L = true ↔ ∀ p ∈ L, ∀ q ∈ L, p.1 = q.1 ∨ ∀ x ∈ givesN q.2, x ∉ givesN p.2 ∧ x ∉ askN p.2 := by
  unfold dueB okRow okPair
  simp only [List.all_eq_true, Bool.or_eq_true, decide_eq_true_eq, Bool.not_eq_true', decide_eq_false_iff_not, List.mem_append, not_or]
theorem isfree_iff {as : List ArcA} : isFreeB as = true ↔ ∀ a ∈ as, ∀ b ∈ as, ltN a b = true → freeB a b = true := by
  unfold isFreeB freeRow
  rw [List.all_eq_true]
  constructor
  · intro h a ha b hb hl
    exact h _ (List.mem_flatMap.mpr ⟨a, ha, List.mem_map.mpr ⟨b, List.mem_filter.mpr ⟨hb, hl⟩, rfl⟩⟩)
  · intro h x hx
    obtain ⟨a, ha, hx⟩ := List.mem_flatMap.mp hx
    obtain ⟨b, hb, rfl⟩ := List.mem_map.mp hx
    obtain ⟨hb1, hb2⟩ := List.mem_filter.mp hb
    exact h a ha b hb1 hb2
theorem lt_or {x y : Str} (h : x ≠ y) : x.cps.toList < y.cps.toList ∨ y.cps.toList < x.cps.toList := by
  by_cases h1 : x.cps.toList < y.cps.toList
  · exact .inl h1
  · by_cases h2 : y.cps.toList < x.cps.toList
    · exact .inr h2
    · exact absurd (ext_tl (List.le_antisymm (show tl x ≤ tl y from h2) (show tl y ≤ tl x from h1))) h
theorem free_due (L : DatA) : isFreeB (L.map arcOf) = dueB L := by
  rw [Bool.eq_iff_iff, isfree_iff, due_iff]
  constructor
  · intro h p hp q hq
    by_cases e : p.1 = q.1
    · exact .inl e
    · refine .inr fun x hx => ?_
      rcases lt_or e with hl | hl
      · have := free_iff.mp (h _ (List.mem_map_of_mem hp) _ (List.mem_map_of_mem hq) (decide_eq_true hl))
        exact ⟨fun hy => this.1 x (.inl hy) hx, fun hy => this.1 x (.inr hy) hx⟩
      · have := free_iff.mp (h _ (List.mem_map_of_mem hq) _ (List.mem_map_of_mem hp) (decide_eq_true hl))
        exact ⟨fun hy => this.1 x (.inl hx) hy, fun hy => this.2 x hy hx⟩
  · intro h a ha b hb hl
    obtain ⟨p, hp, rfl⟩ := List.mem_map.mp ha
    obtain ⟨q, hq, rfl⟩ := List.mem_map.mp hb
    have hl : p.1.cps.toList < q.1.cps.toList := of_decide_eq_true hl
    have e : p.1 ≠ q.1 := fun e => by
      rw [e] at hl
      exact List.lt_irrefl _ hl
    rw [free_iff]
    rcases h p hp q hq with h1 | h1
    · exact absurd h1 e
    · rcases h q hq p hp with h2 | h2
      · exact absurd h2.symm e
      · exact ⟨fun x hx hy => hx.elim (h1 x hy).1 (h1 x hy).2, fun x hx hy => (h2 x hy).2 hx⟩
theorem flat_bound {α β : Type} {f : α → List β} {c : Nat} : ∀ {l : List α}, (∀ a ∈ l, (f a).length ≤ c) → (l.flatMap f).length ≤ l.length * c
  | [], _ => by simp
  | a :: l, h => by
    have h1 := h a List.mem_cons_self
    have h2 := flat_bound (l := l) fun q hq => h q (List.mem_cons_of_mem _ hq)
    rw [List.flatMap_cons, List.length_append, List.length_cons, Nat.add_mul, Nat.one_mul]
    omega
theorem DataIs.okA {s : Sto} {n : Nat} {kvs : List (D × D)} {L : DatA} (h : DataIs s n kvs L) : ∀ a ∈ L.map arcOf, OkA a := by
  have g := h.good2
  obtain ⟨-, -, ⟨b, hdg⟩, -⟩ := h
  obtain ⟨-, -, -, -, -, h6⟩ := hdg.info
  intro a ha
  obtain ⟨p, hp, rfl⟩ := List.mem_map.mp ha
  obtain ⟨b0, _, _, hr⟩ := h6 p hp
  have ga := hr.goodA (g.nm p hp)
  obtain ⟨rl, rg⟩ := g.row p hp
  obtain ⟨_, _, _, _, ll⟩ := gives_ok g hp
  have lsub : ∀ r ∈ liveR p.2, r ∈ p.2 := fun r hr => by
    unfold liveR at hr
    obtain ⟨i, _, h⟩ := List.mem_filterMap.mp hr
    obtain ⟨m', h1, h2⟩ := Option.bind_eq_some_iff.mp h
    split at h2
    · cases h2
      exact List.mem_of_getElem? h1
    · cases h2
  refine ⟨ga.nm, ga.names, ga.nd, fun m hm q hq => ?_, fun m hm w hw => ?_, ?_, ?_, ?_⟩
  · obtain ⟨r, hr, rfl⟩ := List.mem_map.mp hm
    exact (rg r hr).1 _ (List.mem_map_of_mem ((sortP_perm r.gs).mem_iff.mp hq))
  · obtain ⟨r, hr, rfl⟩ := List.mem_map.mp hm
    exact (rg r hr).2.1 _ ((sortS_perm r.ws).mem_iff.mp hw)
  · have := flat_bound (f := dnames) (c := 2) (l := (arcOf p).mems) fun m hm => by
      obtain ⟨r, hr, rfl⟩ := List.mem_map.mp hm
      unfold dnames memOf
      rw [List.length_map, (sortP_perm r.gs).length_eq]
      exact (rg r hr).2.2.1
    have e : (arcOf p).mems.length = p.2.length := List.length_map _
    omega
  · have e : (arcOf p).mems.length = p.2.length := List.length_map _
    omega
  · show ((liveA (p.2.map memOf)).flatMap (·.wants)).length ≤ 2000
    rw [live_map]
    have := flat_bound (f := fun m : MemA => m.wants) (c := 3) (l := (liveR p.2).map memOf) fun m hm => by
      obtain ⟨r, hr, rfl⟩ := List.mem_map.mp hm
      show (sortS r.ws).length ≤ 3
      rw [(sortS_perm r.ws).length_eq]
      exact (rg r (lsub r hr)).2.2.2
    rw [List.length_map] at this
    omega
/-! ### is_free in this row -/
theorem cont_a {s : Sto} {d : D} {x : Str} {a : ArcA} (ha : IsArc s d a) (hx : strOk x = true) (ho : ∀ m ∈ a.mems, strOk m.name = true) (hl : a.mems.length ≤ 1000) : (m_Archive___contains__ [d, .str x] s).wp fun d' s' => d' = .bl (decide (x ∈ a.mems.map (·.name))) ∧ Eff [] s s' :=
  cont_arc (cs := ["Archive"]) (csI := ["Member"]) (by decide) (by decide) ha hx ho hl
theorem get_ok : GetOk m_Archive___getitem__ := fun {s d a m} ha ok hm =>
  get_arc (cs := ["Archive"]) (csI := ["Member"]) (tb := tb___contains___Archive) (F := m_Archive___contains__) (by decide) (by decide) rfl (cont_a ha (ok.mem m hm).ok (fun m hm => (ok.mem m hm).ok) ok.l2) ha hm ok.nd ok.l2
theorem live_ok : LiveOk m_Archive_live := fun ha ok => live_gen (csA := ["Archive"]) (csM := ["Member"]) (csN := ["Member"]) (by decide) (by decide) (by decide) ha ok.defs ok.l1 ok.l2
theorem defn_ok : NamesOfOk m_defined_names dnA := fun ha ok => defn_gen (itb := itb_Archive) (csM := ["Member"]) (by decide) rfl ha ok
theorem livew_ok : NamesOfOk m_live_wants lwA := fun ha ok => livew_gen (tbL := tb_live_Archive) (tbG := tb___getitem___Archive) (csM := ["Member"]) (by decide) rfl rfl live_ok get_ok ha ok
theorem arefree_ok : AreFreeOk m_are_free := fun ha hb oa ob => arefree_gen defn_ok livew_ok ha hb oa ob
theorem isfree_ok {s : Sto} {d : D} {as : List ArcA} (hs : IsSto s d as) (ok : ∀ a ∈ as, OkA a) (hl : as.length ≤ 100) : (m_is_free [d] s).wp fun d' s' => Eff [] s s' ∧ d' = .bl (isFreeB as) :=
  isfree_gen (itb := itb_Store) (cs := ["Archive"]) (by decide) rfl arefree_ok hs ok hl
end Z

set_option Elab.async false
set_option linter.all false
set_option maxRecDepth 100000
set_option maxHeartbeats 4000000
namespace Z
open PySem PySem.Spec PyProof.Rows L2 TL
open PySem.PyData (strOk)
theorem shp_bl {s : Sto} {q : Bool} : shp s (.bl q) = some (.bool q) := by
  refine shp_of (by rw [pyd]) ?_
  cases q <;> decide +kernel
theorem z_neB {P : D → Sto → Prop} {E : Str → Str → D → Sto → Prop} {s : Sto} {q : Bool} : (dNe (.bl q) (.bl q) s).wp P E = P (.bl false) s := by
  rw [z_ne shp_bl shp_bl]
  have : PyData.eqv (.bool q) (.bool q) = true := by cases q <;> decide +kernel
  rw [this]
  rfl
theorem kit_bb : kitB "bool" "bool" = some true := by rfl
theorem isi_bb {P : D → Sto → Prop} {E : Str → Str → D → Sto → Prop} {s : Sto} {e : Ev} {i : Nat} {x : Bool} (h : e[i]? = some (some (.bl x))) (hP : P (.bl true) s) : (mIsi "bool" (mV i) e s).wp P E := by
  rw [z_isi, z_mV, h, slotP_some]
  exact ⟨"bool", true, rfl, kit_bb, hP⟩
theorem Eff.drop {s t u : Sto} {k : Nat} (h : Eff [] s t) (h2 : Eff [k] t u) (hk : s.length ≤ k) : Eff [] s u :=
  ⟨Nat.le_trans h.le h2.le, fun i hi _ => (h2.eq i (Nat.lt_of_lt_of_le hi h.le) (by simp; omega)).trans (h.eq i hi (by simp)), fun k hk => by simp at hk⟩
def turnBody : SM := (sC (sA 4 (mN m__law_drawn (aC (mV 2) aN))) (sC (sA 5 (mN m_is_free (aC (mN m__law_store (aC (mV 4) aN)) aN))) (sI (bOr (bNot (toT (mIsi "bool" (mV 5)))) (toB (m2 dNe (mV 5) (mN m__law_due (aC (mV 4) aN))))) (sR (mC (.bl false))) sN)))
structure TInv (sB : Sto) (k : Nat) (i : Nat) (e : Ev) (s : Sto) : Prop where
  ef : Eff [k] sB s
  ex : ∃ o1 o3 o4 o5, e = [some (.ref 0), o1, some (.ref k), o3, o4, o5]
theorem turn_step {sB s : Sto} {k i : Nat} {d : D} {e : Ev} (hb : Bag sB k) (h : TInv sB k i e s) : (turnBody (e.set 3 (some d)) s).wp { nx := TInv sB k (i + 1), rt := fun _ _ => False } := by
  obtain ⟨ef, o1, o3, o4, o5, rfl⟩ := h
  unfold turnBody
  rw [z_sCn]
  simp
  refine wp_ne (drawn_wp (ef.bag k (by simp) hb)) ?_
  rintro _ s1 ⟨ef1, n, kvs, L, rfl, hD⟩
  have e1 := ef.trans ef1
  show nxt _ _ _ _
  rw [z_nxC]
  simp
  refine wp_ne (store_wp hD) ?_
  rintro ds s2 ⟨ef2, hS⟩
  have hL := hD.good2.len
  refine wp_ne (isfree_ok hS hD.okA (by rw [List.length_map]; omega)) ?_
  rintro _ s3 ⟨ef3, rfl⟩
  have e3 := (e1.trans ef2.nil).trans ef3.nil
  show nxt _ _ _ _
  rw [z_nxt]
  simp
  refine isi_bb rfl ?_
  simp
  have ef23 := ef2.trans ef3
  have hD3 : DataIs s3 n kvs L := ⟨ef23.get hD.dict (by simp), hD.rel.eff ef23 bags_nil, hD.good, hD.names⟩
  refine wp_ne (due_wp hD3) ?_
  rintro _ s4 ⟨ef4, rfl⟩
  rw [free_due, z_neB]
  simp
  exact ⟨e3.trans ef4.nil, _, _, _, _, rfl⟩
structure LawI (s0 : Sto) (i : Nat) (e : Ev) (s : Sto) : Prop where
  ef : Eff [] s0 s
  ex : ∃ o1 o2 o3 o4 o5, e = [some (.ref 0), o1, o2, o3, o4, o5]
theorem plain_law (ns : List Int) (h : ns.length ≤ 63) : ∃ s', m_law [.ref 0] [.frz (ns.map D.int)] = .ok (.bl true) s' := by
  refine ok_of_wp ?_
  refine wp_of fun P hP => ?_
  have hns : lstAt [SO.frz (ns.map D.int)] 0 = some (ns.map D.int) := lstAt_frz rfl
  unfold m_law
  rw [z_fnM (by rfl)]
  show (sC (sF (iR1 (aC (mN fMax2 (aC (mC (.int 1)) (aC (mN fMin2 (aC (mC (.int 5)) (aC (mN fLen (aC (mV 0) aN)) aN))) aN))) aN)) (gN 1) (sC (sA 2 (mN m__law_bag (aC (mV 0) (aC (mV 1) aN)))) (sF (iR1 (aC (mC (.int 4)) aN)) (gN 3) turnBody))) (sR (mN m_is_free (aC (mN (mkD "Store" m_Store___init__) aN) aN))) [some (.ref 0), none, none, none, none, none] [SO.frz (ns.map D.int)]).wp _
  rw [z_sCn]
  simp [hns]
  obtain ⟨N, hN, hN2⟩ : ∃ N : Nat, (if (1 : Int) < (if (ns.length : Int) < 5 then (ns.length : Int) else 5) then (if (ns.length : Int) < 5 then (ns.length : Int) else 5) else 1) = N ∧ N ≤ 5 := by
    by_cases h5 : (ns.length : Int) < 5
    · rw [if_pos h5]
      by_cases h1 : (1 : Int) < ns.length
      · rw [if_pos h1]; exact ⟨ns.length, rfl, by omega⟩
      · rw [if_neg h1]; exact ⟨1, rfl, by omega⟩
    · rw [if_neg h5]
      exact ⟨5, rfl, by omega⟩
  rw [hN]
  refine ⟨by omega, ?_⟩
  rw [Int.toNat_natCast]
  refine for_it (ks := []) (s0 := [SO.frz (ns.map D.int)]) (xs := rngD 0 N) it_rng (LawI [SO.frz (ns.map D.int)]) (fun _ _ _ h => h.ef) ?_ ⟨Eff.refl, _, _, _, _, _, rfl⟩ ?_
  · rintro i d e s hdi ⟨ef, o1, o2, o3, o4, o5, rfl⟩
    obtain ⟨hi, rfl⟩ := rngD_get hdi
    rw [Int.zero_add]
    refine ⟨_, rfl, ?_⟩
    rw [z_sCn]
    simp
    refine wp_ne (bag_ok (ef.lst hns (by simp))) ?_
    rintro _ s1 ⟨k, rfl, hk, hb, ef1⟩
    show nxt _ _ _ _
    rw [z_nxt]
    simp
    refine for_it (ks := [k]) (s0 := s1) (xs := rngD 0 4) it_rng (TInv s1 k) (fun _ _ _ h => h.ef) ?_ ⟨Eff.refl, _, _, _, _, rfl⟩ ?_
    · intro j d e s2 hdj h2
      exact ⟨_, rfl, RS.wp_mono (turn_step hb h2) (fun _ _ h => h) (fun _ _ h => h.elim) (fun _ _ h => h.elim) (fun _ _ h => h.elim) (fun _ _ _ _ _ h => h.elim)⟩
    · rintro e s2 ⟨ef2, o1, o3, o4, o5, rfl⟩
      exact ⟨ef.trans (ef1.drop ef2 hk), _, _, _, _, _, rfl⟩
  · rintro e s ⟨ef, o1, o2, o3, o4, o5, rfl⟩
    show nxt _ _ _ _
    rw [z_nxt]
    simp [-z_mkD]
    have g0 : GoodS [] := ⟨by simp, by simp, by simp [kS], by simp [kS], by simp [kS], by simp⟩
    refine wp_ne (store_ok g0 AllR.nil) ?_
    rintro d1 s1 ⟨hs1, ef1⟩
    refine wp_ne (isfree_ok hs1 (by simp) (by simp)) ?_
    rintro _ s2 ⟨ef2, rfl⟩
    exact hP _ _ rfl
end Z

namespace Z
open PySem PySem.Spec PyProof.Rows L2
def top (i : Nat) : Stmt := PySem.Challenge.pw_lineoflibraries_k40_stores_that_are_free.main.body.getD i (.Pass ⟨0, 0, 0, 0⟩)
def clsBody : Stmt → List Stmt
  | .ClassDef _ _ _ b _ _ _ _ _ _ _ => b
  | _ => []
def mth (i j : Nat) : Stmt := (clsBody (top i)).getD j (.Pass ⟨0, 0, 0, 0⟩)
def fn0 : List He.DefD := [⟨("twice_in", none), "twice_in", "twice_in", defArgs (top 22), defBody (top 22), defScope (top 22), [], []⟩,
  ⟨("Store", some "__init__"), "__init__", "Store.__init__", defArgs (mth 25 0), defBody (mth 25 0), defScope (mth 25 0), [], []⟩,
  ⟨("_law_bag", none), "_law_bag", "_law_bag", defArgs (top 33), defBody (top 33), defScope (top 33), [], []⟩,
  ⟨("_law_take", none), "_law_take", "_law_take", defArgs (top 34), defBody (top 34), defScope (top 34), [], []⟩,
  ⟨("_law_of", none), "_law_of", "_law_of", defArgs (top 35), defBody (top 35), defScope (top 35), [], []⟩,
  ⟨("_law_member", none), "_law_member", "_law_member", defArgs (top 36), defBody (top 36), defScope (top 36), [], []⟩,
  ⟨("_law_drawn", none), "_law_drawn", "_law_drawn", defArgs (top 41), defBody (top 41), defScope (top 41), [], []⟩,
  ⟨("_law_live", none), "_law_live", "_law_live", defArgs (top 39), defBody (top 39), defScope (top 39), [], []⟩,
  ⟨("_law_due", none), "_law_due", "_law_due", defArgs (top 40), defBody (top 40), defScope (top 40), [], []⟩,
  ⟨("is_name", none), "is_name", "is_name", defArgs (top 17), defBody (top 17), defScope (top 17), [], []⟩,
  ⟨("look_name", none), "look_name", "look_name", defArgs (top 18), defBody (top 18), defScope (top 18), [], []⟩,
  ⟨("Archive", some "__init__"), "__init__", "Archive.__init__", defArgs (mth 24 0), defBody (mth 24 0), defScope (mth 24 0), [], []⟩,
  ⟨("Archive", some "__add__"), "__add__", "Archive.__add__", defArgs (mth 24 6), defBody (mth 24 6), defScope (mth 24 6), [], []⟩,
  ⟨("look_body", none), "look_body", "look_body", defArgs (top 21), defBody (top 21), defScope (top 21), [], []⟩,
  ⟨("is_kind", none), "is_kind", "is_kind", defArgs (top 19), defBody (top 19), defScope (top 19), [], []⟩]
def fn1 : List He.DefD := [⟨("look_kind", none), "look_kind", "look_kind", defArgs (top 20), defBody (top 20), defScope (top 20), [], []⟩,
  ⟨("Member", some "__init__"), "__init__", "Member.__init__", defArgs (mth 23 0), defBody (mth 23 0), defScope (mth 23 0), [], []⟩,
  ⟨("Store", some "__contains__"), "__contains__", "Store.__contains__", defArgs (mth 25 4), defBody (mth 25 4), defScope (mth 25 4), [], []⟩,
  ⟨("Store", some "__or__"), "__or__", "Store.__or__", defArgs (mth 25 6), defBody (mth 25 6), defScope (mth 25 6), [], []⟩,
  ⟨("_law_store", none), "_law_store", "_law_store", defArgs (top 38), defBody (top 38), defScope (top 38), [], []⟩,
  ⟨("defined_names", none), "defined_names", "defined_names", defArgs (top 28), defBody (top 28), defScope (top 28), [], []⟩,
  ⟨("Archive", some "__contains__"), "__contains__", "Archive.__contains__", defArgs (mth 24 4), defBody (mth 24 4), defScope (mth 24 4), [], []⟩,
  ⟨("Archive", some "__getitem__"), "__getitem__", "Archive.__getitem__", defArgs (mth 24 5), defBody (mth 24 5), defScope (mth 24 5), [], []⟩,
  ⟨("Archive", some "live"), "live", "Archive.live", defArgs (mth 24 9), defBody (mth 24 9), defScope (mth 24 9), [], []⟩,
  ⟨("live_wants", none), "live_wants", "live_wants", defArgs (top 29), defBody (top 29), defScope (top 29), [], []⟩,
  ⟨("are_free", none), "are_free", "are_free", defArgs (top 30), defBody (top 30), defScope (top 30), [], []⟩,
  ⟨("is_free", none), "is_free", "is_free", defArgs (top 31), defBody (top 31), defScope (top 31), [], []⟩,
  ⟨("law", none), "law", "law", defArgs (top 42), defBody (top 42), defScope (top 42), [], []⟩,
  ⟨("Archive", some "__iter__"), "__iter__", "Archive.__iter__", defArgs (mth 24 3), defBody (mth 24 3), defScope (mth 24 3), [], []⟩,
  ⟨("Store", some "__iter__"), "__iter__", "Store.__iter__", defArgs (mth 25 3), defBody (mth 25 3), defScope (mth 25 3), [], []⟩]
def fn : List He.DefD := fn0 ++ fn1
def fa0 : List He.Fa := [.glo "twice_in", .keep "twice_in", .glo "_law_bag", .keep "_law_bag", .glo "_law_take", .keep "_law_take", .glo "_law_of", .keep "_law_of", .glo "_law_member", .keep "_law_member", .glo "_law_drawn", .keep "_law_drawn", .glo "_law_live", .keep "_law_live", .glo "_law_due", .keep "_law_due", .glo "is_name", .keep "is_name", .glo "look_name", .keep "look_name", .glo "look_body", .keep "look_body", .glo "is_kind", .keep "is_kind", .glo "look_kind", .keep "look_kind", .glo "_law_store", .keep "_law_store", .glo "defined_names", .keep "defined_names"]
def fa1 : List He.Fa := [.glo "live_wants", .keep "live_wants", .glo "are_free", .keep "are_free", .glo "is_free", .keep "is_free", .glo "law", .free "abs", .free "all", .free "any", .free "bool", .free "enumerate", .free "int", .free "isinstance", .free "iter", .free "len", .free "list", .free "max", .free "min", .free "range", .free "set", .free "sorted", .free "str", .free "tuple", .glo "KINDS", .str "LETTERS" "abcdefghijklmnopqrstuvwxyz", .int "MOST_ARCHIVES" (6), .int "MOST_BODY" (999999), .int "MOST_LETTERS" (8), .int "MOST_MEMBERS" (8)]
def fa2 : List He.Fa := [.int "MOST_PARTS" (6), .noat "Archive" "members", .noat "Archive" "name", .noat "Member" "defines", .noat "Member" "name", .noat "Member" "wants", .noat "Store" "archives", .meth "Archive" "__add__", .meth "Archive" "__contains__", .meth "Archive" "__getitem__", .meth "Archive" "__iter__", .meth "Archive" "live", .meth "Store" "__contains__", .meth "Store" "__iter__", .meth "Store" "__or__", .mkr "Archive", .mkr "Member", .mkr "Store"]
def fa : List He.Fa := fa0 ++ fa1 ++ fa2
def tb : List (Str × List He.Dv) := [("KINDS", [.str "weak", .str "common", .str "strong"])]
def xb : List (PySem.W.Frag → Bool) := [fun K => PySem.W.selfFirst K (He.ga K "Archive"),
  fun K => noFillB K (He.ga K "Member") "add",
  fun K => PySem.W.selfFirst K (He.ga K "Store"),
  fun K => noFillB K (He.ga K "Archive") "or",
  fun K => PySem.W.fnIn K (He.ma K (He.ga K "Archive") "__getitem__")]
def ck (K : PySem.W.Frag) : Bool := chkAll fa tb K && (clsAll K cls && xb.all fun b => b K)
theorem ck_ok {K : PySem.W.Frag} (h : ck K = true) : chkAll fa tb K = true ∧ clsAll K cls = true ∧ (xb.all fun b => b K) = true := ⟨(He.ba h).1, (He.ba (He.ba h).2).1, (He.ba (He.ba h).2).2⟩
structure Txt (K : PySem.W.Frag) (mg : Str → Option Value) : Prop where
  g_twice_in : mg "twice_in" = some (.ref (He.ga K "twice_in"))
  k_twice_in : PySem.W.keepIn K (.ref (He.ga K "twice_in")) = true
  g__law_bag : mg "_law_bag" = some (.ref (He.ga K "_law_bag"))
  k__law_bag : PySem.W.keepIn K (.ref (He.ga K "_law_bag")) = true
  g__law_take : mg "_law_take" = some (.ref (He.ga K "_law_take"))
  k__law_take : PySem.W.keepIn K (.ref (He.ga K "_law_take")) = true
  g__law_of : mg "_law_of" = some (.ref (He.ga K "_law_of"))
  k__law_of : PySem.W.keepIn K (.ref (He.ga K "_law_of")) = true
  g__law_member : mg "_law_member" = some (.ref (He.ga K "_law_member"))
  k__law_member : PySem.W.keepIn K (.ref (He.ga K "_law_member")) = true
  g__law_drawn : mg "_law_drawn" = some (.ref (He.ga K "_law_drawn"))
  k__law_drawn : PySem.W.keepIn K (.ref (He.ga K "_law_drawn")) = true
  g__law_live : mg "_law_live" = some (.ref (He.ga K "_law_live"))
  k__law_live : PySem.W.keepIn K (.ref (He.ga K "_law_live")) = true
  g__law_due : mg "_law_due" = some (.ref (He.ga K "_law_due"))
  k__law_due : PySem.W.keepIn K (.ref (He.ga K "_law_due")) = true
  g_is_name : mg "is_name" = some (.ref (He.ga K "is_name"))
  k_is_name : PySem.W.keepIn K (.ref (He.ga K "is_name")) = true
  g_look_name : mg "look_name" = some (.ref (He.ga K "look_name"))
  k_look_name : PySem.W.keepIn K (.ref (He.ga K "look_name")) = true
  g_look_body : mg "look_body" = some (.ref (He.ga K "look_body"))
  k_look_body : PySem.W.keepIn K (.ref (He.ga K "look_body")) = true
  g_is_kind : mg "is_kind" = some (.ref (He.ga K "is_kind"))
  k_is_kind : PySem.W.keepIn K (.ref (He.ga K "is_kind")) = true
  g_look_kind : mg "look_kind" = some (.ref (He.ga K "look_kind"))
  k_look_kind : PySem.W.keepIn K (.ref (He.ga K "look_kind")) = true
  g__law_store : mg "_law_store" = some (.ref (He.ga K "_law_store"))
  k__law_store : PySem.W.keepIn K (.ref (He.ga K "_law_store")) = true
  g_defined_names : mg "defined_names" = some (.ref (He.ga K "defined_names"))
  k_defined_names : PySem.W.keepIn K (.ref (He.ga K "defined_names")) = true
  g_live_wants : mg "live_wants" = some (.ref (He.ga K "live_wants"))
  k_live_wants : PySem.W.keepIn K (.ref (He.ga K "live_wants")) = true
  g_are_free : mg "are_free" = some (.ref (He.ga K "are_free"))
  k_are_free : PySem.W.keepIn K (.ref (He.ga K "are_free")) = true
  g_is_free : mg "is_free" = some (.ref (He.ga K "is_free"))
  k_is_free : PySem.W.keepIn K (.ref (He.ga K "is_free")) = true
  n_abs : mg "abs" = none
  n_all : mg "all" = none
  n_any : mg "any" = none
  n_bool : mg "bool" = none
  n_enumerate : mg "enumerate" = none
  n_int : mg "int" = none
  n_isinstance : mg "isinstance" = none
  n_iter : mg "iter" = none
  n_len : mg "len" = none
  n_list : mg "list" = none
  n_max : mg "max" = none
  n_min : mg "min" = none
  n_range : mg "range" = none
  n_set : mg "set" = none
  n_sorted : mg "sorted" = none
  n_str : mg "str" = none
  n_tuple : mg "tuple" = none
  c_KINDS : TupC K mg "KINDS" [.str "weak", .str "common", .str "strong"]
  c_LETTERS : ∃ t, mg "LETTERS" = some (.str "abcdefghijklmnopqrstuvwxyz" t)
  c_MOST_ARCHIVES : ∃ t, mg "MOST_ARCHIVES" = some (.int 6 t)
  c_MOST_BODY : ∃ t, mg "MOST_BODY" = some (.int 999999 t)
  c_MOST_LETTERS : ∃ t, mg "MOST_LETTERS" = some (.int 8 t)
  c_MOST_MEMBERS : ∃ t, mg "MOST_MEMBERS" = some (.int 8 t)
  c_MOST_PARTS : ∃ t, mg "MOST_PARTS" = some (.int 6 t)
  a_Archive_members : NoAttr K (He.ga K "Archive") "members"
  a_Archive_name : NoAttr K (He.ga K "Archive") "name"
  a_Member_defines : NoAttr K (He.ga K "Member") "defines"
  a_Member_name : NoAttr K (He.ga K "Member") "name"
  a_Member_wants : NoAttr K (He.ga K "Member") "wants"
  a_Store_archives : NoAttr K (He.ga K "Store") "archives"
  m_Archive___add__ : Meth K (He.ga K "Archive") "__add__" (He.ma K (He.ga K "Archive") "__add__")
  m_Archive___contains__ : Meth K (He.ga K "Archive") "__contains__" (He.ma K (He.ga K "Archive") "__contains__")
  m_Archive___getitem__ : Meth K (He.ga K "Archive") "__getitem__" (He.ma K (He.ga K "Archive") "__getitem__")
  m_Archive___iter__ : Meth K (He.ga K "Archive") "__iter__" (He.ma K (He.ga K "Archive") "__iter__")
  m_Archive_live : Meth K (He.ga K "Archive") "live" (He.ma K (He.ga K "Archive") "live")
  m_Store___contains__ : Meth K (He.ga K "Store") "__contains__" (He.ma K (He.ga K "Store") "__contains__")
  m_Store___iter__ : Meth K (He.ga K "Store") "__iter__" (He.ma K (He.ga K "Store") "__iter__")
  m_Store___or__ : Meth K (He.ga K "Store") "__or__" (He.ma K (He.ga K "Store") "__or__")
  mk_Archive : Mk K (He.ga K "Archive") (He.ma K (He.ga K "Archive") "__init__")
  mk_Member : Mk K (He.ga K "Member") (He.ma K (He.ga K "Member") "__init__")
  mk_Store : Mk K (He.ga K "Store") (He.ma K (He.ga K "Store") "__init__")
  cl : ClsF K mg cls
  x_0 : (fun K => PySem.W.selfFirst K (He.ga K "Archive")) K = true
  x_1 : (fun K => noFillB K (He.ga K "Member") "add") K = true
  x_2 : (fun K => PySem.W.selfFirst K (He.ga K "Store")) K = true
  x_3 : (fun K => noFillB K (He.ga K "Archive") "or") K = true
  x_4 : (fun K => PySem.W.fnIn K (He.ma K (He.ga K "Archive") "__getitem__")) K = true
section RowS
variable [Row]
theorem txt {K : PySem.W.Frag} {hp : Heap} {mg : Str → Option Value} (X : K.In hp) (G : hp.Ns mainGlobals mg) (h0 : ck K = true) : Txt K mg :=
  have h := ck_ok h0
  ⟨He.glo_ok X G (chk_fa h.1 0),
   He.keep_ok (chk_fa h.1 1),
   He.glo_ok X G (chk_fa h.1 2),
   He.keep_ok (chk_fa h.1 3),
   He.glo_ok X G (chk_fa h.1 4),
   He.keep_ok (chk_fa h.1 5),
   He.glo_ok X G (chk_fa h.1 6),
   He.keep_ok (chk_fa h.1 7),
   He.glo_ok X G (chk_fa h.1 8),
   He.keep_ok (chk_fa h.1 9),
   He.glo_ok X G (chk_fa h.1 10),
   He.keep_ok (chk_fa h.1 11),
   He.glo_ok X G (chk_fa h.1 12),
   He.keep_ok (chk_fa h.1 13),
   He.glo_ok X G (chk_fa h.1 14),
   He.keep_ok (chk_fa h.1 15),
   He.glo_ok X G (chk_fa h.1 16),
   He.keep_ok (chk_fa h.1 17),
   He.glo_ok X G (chk_fa h.1 18),
   He.keep_ok (chk_fa h.1 19),
   He.glo_ok X G (chk_fa h.1 20),
   He.keep_ok (chk_fa h.1 21),
   He.glo_ok X G (chk_fa h.1 22),
   He.keep_ok (chk_fa h.1 23),
   He.glo_ok X G (chk_fa h.1 24),
   He.keep_ok (chk_fa h.1 25),
   He.glo_ok X G (chk_fa h.1 26),
   He.keep_ok (chk_fa h.1 27),
   He.glo_ok X G (chk_fa h.1 28),
   He.keep_ok (chk_fa h.1 29),
   He.glo_ok X G (chk_fa h.1 30),
   He.keep_ok (chk_fa h.1 31),
   He.glo_ok X G (chk_fa h.1 32),
   He.keep_ok (chk_fa h.1 33),
   He.glo_ok X G (chk_fa h.1 34),
   He.keep_ok (chk_fa h.1 35),
   He.free_ok X G (chk_fa h.1 37),
   He.free_ok X G (chk_fa h.1 38),
   He.free_ok X G (chk_fa h.1 39),
   He.free_ok X G (chk_fa h.1 40),
   He.free_ok X G (chk_fa h.1 41),
   He.free_ok X G (chk_fa h.1 42),
   He.free_ok X G (chk_fa h.1 43),
   He.free_ok X G (chk_fa h.1 44),
   He.free_ok X G (chk_fa h.1 45),
   He.free_ok X G (chk_fa h.1 46),
   He.free_ok X G (chk_fa h.1 47),
   He.free_ok X G (chk_fa h.1 48),
   He.free_ok X G (chk_fa h.1 49),
   He.free_ok X G (chk_fa h.1 50),
   He.free_ok X G (chk_fa h.1 51),
   He.free_ok X G (chk_fa h.1 52),
   He.free_ok X G (chk_fa h.1 53),
   chk_tup h.1 X G 0 54,
   He.str_ok X G (chk_fa h.1 55),
   He.int_ok X G (chk_fa h.1 56),
   He.int_ok X G (chk_fa h.1 57),
   He.int_ok X G (chk_fa h.1 58),
   He.int_ok X G (chk_fa h.1 59),
   He.int_ok X G (chk_fa h.1 60),
   He.noat_ok (chk_fa h.1 61),
   He.noat_ok (chk_fa h.1 62),
   He.noat_ok (chk_fa h.1 63),
   He.noat_ok (chk_fa h.1 64),
   He.noat_ok (chk_fa h.1 65),
   He.noat_ok (chk_fa h.1 66),
   He.meth_ok (chk_fa h.1 67),
   He.meth_ok (chk_fa h.1 68),
   He.meth_ok (chk_fa h.1 69),
   He.meth_ok (chk_fa h.1 70),
   He.meth_ok (chk_fa h.1 71),
   He.meth_ok (chk_fa h.1 72),
   He.meth_ok (chk_fa h.1 73),
   He.meth_ok (chk_fa h.1 74),
   He.mkr_ok (chk_fa h.1 75),
   He.mkr_ok (chk_fa h.1 76),
   He.mkr_ok (chk_fa h.1 77),
   clsF_of X G h.2.1,
   List.all_eq_true.mp h.2.2 _ (List.mem_of_getElem? (show xb[0]? = some _ from rfl)),
   List.all_eq_true.mp h.2.2 _ (List.mem_of_getElem? (show xb[1]? = some _ from rfl)),
   List.all_eq_true.mp h.2.2 _ (List.mem_of_getElem? (show xb[2]? = some _ from rfl)),
   List.all_eq_true.mp h.2.2 _ (List.mem_of_getElem? (show xb[3]? = some _ from rfl)),
   List.all_eq_true.mp h.2.2 _ (List.mem_of_getElem? (show xb[4]? = some _ from rfl))⟩
section
variable {K : PySem.W.Frag} {mg : Str → Option Value} {base : Heap}
theorem fo_name_Archive (T : Txt K mg) : FldOk K mg ["Archive"] "name" := (fld_cons (T.cl.at_ "Archive" (by decide)) (T.cl.cls (by decide)) T.a_Archive_name fld_nil)
theorem fo_defines_Member (T : Txt K mg) : FldOk K mg ["Member"] "defines" := (fld_cons (T.cl.at_ "Member" (by decide)) (T.cl.cls (by decide)) T.a_Member_defines fld_nil)
theorem fo_archives_Store (T : Txt K mg) : FldOk K mg ["Store"] "archives" := (fld_cons (T.cl.at_ "Store" (by decide)) (T.cl.cls (by decide)) T.a_Store_archives fld_nil)
theorem fo_name_Member (T : Txt K mg) : FldOk K mg ["Member"] "name" := (fld_cons (T.cl.at_ "Member" (by decide)) (T.cl.cls (by decide)) T.a_Member_name fld_nil)
theorem fo_members_Archive (T : Txt K mg) : FldOk K mg ["Archive"] "members" := (fld_cons (T.cl.at_ "Archive" (by decide)) (T.cl.cls (by decide)) T.a_Archive_members fld_nil)
theorem fo_wants_Member (T : Txt K mg) : FldOk K mg ["Member"] "wants" := (fld_cons (T.cl.at_ "Member" (by decide)) (T.cl.cls (by decide)) T.a_Member_wants fld_nil)
abbrev N_Archive___iter__ : List Str := ["self"]
theorem sc_Archive___iter__ : FnScope N_Archive___iter__ ["self"] (defScope (mth 24 3)) := ⟨rfl, rfl, rfl, by decide +kernel, rfl, by decide +kernel, by decide +kernel⟩
theorem it_Archive (c : SaysZ ck fn K) (T : Txt K mg) : IterG Row.prog Row.w K mg base 1 (He.ma K (He.ga K "Archive") "__iter__") (He.ga K "Archive") "members" := by
  obtain ⟨fd, F⟩ := c.def_ 28
  exact iter_fn F sc_Archive___iter__ rfl rfl rfl T.n_iter (T.cl.cls (by decide)) T.a_Archive_members (fun _ _ _ _ _ _ _ => rfl)
abbrev N_Store___iter__ : List Str := ["self"]
theorem sc_Store___iter__ : FnScope N_Store___iter__ ["self"] (defScope (mth 25 3)) := ⟨rfl, rfl, rfl, by decide +kernel, rfl, by decide +kernel, by decide +kernel⟩
theorem it_Store (c : SaysZ ck fn K) (T : Txt K mg) : IterG Row.prog Row.w K mg base 1 (He.ma K (He.ga K "Store") "__iter__") (He.ga K "Store") "archives" := by
  obtain ⟨fd, F⟩ := c.def_ 29
  exact iter_fn F sc_Store___iter__ rfl rfl rfl T.n_iter (T.cl.cls (by decide)) T.a_Store_archives (fun _ _ _ _ _ _ _ => rfl)
theorem itb_Archive_ok (c : SaysZ ck fn K) (T : Txt K mg) : ITab Row.prog Row.w K mg base 1 itb_Archive := (itab_cons (T.cl.at_ "Archive" (by decide)) T.m_Archive___iter__ (it_Archive c T) (by decide) itab_nil)
theorem itb_Store_ok (c : SaysZ ck fn K) (T : Txt K mg) : ITab Row.prog Row.w K mg base 1 itb_Store := (itab_cons (T.cl.at_ "Store" (by decide)) T.m_Store___iter__ (it_Store c T) (by decide) itab_nil)
theorem rt_add_Member (T : Txt K mg) : RTab K mg ["Member"] "add" := fun x h => by
  simp only [List.mem_cons, List.not_mem_nil, or_false] at h
  subst h
  · exact ⟨_, T.cl.at_ "Member" (by decide), T.x_1⟩

theorem rt_or_Archive (T : Txt K mg) : RTab K mg ["Archive"] "or" := fun x h => by
  simp only [List.mem_cons, List.not_mem_nil, or_false] at h
  subst h
  · exact ⟨_, T.cl.at_ "Archive" (by decide), T.x_3⟩

abbrev N_twice_in : List Str := ["names", "seen", "name"]
theorem sc_twice_in : FnScope N_twice_in ["names"] (defScope (top 22)) := ⟨rfl, rfl, rfl, by decide +kernel, rfl, by decide +kernel, by decide +kernel⟩
theorem b_twice_in (c : SaysZ ck fn K) (T : Txt K mg) : Body Row.prog Row.w K mg base 6 N_twice_in "twice_in" (defScope (top 22)) (He.ga K "twice_in") (defBody (top 22)) s_twice_in := by
  intro cdv A outer s H E hr
  exact (js_cons (js_set (i := 1) sc_twice_in.nd rfl (Or.inl rfl) (je_lst ja_nil))
 (js_cons (js_for (passes_of rfl) rfl (ji_sq (je_v 0)) (pg_name (i := 2) sc_twice_in.nd rfl (by first | exact Or.inl rfl | exact Or.inr rfl)) gq_n (js_cons (js_if (jt_cmp (op_ins (hu65 hr.units)) pr_in (je_v 2) (je_v 1) (by rfl)) (js_one (js_ret (je_v 2))) js_nil)
 (js_one (js_expr (je_bm PySem.F.plainAttrs_list PySem.F.slot_list_append PySem.F.type_list_append (mt_append) pm_append (je_v 1) (ja_cons (je_v 2) ja_nil))))))
 (js_one (js_ret je_non))))
theorem p_twice_in (c : SaysZ ck fn K) (T : Txt K mg) : FS Row.prog Row.w K mg base 7 (He.ga K "twice_in") m_twice_in := by
  obtain ⟨fd, F⟩ := c.def_ 0
  exact fs_pos F sc_twice_in (b_twice_in c T) (fun _ _ _ _ _ _ us hl => match us, hl with | [_], _ => rfl)
abbrev N_Store___init__ : List Str := ["self", "archives", "again", "seen", "archive", "member", "name", "kind", "body"]
theorem sc_Store___init__ : FnScope N_Store___init__ ["self", "archives"] (defScope (mth 25 0)) := ⟨rfl, rfl, rfl, by decide +kernel, rfl, by decide +kernel, by decide +kernel⟩
theorem b_Store___init__ (c : SaysZ ck fn K) (T : Txt K mg) : Body Row.prog Row.w K mg base 12 N_Store___init__ "Store.__init__" (defScope (mth 25 0)) (He.ma K (He.ga K "Store") "__init__") (defBody (mth 25 0)) s_Store___init__ := by
  intro cdv A outer s H E hr
  exact (js_cons (js_set (i := 2) sc_Store___init__.nd rfl (Or.inl rfl) (je_call (p_twice_in c T) (hr.mono (by decide)) (takes_of rfl rfl rfl rfl) rfl T.g_twice_in T.k_twice_in (ja_cons (je_lc rfl sc_Store___init__.nd (ji_sq (je_v 1)) (ok := (show BlkOk N_Store___init__ (defScope (mth 25 0)) _ _ from ⟨rfl, by decide +kernel, by decide +kernel, by decide +kernel, by decide +kernel⟩)) (own := [("archive", 4)]) (by decide) (fun _ _ _ _ _ => (pg_name (i := 4) sc_Store___init__.nd rfl (by first | exact Or.inl rfl | exact Or.inr rfl))) gq_n (fun _ _ _ _ _ => jts_nil) (fun _ _ _ _ _ => (je_fld (fo_name_Archive T) (je_v 4)))) ja_nil)))
 (js_cons (js_if (jt_cmp op_notN pr_notN2 (je_v 2) je_non (nomark _)) (js_one js_no) js_nil)
 (js_cons (js_set (i := 3) sc_Store___init__.nd rfl (Or.inl rfl) (je_lst ja_nil))
 (js_cons (js_for (passes_of rfl) rfl (ji_sq (je_v 1)) (pg_name (i := 4) sc_Store___init__.nd rfl (by first | exact Or.inl rfl | exact Or.inr rfl)) gq_n (js_one (js_for (passes_of rfl) rfl (ji_own (itb_Archive_ok c T) (hr.mono (by decide)) (je_v 4)) (pg_name (i := 5) sc_Store___init__.nd rfl (by first | exact Or.inl rfl | exact Or.inr rfl)) gq_n (js_one (js_for (passes_of rfl) rfl (ji_sq (je_fld (fo_defines_Member T) (je_v 5))) (pg_tup (n := 3) rfl (pgs_cons (pg_name (i := 6) sc_Store___init__.nd rfl (by first | exact Or.inl rfl | exact Or.inr rfl)) (pgs_cons (pg_name (i := 7) sc_Store___init__.nd rfl (by first | exact Or.inl rfl | exact Or.inr rfl)) (pgs_cons (pg_name (i := 8) sc_Store___init__.nd rfl (by first | exact Or.inl rfl | exact Or.inr rfl)) pgs_nil)))) (gq_t (gqs_cons gq_n (gqs_cons gq_n (gqs_cons gq_n gqs_nil)))) (js_cons (js_if (jt_cmp (op_ins (hu65 hr.units)) pr_in (je_tup (ja_cons (je_v 6) (ja_cons (je_v 8) ja_nil))) (je_v 3) (by rfl)) (js_one js_no) js_nil)
 (js_one (js_expr (je_bm PySem.F.plainAttrs_list PySem.F.slot_list_append PySem.F.type_list_append (mt_append) pm_append (je_v 3) (ja_cons (je_tup (ja_cons (je_v 6) (ja_cons (je_v 8) ja_nil))) ja_nil))))))))))
 (js_cons (js_if (jt_cmp op_gt pr_gt (je_cb call_lens pn_len rfl T.n_len boot_len (ja_cons (je_v 1) ja_nil)) (je_gint rfl T.c_MOST_ARCHIVES) (nomark _)) (js_one js_no) js_nil)
 (js_one (js_fld (fo_archives_Store T) (je_v 0) (je_v 1))))))))
theorem p_Store___init__ (c : SaysZ ck fn K) (T : Txt K mg) : FS Row.prog Row.w K mg base 13 (He.ma K (He.ga K "Store") "__init__") m_Store___init__ := by
  obtain ⟨fd, F⟩ := c.def_ 1
  exact fs_star (ps := ["self"]) (pv := "archives") F sc_Store___init__ (b_Store___init__ c T) (fun kV doc pm an cdv ct => by
    refine StX.bind_star1 (B := fun xs => bindArgs (PySem.W.fnOf _ _ _ _ _ .none kV doc pm an cdv ct) ⟨xs, []⟩) ?_ ?_ <;> (intros; rfl))
abbrev N__law_bag : List Str := ["_law_script", "_law_at", "_law_cell", "_law_blend", "_law_k", "_law_each"]
theorem sc__law_bag : FnScope N__law_bag ["_law_script", "_law_at"] (defScope (top 33)) := ⟨rfl, rfl, rfl, by decide +kernel, rfl, by decide +kernel, by decide +kernel⟩
theorem b__law_bag (c : SaysZ ck fn K) (T : Txt K mg) : Body Row.prog Row.w K mg base 6 N__law_bag "_law_bag" (defScope (top 33)) (He.ga K "_law_bag") (defBody (top 33)) s__law_bag := by
  intro cdv A outer s H E hr
  exact (js_cons (js_set (i := 2) sc__law_bag.nd rfl (Or.inl rfl) (je_if (jt_cmp op_lt pr_lt (je_v 1) (je_cb call_lens pn_len rfl T.n_len boot_len (ja_cons (je_v 0) ja_nil)) (nomark _)) (je_ix ix_seq pr_ix (je_v 0) (je_v 1)) je_int))
 (js_cons (js_set (i := 3) sc__law_bag.nd rfl (Or.inl rfl) (je_op op_adds pr_add (je_op op_muls pr_mul2 je_int (je_v 1)) je_int))
 (js_cons (js_for (passes_of rfl) rfl (ji_en rfl T.n_enumerate (ja_cons (je_sl sl_all ps_sl (je_v 0) jo_none (jo_some je_int)) ja_nil)) (pg_tup (n := 2) rfl (pgs_cons (pg_name (i := 4) sc__law_bag.nd rfl (by first | exact Or.inl rfl | exact Or.inr rfl)) (pgs_cons (pg_name (i := 5) sc__law_bag.nd rfl (by first | exact Or.inl rfl | exact Or.inr rfl)) pgs_nil))) (gq_t (gqs_cons gq_n (gqs_cons gq_n gqs_nil))) (js_one (js_set (i := 3) sc__law_bag.nd rfl (Or.inl rfl) (je_op op_mod pr_mod (je_ct call_int1 pn_int rfl T.n_int boot_int (ja_cons (je_op op_adds pr_add (je_op op_adds pr_add (je_op op_adds pr_add (je_op op_muls pr_mul2 (je_v 3) je_int) (je_op op_mod pr_mod (je_ct call_int1 pn_int rfl T.n_int boot_int (ja_cons (je_v 5) ja_nil)) je_int)) (je_op op_muls pr_mul2 je_int (je_v 4))) je_int) ja_nil)) je_int))))
 (js_one (js_ret (je_lst (ja_cons (je_if (jt_cmp op_ge pr_ge (je_cb call_abs pn_abs rfl T.n_abs boot_abs (ja_cons (je_v 2) ja_nil)) (je_op op_pow pr_pow je_int je_int) (nomark _)) (je_cb call_abs pn_abs rfl T.n_abs boot_abs (ja_cons (je_v 2) ja_nil)) je_int) (ja_cons (je_v 3) ja_nil))))))))
theorem p__law_bag (c : SaysZ ck fn K) (T : Txt K mg) : FS Row.prog Row.w K mg base 7 (He.ga K "_law_bag") m__law_bag := by
  obtain ⟨fd, F⟩ := c.def_ 2
  exact fs_pos F sc__law_bag (b__law_bag c T) (fun _ _ _ _ _ _ us hl => match us, hl with | [_, _], _ => rfl)
abbrev N__law_take : List Str := ["_law_bag_here", "_law_many", "_law_digit"]
theorem sc__law_take : FnScope N__law_take ["_law_bag_here", "_law_many"] (defScope (top 34)) := ⟨rfl, rfl, rfl, by decide +kernel, rfl, by decide +kernel, by decide +kernel⟩
theorem b__law_take (c : SaysZ ck fn K) (T : Txt K mg) : Body Row.prog Row.w K mg base 6 N__law_take "_law_take" (defScope (top 34)) (He.ga K "_law_take") (defBody (top 34)) s__law_take := by
  intro cdv A outer s H E hr
  exact (js_cons (js_if (jt_cmp op_gt pr_gt (je_ix ix_seq pr_ix (je_v 0) je_int) je_int (nomark _)) (js_cons (js_set (i := 2) sc__law_take.nd rfl (Or.inl rfl) (je_op op_mod pr_mod (je_ct call_int1 pn_int rfl T.n_int boot_int (ja_cons (je_ix ix_seq pr_ix (je_v 0) je_int) ja_nil)) (je_v 1)))
 (js_cons (js_sub set_list px_setL (je_op op_fdiv pr_div (je_ix ix_seq pr_ix (je_v 0) je_int) (je_v 1)) (je_v 0) je_int)
 (js_one (js_ret (je_v 2))))) js_nil)
 (js_cons (js_sub set_list px_setL (je_op op_mod pr_mod (je_ct call_int1 pn_int rfl T.n_int boot_int (ja_cons (je_op op_adds pr_add (je_op op_muls pr_mul2 (je_ix ix_seq pr_ix (je_v 0) je_int) je_int) je_int) ja_nil)) je_int) (je_v 0) je_int)
 (js_one (js_ret (je_op op_mod pr_mod (je_op op_fdiv pr_div (je_op op_mod pr_mod (je_ct call_int1 pn_int rfl T.n_int boot_int (ja_cons (je_op op_muls pr_mul2 (je_op op_fdiv pr_div (je_ix ix_seq pr_ix (je_v 0) je_int) je_int) je_int) ja_nil)) je_int) je_int) (je_v 1))))))
theorem p__law_take (c : SaysZ ck fn K) (T : Txt K mg) : FS Row.prog Row.w K mg base 7 (He.ga K "_law_take") m__law_take := by
  obtain ⟨fd, F⟩ := c.def_ 3
  exact fs_pos F sc__law_take (b__law_take c T) (fun _ _ _ _ _ _ us hl => match us, hl with | [_, _], _ => rfl)
abbrev N__law_of : List Str := ["_law_bag_here", "_law_some"]
theorem sc__law_of : FnScope N__law_of ["_law_bag_here", "_law_some"] (defScope (top 35)) := ⟨rfl, rfl, rfl, by decide +kernel, rfl, by decide +kernel, by decide +kernel⟩
theorem b__law_of (c : SaysZ ck fn K) (T : Txt K mg) : Body Row.prog Row.w K mg base 12 N__law_of "_law_of" (defScope (top 35)) (He.ga K "_law_of") (defBody (top 35)) s__law_of := by
  intro cdv A outer s H E hr
  exact (js_one (js_ret (je_ix ix_seq pr_ix (je_v 1) (je_call (p__law_take c T) (hr.mono (by decide)) (takes_of rfl rfl rfl rfl) rfl T.g__law_take T.k__law_take (ja_cons (je_v 0) (ja_cons (je_cb call_lens pn_len rfl T.n_len boot_len (ja_cons (je_v 1) ja_nil)) ja_nil))))))
theorem p__law_of (c : SaysZ ck fn K) (T : Txt K mg) : FS Row.prog Row.w K mg base 13 (He.ga K "_law_of") m__law_of := by
  obtain ⟨fd, F⟩ := c.def_ 4
  exact fs_pos F sc__law_of (b__law_of c T) (fun _ _ _ _ _ _ us hl => match us, hl with | [_, _], _ => rfl)
abbrev N__law_member : List Str := ["_law_bag_here", "_law_archive", "_law_member_here", "_law_pool", "_law_body", "_law_turn", "_law_asks", "_law_left", "_law_gives", "_law_name"]
theorem sc__law_member : FnScope N__law_member ["_law_bag_here", "_law_archive", "_law_member_here", "_law_pool", "_law_body"] (defScope (top 36)) := ⟨rfl, rfl, rfl, by decide +kernel, rfl, by decide +kernel, by decide +kernel⟩
theorem b__law_member (c : SaysZ ck fn K) (T : Txt K mg) : Body Row.prog Row.w K mg base 18 N__law_member "_law_member" (defScope (top 36)) (He.ga K "_law_member") (defBody (top 36)) s__law_member := by
  intro cdv A outer s H E hr
  exact (js_cons (js_par (i := 7) (j := 8) rfl sc__law_member.nd rfl rfl (by decide) rfl rfl (ja_cons (je_ct call_list_of pn_list rfl T.n_list boot_list (ja_cons (je_v 3) ja_nil)) (ja_cons (je_lst ja_nil) ja_nil)) (by rfl))
 (js_cons (js_for (passes_of rfl) rfl (ji_range1 rfl T.n_range (ja_cons (je_op op_adds pr_add je_int (je_ct call_int1 pn_int rfl T.n_int boot_int (ja_cons (je_cmp (op_eqs (hu64 hr.units)) pr_eq (je_call (p__law_take c T) (hr.mono (by decide)) (takes_of rfl rfl rfl rfl) rfl T.g__law_take T.k__law_take (ja_cons (je_v 0) (ja_cons je_int ja_nil))) je_int (nomark _)) ja_nil))) ja_nil)) (pg_name (i := 5) sc__law_member.nd rfl (by first | exact Or.inl rfl | exact Or.inr rfl)) gq_n (js_one (js_if (jt_cmp (op_nes (hu64 hr.units)) pr_ne (je_v 7) (je_lst ja_nil) (nomark _)) (js_cons (js_set (i := 9) sc__law_member.nd rfl (Or.inl rfl) (je_bm PySem.F.plainAttrs_list PySem.F.slot_list_pop PySem.F.type_list_pop (mt_popAt) pm_popAt (je_v 7) (ja_cons (je_call (p__law_take c T) (hr.mono (by decide)) (takes_of rfl rfl rfl rfl) rfl T.g__law_take T.k__law_take (ja_cons (je_v 0) (ja_cons (je_cb call_lens pn_len rfl T.n_len boot_len (ja_cons (je_v 7) ja_nil)) ja_nil))) ja_nil)))
 (js_one (js_expr (je_bm PySem.F.plainAttrs_list PySem.F.slot_list_append PySem.F.type_list_append (mt_append) pm_append (je_v 8) (ja_cons (je_tup (ja_cons (je_v 9) (ja_cons (je_call (p__law_of c T) (hr.mono (by decide)) (takes_of rfl rfl rfl rfl) rfl T.g__law_of T.k__law_of (ja_cons (je_v 0) (ja_cons (je_lst (ja_cons je_str (ja_cons je_str (ja_cons je_str (ja_cons je_str (ja_cons je_str ja_nil)))))) ja_nil))) (ja_cons (je_op op_adds pr_add (je_v 4) (je_v 5)) ja_nil)))) ja_nil))))) js_nil)))
 (js_cons (js_set (i := 6) sc__law_member.nd rfl (Or.inl rfl) (je_sl sl_all ps_sl (je_lc rfl sc__law_member.nd (ji_sq (je_v 7)) (ok := (show BlkOk N__law_member (defScope (top 36)) _ _ from ⟨rfl, by decide +kernel, by decide +kernel, by decide +kernel, by decide +kernel⟩)) (own := [("_law_name", 9)]) (by decide) (fun _ _ _ _ _ => (pg_name (i := 9) sc__law_member.nd rfl (by first | exact Or.inl rfl | exact Or.inr rfl))) gq_n (fun _ _ _ _ _ => pts_one (jt_cmp (op_eqs (hu64 hr.units)) pr_eq (je_call (p__law_take c T) (hr.mono (by decide)) (takes0) rfl T.g__law_take T.k__law_take (ja_cons (je_v 0) (ja_cons je_int ja_nil))) je_int (nomark _))) (fun _ _ _ _ _ => (je_v 9))) jo_none (jo_some je_int)))
 (js_one (js_ret (je_tup (ja_cons (je_v 1) (ja_cons (je_v 2) (ja_cons (je_ct call_tuple_of pn_tuple rfl T.n_tuple boot_tuple (ja_cons (je_cb call_srtA (pn_sortA (hu66 hr.units)) rfl T.n_sorted boot_sorted (ja_cons (je_v 8) ja_nil)) ja_nil)) (ja_cons (je_ct call_tuple_of pn_tuple rfl T.n_tuple boot_tuple (ja_cons (je_v 6) ja_nil)) ja_nil))))))))))
theorem p__law_member (c : SaysZ ck fn K) (T : Txt K mg) : FS Row.prog Row.w K mg base 19 (He.ga K "_law_member") m__law_member := by
  obtain ⟨fd, F⟩ := c.def_ 5
  exact fs_pos F sc__law_member (b__law_member c T) (fun _ _ _ _ _ _ us hl => match us, hl with | [_, _, _, _, _], _ => rfl)
abbrev N__law_drawn : List Str := ["_law_bag_here", "_law_archives", "_law_data_here", "_law_body", "_law_k", "_law_archive", "_law_rows", "_law_turn", "_law_far", "_law_pool", "_law_row", "_law_more", "_law_name"]
theorem sc__law_drawn : FnScope N__law_drawn ["_law_bag_here"] (defScope (top 41)) := ⟨rfl, rfl, rfl, by decide +kernel, rfl, by decide +kernel, by decide +kernel⟩
theorem b__law_drawn (c : SaysZ ck fn K) (T : Txt K mg) : Body Row.prog Row.w K mg base 24 N__law_drawn "_law_drawn" (defScope (top 41)) (He.ga K "_law_drawn") (defBody (top 41)) s__law_drawn := by
  intro cdv A outer s H E hr
  exact (js_cons (js_par3 (i := 1) (j := 2) (l := 3) rfl sc__law_drawn.nd rfl rfl rfl (by decide) (by decide) (by decide) rfl rfl rfl (ja_cons (je_sl sl_all ps_sl (je_lst (ja_cons je_str (ja_cons je_str (ja_cons je_str (ja_cons je_str (ja_cons je_str (ja_cons je_str ja_nil))))))) jo_none (jo_some (je_call (p__law_take c T) (hr.mono (by decide)) (takes_of rfl rfl rfl rfl) rfl T.g__law_take T.k__law_take (ja_cons (je_v 0) (ja_cons je_int ja_nil))))) (ja_cons je_dnew (ja_cons je_int ja_nil))) (by rfl))
 (js_cons (js_for (passes_of rfl) rfl (ji_en rfl T.n_enumerate (ja_cons (je_v 1) ja_nil)) (pg_tup (n := 2) rfl (pgs_cons (pg_name (i := 4) sc__law_drawn.nd rfl (by first | exact Or.inl rfl | exact Or.inr rfl)) (pgs_cons (pg_name (i := 5) sc__law_drawn.nd rfl (by first | exact Or.inl rfl | exact Or.inr rfl)) pgs_nil))) (gq_t (gqs_cons gq_n (gqs_cons gq_n gqs_nil))) (js_cons (js_set (i := 6) sc__law_drawn.nd rfl (Or.inl rfl) (je_lst ja_nil))
 (js_cons (js_for (passes_of rfl) rfl (ji_range1 rfl T.n_range (ja_cons (je_call (p__law_take c T) (hr.mono (by decide)) (takes_of rfl rfl rfl rfl) rfl T.g__law_take T.k__law_take (ja_cons (je_v 0) (ja_cons je_int ja_nil))) ja_nil)) (pg_name (i := 7) sc__law_drawn.nd rfl (by first | exact Or.inl rfl | exact Or.inr rfl)) gq_n (js_cons (js_set (i := 8) sc__law_drawn.nd rfl (Or.inl rfl) (je_if (jt_cmp (op_eqs (hu64 hr.units)) pr_eq (je_call (p__law_take c T) (hr.mono (by decide)) (takes_of rfl rfl rfl rfl) rfl T.g__law_take T.k__law_take (ja_cons (je_v 0) (ja_cons je_int ja_nil))) je_int (nomark _)) (je_call (p__law_take c T) (hr.mono (by decide)) (takes_of rfl rfl rfl rfl) rfl T.g__law_take T.k__law_take (ja_cons (je_v 0) (ja_cons je_int ja_nil))) (je_v 4)))
 (js_cons (js_set (i := 9) sc__law_drawn.nd rfl (Or.inr rfl) (je_ix ix_seq pr_ix (je_lst (ja_cons (je_lst (ja_cons je_str (ja_cons je_str (ja_cons je_str ja_nil)))) (ja_cons (je_lst (ja_cons je_str (ja_cons je_str (ja_cons je_str ja_nil)))) (ja_cons (je_lst (ja_cons je_str (ja_cons je_str ja_nil))) (ja_cons (je_lst (ja_cons je_str (ja_cons je_str (ja_cons je_str ja_nil)))) (ja_cons (je_lst (ja_cons je_str (ja_cons je_str ja_nil))) (ja_cons (je_lst (ja_cons je_str (ja_cons je_str ja_nil))) ja_nil))))))) (je_v 8)))
 (js_cons (js_set (i := 10) sc__law_drawn.nd rfl (Or.inl rfl) (je_call (p__law_member c T) (hr.mono (by decide)) (takes_of rfl rfl rfl rfl) rfl T.g__law_member T.k__law_member (ja_cons (je_v 0) (ja_cons (je_v 5) (ja_cons (je_ix ix_seq pr_ix (je_lst (ja_cons je_str (ja_cons je_str (ja_cons je_str (ja_cons je_str ja_nil))))) (je_v 7)) (ja_cons (je_v 9) (ja_cons (je_v 3) ja_nil)))))))
 (js_cons (js_set (i := 11) sc__law_drawn.nd rfl (Or.inl rfl) (je_sl sl_all ps_sl (je_lc rfl sc__law_drawn.nd (ji_sq (je_lst (ja_cons je_str (ja_cons je_str (ja_cons je_str ja_nil))))) (ok := (show BlkOk N__law_drawn (defScope (top 41)) _ _ from ⟨rfl, by decide +kernel, by decide +kernel, by decide +kernel, by decide +kernel⟩)) (own := [("_law_name", 12)]) (by decide) (fun _ _ _ _ _ => (pg_name (i := 12) sc__law_drawn.nd rfl (by first | exact Or.inl rfl | exact Or.inr rfl))) gq_n (fun _ _ _ _ _ => pts_one (JW_t (jw_and (jt_cmp (op_eqs (hu64 hr.units)) pr_eq (je_call (p__law_take c T) (hr.mono (by decide)) (takes0) rfl T.g__law_take T.k__law_take (ja_cons (je_v 0) (ja_cons je_int ja_nil))) je_int (nomark _)) (jw_and1 (jt_cmp (op_notIns (hu65 hr.units)) pr_in (je_v 12) (je_v 9) (by rfl)))))) (fun _ _ _ _ _ => (je_v 12))) jo_none (jo_some je_int)))
 (js_cons (js_expr (je_bm PySem.F.plainAttrs_list PySem.F.slot_list_append PySem.F.type_list_append (mt_append) pm_append (je_v 6) (ja_cons (je_op op_adds pr_add (je_sl sl_all ps_sl (je_v 10) jo_none (jo_some je_int)) (je_tup (ja_cons (je_op op_adds pr_add (je_ix ix_seq pr_ix (je_v 10) je_int) (je_ct call_tuple_of pn_tuple rfl T.n_tuple boot_tuple (ja_cons (je_v 11) ja_nil))) ja_nil))) ja_nil)))
 (js_one (js_set (i := 3) sc__law_drawn.nd rfl (Or.inl rfl) (je_op op_adds pr_add (je_v 3) je_int)))))))))
 (js_one (js_sub (set_dict (hu1 hr.units)) px_setD (je_v 6) (je_v 2) (je_v 5))))))
 (js_one (js_ret (je_v 2)))))
theorem p__law_drawn (c : SaysZ ck fn K) (T : Txt K mg) : FS Row.prog Row.w K mg base 25 (He.ga K "_law_drawn") m__law_drawn := by
  obtain ⟨fd, F⟩ := c.def_ 6
  exact fs_pos F sc__law_drawn (b__law_drawn c T) (fun _ _ _ _ _ _ us hl => match us, hl with | [_], _ => rfl)
abbrev N__law_live : List Str := ["_law_rows", "_law_row", "_law_found", "_law_seen", "_law_fresh", "_law_one"]
theorem sc__law_live : FnScope N__law_live ["_law_rows"] (defScope (top 39)) := ⟨rfl, rfl, rfl, by decide +kernel, rfl, by decide +kernel, by decide +kernel⟩
theorem b__law_live (c : SaysZ ck fn K) (T : Txt K mg) : Body Row.prog Row.w K mg base 6 N__law_live "_law_live" (defScope (top 39)) (He.ga K "_law_live") (defBody (top 39)) s__law_live := by
  intro cdv A outer s H E hr
  exact (js_cons (js_asg (je_tup (ja_cons (je_lst ja_nil) (ja_cons (je_lst ja_nil) ja_nil))) (pg_tup (n := 2) rfl (pgs_cons (pg_name (i := 2) sc__law_live.nd rfl (by first | exact Or.inl rfl | exact Or.inr rfl)) (pgs_cons (pg_name (i := 3) sc__law_live.nd rfl (by first | exact Or.inl rfl | exact Or.inr rfl)) pgs_nil))) (gq_t (gqs_cons gq_n (gqs_cons gq_n gqs_nil))))
 (js_cons (js_for (passes_of rfl) rfl (ji_sq (je_v 0)) (pg_name (i := 1) sc__law_live.nd rfl (by first | exact Or.inl rfl | exact Or.inr rfl)) gq_n (js_cons (js_setLc (i := 4) rfl sc__law_live.nd rfl rfl (by rfl) (ji_sq (je_ix ix_seq pr_ix (je_v 1) je_int)) (ok := (show BlkOk N__law_live (defScope (top 39)) _ _ from ⟨rfl, by decide +kernel, by decide +kernel, by decide +kernel, by decide +kernel⟩)) (own := [("_law_one", 5)]) (by decide) (fun _ _ _ _ _ => (pg_name (i := 5) sc__law_live.nd rfl (by first | exact Or.inl rfl | exact Or.inr rfl))) gq_n (fun _ _ _ _ _ => pts_one (jt_cmp (op_notIns (hu65 hr.units)) pr_in (je_ix ix_seq pr_ix (je_v 5) je_int) (je_v 3) (by rfl))) (fun _ _ _ _ _ => (je_ix ix_seq pr_ix (je_v 5) je_int)))
 (js_cons (js_set (i := 3) sc__law_live.nd rfl (Or.inr rfl) (je_op op_adds pr_add (je_v 3) (je_v 4)))
 (js_one (js_if (jt_cmp (op_nes (hu64 hr.units)) pr_ne (je_v 4) (je_lst ja_nil) (nomark _)) (js_one (js_expr (je_bm PySem.F.plainAttrs_list PySem.F.slot_list_append PySem.F.type_list_append (mt_append) pm_append (je_v 2) (ja_cons (je_v 1) ja_nil)))) js_nil)))))
 (js_one (js_ret (je_v 2)))))
theorem p__law_live (c : SaysZ ck fn K) (T : Txt K mg) : FS Row.prog Row.w K mg base 7 (He.ga K "_law_live") m__law_live := by
  obtain ⟨fd, F⟩ := c.def_ 7
  exact fs_pos F sc__law_live (b__law_live c T) (fun _ _ _ _ _ _ us hl => match us, hl with | [_], _ => rfl)
abbrev N__law_due : List Str := ["_law_data_here", "_law_gives", "_law_name", "_law_one", "_law_mine", "_law_row", "_law_asked", "_law_near", "_law_other"]
theorem sc__law_due : FnScope N__law_due ["_law_data_here"] (defScope (top 40)) := ⟨rfl, rfl, rfl, by decide +kernel, rfl, by decide +kernel, by decide +kernel⟩
theorem b__law_due (c : SaysZ ck fn K) (T : Txt K mg) : Body Row.prog Row.w K mg base 12 N__law_due "_law_due" (defScope (top 40)) (He.ga K "_law_due") (defBody (top 40)) s__law_due := by
  intro cdv A outer s H E hr
  exact (js_cons (js_set (i := 1) sc__law_due.nd rfl (Or.inl rfl) je_dnew)
 (js_cons (js_lkA (js_for (passes_of rfl) rfl (ji_keys (je_v 0)) (pg_name (i := 2) sc__law_due.nd rfl (by first | exact Or.inl rfl | exact Or.inr rfl)) gq_n (js_cons (js_set (i := 4) sc__law_due.nd rfl (Or.inl rfl) (je_lst ja_nil))
 (js_cons (js_for (passes_of rfl) rfl (ji_sq (je_dget (hu1 hr.units) (je_v 0) (je_v 2))) (pg_name (i := 5) sc__law_due.nd rfl (by first | exact Or.inl rfl | exact Or.inr rfl)) gq_n (js_one (js_expr (je_bm PySem.F.plainAttrs_list PySem.F.slot_list_extend PySem.F.type_list_extend mt_extA pm_extend (je_v 4) (ja_cons (je_lc rfl sc__law_due.nd (ji_sq (je_ix ix_seq pr_ix (je_v 5) je_int)) (ok := (show BlkOk N__law_due (defScope (top 40)) _ _ from ⟨rfl, by decide +kernel, by decide +kernel, by decide +kernel, by decide +kernel⟩)) (own := [("_law_one", 3)]) (by decide) (fun _ _ _ _ _ => (pg_name (i := 3) sc__law_due.nd rfl (by first | exact Or.inl rfl | exact Or.inr rfl))) gq_n (fun _ _ _ _ _ => jts_nil) (fun _ _ _ _ _ => (je_ix ix_seq pr_ix (je_v 3) je_int))) ja_nil)))))
 (js_one (js_sub (set_dict (hu1 hr.units)) px_setD (je_v 4) (je_v 1) (je_v 2)))))))
 (js_cons (js_lkA (js_for (passes_of rfl) rfl (ji_keys (je_v 0)) (pg_name (i := 3) sc__law_due.nd rfl (by first | exact Or.inl rfl | exact Or.inr rfl)) gq_n (js_cons (js_set (i := 6) sc__law_due.nd rfl (Or.inl rfl) (je_lst ja_nil))
 (js_cons (js_for (passes_of rfl) rfl (ji_sq (je_call (p__law_live c T) (hr.mono (by decide)) (takes_of rfl rfl rfl rfl) rfl T.g__law_live T.k__law_live (ja_cons (je_dget (hu1 hr.units) (je_v 0) (je_v 3)) ja_nil))) (pg_name (i := 5) sc__law_due.nd rfl (by first | exact Or.inl rfl | exact Or.inr rfl)) gq_n (js_one (js_expr (je_bm PySem.F.plainAttrs_list PySem.F.slot_list_extend PySem.F.type_list_extend mt_extA pm_extend (je_v 6) (ja_cons (je_ix ix_seq pr_ix (je_v 5) je_int) ja_nil)))))
 (js_cons (js_set (i := 7) sc__law_due.nd rfl (Or.inr rfl) (je_op op_adds pr_add (je_dget (hu1 hr.units) (je_v 1) (je_v 3)) (je_v 6)))
 (js_one (js_lkA (js_for (passes_of rfl) rfl (ji_keys (je_v 0)) (pg_name (i := 8) sc__law_due.nd rfl (by first | exact Or.inl rfl | exact Or.inr rfl)) gq_n (js_one (js_if (JW_t (jw_and (jt_cmp (op_nes (hu64 hr.units)) pr_ne (je_v 3) (je_v 8) (nomark _)) (jw_and1 (jt_cmp (op_nes (hu64 hr.units)) pr_ne (je_lc rfl sc__law_due.nd (ji_sq (je_dget (hu1 hr.units) (je_v 1) (je_v 8))) (ok := (show BlkOk N__law_due (defScope (top 40)) _ _ from ⟨rfl, by decide +kernel, by decide +kernel, by decide +kernel, by decide +kernel⟩)) (own := [("_law_name", 2)]) (by decide) (fun _ _ _ _ _ => (pg_name (i := 2) sc__law_due.nd rfl (by first | exact Or.inl rfl | exact Or.inr rfl))) gq_n (fun _ _ _ _ _ => pts_one (jt_cmp (op_ins (hu65 hr.units)) pr_in (je_v 2) (je_v 7) (by rfl))) (fun _ _ _ _ _ => (je_v 2))) (je_lst ja_nil) (nomark _))))) (js_one (js_ret je_bl)) js_nil))))))))))
 (js_one (js_ret je_bl)))))
theorem p__law_due (c : SaysZ ck fn K) (T : Txt K mg) : FS Row.prog Row.w K mg base 13 (He.ga K "_law_due") m__law_due := by
  obtain ⟨fd, F⟩ := c.def_ 8
  exact fs_pos F sc__law_due (b__law_due c T) (fun _ _ _ _ _ _ us hl => match us, hl with | [_], _ => rfl)
abbrev N_is_name : List Str := ["thing", "sign"]
theorem sc_is_name : FnScope N_is_name ["thing"] (defScope (top 17)) := ⟨rfl, rfl, rfl, by decide +kernel, rfl, by decide +kernel, by decide +kernel⟩
theorem b_is_name (c : SaysZ ck fn K) (T : Txt K mg) : Body Row.prog Row.w K mg base 6 N_is_name "is_name" (defScope (top 17)) (He.ga K "is_name") (defBody (top 17)) s_is_name := by
  intro cdv A outer s H E hr
  exact (js_cons (js_if (JW_t (jw_or (jt_not (jt_tru (je_isi rfl T.n_isinstance rfl T.n_str boot_str (je_v 0)))) (jw_or1 (jt_not (jt_ch op_le op_le pr_le pr_le je_int (je_cb call_lens pn_len rfl T.n_len boot_len (ja_cons (je_v 0) ja_nil)) (je_gint rfl T.c_MOST_LETTERS)))))) (js_one (js_ret je_bl)) js_nil)
 (js_one (js_ret (je_cb (cr_all rfl) pn_all rfl T.n_all boot_all (ja_cons (je_lc rfl sc_is_name.nd (ji_str (je_v 0)) (ok := (show BlkOk N_is_name (defScope (top 17)) _ _ from ⟨rfl, by decide +kernel, by decide +kernel, by decide +kernel, by decide +kernel⟩)) (own := [("sign", 1)]) (by decide) (fun _ _ _ _ _ => (pg_name (i := 1) sc_is_name.nd rfl (by first | exact Or.inl rfl | exact Or.inr rfl))) gq_n (fun _ _ _ _ _ => jts_nil) (fun _ _ _ _ _ => (je_cmp (op_ins (hu65 hr.units)) pr_in (je_v 1) (je_gstr rfl T.c_LETTERS) (by rfl)))) ja_nil)))))
theorem p_is_name (c : SaysZ ck fn K) (T : Txt K mg) : FS Row.prog Row.w K mg base 7 (He.ga K "is_name") m_is_name := by
  obtain ⟨fd, F⟩ := c.def_ 9
  exact fs_pos F sc_is_name (b_is_name c T) (fun _ _ _ _ _ _ us hl => match us, hl with | [_], _ => rfl)
abbrev N_look_name : List Str := ["thing"]
theorem sc_look_name : FnScope N_look_name ["thing"] (defScope (top 18)) := ⟨rfl, rfl, rfl, by decide +kernel, rfl, by decide +kernel, by decide +kernel⟩
theorem b_look_name (c : SaysZ ck fn K) (T : Txt K mg) : Body Row.prog Row.w K mg base 12 N_look_name "look_name" (defScope (top 18)) (He.ga K "look_name") (defBody (top 18)) s_look_name := by
  intro cdv A outer s H E hr
  exact (js_one (js_if (jt_not (jt_tru (je_call (p_is_name c T) (hr.mono (by decide)) (takes_of rfl rfl rfl rfl) rfl T.g_is_name T.k_is_name (ja_cons (je_v 0) ja_nil)))) (js_one js_no) js_nil))
theorem p_look_name (c : SaysZ ck fn K) (T : Txt K mg) : FS Row.prog Row.w K mg base 13 (He.ga K "look_name") m_look_name := by
  obtain ⟨fd, F⟩ := c.def_ 10
  exact fs_pos F sc_look_name (b_look_name c T) (fun _ _ _ _ _ _ us hl => match us, hl with | [_], _ => rfl)
abbrev N_Archive___init__ : List Str := ["self", "name", "members", "again", "member"]
theorem sc_Archive___init__ : FnScope N_Archive___init__ ["self", "name", "members"] (defScope (mth 24 0)) := ⟨rfl, rfl, rfl, by decide +kernel, rfl, by decide +kernel, by decide +kernel⟩
theorem b_Archive___init__ (c : SaysZ ck fn K) (T : Txt K mg) : Body Row.prog Row.w K mg base 18 N_Archive___init__ "Archive.__init__" (defScope (mth 24 0)) (He.ma K (He.ga K "Archive") "__init__") (defBody (mth 24 0)) s_Archive___init__ := by
  intro cdv A outer s H E hr
  exact (js_cons (js_expr (je_call (p_look_name c T) (hr.mono (by decide)) (takes_of rfl rfl rfl rfl) rfl T.g_look_name T.k_look_name (ja_cons (je_v 1) ja_nil)))
 (js_cons (js_set (i := 3) sc_Archive___init__.nd rfl (Or.inl rfl) (je_call (p_twice_in c T) (hr.mono (by decide)) (takes_of rfl rfl rfl rfl) rfl T.g_twice_in T.k_twice_in (ja_cons (je_lc rfl sc_Archive___init__.nd (ji_sq (je_v 2)) (ok := (show BlkOk N_Archive___init__ (defScope (mth 24 0)) _ _ from ⟨rfl, by decide +kernel, by decide +kernel, by decide +kernel, by decide +kernel⟩)) (own := [("member", 4)]) (by decide) (fun _ _ _ _ _ => (pg_name (i := 4) sc_Archive___init__.nd rfl (by first | exact Or.inl rfl | exact Or.inr rfl))) gq_n (fun _ _ _ _ _ => jts_nil) (fun _ _ _ _ _ => (je_fld (fo_name_Member T) (je_v 4)))) ja_nil)))
 (js_cons (js_if (jt_cmp op_notN pr_notN2 (je_v 3) je_non (nomark _)) (js_one js_no) js_nil)
 (js_cons (js_if (jt_cmp op_gt pr_gt (je_cb call_lens pn_len rfl T.n_len boot_len (ja_cons (je_v 2) ja_nil)) (je_gint rfl T.c_MOST_MEMBERS) (nomark _)) (js_one js_no) js_nil)
 (js_cons (js_fld (fo_name_Archive T) (je_v 0) (je_v 1))
 (js_one (js_fld (fo_members_Archive T) (je_v 0) (je_v 2))))))))
theorem p_Archive___init__ (c : SaysZ ck fn K) (T : Txt K mg) : FS Row.prog Row.w K mg base 19 (He.ma K (He.ga K "Archive") "__init__") m_Archive___init__ := by
  obtain ⟨fd, F⟩ := c.def_ 11
  exact fs_star (ps := ["self", "name"]) (pv := "members") F sc_Archive___init__ (b_Archive___init__ c T) (fun kV doc pm an cdv ct => by
    refine StX.bind_star2 (B := fun xs => bindArgs (PySem.W.fnOf _ _ _ _ _ .none kV doc pm an cdv ct) ⟨xs, []⟩) ?_ ?_ <;> (intros; rfl))
abbrev N_Archive___add__ : List Str := ["self", "member"]
theorem sc_Archive___add__ : FnScope N_Archive___add__ ["self", "member"] (defScope (mth 24 6)) := ⟨rfl, rfl, rfl, by decide +kernel, rfl, by decide +kernel, by decide +kernel⟩
theorem mk_Archive (c : SaysZ ck fn K) (T : Txt K mg) : CMk Row.prog Row.w K mg base 19 "Archive" none [] m_Archive___init__ := ⟨_, _, T.cl.at_ "Archive" (by decide), T.mk_Archive, p_Archive___init__ c T⟩
theorem b_Archive___add__ (c : SaysZ ck fn K) (T : Txt K mg) : Body Row.prog Row.w K mg base 24 N_Archive___add__ "Archive.__add__" (defScope (mth 24 6)) (He.ma K (He.ga K "Archive") "__add__") (defBody (mth 24 6)) s_Archive___add__ := by
  intro cdv A outer s H E hr
  exact (js_one (js_ret (je_mkS (mk_Archive c T) (hr.mono (by decide)) (takes_of rfl rfl rfl rfl) rfl (ja_cons (je_fld (fo_name_Archive T) (je_v 0)) (ja_star (je_fld (fo_members_Archive T) (je_v 0)) (ja_cons (je_v 1) ja_nil))))))
theorem p_Archive___add__ (c : SaysZ ck fn K) (T : Txt K mg) : FS Row.prog Row.w K mg base 25 (He.ma K (He.ga K "Archive") "__add__") m_Archive___add__ := by
  obtain ⟨fd, F⟩ := c.def_ 12
  exact fs_pos F sc_Archive___add__ (b_Archive___add__ c T) (fun _ _ _ _ _ _ us hl => match us, hl with | [_, _], _ => rfl)
abbrev N_look_body : List Str := ["thing"]
theorem sc_look_body : FnScope N_look_body ["thing"] (defScope (top 21)) := ⟨rfl, rfl, rfl, by decide +kernel, rfl, by decide +kernel, by decide +kernel⟩
theorem b_look_body (c : SaysZ ck fn K) (T : Txt K mg) : Body Row.prog Row.w K mg base 6 N_look_body "look_body" (defScope (top 21)) (He.ga K "look_body") (defBody (top 21)) s_look_body := by
  intro cdv A outer s H E hr
  exact (js_one (js_if (JW_t (jw_or (jt_not (jt_tru (je_isi rfl T.n_isinstance rfl T.n_int boot_int (je_v 0)))) (jw_or (jt_tru (je_isi rfl T.n_isinstance rfl T.n_bool boot_bool (je_v 0))) (jw_or1 (jt_not (jt_ch op_le op_le pr_le pr_le je_int (je_v 0) (je_gint rfl T.c_MOST_BODY))))))) (js_one js_no) js_nil))
theorem p_look_body (c : SaysZ ck fn K) (T : Txt K mg) : FS Row.prog Row.w K mg base 7 (He.ga K "look_body") m_look_body := by
  obtain ⟨fd, F⟩ := c.def_ 13
  exact fs_pos F sc_look_body (b_look_body c T) (fun _ _ _ _ _ _ us hl => match us, hl with | [_], _ => rfl)
abbrev N_is_kind : List Str := ["thing"]
theorem sc_is_kind : FnScope N_is_kind ["thing"] (defScope (top 19)) := ⟨rfl, rfl, rfl, by decide +kernel, rfl, by decide +kernel, by decide +kernel⟩
theorem b_is_kind (c : SaysZ ck fn K) (T : Txt K mg) : Body Row.prog Row.w K mg base 6 N_is_kind "is_kind" (defScope (top 19)) (He.ga K "is_kind") (defBody (top 19)) s_is_kind := by
  intro cdv A outer s H E hr
  exact (js_one (js_ret (je_and (je_isi rfl T.n_isinstance rfl T.n_str boot_str (je_v 0)) (je_one (je_cmp (op_ins (hu65 hr.units)) pr_in (je_v 0) (je_gt rfl T.c_KINDS) (by rfl))))))
theorem p_is_kind (c : SaysZ ck fn K) (T : Txt K mg) : FS Row.prog Row.w K mg base 7 (He.ga K "is_kind") m_is_kind := by
  obtain ⟨fd, F⟩ := c.def_ 14
  exact fs_pos F sc_is_kind (b_is_kind c T) (fun _ _ _ _ _ _ us hl => match us, hl with | [_], _ => rfl)
abbrev N_look_kind : List Str := ["thing"]
theorem sc_look_kind : FnScope N_look_kind ["thing"] (defScope (top 20)) := ⟨rfl, rfl, rfl, by decide +kernel, rfl, by decide +kernel, by decide +kernel⟩
theorem b_look_kind (c : SaysZ ck fn K) (T : Txt K mg) : Body Row.prog Row.w K mg base 12 N_look_kind "look_kind" (defScope (top 20)) (He.ga K "look_kind") (defBody (top 20)) s_look_kind := by
  intro cdv A outer s H E hr
  exact (js_one (js_if (jt_not (jt_tru (je_call (p_is_kind c T) (hr.mono (by decide)) (takes_of rfl rfl rfl rfl) rfl T.g_is_kind T.k_is_kind (ja_cons (je_v 0) ja_nil)))) (js_one js_no) js_nil))
theorem p_look_kind (c : SaysZ ck fn K) (T : Txt K mg) : FS Row.prog Row.w K mg base 13 (He.ga K "look_kind") m_look_kind := by
  obtain ⟨fd, F⟩ := c.def_ 15
  exact fs_pos F sc_look_kind (b_look_kind c T) (fun _ _ _ _ _ _ us hl => match us, hl with | [_], _ => rfl)
abbrev N_Member___init__ : List Str := ["self", "name", "defines", "wants", "wanted", "again", "defined", "kind", "body", "row"]
theorem sc_Member___init__ : FnScope N_Member___init__ ["self", "name", "defines", "wants"] (defScope (mth 23 0)) := ⟨rfl, rfl, rfl, by decide +kernel, rfl, by decide +kernel, by decide +kernel⟩
theorem b_Member___init__ (c : SaysZ ck fn K) (T : Txt K mg) : Body Row.prog Row.w K mg base 18 N_Member___init__ "Member.__init__" (defScope (mth 23 0)) (He.ma K (He.ga K "Member") "__init__") (defBody (mth 23 0)) s_Member___init__ := by
  intro cdv A outer s H E hr
  exact (js_cons (js_expr (je_call (p_look_name c T) (hr.mono (by decide)) (takes_of rfl rfl rfl rfl) rfl T.g_look_name T.k_look_name (ja_cons (je_v 1) ja_nil)))
 (js_cons (js_for (passes_of rfl) rfl (ji_sq (je_v 2)) (pg_tup (n := 3) rfl (pgs_cons (pg_name (i := 6) sc_Member___init__.nd rfl (by first | exact Or.inl rfl | exact Or.inr rfl)) (pgs_cons (pg_name (i := 7) sc_Member___init__.nd rfl (by first | exact Or.inl rfl | exact Or.inr rfl)) (pgs_cons (pg_name (i := 8) sc_Member___init__.nd rfl (by first | exact Or.inl rfl | exact Or.inr rfl)) pgs_nil)))) (gq_t (gqs_cons gq_n (gqs_cons gq_n (gqs_cons gq_n gqs_nil)))) (js_cons (js_expr (je_call (p_look_name c T) (hr.mono (by decide)) (takes_of rfl rfl rfl rfl) rfl T.g_look_name T.k_look_name (ja_cons (je_v 6) ja_nil)))
 (js_cons (js_expr (je_call (p_look_kind c T) (hr.mono (by decide)) (takes_of rfl rfl rfl rfl) rfl T.g_look_kind T.k_look_kind (ja_cons (je_v 7) ja_nil)))
 (js_one (js_expr (je_call (p_look_body c T) (hr.mono (by decide)) (takes_of rfl rfl rfl rfl) rfl T.g_look_body T.k_look_body (ja_cons (je_v 8) ja_nil)))))))
 (js_cons (js_for (passes_of rfl) rfl (ji_sq (je_v 3)) (pg_name (i := 4) sc_Member___init__.nd rfl (by first | exact Or.inl rfl | exact Or.inr rfl)) gq_n (js_one (js_expr (je_call (p_look_name c T) (hr.mono (by decide)) (takes_of rfl rfl rfl rfl) rfl T.g_look_name T.k_look_name (ja_cons (je_v 4) ja_nil)))))
 (js_cons (js_set (i := 5) sc_Member___init__.nd rfl (Or.inl rfl) (je_call (p_twice_in c T) (hr.mono (by decide)) (takes_of rfl rfl rfl rfl) rfl T.g_twice_in T.k_twice_in (ja_cons (je_op op_adds pr_add (je_lc rfl sc_Member___init__.nd (ji_sq (je_v 2)) (ok := (show BlkOk N_Member___init__ (defScope (mth 23 0)) _ _ from ⟨rfl, by decide +kernel, by decide +kernel, by decide +kernel, by decide +kernel⟩)) (own := [("row", 9)]) (by decide) (fun _ _ _ _ _ => (pg_name (i := 9) sc_Member___init__.nd rfl (by first | exact Or.inl rfl | exact Or.inr rfl))) gq_n (fun _ _ _ _ _ => jts_nil) (fun _ _ _ _ _ => (je_ix ix_seq pr_ix (je_v 9) je_int))) (je_ct call_list_of pn_list rfl T.n_list boot_list (ja_cons (je_v 3) ja_nil))) ja_nil)))
 (js_cons (js_if (jt_cmp op_notN pr_notN2 (je_v 5) je_non (nomark _)) (js_one js_no) js_nil)
 (js_cons (js_if (JW_t (jw_or (jt_cmp op_gt pr_gt (je_cb call_lens pn_len rfl T.n_len boot_len (ja_cons (je_v 2) ja_nil)) (je_gint rfl T.c_MOST_PARTS) (nomark _)) (jw_or1 (jt_cmp op_gt pr_gt (je_cb call_lens pn_len rfl T.n_len boot_len (ja_cons (je_v 3) ja_nil)) (je_gint rfl T.c_MOST_PARTS) (nomark _))))) (js_one js_no) js_nil)
 (js_cons (js_fld (fo_name_Member T) (je_v 0) (je_v 1))
 (js_cons (js_fld (fo_defines_Member T) (je_v 0) (je_ct call_tuple_of pn_tuple rfl T.n_tuple boot_tuple (ja_cons (je_cb call_srtA (pn_sortA (hu66 hr.units)) rfl T.n_sorted boot_sorted (ja_cons (je_v 2) ja_nil)) ja_nil)))
 (js_one (js_fld (fo_wants_Member T) (je_v 0) (je_ct call_tuple_of pn_tuple rfl T.n_tuple boot_tuple (ja_cons (je_cb call_srtA (pn_sortA (hu66 hr.units)) rfl T.n_sorted boot_sorted (ja_cons (je_v 3) ja_nil)) ja_nil))))))))))))
theorem k_Member___init___2_defines_wants (c : SaysZ ck fn K) (T : Txt K mg) : FSk Row.prog Row.w K mg base 19 (He.ma K (He.ga K "Member") "__init__") 2 ["defines", "wants"] km_Member___init___2_defines_wants := by
  obtain ⟨fd, F⟩ := c.def_ 16
  exact fs_key (n := 2) F sc_Member___init__ (b_Member___init__ c T) (fun ds es => ds ++ es) (fun _ _ _ _ _ _ us ws h1 h2 => match us, h1, ws, h2 with | [_, _], _, [_, _], _ => rfl) (fun us ws h1 h2 => by rw [List.length_append, h1, h2] <;> rfl) (fun h1 h2 => h1.append h2) (fun h1 h2 => h1.append h2)
abbrev N_Store___contains__ : List Str := ["self", "thing", "archive"]
theorem sc_Store___contains__ : FnScope N_Store___contains__ ["self", "thing"] (defScope (mth 25 4)) := ⟨rfl, rfl, rfl, by decide +kernel, rfl, by decide +kernel, by decide +kernel⟩
theorem b_Store___contains__ (c : SaysZ ck fn K) (T : Txt K mg) : Body Row.prog Row.w K mg base 6 N_Store___contains__ "Store.__contains__" (defScope (mth 25 4)) (He.ma K (He.ga K "Store") "__contains__") (defBody (mth 25 4)) s_Store___contains__ := by
  intro cdv A outer s H E hr
  exact (js_one (js_ret (je_and (je_isi rfl T.n_isinstance rfl T.n_str boot_str (je_v 1)) (je_one (je_cmp (op_ins (hu65 hr.units)) pr_in (je_v 1) (je_lc rfl sc_Store___contains__.nd (ji_sq (je_fld (fo_archives_Store T) (je_v 0))) (ok := (show BlkOk N_Store___contains__ (defScope (mth 25 4)) _ _ from ⟨rfl, by decide +kernel, by decide +kernel, by decide +kernel, by decide +kernel⟩)) (own := [("archive", 2)]) (by decide) (fun _ _ _ _ _ => (pg_name (i := 2) sc_Store___contains__.nd rfl (by first | exact Or.inl rfl | exact Or.inr rfl))) gq_n (fun _ _ _ _ _ => jts_nil) (fun _ _ _ _ _ => (je_fld (fo_name_Archive T) (je_v 2)))) (by rfl))))))
theorem p_Store___contains__ (c : SaysZ ck fn K) (T : Txt K mg) : FS Row.prog Row.w K mg base 7 (He.ma K (He.ga K "Store") "__contains__") m_Store___contains__ := by
  obtain ⟨fd, F⟩ := c.def_ 17
  exact fs_pos F sc_Store___contains__ (b_Store___contains__ c T) (fun _ _ _ _ _ _ us hl => match us, hl with | [_, _], _ => rfl)
theorem tb___contains___Store_ok (c : SaysZ ck fn K) (T : Txt K mg) : MTab Row.prog Row.w K mg base 7 tb___contains___Store "__contains__" := (mtab_cons (T.cl.at_ "Store" (by decide)) (T.cl.cls (by decide)) T.m_Store___contains__ (p_Store___contains__ c T) (by decide) mtab_nil)
abbrev N_Store___or__ : List Str := ["self", "archive", "rows", "one"]
theorem sc_Store___or__ : FnScope N_Store___or__ ["self", "archive"] (defScope (mth 25 6)) := ⟨rfl, rfl, rfl, by decide +kernel, rfl, by decide +kernel, by decide +kernel⟩
theorem mk_Store (c : SaysZ ck fn K) (T : Txt K mg) : CMk Row.prog Row.w K mg base 13 "Store" none [] m_Store___init__ := ⟨_, _, T.cl.at_ "Store" (by decide), T.mk_Store, p_Store___init__ c T⟩
theorem b_Store___or__ (c : SaysZ ck fn K) (T : Txt K mg) : Body Row.prog Row.w K mg base 18 N_Store___or__ "Store.__or__" (defScope (mth 25 6)) (He.ma K (He.ga K "Store") "__or__") (defBody (mth 25 6)) s_Store___or__ := by
  intro cdv A outer s H E hr
  exact (js_cons (js_if (jt_cmpd (opd_in (.inr ⟨rfl, rfl⟩) (tb___contains___Store_ok c T) (hr.mono (by decide)) (takes_of rfl rfl rfl rfl) opd_no) (je_fld (fo_name_Archive T) (je_v 1)) (je_v 0) (by rfl)) (js_one (js_ret (je_mkS1 (mk_Store c T) (hr.mono (by decide)) (takes_of rfl rfl rfl rfl) rfl (ja_star (je_fld (fo_archives_Store T) (je_v 0)) (ja_cons (je_v 1) ja_nil))))) js_nil)
 (js_cons (js_setLc (i := 2) rfl sc_Store___or__.nd rfl rfl (by rfl) (ji_sq (je_fld (fo_archives_Store T) (je_v 0))) (ok := (show BlkOk N_Store___or__ (defScope (mth 25 6)) _ _ from ⟨rfl, by decide +kernel, by decide +kernel, by decide +kernel, by decide +kernel⟩)) (own := [("one", 3)]) (by decide) (fun _ _ _ _ _ => (pg_name (i := 3) sc_Store___or__.nd rfl (by first | exact Or.inl rfl | exact Or.inr rfl))) gq_n (fun _ _ _ _ _ => jts_nil) (fun _ _ _ _ _ => (je_if (jt_cmp (op_eqs (hu64 hr.units)) pr_eq (je_fld (fo_name_Archive T) (je_v 3)) (je_fld (fo_name_Archive T) (je_v 1)) (nomark _)) (je_v 1) (je_v 3))))
 (js_one (js_ret (je_mkS0 (mk_Store c T) (hr.mono (by decide)) (takes_of rfl rfl rfl rfl) rfl (je_v 2))))))
theorem p_Store___or__ (c : SaysZ ck fn K) (T : Txt K mg) : FS Row.prog Row.w K mg base 19 (He.ma K (He.ga K "Store") "__or__") m_Store___or__ := by
  obtain ⟨fd, F⟩ := c.def_ 18
  exact fs_pos F sc_Store___or__ (b_Store___or__ c T) (fun _ _ _ _ _ _ us hl => match us, hl with | [_, _], _ => rfl)
theorem tb___add___Archive_ok (c : SaysZ ck fn K) (T : Txt K mg) : MTab Row.prog Row.w K mg base 25 tb___add___Archive "__add__" := (mtab_cons (T.cl.at_ "Archive" (by decide)) (T.cl.cls (by decide)) T.m_Archive___add__ (p_Archive___add__ c T) (by decide) mtab_nil)
theorem tb___or___Store_ok (c : SaysZ ck fn K) (T : Txt K mg) : MTab Row.prog Row.w K mg base 19 tb___or___Store "__or__" := (mtab_cons (T.cl.at_ "Store" (by decide)) (T.cl.cls (by decide)) T.m_Store___or__ (p_Store___or__ c T) (by decide) mtab_nil)
theorem tb___add___Archive_l (T : Txt K mg) : LTab K mg tb___add___Archive := (ltab_cons (T.cl.at_ "Archive" (by decide)) T.x_0 ltab_nil)
theorem tb___or___Store_l (T : Txt K mg) : LTab K mg tb___or___Store := (ltab_cons (T.cl.at_ "Store" (by decide)) T.x_2 ltab_nil)
abbrev N__law_store : List Str := ["_law_data_here", "_law_store_here", "_law_name", "_law_archive", "_law_row"]
theorem sc__law_store : FnScope N__law_store ["_law_data_here"] (defScope (top 38)) := ⟨rfl, rfl, rfl, by decide +kernel, rfl, by decide +kernel, by decide +kernel⟩
theorem mk_Member_2_defines_wants (c : SaysZ ck fn K) (T : Txt K mg) : CMk Row.prog Row.w K mg base 19 "Member" (some 2) ["defines", "wants"] km_Member___init___2_defines_wants := ⟨_, _, T.cl.at_ "Member" (by decide), T.mk_Member, k_Member___init___2_defines_wants c T⟩
theorem b__law_store (c : SaysZ ck fn K) (T : Txt K mg) : Body Row.prog Row.w K mg base 30 N__law_store "_law_store" (defScope (top 38)) (He.ga K "_law_store") (defBody (top 38)) s__law_store := by
  intro cdv A outer s H E hr
  exact (js_cons (js_set (i := 1) sc__law_store.nd rfl (Or.inl rfl) (je_mk0 (mk_Store c T) (hr.mono (by decide)) (takes_of rfl rfl rfl rfl) rfl))
 (js_cons (js_lkA (js_for (passes_of rfl) rfl (ji_keys (je_v 0)) (pg_name (i := 2) sc__law_store.nd rfl (by first | exact Or.inl rfl | exact Or.inr rfl)) gq_n (js_cons (js_set (i := 3) sc__law_store.nd rfl (Or.inl rfl) (je_mk (mk_Archive c T) (hr.mono (by decide)) (takes_of rfl rfl rfl rfl) rfl (ja_cons (je_v 2) ja_nil)))
 (js_cons (js_for (passes_of rfl) rfl (ji_sq (je_dget (hu1 hr.units) (je_v 0) (je_v 2))) (pg_name (i := 4) sc__law_store.nd rfl (by first | exact Or.inl rfl | exact Or.inr rfl)) gq_n (js_one (js_set (i := 3) sc__law_store.nd rfl (Or.inl rfl) (je_opd (opd_binop (tb___add___Archive_ok c T) (tb___add___Archive_l T) (rt_add_Member T) (fun h => nomatch h) (hr.mono (by decide)) (takes_of rfl rfl rfl rfl) ob_add ob_radd opd_no) (je_v 3) (je_mkk (ks := ["defines", "wants"]) (mk_Member_2_defines_wants c T) (hr.mono (by decide)) (takes_of rfl rfl rfl rfl) rfl (ja_cons (je_ix ix_seq pr_ix (je_v 4) je_int) ja_nil) (jk_cons (je_ix ix_seq pr_ix (je_v 4) je_int) (jk_cons (je_ix ix_seq pr_ix (je_v 4) je_int) jk_nil)))))))
 (js_one (js_set (i := 1) sc__law_store.nd rfl (Or.inl rfl) (je_opd (opd_binop (tb___or___Store_ok c T) (tb___or___Store_l T) (rt_or_Archive T) (fun h => nomatch h) (hr.mono (by decide)) (takes_of rfl rfl rfl rfl) ob_or ob_ror opd_no) (je_v 1) (je_v 3))))))))
 (js_one (js_ret (je_v 1)))))
theorem p__law_store (c : SaysZ ck fn K) (T : Txt K mg) : FS Row.prog Row.w K mg base 31 (He.ga K "_law_store") m__law_store := by
  obtain ⟨fd, F⟩ := c.def_ 19
  exact fs_pos F sc__law_store (b__law_store c T) (fun _ _ _ _ _ _ us hl => match us, hl with | [_], _ => rfl)
abbrev N_defined_names : List Str := ["archive", "member", "row"]
theorem sc_defined_names : FnScope N_defined_names ["archive"] (defScope (top 28)) := ⟨rfl, rfl, rfl, by decide +kernel, rfl, by decide +kernel, by decide +kernel⟩
theorem b_defined_names (c : SaysZ ck fn K) (T : Txt K mg) : Body Row.prog Row.w K mg base 6 N_defined_names "defined_names" (defScope (top 28)) (He.ga K "defined_names") (defBody (top 28)) s_defined_names := by
  intro cdv A outer s H E hr
  exact (js_one (js_ret (je_lc2 rfl sc_defined_names.nd (ji_own (itb_Archive_ok c T) (hr.mono (by decide)) (je_v 0)) (own := [("member", 1), ("row", 2)]) (vs1 := [2]) (ok := (show BlkOk N_defined_names (defScope (top 28)) _ _ from ⟨rfl, by decide +kernel, by decide +kernel, by decide +kernel, by decide +kernel⟩)) (by decide) (by decide) (by decide) (fun _ _ _ _ _ => (pg_name (i := 1) sc_defined_names.nd rfl (by first | exact Or.inl rfl | exact Or.inr rfl))) gq_n (fun _ _ _ _ _ => jts_nil) (fun _ _ _ _ _ => (ji_sq (je_fld (fo_defines_Member T) (je_v 1)))) (fun _ _ _ _ _ => (pg_name (i := 2) sc_defined_names.nd rfl (by first | exact Or.inl rfl | exact Or.inr rfl))) gq_n (fun _ _ _ _ _ => jts_nil) (fun _ _ _ _ _ => (je_ix ix_seq pr_ix (je_v 2) je_int)))))
theorem p_defined_names (c : SaysZ ck fn K) (T : Txt K mg) : FS Row.prog Row.w K mg base 7 (He.ga K "defined_names") m_defined_names := by
  obtain ⟨fd, F⟩ := c.def_ 20
  exact fs_pos F sc_defined_names (b_defined_names c T) (fun _ _ _ _ _ _ us hl => match us, hl with | [_], _ => rfl)
abbrev N_Archive___contains__ : List Str := ["self", "thing", "member"]
theorem sc_Archive___contains__ : FnScope N_Archive___contains__ ["self", "thing"] (defScope (mth 24 4)) := ⟨rfl, rfl, rfl, by decide +kernel, rfl, by decide +kernel, by decide +kernel⟩
theorem b_Archive___contains__ (c : SaysZ ck fn K) (T : Txt K mg) : Body Row.prog Row.w K mg base 6 N_Archive___contains__ "Archive.__contains__" (defScope (mth 24 4)) (He.ma K (He.ga K "Archive") "__contains__") (defBody (mth 24 4)) s_Archive___contains__ := by
  intro cdv A outer s H E hr
  exact (js_one (js_ret (je_and (je_isi rfl T.n_isinstance rfl T.n_str boot_str (je_v 1)) (je_one (je_cmp (op_ins (hu65 hr.units)) pr_in (je_v 1) (je_lc rfl sc_Archive___contains__.nd (ji_sq (je_fld (fo_members_Archive T) (je_v 0))) (ok := (show BlkOk N_Archive___contains__ (defScope (mth 24 4)) _ _ from ⟨rfl, by decide +kernel, by decide +kernel, by decide +kernel, by decide +kernel⟩)) (own := [("member", 2)]) (by decide) (fun _ _ _ _ _ => (pg_name (i := 2) sc_Archive___contains__.nd rfl (by first | exact Or.inl rfl | exact Or.inr rfl))) gq_n (fun _ _ _ _ _ => jts_nil) (fun _ _ _ _ _ => (je_fld (fo_name_Member T) (je_v 2)))) (by rfl))))))
theorem p_Archive___contains__ (c : SaysZ ck fn K) (T : Txt K mg) : FS Row.prog Row.w K mg base 7 (He.ma K (He.ga K "Archive") "__contains__") m_Archive___contains__ := by
  obtain ⟨fd, F⟩ := c.def_ 21
  exact fs_pos F sc_Archive___contains__ (b_Archive___contains__ c T) (fun _ _ _ _ _ _ us hl => match us, hl with | [_, _], _ => rfl)
theorem tb___contains___Archive_ok (c : SaysZ ck fn K) (T : Txt K mg) : MTab Row.prog Row.w K mg base 7 tb___contains___Archive "__contains__" := (mtab_cons (T.cl.at_ "Archive" (by decide)) (T.cl.cls (by decide)) T.m_Archive___contains__ (p_Archive___contains__ c T) (by decide) mtab_nil)
abbrev N_Archive___getitem__ : List Str := ["self", "thing", "member"]
theorem sc_Archive___getitem__ : FnScope N_Archive___getitem__ ["self", "thing"] (defScope (mth 24 5)) := ⟨rfl, rfl, rfl, by decide +kernel, rfl, by decide +kernel, by decide +kernel⟩
theorem b_Archive___getitem__ (c : SaysZ ck fn K) (T : Txt K mg) : Body Row.prog Row.w K mg base 12 N_Archive___getitem__ "Archive.__getitem__" (defScope (mth 24 5)) (He.ma K (He.ga K "Archive") "__getitem__") (defBody (mth 24 5)) s_Archive___getitem__ := by
  intro cdv A outer s H E hr
  exact (js_cons (js_if (jt_cmpd (opd_in (.inr ⟨rfl, rfl⟩) (tb___contains___Archive_ok c T) (hr.mono (by decide)) (takes_of rfl rfl rfl rfl) opd_no) (je_v 1) (je_v 0) (by rfl)) (js_one js_no) js_nil)
 (js_one (js_ret (je_ix ix_seq pr_ix (je_lc rfl sc_Archive___getitem__.nd (ji_sq (je_fld (fo_members_Archive T) (je_v 0))) (ok := (show BlkOk N_Archive___getitem__ (defScope (mth 24 5)) _ _ from ⟨rfl, by decide +kernel, by decide +kernel, by decide +kernel, by decide +kernel⟩)) (own := [("member", 2)]) (by decide) (fun _ _ _ _ _ => (pg_name (i := 2) sc_Archive___getitem__.nd rfl (by first | exact Or.inl rfl | exact Or.inr rfl))) gq_n (fun _ _ _ _ _ => pts_one (jt_cmp (op_eqs (hu64 hr.units)) pr_eq (je_fld (fo_name_Member T) (je_v 2)) (je_v 1) (nomark _))) (fun _ _ _ _ _ => (je_v 2))) je_int))))
theorem p_Archive___getitem__ (c : SaysZ ck fn K) (T : Txt K mg) : FS Row.prog Row.w K mg base 13 (He.ma K (He.ga K "Archive") "__getitem__") m_Archive___getitem__ := by
  obtain ⟨fd, F⟩ := c.def_ 22
  exact fs_pos F sc_Archive___getitem__ (b_Archive___getitem__ c T) (fun _ _ _ _ _ _ us hl => match us, hl with | [_, _], _ => rfl)
abbrev N_Archive_live : List Str := ["self", "found", "seen", "member", "fresh", "name", "row"]
theorem sc_Archive_live : FnScope N_Archive_live ["self"] (defScope (mth 24 9)) := ⟨rfl, rfl, rfl, by decide +kernel, rfl, by decide +kernel, by decide +kernel⟩
theorem b_Archive_live (c : SaysZ ck fn K) (T : Txt K mg) : Body Row.prog Row.w K mg base 6 N_Archive_live "Archive.live" (defScope (mth 24 9)) (He.ma K (He.ga K "Archive") "live") (defBody (mth 24 9)) s_Archive_live := by
  intro cdv A outer s H E hr
  exact (js_cons (js_set (i := 1) sc_Archive_live.nd rfl (Or.inl rfl) (je_lst ja_nil))
 (js_cons (js_set (i := 2) sc_Archive_live.nd rfl (Or.inr rfl) (je_set0 ⟨rfl, rfl⟩ rfl T.n_set))
 (js_cons (js_for (passes_of rfl) rfl (ji_sq (je_fld (fo_members_Archive T) (je_v 0))) (pg_name (i := 3) sc_Archive_live.nd rfl (by first | exact Or.inl rfl | exact Or.inr rfl)) gq_n (js_cons (js_setLc (i := 4) rfl sc_Archive_live.nd rfl rfl (by rfl) (ji_sq (je_fld (fo_defines_Member T) (je_v 3))) (ok := (show BlkOk N_Archive_live (defScope (mth 24 9)) _ _ from ⟨rfl, by decide +kernel, by decide +kernel, by decide +kernel, by decide +kernel⟩)) (own := [("row", 6)]) (by decide) (fun _ _ _ _ _ => (pg_name (i := 6) sc_Archive_live.nd rfl (by first | exact Or.inl rfl | exact Or.inr rfl))) gq_n (fun _ _ _ _ _ => pts_one (jt_cmpd (opd_inSt ⟨rfl, rfl⟩ (.inr ⟨rfl, rfl⟩) (OpD.of (op_notIns (hu65 hr.units)) pr_in)) (je_ix ix_seq pr_ix (je_v 6) je_int) (je_v 2) (by rfl))) (fun _ _ _ _ _ => (je_ix ix_seq pr_ix (je_v 6) je_int)))
 (js_cons (js_for (passes_of rfl) rfl (ji_sq (je_v 4)) (pg_name (i := 5) sc_Archive_live.nd rfl (by first | exact Or.inl rfl | exact Or.inr rfl)) gq_n (js_one (js_expr (je_sadd ⟨rfl, rfl⟩ (je_v 2) (ja_cons (je_v 5) ja_nil)))))
 (js_one (js_if (jt_cmp (op_nes (hu64 hr.units)) pr_ne (je_v 4) (je_lst ja_nil) (nomark _)) (js_one (js_expr (je_bm PySem.F.plainAttrs_list PySem.F.slot_list_append PySem.F.type_list_append (mt_append) pm_append (je_v 1) (ja_cons (je_fld (fo_name_Member T) (je_v 3)) ja_nil)))) js_nil)))))
 (js_one (js_ret (je_v 1))))))
theorem p_Archive_live (c : SaysZ ck fn K) (T : Txt K mg) : FS Row.prog Row.w K mg base 7 (He.ma K (He.ga K "Archive") "live") m_Archive_live := by
  obtain ⟨fd, F⟩ := c.def_ 23
  exact fs_pos F sc_Archive_live (b_Archive_live c T) (fun _ _ _ _ _ _ us hl => match us, hl with | [_], _ => rfl)
theorem tb_live_Archive_ok (c : SaysZ ck fn K) (T : Txt K mg) : MTab Row.prog Row.w K mg base 7 tb_live_Archive "live" := (mtab_cons (T.cl.at_ "Archive" (by decide)) (T.cl.cls (by decide)) T.m_Archive_live (p_Archive_live c T) (by decide) mtab_nil)
theorem tb___getitem___Archive_ok (c : SaysZ ck fn K) (T : Txt K mg) : MTab Row.prog Row.w K mg base 13 tb___getitem___Archive "__getitem__" := (mtab_cons (T.cl.at_ "Archive" (by decide)) (T.cl.cls (by decide)) T.m_Archive___getitem__ (p_Archive___getitem__ c T) (by decide) mtab_nil)
theorem tb___getitem___Archive_f (T : Txt K mg) : FnTab K mg tb___getitem___Archive "__getitem__" := (fntab_cons (T.cl.at_ "Archive" (by decide)) T.m_Archive___getitem__ T.x_4 fntab_nil)
abbrev N_live_wants : List Str := ["archive", "live", "name"]
theorem sc_live_wants : FnScope N_live_wants ["archive"] (defScope (top 29)) := ⟨rfl, rfl, rfl, by decide +kernel, rfl, by decide +kernel, by decide +kernel⟩
theorem b_live_wants (c : SaysZ ck fn K) (T : Txt K mg) : Body Row.prog Row.w K mg base 18 N_live_wants "live_wants" (defScope (top 29)) (He.ga K "live_wants") (defBody (top 29)) s_live_wants := by
  intro cdv A outer s H E hr
  exact (js_one (js_ret (je_lc2 rfl sc_live_wants.nd (ji_sq (je_meth0 (tb_live_Archive_ok c T) (hr.mono (by decide)) (takes_of rfl rfl rfl rfl) (je_v 0))) (own := [("live", 1), ("name", 2)]) (vs1 := [2]) (ok := (show BlkOk N_live_wants (defScope (top 29)) _ _ from ⟨rfl, by decide +kernel, by decide +kernel, by decide +kernel, by decide +kernel⟩)) (by decide) (by decide) (by decide) (fun _ _ _ _ _ => (pg_name (i := 1) sc_live_wants.nd rfl (by first | exact Or.inl rfl | exact Or.inr rfl))) gq_n (fun _ _ _ _ _ => jts_nil) (fun _ _ _ _ _ => (ji_sq (je_fld (fo_wants_Member T) (je_ixd (ixd_own (tb___getitem___Archive_ok c T) (tb___getitem___Archive_f T) (hr.mono (by decide)) (takes0) ixd_no) (je_v 0) (je_v 1))))) (fun _ _ _ _ _ => (pg_name (i := 2) sc_live_wants.nd rfl (by first | exact Or.inl rfl | exact Or.inr rfl))) gq_n (fun _ _ _ _ _ => jts_nil) (fun _ _ _ _ _ => (je_v 2)))))
theorem p_live_wants (c : SaysZ ck fn K) (T : Txt K mg) : FS Row.prog Row.w K mg base 19 (He.ga K "live_wants") m_live_wants := by
  obtain ⟨fd, F⟩ := c.def_ 24
  exact fs_pos F sc_live_wants (b_live_wants c T) (fun _ _ _ _ _ _ us hl => match us, hl with | [_], _ => rfl)
abbrev N_are_free : List Str := ["one", "other", "mine", "others", "name"]
theorem sc_are_free : FnScope N_are_free ["one", "other"] (defScope (top 30)) := ⟨rfl, rfl, rfl, by decide +kernel, rfl, by decide +kernel, by decide +kernel⟩
theorem b_are_free (c : SaysZ ck fn K) (T : Txt K mg) : Body Row.prog Row.w K mg base 24 N_are_free "are_free" (defScope (top 30)) (He.ga K "are_free") (defBody (top 30)) s_are_free := by
  intro cdv A outer s H E hr
  exact (js_cons (js_asg (je_tup (ja_cons (je_call (p_defined_names c T) (hr.mono (by decide)) (takes_of rfl rfl rfl rfl) rfl T.g_defined_names T.k_defined_names (ja_cons (je_v 0) ja_nil)) (ja_cons (je_call (p_defined_names c T) (hr.mono (by decide)) (takes_of rfl rfl rfl rfl) rfl T.g_defined_names T.k_defined_names (ja_cons (je_v 1) ja_nil)) ja_nil))) (pg_tup (n := 2) rfl (pgs_cons (pg_name (i := 2) sc_are_free.nd rfl (by first | exact Or.inl rfl | exact Or.inr rfl)) (pgs_cons (pg_name (i := 3) sc_are_free.nd rfl (by first | exact Or.inl rfl | exact Or.inr rfl)) pgs_nil))) (gq_t (gqs_cons gq_n (gqs_cons gq_n gqs_nil))))
 (js_cons (js_if (jt_tru (je_cb (cr_any rfl) pn_any rfl T.n_any boot_any (ja_cons (je_lc rfl sc_are_free.nd (ji_sq (je_op op_adds pr_add (je_v 2) (je_call (p_live_wants c T) (hr.mono (by decide)) (takes_of rfl rfl rfl rfl) rfl T.g_live_wants T.k_live_wants (ja_cons (je_v 0) ja_nil)))) (ok := (show BlkOk N_are_free (defScope (top 30)) _ _ from ⟨rfl, by decide +kernel, by decide +kernel, by decide +kernel, by decide +kernel⟩)) (own := [("name", 4)]) (by decide) (fun _ _ _ _ _ => (pg_name (i := 4) sc_are_free.nd rfl (by first | exact Or.inl rfl | exact Or.inr rfl))) gq_n (fun _ _ _ _ _ => jts_nil) (fun _ _ _ _ _ => (je_cmp (op_ins (hu65 hr.units)) pr_in (je_v 4) (je_v 3) (by rfl)))) ja_nil))) (js_one (js_ret je_bl)) js_nil)
 (js_one (js_ret (je_not (je_cb (cr_any rfl) pn_any rfl T.n_any boot_any (ja_cons (je_lc rfl sc_are_free.nd (ji_sq (je_call (p_live_wants c T) (hr.mono (by decide)) (takes_of rfl rfl rfl rfl) rfl T.g_live_wants T.k_live_wants (ja_cons (je_v 1) ja_nil))) (ok := (show BlkOk N_are_free (defScope (top 30)) _ _ from ⟨rfl, by decide +kernel, by decide +kernel, by decide +kernel, by decide +kernel⟩)) (own := [("name", 4)]) (by decide) (fun _ _ _ _ _ => (pg_name (i := 4) sc_are_free.nd rfl (by first | exact Or.inl rfl | exact Or.inr rfl))) gq_n (fun _ _ _ _ _ => jts_nil) (fun _ _ _ _ _ => (je_cmp (op_ins (hu65 hr.units)) pr_in (je_v 4) (je_v 2) (by rfl)))) ja_nil)))))))
theorem p_are_free (c : SaysZ ck fn K) (T : Txt K mg) : FS Row.prog Row.w K mg base 25 (He.ga K "are_free") m_are_free := by
  obtain ⟨fd, F⟩ := c.def_ 25
  exact fs_pos F sc_are_free (b_are_free c T) (fun _ _ _ _ _ _ us hl => match us, hl with | [_, _], _ => rfl)
abbrev N_is_free : List Str := ["store", "one", "other"]
theorem sc_is_free : FnScope N_is_free ["store"] (defScope (top 31)) := ⟨rfl, rfl, rfl, by decide +kernel, rfl, by decide +kernel, by decide +kernel⟩
theorem b_is_free (c : SaysZ ck fn K) (T : Txt K mg) : Body Row.prog Row.w K mg base 30 N_is_free "is_free" (defScope (top 31)) (He.ga K "is_free") (defBody (top 31)) s_is_free := by
  intro cdv A outer s H E hr
  exact (js_one (js_ret (je_cb (cr_all rfl) pn_all rfl T.n_all boot_all (ja_cons (je_lc2 rfl sc_is_free.nd (ji_own (itb_Store_ok c T) (hr.mono (by decide)) (je_v 0)) (own := [("one", 1), ("other", 2)]) (vs1 := [2]) (ok := (show BlkOk N_is_free (defScope (top 31)) _ _ from ⟨rfl, by decide +kernel, by decide +kernel, by decide +kernel, by decide +kernel⟩)) (by decide) (by decide) (by decide) (fun _ _ _ _ _ => (pg_name (i := 1) sc_is_free.nd rfl (by first | exact Or.inl rfl | exact Or.inr rfl))) gq_n (fun _ _ _ _ _ => jts_nil) (fun _ _ _ _ _ => (ji_own (itb_Store_ok c T) (hr.mono (by decide)) (je_v 0))) (fun _ _ _ _ _ => (pg_name (i := 2) sc_is_free.nd rfl (by first | exact Or.inl rfl | exact Or.inr rfl))) gq_n (fun _ _ _ _ _ => pts_one (jt_cmpd opd_ltS (je_fld (fo_name_Archive T) (je_v 1)) (je_fld (fo_name_Archive T) (je_v 2)) (nomark _))) (fun _ _ _ _ _ => (je_call (p_are_free c T) (hr.mono (by decide)) (takes0) rfl T.g_are_free T.k_are_free (ja_cons (je_v 1) (ja_cons (je_v 2) ja_nil))))) ja_nil))))
theorem p_is_free (c : SaysZ ck fn K) (T : Txt K mg) : FS Row.prog Row.w K mg base 31 (He.ga K "is_free") m_is_free := by
  obtain ⟨fd, F⟩ := c.def_ 26
  exact fs_pos F sc_is_free (b_is_free c T) (fun _ _ _ _ _ _ us hl => match us, hl with | [_], _ => rfl)
abbrev N_law : List Str := ["_law_script", "_law_at", "_law_bag_here", "_law_turn", "_law_data_here", "_law_told"]
theorem sc_law : FnScope N_law ["_law_script"] (defScope (top 42)) := ⟨rfl, rfl, rfl, by decide +kernel, rfl, by decide +kernel, by decide +kernel⟩
theorem b_law (c : SaysZ ck fn K) (T : Txt K mg) : Body Row.prog Row.w K mg base 36 N_law "law" (defScope (top 42)) (He.ga K "law") (defBody (top 42)) s_law := by
  intro cdv A outer s H E hr
  exact (js_cons (js_for (passes_of rfl) rfl (ji_range1 rfl T.n_range (ja_cons (je_cb (call_max2 rfl) pn_max2 rfl T.n_max boot_max (ja_cons je_int (ja_cons (je_cb (call_min2 rfl) pn_min2 rfl T.n_min boot_min (ja_cons je_int (ja_cons (je_cb call_lens pn_len rfl T.n_len boot_len (ja_cons (je_v 0) ja_nil)) ja_nil))) ja_nil))) ja_nil)) (pg_name (i := 1) sc_law.nd rfl (by first | exact Or.inl rfl | exact Or.inr rfl)) gq_n (js_cons (js_set (i := 2) sc_law.nd rfl (Or.inl rfl) (je_call (p__law_bag c T) (hr.mono (by decide)) (takes_of rfl rfl rfl rfl) rfl T.g__law_bag T.k__law_bag (ja_cons (je_v 0) (ja_cons (je_v 1) ja_nil))))
 (js_one (js_for (passes_of rfl) rfl (ji_range1 rfl T.n_range (ja_cons je_int ja_nil)) (pg_name (i := 3) sc_law.nd rfl (by first | exact Or.inl rfl | exact Or.inr rfl)) gq_n (js_cons (js_set (i := 4) sc_law.nd rfl (Or.inl rfl) (je_call (p__law_drawn c T) (hr.mono (by decide)) (takes_of rfl rfl rfl rfl) rfl T.g__law_drawn T.k__law_drawn (ja_cons (je_v 2) ja_nil)))
 (js_cons (js_set (i := 5) sc_law.nd rfl (Or.inl rfl) (je_call (p_is_free c T) (hr.mono (by decide)) (takes_of rfl rfl rfl rfl) rfl T.g_is_free T.k_is_free (ja_cons (je_call (p__law_store c T) (hr.mono (by decide)) (takes_of rfl rfl rfl rfl) rfl T.g__law_store T.k__law_store (ja_cons (je_v 4) ja_nil)) ja_nil)))
 (js_one (js_if (JW_t (jw_or (jt_not (jt_tru (je_isi rfl T.n_isinstance rfl T.n_bool boot_bool (je_v 5)))) (jw_or1 (jt_cmp (op_nes (hu64 hr.units)) pr_ne (je_v 5) (je_call (p__law_due c T) (hr.mono (by decide)) (takes_of rfl rfl rfl rfl) rfl T.g__law_due T.k__law_due (ja_cons (je_v 4) ja_nil)) (nomark _))))) (js_one (js_ret je_bl)) js_nil))))))))
 (js_one (js_ret (je_call (p_is_free c T) (hr.mono (by decide)) (takes_of rfl rfl rfl rfl) rfl T.g_is_free T.k_is_free (ja_cons (je_mk0 (mk_Store c T) (hr.mono (by decide)) (takes_of rfl rfl rfl rfl) rfl) ja_nil)))))
theorem p_law (c : SaysZ ck fn K) (T : Txt K mg) : FS Row.prog Row.w K mg base 37 (He.ga K "law") m_law := by
  obtain ⟨fd, F⟩ := c.def_ 27
  exact fs_pos F sc_law (b_law c T) (fun _ _ _ _ _ _ us hl => match us, hl with | [_], _ => rfl)
end
end RowS
set_option maxHeartbeats 0
def names0 : List PySem.Str := ["_wall", "BadName", "BadKind", "BadBody", "Twice", "NoArchive", "NoMember", "TooMany", "KINDS", "LETTERS", "MOST_LETTERS", "MOST_BODY", "MOST_PARTS", "MOST_MEMBERS", "MOST_ARCHIVES", "is_name", "look_name", "is_kind", "look_kind", "look_body", "twice_in", "Member", "Archive", "Store", "names_in", "defined_names", "live_wants", "are_free", "is_free", "_law_bag"]
def names1 : List PySem.Str := ["_law_take", "_law_of", "_law_member", "_law_data", "_law_store", "_law_live", "_law_due", "_law_drawn"]
def names : List PySem.Str := names0 ++ names1
abbrev R : PySem.W.OpenRow := PySem.W.OpenLaw.row PySem.Challenge.rw_lineoflibraries_k40_stores_that_are_free
abbrev hk : PySem.W.Hook := hookZ 6 ck fn
def ob (s : PySem.W.SharedT) : AlZ := obsZG 6 ck fn (HandSHeadRun.getT s)
theorem ob_eq (s : PySem.W.SharedT) : ob s = hk.obs s.abs := obsZG_eq (HandSHeadRun.getT_eq s)
theorem run (w : World) : HandSHeadRun.RunEq R (PySem.W.view R.prog [42]) hk ob 60000 names w := by
  intro os
  kernel_rfl
end Z
open PySem PySem.W PySem.Calls PyProof.Rows
theorem PySem.Challenge.cw_lineoflibraries_k40_stores_that_are_free_holds : PySem.Challenge.rw_lineoflibraries_k40_stores_that_are_free.Holds := by
  w_on; o_law
  refine HandSHeadRun.head_any (r := OpenLaw.row PySem.Challenge.rw_lineoflibraries_k40_stores_that_are_free) (q := view (OpenLaw.row PySem.Challenge.rw_lineoflibraries_k40_stores_that_are_free).prog [42]) (H := Z.hk) (ob := Z.ob) (M := 60000) (loose := Z.names) (d := HandSHeadRun.topDef (OpenLaw.row PySem.Challenge.rw_lineoflibraries_k40_stores_that_are_free).prog 42) (kwd := []) Z.ob_eq
    (by kernel_rfl) (fun s => by kernel_rfl) Z.run (by kernel_rfl) (by kernel_rfl) (by kernel_rfl) (by rfl) (by first | assumption | decide +kernel) (by decide +kernel) ⟨rfl, rfl, rfl, rfl, rfl, by decide +kernel⟩ ?hw ?hc
  case hw => w_witness2
  case hc =>
    refine Z.walk_law (l := PySem.Challenge.rw_lineoflibraries_k40_stores_that_are_free) (n := 63) (k := 37) rfl (by decide) (by kernel_rfl) ⟨rfl, by decide, by decide⟩ ?F
    intro w mg fa h Y G hmg0
    letI : Z.Row := Z.rowOf (PySem.Challenge.rw_lineoflibraries_k40_stores_that_are_free).prog w
    obtain ⟨K, KX, c⟩ := Y
    have hmg : mg ("law" : PySem.Str) = some (.ref fa) := by
      have e : (HandSHeadRun.topDef (OpenLaw.row PySem.Challenge.rw_lineoflibraries_k40_stores_that_are_free).prog 42).name = ("law" : PySem.Str) := by kernel_rfl
      rw [← e]
      exact hmg0
    have T := Z.txt KX G c.ok_
    have e := hmg.symm.trans (He.glo_ok KX G (Z.chk_fa (Z.ck_ok c.ok_).1 (f := .glo "law") 36))
    cases e
    exact ⟨K, Z.m_law, KX, Z.plain_law, fun base _ _ => @Z.p_law (Z.rowOf _ w) K mg base c T⟩
