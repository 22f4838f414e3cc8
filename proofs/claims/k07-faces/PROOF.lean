import PyProof.Rows.All
import Wide.All
import OpenK.AllK
import Wide.FinOn
import HandS.SetKeys
import HandS.SetFor
import HandS.ForMost
import HandS.Exc
import HandS.WordsExc
import HandS.Defaults
import HandS.Lambda
import HandS.More
import HandS.Star
import HandS.HeadHook2
import HandS.ExcOwn
import HandS.TupAny
import HandS.Deep
import HandS.IsInst
import HandS.FStr
import HandS.Small
import HandS.RaiseMore
import KE.SortData
import HandS.Sort
import HandS.Iter
import HandS.Zip
import KE.KStateDown
import HandS.Head0
import HandS.Head1
import HandS.Head2
import HandS.HeadEnd
import HandS.Text
import PyProof.Rows.RegFStrParts
import HandS.Property
import HandS.MakeKwOnly
import KE.KOwnIter
import HandS.IterNext
import PyProof.InstNe
import HandS.OwnEq
import PyProof.TupleOfSeq
import HandS.Style
import KE.KExcInit
import HandS.ExcInit
import HandS.TryMany
import HandS.ExcField
import KE.KExcIs
import HandS.EndTab
import HandS.HeadHook4
import HandS.GenList
import PyProof.CodeObjX
import PyProof.GenArm
import KE.KDictIter
import HandS.DictComp
import KE.KDictPairs
import KE.GoesEnum
import KE.DataMinKey
import KE.KIndexOf
import HandS.Conv
import HandS.TupMul
import KE.KDictSum
import PyProof.Rows.Range3
import PyProof.Conv_bool
import KE.KRevSl
import KE.DataFind
import HandS.List
import HandS.Comp
import PyProof.DictUpdate
import HandS.DictTup
import KE.KItemsList
import HandS.ListItems
import PyProof.IsiTupleAll
import HandS.TupSets
import PySem.Challenge.RW_lineoflibraries_k07_faces_of_programs
set_option Elab.async false
set_option linter.all false
set_option maxRecDepth 100000
set_option maxHeartbeats 0
namespace Z
open PySem PySem.Spec PyProof.Rows L2 LamX
abbrev AlZ : Type := Bool × List He.FnW
/-- the getter of the property m of the class C -/
def prG (K : PySem.W.Frag) (C : Addr) (m : Str) : Addr := match PySem.W.recIn K (He.ma K C m) "property" with
  | some (.ref g :: _) => g
  | _ => 0
/-- a name that begins with @ tells a property's getter -/
def isPm (p : Str × Option Str) : Bool := match p.2 with
  | none => false
  | some m => m.cps[0]? == some 64
/-- where a def stands: a global's, a class's method, a property's getter -/
def fAz (K : PySem.W.Frag) (p : Str × Option Str) : Addr := match isPm p with
  | false => He.fAd K p
  | true => match p.2 with
    | none => 0
    | some m => prG K (He.ga K p.1) ⟨m.cps.extract 1 m.cps.size⟩
/-- what a function at f is of -/
def fnZ (K : PySem.W.Frag) (f : Addr) : He.FnW := match K.lookup f with
  | some o => match o.data with
    | .func fd => some (fd.name, fd.qualname, fd.params, fd.body, fd.scope, fd.globals, fd.closure, fd.builtins)
    | _ => none
  | none => none
def okZ (K : PySem.W.Frag) (f : Addr) (q : Str) (vs : List V) (kvs : List (Str × V)) : Bool := (PySem.W.keepIn K (.ref f) && match K.lookup f with
  | some o => match o.data with
    | .func fd => PySem.W.codeIn K fd.code q && (He.dflB K fd.defaults vs && He.kwdB K fd.kwdefaults kvs)
    | _ => false
  | none => false)
def obsZ (chk : PySem.W.Frag → Bool) (fn : List He.DefD) (K : PySem.W.Frag) : AlZ := (chk K && fn.all fun d => okZ K (fAz K d.at_) d.qual (d.dvs K) (d.kws K), fn.map fun d => fnZ K (fAz K d.at_))
def valZ (fn : List He.DefD) : AlZ := (true, fn.map He.DefD.val)
def SaysZ (chk : PySem.W.Frag → Bool) (fn : List He.DefD) (K : PySem.W.Frag) : Prop := obsZ chk fn K = valZ fn
def obsZG (n : Nat) (chk : PySem.W.Frag → Bool) (fn : List He.DefD) (g : Addr → Option Obj) : AlZ := obsZ chk fn (He.frG g (He.asD g n))
def hookZ (n : Nat) (chk : PySem.W.Frag → Bool) (fn : List He.DefD) : PySem.W.Hook where
  α := AlZ
  obs := fun s => obsZG n chk fn s.heap.get?
  val := fun _ => valZ fn
  says := fun _ h => ∃ K : PySem.W.Frag, K.In h ∧ SaysZ chk fn K
  of := fun _ _ e => ⟨_, He.frG_in, e⟩
  keeps := fun _ _ _ ⟨K, hK, c⟩ k => ⟨K, PySem.W.Frag.In.keeps hK k, c⟩
theorem obsZG_eq {n : Nat} {chk : PySem.W.Frag → Bool} {fn : List He.DefD} {g : Addr → Option Obj} {s : Shared} (h : ∀ a, g a = s.heap.get? a) : obsZG n chk fn g = (hookZ n chk fn).obs s := by
  have e : g = s.heap.get? := funext h
  rw [e] <;> rfl
/-- the checks by number -/
def tupN (K : PySem.W.Frag) (x : Str) : Bool := match K.lookup (He.ga K x) with
  | some ⟨.type t, none, _, _⟩ => decide (t = "tuple")
  | _ => false
def chkAll (fa : List He.Fa) (ts : List (Str × List He.Dv)) (K : PySem.W.Frag) : Bool := (fa.all fun f => f.ok K) && ts.all fun t => He.tupB K t.1 t.2 && tupN K t.1
def tysB : List String := ["NoneType", "bool", "int", "str", "tuple", "list", "dict"]
def clsOne (K : PySem.W.Frag) (cs : List Str) (c : Str) : Bool :=
  (He.Fa.cls c).ok K && (decide (PySem.W.findIn K (.ref (He.ga K c)) "__class__" = some (some (.builtin "object.__class__"))) && (decide (PySem.W.specialIn K (.builtin "object.__class__") "__get__" = some (some (.builtin "getset_descriptor.__get__"))) &&
    (decide (PySem.W.takesIn K (.builtin "object.__class__") = some true) && (decide (PySem.W.mroIn K (He.ga K c) (.type "object") = some true) && ((tysB.all fun T => decide (PySem.W.kitOne K (.ref (He.ga K c)) (.type T) = some false) && (decide (PySem.W.subIn K (.type T) (.ref (He.ga K c)) = some false) && decide (PySem.W.kitOne K (.type T) (.ref (He.ga K c)) = some false))) &&
    (cs.all fun d => decide (PySem.W.kitOne K (.ref (He.ga K c)) (.ref (He.ga K d)) = some (decide (c = d))) && PySem.W.notFirst K (He.ga K c) (.ref (He.ga K d))))))))
def clsAll (K : PySem.W.Frag) (cs : List Str) : Bool := cs.all fun c => (He.Fa.glo c).ok K && clsOne K cs c
theorem map_two {α β γ δ : Type} {x : Option α} {f : α → β} {g : α → γ} {h : α → δ} {b : β} {c : γ} {d : δ} (h1 : x.map (fun s => (f s, g s)) = some (b, c)) (h2 : x.map h = some d) : x.map (fun s => (f s, g s, h s)) = some (b, c, d) := by
  cases x with
  | none => cases h1
  | some s =>
    have e1 : (f s, g s) = (b, c) := Option.some.inj h1
    have e2 : h s = d := Option.some.inj h2
    have e3 : f s = b := congrArg (·.1) e1
    have e4 : g s = c := congrArg (·.2) e1
    show some (f s, g s, h s) = some (b, c, d)
    rw [e2, e3, e4]
theorem obsZ_join {chk : PySem.W.Frag → Bool} {fn : List He.DefD} {K : PySem.W.Frag} (h1 : (obsZ chk [] K).1 = true) (h2 : obsZ (fun _ => true) fn K = valZ fn) : obsZ chk fn K = valZ fn := by
  unfold obsZ valZ at *
  obtain ⟨e1, e2⟩ := Prod.mk.inj h2
  have e3 : chk K = true := by simpa using h1
  rw [e3]
  exact Prod.ext e1 e2
theorem map_and {α β : Type} {x : Option α} {f g h : α → β} {a b c : β} (h1 : x.map f = some a) (h2 : x.map g = some b) (j : ∀ s, f s = a → g s = b → h s = c) : x.map h = some c := by
  cases x with
  | none => cases h1
  | some s => exact congrArg some (j s (Option.some.inj h1) (Option.some.inj h2))
theorem run_Z {r : PySem.W.OpenRow} {q : Program} {M : Nat} {loose : List PySem.Str} {w : World} {n : Nat} {chk : PySem.W.Frag → Bool} {fn : List He.DefD}
    (h1 : ∀ os, (HandSHeadRun.endF (HandSHeadRun.stepQ (HandSHeadRun.denQ HandSHeadRun.tabQ) r.prog w) M r.prog w os).map (fun s => (HandSHeadRun.looksF r.prog (PySem.W.boot_heap w.params) s.abs, HandSHeadRun.seenQ q loose (importedModules r.prog.main.body) (fun s => PySem.W.xlAt q [] s && PySem.W.recOk r.toRowW.records s) s.abs)) = some (true, PySem.W.openGood q loose))
    (h2 : ∀ os, (HandSHeadRun.endF (HandSHeadRun.stepQ (HandSHeadRun.denQ HandSHeadRun.tabQ) r.prog w) M r.prog w os).map (fun s => obsZG n chk [] (HandSHeadRun.getT s)) = some (valZ []))
    (h3 : ∀ os, (HandSHeadRun.endF (HandSHeadRun.stepQ (HandSHeadRun.denQ HandSHeadRun.tabQ) r.prog w) M r.prog w os).map (fun s => obsZG n (fun _ => true) fn (HandSHeadRun.getT s)) = some (valZ fn))
    : HandSHeadRun.RunEq r q (hookZ n chk fn) (fun s => obsZG n chk fn (HandSHeadRun.getT s)) M loose w :=
  fun os => map_two (h1 os) (map_and (h2 os) (h3 os) fun s a b => obsZ_join (congrArg (·.1) a) b)
abbrev cls : List Str := []
def top (i : Nat) : Stmt := PySem.Challenge.pw_lineoflibraries_k07_faces_of_programs.main.body.getD i (.Pass ⟨0, 0, 0, 0⟩)
def fn0 : List He.DefD := [⟨("_law_bag", none), "_law_bag", "_law_bag", defArgs (top 22), defBody (top 22), defScope (top 22), [], []⟩,
  ⟨("_law_face", none), "_law_face", "_law_face", defArgs (top 28), defBody (top 28), defScope (top 28), [], []⟩,
  ⟨("_law_few", none), "_law_few", "_law_few", defArgs (top 25), defBody (top 25), defScope (top 25), [], []⟩,
  ⟨("_law_take", none), "_law_take", "_law_take", defArgs (top 23), defBody (top 23), defScope (top 23), [], []⟩,
  ⟨("_law_of", none), "_law_of", "_law_of", defArgs (top 24), defBody (top 24), defScope (top 24), [], []⟩,
  ⟨("_law_names", none), "_law_names", "_law_names", defArgs (top 26), defBody (top 26), defScope (top 26), [], []⟩,
  ⟨("_law_objects", none), "_law_objects", "_law_objects", defArgs (top 27), defBody (top 27), defScope (top 27), [], []⟩,
  ⟨("_law_parted", none), "_law_parted", "_law_parted", defArgs (top 29), defBody (top 29), defScope (top 29), [], []⟩,
  ⟨("_law_turned", none), "_law_turned", "_law_turned", defArgs (top 30), defBody (top 30), defScope (top 30), [], []⟩,
  ⟨("is_kind", none), "is_kind", "is_kind", defArgs (top 9), defBody (top 9), defScope (top 9), [], []⟩,
  ⟨("is_name", none), "is_name", "is_name", defArgs (top 8), defBody (top 8), defScope (top 8), [], []⟩,
  ⟨("are_defines", none), "are_defines", "are_defines", defArgs (top 15), defBody (top 15), defScope (top 15), [], []⟩,
  ⟨("twice_in", none), "twice_in", "twice_in", defArgs (top 10), defBody (top 10), defScope (top 10), [], []⟩,
  ⟨("is_object", none), "is_object", "is_object", defArgs (top 16), defBody (top 16), defScope (top 16), [], []⟩,
  ⟨("look_objects", none), "look_objects", "look_objects", defArgs (top 17), defBody (top 17), defScope (top 17), [], []⟩]
def fn1 : List He.DefD := [⟨("face_of", none), "face_of", "face_of", defArgs (top 18), defBody (top 18), defScope (top 18), [], []⟩,
  ⟨("is_face", none), "is_face", "is_face", defArgs (top 19), defBody (top 19), defScope (top 19), [], []⟩,
  ⟨("look_face", none), "look_face", "look_face", defArgs (top 20), defBody (top 20), defScope (top 20), [], []⟩,
  ⟨("law", none), "law", "law", defArgs (top 31), defBody (top 31), defScope (top 31), [], []⟩]
def fn : List He.DefD := fn0 ++ fn1
def fa0 : List He.Fa := [.glo "_law_bag", .keep "_law_bag", .glo "_law_face", .keep "_law_face", .glo "_law_few", .keep "_law_few", .glo "_law_take", .keep "_law_take", .glo "_law_of", .keep "_law_of", .glo "_law_names", .keep "_law_names", .glo "_law_objects", .keep "_law_objects", .glo "_law_parted", .keep "_law_parted", .glo "_law_turned", .keep "_law_turned", .glo "is_kind", .keep "is_kind", .glo "is_name", .keep "is_name", .glo "are_defines", .keep "are_defines", .glo "twice_in", .keep "twice_in", .glo "is_object", .keep "is_object", .glo "look_objects", .keep "look_objects"]
def fa1 : List He.Fa := [.glo "face_of", .keep "face_of", .glo "is_face", .keep "is_face", .glo "look_face", .keep "look_face", .glo "law", .free "abs", .free "all", .free "enumerate", .free "int", .free "isinstance", .free "len", .free "list", .free "max", .free "min", .free "range", .free "repr", .free "sorted", .free "str", .free "tuple", .glo "KINDS", .str "LETTERS" "abcdefghijklmnopqrstuvwxyz", .int "MOST_LETTERS" (8), .str "STRONG" "strong", .str "WANTED" "wanted", .glo "WORDS"]
def fa : List He.Fa := fa0 ++ fa1
def tb : List (Str × List He.Dv) := [("KINDS", [.str "weak", .str "common", .str "strong"]), ("WORDS", [.str "wanted", .str "weak", .str "common", .str "strong"])]
def xb : List (PySem.W.Frag → Bool) := []
def ck (K : PySem.W.Frag) : Bool := chkAll fa tb K && (clsAll K cls && xb.all fun b => b K)
def names0 : List PySem.Str := ["BadFace", "BadObject", "OwnClash", "KINDS", "LETTERS", "MOST_LETTERS", "is_name", "is_kind", "twice_in", "WANTED", "WORDS", "STRONG", "are_defines", "is_object", "look_objects", "face_of", "is_face", "look_face", "_law_bag", "_law_take", "_law_of", "_law_few", "_law_names", "_law_objects", "_law_face", "_law_parted", "_law_turned"]
def names : List PySem.Str := names0
abbrev R : PySem.W.OpenRow := PySem.W.OpenLaw.row PySem.Challenge.rw_lineoflibraries_k07_faces_of_programs
abbrev hk : PySem.W.Hook := hookZ 6 ck fn
def ob (s : PySem.W.SharedT) : AlZ := obsZG 6 ck fn (HandSHeadRun.getT s)
theorem ob_eq (s : PySem.W.SharedT) : ob s = hk.obs s.abs := obsZG_eq (HandSHeadRun.getT_eq s)
theorem run_a (w : World) (os : OsState) : (HandSHeadRun.endF (HandSHeadRun.stepQ (HandSHeadRun.denQ HandSHeadRun.tabQ) R.prog w) 60000 R.prog w os).map (fun s => (HandSHeadRun.looksF R.prog (PySem.W.boot_heap w.params) s.abs, HandSHeadRun.seenQ (PySem.W.view R.prog [31]) names (importedModules R.prog.main.body) (fun s => PySem.W.xlAt (PySem.W.view R.prog [31]) [] s && PySem.W.recOk R.toRowW.records s) s.abs)) = some (true, PySem.W.openGood (PySem.W.view R.prog [31]) names) := by
  kernel_rfl
theorem run_b (w : World) (os : OsState) : (HandSHeadRun.endF (HandSHeadRun.stepQ (HandSHeadRun.denQ HandSHeadRun.tabQ) R.prog w) 60000 R.prog w os).map (fun s => obsZG 6 ck [] (HandSHeadRun.getT s)) = some (valZ []) := by
  kernel_rfl
theorem run_c (w : World) (os : OsState) : (HandSHeadRun.endF (HandSHeadRun.stepQ (HandSHeadRun.denQ HandSHeadRun.tabQ) R.prog w) 60000 R.prog w os).map (fun s => obsZG 6 (fun _ => true) fn (HandSHeadRun.getT s)) = some (valZ fn) := by
  kernel_rfl
theorem run (w : World) : HandSHeadRun.RunEq R (PySem.W.view R.prog [31]) hk ob 60000 names w := run_Z (run_a w) (run_b w) (run_c w)
end Z
set_option Elab.async false
set_option linter.all false
set_option maxRecDepth 100000
set_option maxHeartbeats 4000000
namespace Z
open PySem PySem.Spec PyProof.Rows L2
/-! ### sets of keys that can also be walked -/
section
variable {P : Program} {w : World}
/-- no key stands for both -/
def Apart (P : Program) (w : World) (x y : Int × Value) : Prop := ∀ k : Key, keyIs k x.2 = true → keyIs k y.2 = true → False
theorem Apart.symm {x y : Int × Value} (h : Apart P w x y) : Apart P w y x := fun k a b => h k b a
/-- what a table of keys is: the keys told by T, N of them, and the table can be walked -/
structure Tbl (P : Program) (w : World) (D : Array (Int × Value)) (t : SetTable) (T : Key → Bool) (N : Nat) : Prop where
  el : ElemsOf (mixKind P w) D.toList
  mem : ∀ k, T k = true ↔ ∃ x ∈ D.toList, keyIs k x.2 = true
  few : D.size < scanBound
  fit : t.fits D.size = true
  num : D.size = N
  ap : D.toList.Pairwise (Apart P w)
  ris : Ris t.place.toList
  led : w.params.followText "set-order" = true ∨ t.led = true
def SetZ (P : Program) (w : World) (h : Heap) (a : Addr) (T : Key → Bool) (N : Nat) : Prop := ∃ o D ep t, h.get? a = some o ∧ o.ExactSet ∧ o.data = .set D ep t ∧ Tbl P w D t T N
variable {h h' : Heap} {a : Addr} {T T' : Key → Bool} {N : Nat}
theorem SetZ.of (R : SetZ P w h a T N) : h.SetOf (mixKind P w) a T N := by
  obtain ⟨o, D, ep, t, q1, q2, q3, b⟩ := R
  exact ⟨o, D, ep, t, q1, q2, q3, b.el, b.mem, b.few, b.fit, b.num⟩
theorem SetZ.keep (R : SetZ P w h a T N) (k : ∀ o, h.get? a = some o → h'.get? a = some o) : SetZ P w h' a T N := by
  obtain ⟨o, D, ep, t, q1, q⟩ := R
  exact ⟨o, D, ep, t, k o q1, q⟩
theorem SetZ.eq (R : SetZ P w h a T N) (e : ∀ k, T' k = T k) : SetZ P w h a T' N := by rw [show T' = T from funext e]; exact R
theorem Tbl.perm {D D2 : Array (Int × Value)} {t t2 : SetTable} (b : Tbl P w D t T N) (p : D2.toList.Perm D.toList) (hf : t2.fits D2.size = true) (hr : Ris t2.place.toList) (hl : t2.led = t.led) : Tbl P w D2 t2 T N := by
  have e : D2.size = D.size := by have := p.length_eq; rwa [Array.length_toList, Array.length_toList] at this
  exact ⟨b.el.perm p, fun k => (b.mem k).trans ⟨fun ⟨x, h1, h2⟩ => ⟨x, p.mem_iff.mpr h1, h2⟩, fun ⟨x, h1, h2⟩ => ⟨x, p.mem_iff.mp h1, h2⟩⟩, by rw [e]; exact b.few, hf, e.trans b.num,
    (p.pairwise_iff (fun h => h.symm)).mpr b.ap, hr, b.led.imp id fun z => hl.trans z⟩
/-- one key more -/
theorem Tbl.push {D D2 : Array (Int × Value)} {t t2 : SetTable} {k : Key} {x : Value} (b : Tbl P w D t T N) (hx : keyIs k x = true) (hs : x.scannable = true) (hT : T k = false) (room : N + 1 < scanBound)
    (p : D2.toList.Perm (D.toList ++ [((mixKind P w).hash k, x)])) (hf : t2.fits D2.size = true) (hr : Ris t2.place.toList) (hl : t2.led = t.led) : Tbl P w D2 t2 (fun j => T j || decide (j = k)) (N + 1) := by
  have e : D2.size = N + 1 := by
    have := p.length_eq
    rw [Array.length_toList, List.length_append, Array.length_toList, b.num] at this
    exact this
  have one : ∀ j, keyIs j x = true → j = k := fun j hj => (mixKind P w).inj x j k hj hx
  refine ⟨(b.el.push (knd := mixKind P w) hx hs).perm p, fun j => ?_, by rw [e]; exact room, hf, e, (p.pairwise_iff (fun h => h.symm)).mpr ?_, hr, b.led.imp id fun z => hl.trans z⟩
  · rw [Bool.or_eq_true, decide_eq_true_eq, b.mem j]
    constructor
    · rintro (⟨y, h1, h2⟩ | rfl)
      · exact ⟨y, p.mem_iff.mpr (List.mem_append_left _ h1), h2⟩
      · exact ⟨(_, x), p.mem_iff.mpr (List.mem_append_right _ (List.mem_singleton.mpr rfl)), hx⟩
    · rintro ⟨y, h1, h2⟩
      rcases List.mem_append.mp (p.mem_iff.mp h1) with h3 | h3
      · exact .inl ⟨y, h3, h2⟩
      · rw [List.mem_singleton.mp h3] at h2
        exact .inr (one j h2)
  · rw [List.pairwise_append]
    refine ⟨b.ap, List.pairwise_singleton _ _, fun y hy z hz j h1 h2 => ?_⟩
    rw [List.mem_singleton.mp hz] at h2
    rw [one j h2] at h1
    have := (b.mem k).mpr ⟨y, hy, h1⟩
    rw [hT] at this
    cases this
end
section
variable {P : Program} {w : World} {A : Around} {E : Value → Shared → Prop} {s : Shared} {a : Addr} {T : Key → Bool} {N : Nat}
/-! ### set(xs) -/
instance decK (k : Key) (l : List Key) : Decidable (k ∈ l) := decidable_of_iff (l.any (fun j => decide (j = k)) = true) (by simp)
/-- each key once, where it first stands -/
def onceK (ks : List Key) : List Key := ks.foldl (fun acc k => if k ∈ acc then acc else acc ++ [k]) []
abbrev SetL (P : Program) (w : World) (h : Heap) (a : Addr) (ks : List Key) : Prop := SetZ P w h a (fun j => decide (j ∈ ks)) ks.length
abbrev zO (w : World) : Obj := { cls := .type "set", dict := none, data := .set #[] 0 (.fresh 0 0 (!w.params.followText "set-order")) }
end
/-! ### such a set as a thing of the heap -/
def SetH (P : Program) (w : World) (a : Addr) (T : Key → Bool) (N : Nat) : HO := .ext fun h => SetZ P w h a T N
section
variable {X : Cx} {pins : List (Addr × Obj)} {σ : L2.St} {H : Hp} {s : Shared} {a : Addr} {T : Key → Bool} {N : Nat}
def rZ0 (P : Program) (w : World) : List V → Hp → VK → Prop := fun xs H Q => xs = [] ∧ ∀ q, H q = none → Q (.ref q) (upd H q (SetH P w q (fun _ => false) 0))
def rZadd (P : Program) (w : World) : V → List V → Hp → VK → Prop := fun x xs H Q => ∃ (a : Addr) (k : Key) (T : Key → Bool) (N : Nat), x = V.ref a ∧ xs = [kV k] ∧ H a = some (SetH P w a T N) ∧ N + 1 < scanBound ∧ Q .non (upd H a (SetH P w a (fun j => T j || decide (j = k)) (if T k = true then N else N + 1)))
def tZadd (P : Program) (w : World) (to : TE) (t : TA) : TE := fun σ H Q => to σ H fun x H1 => (∃ a T N, x = V.ref a ∧ H1 a = some (SetH P w a T N)) ∧ t σ H1 fun xs H2 => rZadd P w x xs H2 Q
def rZin (P : Program) (w : World) (neg : Bool) : V → V → Hp → VK → Prop := fun x y H Q => ∃ (k : Key) (a : Addr) (T : Key → Bool) (N : Nat), x = kV k ∧ y = V.ref a ∧ H a = some (SetH P w a T N) ∧ Q (.bl (if neg then !T k else T k)) H
end
end Z

set_option Elab.async false
set_option linter.all false
set_option maxRecDepth 100000
set_option maxHeartbeats 4000000
namespace Z
open PySem PySem.Spec PyProof.Rows L2
/-- what a run is of: the program, the world, the code tables that may grow with the names of what they make -/
class Row where
  prog : Program
  w : World
  tabs : List (Addr × Str)
variable [Row]

/-! ### data, stores, results -/
/-- a value: tuples are values, lists, dicts, instances are places of the store -/
inductive D where
  | non | bl (b : Bool) | int (i : Int) | str (x : Str) | tup (xs : List D) | ref (n : Nat)

/-- what stands at a place -/
inductive SO where
  | lst (xs : List D)
  | frz (xs : List D)
  | dict (t : Bool) (kvs : List (D × D))
  | ins (c : Str) (fs : List (Str × D))
  | lck (t : Bool) (kvs : List (D × D))
  | set (xs : List D)
  | ptp (xs : List D)
abbrev Sto := List SO
abbrev Ev := List (Option D)

/-- a result: a value, an exception of the class c with its one field f, or stuck -/
inductive Rs (α : Type) where
  | ok (a : α) (s : Sto)
  | ex (c f : Str) (v : D) (s : Sto)
  | no
def Rs.bind {α β : Type} (r : Rs α) (k : α → Sto → Rs β) : Rs β := match r with
  | .ok a s => k a s
  | .ex c f v s => .ex c f v s
  | .no => .no
abbrev EM (α : Type) := Ev → Sto → Rs α
inductive RS where
  | nx (e : Ev) (s : Sto)
  | rt (d : D) (s : Sto)
  | bk (e : Ev) (s : Sto)
  | ct (e : Ev) (s : Sto)
  | ex (c f : Str) (v : D) (e : Ev) (s : Sto)
  | no
abbrev SM := Ev → Sto → RS
/-- an expression's result goes on as a statement -/
def Rs.st {α : Type} (r : Rs α) (e : Ev) (k : α → Sto → RS) : RS := match r with
  | .ok a s => k a s
  | .ex c f v s => .ex c f v e s
  | .no => .no
def RS.seq (r : RS) (k : SM) : RS := match r with
  | .nx e s => k e s
  | r => r

/-! ### what stands for what -/
mutual
def VR (K : PySem.W.Frag) (ρ : Nat → Addr) (n : Nat) (H : Hp) : D → V → Prop
  | .non, v => v = .non
  | .bl b, v => v = .bl b
  | .int i, v => v = .int i
  | .str x, v => v = .str x
  | .tup xs, v => ∃ a vs, v = .ref a ∧ SqT K H a vs ∧ VRs K ρ n H xs vs
  | .ref k, v => k < n ∧ v = .ref (ρ k)
def VRs (K : PySem.W.Frag) (ρ : Nat → Addr) (n : Nat) (H : Hp) : List D → List V → Prop
  | [], vs => vs = []
  | d :: ds, vs => ∃ v r, vs = v :: r ∧ VR K ρ n H d v ∧ VRs K ρ n H ds r
end
/-- the later world bears the earlier one -/
structure Ext (ρ : Nat → Addr) (n : Nat) (H : Hp) (ρ' : Nat → Addr) (n' : Nat) (H' : Hp) : Prop where
  le : n ≤ n'
  ag : ∀ k, k < n → ρ' k = ρ k
  tp : ∀ a vs, Rd H a (.tup vs) → Rd H' a (.tup vs)
  fz : ∀ a o kvs, H a = some (.frz o (.dK kvs)) → H' a = some (.frz o (.dK kvs))
  fzT : ∀ a o kvs, H a = some (.frz o (.dT kvs)) → H' a = some (.frz o (.dT kvs))
theorem Ext.refl {ρ : Nat → Addr} {n : Nat} {H : Hp} : Ext ρ n H ρ n H := ⟨Nat.le_refl _, fun _ _ => rfl, fun _ _ h => h, fun _ _ _ h => h, fun _ _ _ h => h⟩
theorem Ext.trans {ρ ρ1 ρ2 : Nat → Addr} {n n1 n2 : Nat} {H H1 H2 : Hp} (a : Ext ρ n H ρ1 n1 H1) (b : Ext ρ1 n1 H1 ρ2 n2 H2) : Ext ρ n H ρ2 n2 H2 :=
  ⟨Nat.le_trans a.le b.le, fun k h => (b.ag k (Nat.lt_of_lt_of_le h a.le)).trans (a.ag k h), fun p vs h => b.tp p vs (a.tp p vs h), fun p o k h => b.fz p o k (a.fz p o k h), fun p o k h => b.fzT p o k (a.fzT p o k h)⟩
section
variable {K : PySem.W.Frag} {mg : Str → Option Value} {ρ ρ' : Nat → Addr} {n n' : Nat} {H H' : Hp}
theorem Ext.sqt (e : Ext ρ n H ρ' n' H') {a : Addr} {vs : List V} (h : SqT K H a vs) : SqT K H' a vs := h.elim (fun z => .inl (e.tp a vs z)) .inr
mutual
theorem VR.mono (e : Ext ρ n H ρ' n' H') : ∀ {d : D} {v : V}, VR K ρ n H d v → VR K ρ' n' H' d v
  | .non, _, h => h
  | .bl _, _, h => h
  | .int _, _, h => h
  | .str _, _, h => h
  | .tup xs, _, h => by
    rw [VR] at h ⊢
    obtain ⟨a, vs, e1, q, r⟩ := h
    exact ⟨a, vs, e1, e.sqt q, VRs.mono e r⟩
  | .ref k, _, h => by
    rw [VR] at h ⊢
    exact ⟨Nat.lt_of_lt_of_le h.1 e.le, by rw [e.ag k h.1]; exact h.2⟩
theorem VRs.mono (e : Ext ρ n H ρ' n' H') : ∀ {ds : List D} {vs : List V}, VRs K ρ n H ds vs → VRs K ρ' n' H' ds vs
  | [], _, h => h
  | d :: ds, _, h => by
    rw [VRs] at h ⊢
    obtain ⟨v, r, e1, h1, h2⟩ := h
    exact ⟨v, r, e1, VR.mono e h1, VRs.mono e h2⟩
end
theorem VRs.cons {d : D} {v : V} {ds : List D} {vs : List V} (h : VR K ρ n H d v) (t : VRs K ρ n H ds vs) : VRs K ρ n H (d :: ds) (v :: vs) := by
  rw [VRs]
  exact ⟨v, vs, rfl, h, t⟩
theorem VRs.nil : VRs K ρ n H [] [] := by rw [VRs]
theorem VRs.length : ∀ {ds : List D} {vs : List V}, VRs K ρ n H ds vs → vs.length = ds.length
  | [], _, h => by rw [VRs] at h; rw [h] <;> rfl
  | d :: ds, _, h => by
    rw [VRs] at h
    obtain ⟨v, r, e1, h1, h2⟩ := h
    rw [e1, List.length_cons, List.length_cons, VRs.length h2]
theorem VRs.get : ∀ {ds : List D} {vs : List V} {i : Nat} {d : D}, VRs K ρ n H ds vs → ds[i]? = some d → ∃ v, vs[i]? = some v ∧ VR K ρ n H d v
  | [], _, _, _, _, h => by simp at h
  | d :: ds, _, 0, _, h, q => by
    rw [VRs] at h
    obtain ⟨v, r, e1, h1, h2⟩ := h
    simp at q
    subst q e1
    exact ⟨v, rfl, h1⟩
  | d :: ds, _, i + 1, _, h, q => by
    rw [VRs] at h
    obtain ⟨v, r, e1, h1, h2⟩ := h
    subst e1
    simp at q
    obtain ⟨u, hu, hr⟩ := VRs.get h2 q
    exact ⟨u, by simpa using hu, hr⟩
theorem VRs.append : ∀ {ds es : List D} {vs us : List V}, VRs K ρ n H ds vs → VRs K ρ n H es us → VRs K ρ n H (ds ++ es) (vs ++ us)
  | [], _, _, _, h, t => by rw [VRs] at h; subst h; exact t
  | d :: ds, _, _, _, h, t => by
    rw [VRs] at h
    obtain ⟨v, r, e1, h1, h2⟩ := h
    subst e1
    exact VRs.cons h1 (VRs.append h2 t)
theorem VRs.set : ∀ {ds : List D} {vs : List V} {d : D} {v : V} (i : Nat), VRs K ρ n H ds vs → VR K ρ n H d v → VRs K ρ n H (ds.set i d) (vs.set i v)
  | [], _, _, _, _, h, _ => by rw [VRs] at h; subst h; exact VRs.nil
  | d :: ds, _, _, _, 0, h, q => by
    rw [VRs] at h
    obtain ⟨v, r, e1, h1, h2⟩ := h
    subst e1
    exact VRs.cons q h2
  | d :: ds, _, _, _, i + 1, h, q => by
    rw [VRs] at h
    obtain ⟨v, r, e1, h1, h2⟩ := h
    subst e1
    exact VRs.cons h1 (VRs.set i h2 q)
theorem VRs.take : ∀ {ds : List D} {vs : List V} (i : Nat), VRs K ρ n H ds vs → VRs K ρ n H (ds.take i) (vs.take i)
  | [], _, _, h => by rw [VRs] at h; subst h; simpa using VRs.nil
  | d :: ds, _, 0, _ => VRs.nil
  | d :: ds, _, i + 1, h => by
    rw [VRs] at h
    obtain ⟨v, r, e1, h1, h2⟩ := h
    subst e1
    exact VRs.cons h1 (VRs.take i h2)
theorem VRs.drop : ∀ {ds : List D} {vs : List V} (i : Nat), VRs K ρ n H ds vs → VRs K ρ n H (ds.drop i) (vs.drop i)
  | [], _, _, h => by rw [VRs] at h; subst h; simpa using VRs.nil
  | d :: ds, _, 0, h => h
  | d :: ds, _, i + 1, h => by
    rw [VRs] at h
    obtain ⟨v, r, e1, h1, h2⟩ := h
    subst e1
    exact VRs.drop i h2
theorem VRs.reverse : ∀ {ds : List D} {vs : List V}, VRs K ρ n H ds vs → VRs K ρ n H ds.reverse vs.reverse
  | [], _, h => by rw [VRs] at h; subst h; exact VRs.nil
  | d :: ds, _, h => by
    rw [VRs] at h
    obtain ⟨v, r, e1, h1, h2⟩ := h
    subst e1
    rw [List.reverse_cons, List.reverse_cons]
    exact VRs.append (VRs.reverse h2) (VRs.cons h1 VRs.nil)
theorem VRs.one {d : D} {vs : List V} (h : VRs K ρ n H [d] vs) : ∃ v, vs = [v] ∧ VR K ρ n H d v := by
  rw [VRs] at h
  obtain ⟨v, r, e1, h1, h2⟩ := h
  rw [VRs] at h2
  subst h2
  exact ⟨v, e1, h1⟩
theorem VRs.uncons {d : D} {ds : List D} {vs : List V} (h : VRs K ρ n H (d :: ds) vs) : ∃ v r, vs = v :: r ∧ VR K ρ n H d v ∧ VRs K ρ n H ds r := by
  rw [VRs] at h
  exact h

/-- attributes, by name and in order -/
def FR (K : PySem.W.Frag) (ρ : Nat → Addr) (n : Nat) (H : Hp) : List (Str × D) → List (Str × V) → Prop
  | [], vs => vs = []
  | p :: ps, vs => ∃ v r, vs = (p.1, v) :: r ∧ VR K ρ n H p.2 v ∧ FR K ρ n H ps r
theorem FR.mono (e : Ext ρ n H ρ' n' H') : ∀ {ds : List (Str × D)} {vs : List (Str × V)}, FR K ρ n H ds vs → FR K ρ' n' H' ds vs
  | [], _, h => h
  | _ :: _, _, ⟨v, r, e1, h1, h2⟩ => ⟨v, r, e1, h1.mono e, FR.mono e h2⟩
theorem FR.lookup : ∀ {ds : List (Str × D)} {vs : List (Str × V)} {f : Str} {d : D}, FR K ρ n H ds vs → ds.lookup f = some d → ∃ v, vs.lookup f = some v ∧ VR K ρ n H d v
  | [], _, _, _, _, h => by cases h
  | (g, x) :: ps, _, f, d, ⟨v, r, e1, h1, h2⟩, h => by
    subst e1
    rw [List.lookup_cons] at h ⊢
    by_cases q : f == g
    · rw [q] at h
      rw [q]
      cases h
      exact ⟨v, rfl, h1⟩
    · simp only [Bool.not_eq_true] at q
      rw [q] at h
      rw [q]
      exact FR.lookup h2 h
theorem FR.length : ∀ {ds : List (Str × D)} {vs : List (Str × V)}, FR K ρ n H ds vs → vs.length = ds.length
  | [], _, h => by
    have h : _ = ([] : List (Str × V)) := h
    rw [h] <;> rfl
  | _ :: _, _, ⟨v, r, e1, h1, h2⟩ => by rw [e1, List.length_cons, List.length_cons, FR.length h2]
/-- an attribute stored -/
def putD (f : Str) (d : D) : List (Str × D) → List (Str × D)
  | [] => [(f, d)]
  | (g, x) :: r => if g = f then (g, d) :: r else (g, x) :: putD f d r
theorem FR.put {f : Str} {d : D} {v : V} (q : VR K ρ n H d v) : ∀ {ds : List (Str × D)} {vs : List (Str × V)}, FR K ρ n H ds vs → FR K ρ n H (putD f d ds) (putF f v vs)
  | [], _, h => by
    have h : _ = ([] : List (Str × V)) := h
    subst h
    exact ⟨v, [], rfl, q, rfl⟩
  | (g, x) :: ps, _, ⟨u, r, e1, h1, h2⟩ => by
    subst e1
    show FR K ρ n H (if g = f then (g, d) :: ps else (g, x) :: putD f d ps) (if g = f then (g, v) :: r else (g, u) :: putF f v r)
    by_cases e : g = f
    · rw [if_pos e, if_pos e]
      exact ⟨v, r, rfl, q, h2⟩
    · rw [if_neg e, if_neg e]
      exact ⟨u, _, rfl, h1, FR.put q h2⟩

/-- a dict's keys: ints and texts -/
def keyD : D → Option Key
  | .int i => some (.inl i)
  | .str x => some (.inr x)
  | _ => none
def keysD : List D → Option (List Key)
  | [] => some []
  | d :: ds => match keyD d, keysD ds with
    | some k, some ks => some (k :: ks)
    | _, _ => none
def tkeyD : D → Option (List Key)
  | .tup xs => keysD xs
  | _ => none
def KR {κ : Type} (key : D → Option κ) (K : PySem.W.Frag) (ρ : Nat → Addr) (n : Nat) (H : Hp) : List (D × D) → List (κ × V) → Prop
  | [], vs => vs = []
  | p :: ps, vs => ∃ k v r, vs = (k, v) :: r ∧ key p.1 = some k ∧ VR K ρ n H p.2 v ∧ KR key K ρ n H ps r
theorem KR.mono {κ : Type} {key : D → Option κ} (e : Ext ρ n H ρ' n' H') : ∀ {ds : List (D × D)} {vs : List (κ × V)}, KR key K ρ n H ds vs → KR key K ρ' n' H' ds vs
  | [], _, h => h
  | _ :: _, _, ⟨k, v, r, e1, h0, h1, h2⟩ => ⟨k, v, r, e1, h0, h1.mono e, KR.mono e h2⟩

/-- a list known to its object, or of the module: never written -/
def SqF (K : PySem.W.Frag) (H : Hp) (a : Addr) (xs : List V) : Prop :=
  (∃ o, H a = some (.frz o (.lst xs))) ∨
    ∃ (o : Obj) (its : Array Value) (n : Nat), K.lookup a = some o ∧ o.cls = .type "list" ∧ o.dict = none ∧ o.data = .seq its n ∧ its.size ≤ sizeLine ∧ Vals xs its.toList
theorem SqF.sq {a : Addr} {xs : List V} (h : SqF K H a xs) : SqL K H a xs := h.elim (fun z => .inl (.inr z)) .inr
/-- a tuple whose object has no dict: known by its object, or of the module -/
def PlT (K : PySem.W.Frag) (H : Hp) (a : Addr) (xs : List V) : Prop :=
  (∃ o, H a = some (.frz o (.tup xs)) ∧ o.dict = none) ∨
    ∃ (o : Obj) (its : Array Value) (n : Nat), K.lookup a = some o ∧ o.cls = .type "tuple" ∧ o.dict = none ∧ o.data = .seq its n ∧ its.size ≤ sizeLine ∧ Vals xs its.toList
theorem PlT.sq {a : Addr} {xs : List V} (h : PlT K H a xs) : SqT K H a xs := h.elim (fun ⟨o, q, _⟩ => .inl (.inr ⟨o, q⟩)) fun ⟨o, its, n, h1, h2, _, h3⟩ => .inr ⟨o, its, n, h1, h2, h3⟩
/-- a set of keys: what is in it, by a list -/
def SetRl (xs : List D) (S : Key → Bool) (n : Nat) : Prop := n = xs.length ∧ (∃ ks, keysD xs = some ks ∧ ks.Nodup ∧ ∀ k, S k = true ↔ k ∈ ks)
/-- the object at a place -/
def OR (K : PySem.W.Frag) (mg : Str → Option Value) (ρ : Nat → Addr) (n : Nat) (H : Hp) (a : Addr) : SO → Prop
  | .lst xs => ∃ vs, H a = some (.lst vs) ∧ VRs K ρ n H xs vs
  | .frz xs => ∃ vs, SqF K H a vs ∧ VRs K ρ n H xs vs
  | .dict false kvs => ∃ vs, H a = some (.dK vs) ∧ KR keyD K ρ n H kvs vs
  | .dict true kvs => ∃ vs, H a = some (.dT vs) ∧ KR tkeyD K ρ n H kvs vs
  | .ins c fs => ∃ C dx vs, mg c = some (.ref C) ∧ H a = some (.ins C dx vs) ∧ FR K ρ n H fs vs
  | .lck false kvs => ∃ od vs, H a = some (.frz od (.dK vs)) ∧ KR keyD K ρ n H kvs vs
  | .lck true kvs => ∃ od vs, H a = some (.frz od (.dT vs)) ∧ KR tkeyD K ρ n H kvs vs
  | .set xs => ∃ S m, H a = some (SetH Row.prog Row.w a S m) ∧ SetRl xs S m
  | .ptp xs => ∃ vs, PlT K H a vs ∧ VRs K ρ n H xs vs
/-- may be written -/
def mutS : SO → Bool
  | .frz _ => false
  | .ptp _ => false
  | _ => true
/-- may be written now -/
def wrS : SO → Bool
  | .frz _ => false
  | .ptp _ => false
  | .lck _ _ => false
  | _ => true
theorem wrS.mut {o : SO} (h : wrS o = true) : mutS o = true := by cases o <;> first | rfl | cases h
theorem OR.wr {a : Addr} {o : SO} (h : OR K mg ρ n H a o) (m : wrS o = true) : ∃ u, H a = some u ∧ ∀ ob w, u ≠ .frz ob w := by
  cases o with
  | lst xs => obtain ⟨vs, h, _⟩ := h; exact ⟨_, h, fun _ _ z => nomatch z⟩
  | frz xs => cases m
  | ptp xs => cases m
  | dict t kvs => cases t <;> (obtain ⟨vs, h, _⟩ := h; exact ⟨_, h, fun _ _ z => nomatch z⟩)
  | ins c fs => obtain ⟨C, dx, vs, _, h, _⟩ := h; exact ⟨_, h, fun _ _ z => nomatch z⟩
  | lck t kvs => cases m
  | set xs => obtain ⟨S, m, h, _⟩ := h; exact ⟨_, h, fun _ _ z => by cases z⟩
theorem OR.mut {a : Addr} {o : SO} (h : OR K mg ρ n H a o) (m : mutS o = true) : ∃ u, H a = some u ∧ (∀ ob xs, u ≠ .frz ob (.lst xs)) ∧ (∀ ob xs, u ≠ .frz ob (.tup xs)) ∧ (∀ xs, u ≠ .tup xs) ∧ (∀ x, u ≠ .own x) ∧ ∀ ps, u ≠ .tbl ps := by
  have key : ∀ {u : HO}, H a = some u → (match u with | .frz _ (.lst _) => False | .frz _ (.tup _) => False | .tup _ => False | .own _ => False | .tbl _ => False | _ => True) → ∃ u, H a = some u ∧ (∀ ob xs, u ≠ .frz ob (.lst xs)) ∧ (∀ ob xs, u ≠ .frz ob (.tup xs)) ∧ (∀ xs, u ≠ .tup xs) ∧ (∀ x, u ≠ .own x) ∧ ∀ ps, u ≠ .tbl ps := fun {u} h k =>
    ⟨u, h, fun _ _ z => by subst z; exact k, fun _ _ z => by subst z; exact k, fun _ z => by subst z; exact k, fun _ z => by subst z; exact k, fun _ z => by subst z; exact k⟩
  cases o with
  | lst xs => obtain ⟨vs, h, _⟩ := h; exact key h trivial
  | frz xs => cases m
  | ptp xs => cases m
  | dict t kvs => cases t <;> (obtain ⟨vs, h, _⟩ := h; exact key h trivial)
  | ins c fs => obtain ⟨C, dx, vs, _, h, _⟩ := h; exact key h trivial
  | lck t kvs => cases t <;> (obtain ⟨od, vs, h, _⟩ := h; exact key h trivial)
  | set xs => obtain ⟨S, m, h, _⟩ := h; exact key h trivial
/-- the object stands still, the world grows -/
theorem OR.mono (e : Ext ρ n H ρ' n' H') {a : Addr} (ha : ∀ u, H a = some u → H' a = some u) {o : SO} (h : OR K mg ρ n H a o) : OR K mg ρ' n' H' a o := by
  cases o with
  | lst xs => obtain ⟨vs, h, r⟩ := h; exact ⟨vs, ha _ h, r.mono e⟩
  | frz xs =>
    obtain ⟨vs, h, r⟩ := h
    refine ⟨vs, ?_, r.mono e⟩
    rcases h with ⟨o, h⟩ | h
    · exact .inl ⟨o, ha _ h⟩
    · exact .inr h
  | dict t kvs =>
    cases t with
    | false => obtain ⟨vs, h, r⟩ := h; exact ⟨vs, ha _ h, r.mono e⟩
    | true => obtain ⟨vs, h, r⟩ := h; exact ⟨vs, ha _ h, r.mono e⟩
  | ins c fs => obtain ⟨C, dx, vs, g, h, r⟩ := h; exact ⟨C, dx, vs, g, ha _ h, r.mono e⟩
  | lck t kvs =>
    cases t with
    | false => obtain ⟨od, vs, h, r⟩ := h; exact ⟨od, vs, ha _ h, r.mono e⟩
    | true => obtain ⟨od, vs, h, r⟩ := h; exact ⟨od, vs, ha _ h, r.mono e⟩
  | set xs => obtain ⟨S, m, h, r⟩ := h; exact ⟨S, m, ha _ h, r⟩
  | ptp xs => obtain ⟨vs, h, r⟩ := h; exact ⟨vs, h.elim (fun ⟨o, h, q⟩ => .inl ⟨o, ha _ h, q⟩) .inr, r.mono e⟩

/-! only the tuples are kept -/
mutual
theorem VR.tp (e : ∀ a vs, SqT K H a vs → SqT K H' a vs) : ∀ {d : D} {v : V}, VR K ρ n H d v → VR K ρ n H' d v
  | .non, _, h => h
  | .bl _, _, h => h
  | .int _, _, h => h
  | .str _, _, h => h
  | .tup xs, _, h => by
    rw [VR] at h ⊢
    obtain ⟨a, vs, e1, q, r⟩ := h
    exact ⟨a, vs, e1, e _ _ q, VRs.tp e r⟩
  | .ref k, _, h => by
    rw [VR] at h ⊢
    exact h
theorem VRs.tp (e : ∀ a vs, SqT K H a vs → SqT K H' a vs) : ∀ {ds : List D} {vs : List V}, VRs K ρ n H ds vs → VRs K ρ n H' ds vs
  | [], _, h => by rw [VRs] at h ⊢; exact h
  | d :: ds, _, h => by
    rw [VRs] at h ⊢
    obtain ⟨v, r, e1, h1, h2⟩ := h
    exact ⟨v, r, e1, VR.tp e h1, VRs.tp e h2⟩
end
theorem FR.tp (e : ∀ a vs, SqT K H a vs → SqT K H' a vs) : ∀ {ds : List (Str × D)} {vs : List (Str × V)}, FR K ρ n H ds vs → FR K ρ n H' ds vs
  | [], _, h => h
  | _ :: _, _, ⟨v, r, e1, h1, h2⟩ => ⟨v, r, e1, h1.tp e, FR.tp e h2⟩
theorem KR.tp {κ : Type} {key : D → Option κ} (e : ∀ a vs, SqT K H a vs → SqT K H' a vs) : ∀ {ds : List (D × D)} {vs : List (κ × V)}, KR key K ρ n H ds vs → KR key K ρ n H' ds vs
  | [], _, h => h
  | _ :: _, _, ⟨k, v, r, e1, h0, h1, h2⟩ => ⟨k, v, r, e1, h0, h1.tp e, KR.tp e h2⟩
theorem OR.tp (e : ∀ a vs, SqT K H a vs → SqT K H' a vs) {a : Addr} (ha : ∀ u, H a = some u → H' a = some u) {o : SO} (h : OR K mg ρ n H a o) : OR K mg ρ n H' a o := by
  cases o with
  | lst xs => obtain ⟨vs, h, r⟩ := h; exact ⟨vs, ha _ h, r.tp e⟩
  | frz xs =>
    obtain ⟨vs, h, r⟩ := h
    exact ⟨vs, h.elim (fun ⟨o, h⟩ => .inl ⟨o, ha _ h⟩) .inr, r.tp e⟩
  | dict t kvs => cases t <;> (obtain ⟨vs, h, r⟩ := h; exact ⟨vs, ha _ h, r.tp e⟩)
  | ins c fs => obtain ⟨C, dx, vs, g, h, r⟩ := h; exact ⟨C, dx, vs, g, ha _ h, r.tp e⟩
  | lck t kvs => cases t <;> (obtain ⟨od, vs, h, r⟩ := h; exact ⟨od, vs, ha _ h, r.tp e⟩)
  | set xs => obtain ⟨S, m, h, r⟩ := h; exact ⟨S, m, ha _ h, r⟩
  | ptp xs => obtain ⟨vs, h, r⟩ := h; exact ⟨vs, h.elim (fun ⟨o, h, q⟩ => .inl ⟨o, ha _ h, q⟩) .inr, r.tp e⟩

/-- the store stands for the heap -/
structure SR (K : PySem.W.Frag) (mg : Str → Option Value) (ρ : Nat → Addr) (s : Sto) (H : Hp) : Prop where
  inj : ∀ (i j : Nat) oi oj, s[i]? = some oi → s[j]? = some oj → mutS oi = true → mutS oj = true → ρ i = ρ j → i = j
  ob : ∀ (i : Nat) o, s[i]? = some o → OR K mg ρ s.length H (ρ i) o
  tb : LamX.Tabs Row.tabs H
  tc : ∀ p ∈ Row.tabs, ∀ ps pos c, H p.1 = some (.tbl ps) → codeAmong pos ps.toList = some (.ref c) → ∀ (i : Nat) o, s[i]? = some o → mutS o = true → ρ i ≠ c
theorem Ext.same (st : ∀ b o, H b = some o → H' b = some o) : Ext ρ n H ρ n H' :=
  ⟨Nat.le_refl _, fun _ _ => rfl, fun a vs h => h.elim (fun z => .inl (st _ _ z)) fun ⟨o, z⟩ => .inr ⟨o, st _ _ z⟩, fun _ _ _ h => st _ _ h, fun _ _ _ h => st _ _ h⟩
/-- untracked or new things come -/
theorem SR.grow {s : Sto} (h : SR K mg ρ s H) (st : ∀ b o, H b = some o → H' b = some o) : SR K mg ρ s H' :=
  ⟨h.inj, fun i o e => (h.ob i o e).mono (Ext.same st) fun u z => st _ _ z, h.tb.ext st, fun p hp ps pos c e => by
    obtain ⟨ps', e', _⟩ := h.tb p hp
    have e2 := st _ _ e'
    rw [e] at e2
    cases e2
    exact h.tc p hp ps pos c e'⟩
def ρup (ρ : Nat → Addr) (n : Nat) (p : Addr) : Nat → Addr := fun k => if k = n then p else ρ k
theorem ρup_same {p : Addr} : ρup ρ n p n = p := by unfold ρup; rw [if_pos rfl]
theorem ρup_ne {p : Addr} {k : Nat} (h : k ≠ n) : ρup ρ n p k = ρ k := by unfold ρup; rw [if_neg h]
theorem Ext.alloc {p : Addr} (st : ∀ b o, H b = some o → H' b = some o) : Ext ρ n H (ρup ρ n p) (n + 1) H' :=
  ⟨Nat.le_succ _, fun k h => ρup_ne (Nat.ne_of_lt h), (Ext.same (ρ := ρ) (n := n) st).tp, (Ext.same (ρ := ρ) (n := n) st).fz, (Ext.same (ρ := ρ) (n := n) st).fzT⟩
theorem SR.alloc {s : Sto} {p : Addr} {o : SO} (h : SR K mg ρ s H) (hp : H p = none) (st : ∀ b u, H b = some u → H' b = some u)
    (ho : OR K mg (ρup ρ s.length p) (s.length + 1) H' p o) : SR K mg (ρup ρ s.length p) (s ++ [o]) H' := by
  have ext : Ext ρ s.length H (ρup ρ s.length p) (s.length + 1) H' := Ext.alloc st
  have old : ∀ {i : Nat} {oi : SO}, i < s.length → (s ++ [o])[i]? = some oi → s[i]? = some oi := fun hi e => by rwa [List.getElem?_append_left hi] at e
  have new : ∀ {i : Nat} {oi : SO}, ¬ i < s.length → (s ++ [o])[i]? = some oi → i = s.length ∧ oi = o := fun {i oi} hi e => by
    have hl := (List.getElem?_eq_some_iff.mp e).1
    simp only [List.length_append, List.length_cons, List.length_nil] at hl
    have : i = s.length := by omega
    subst this
    simp at e
    exact ⟨rfl, e.symm⟩
  refine ⟨fun i j oi oj e1 e2 m1 m2 q => ?_, fun i oi e => ?_, h.tb.ext st, fun p' hp' ps pos c e ec i o ei mo => ?_⟩
  · by_cases hi : i < s.length
    · by_cases hj : j < s.length
      · rw [ρup_ne (Nat.ne_of_lt hi), ρup_ne (Nat.ne_of_lt hj)] at q
        exact h.inj i j oi oj (old hi e1) (old hj e2) m1 m2 q
      · obtain ⟨rfl, rfl⟩ := new hj e2
        rw [ρup_ne (Nat.ne_of_lt hi), ρup_same] at q
        obtain ⟨u, hu, _⟩ := (h.ob i oi (old hi e1)).mut m1
        rw [q, hp] at hu
        cases hu
    · obtain ⟨rfl, rfl⟩ := new hi e1
      by_cases hj : j < s.length
      · rw [ρup_ne (Nat.ne_of_lt hj), ρup_same] at q
        obtain ⟨u, hu, _⟩ := (h.ob j oj (old hj e2)).mut m2
        rw [← q, hp] at hu
        cases hu
      · exact (new hj e2).1.symm
  · rw [List.length_append]
    by_cases hi : i < s.length
    · rw [ρup_ne (Nat.ne_of_lt hi)]
      exact (h.ob i oi (old hi e)).mono ext fun u z => st _ _ z
    · obtain ⟨rfl, rfl⟩ := new hi e
      rw [ρup_same]
      exact ho
  · obtain ⟨ps', e', _, h3⟩ := h.tb p' hp'
    have e2 := st _ _ e'
    rw [e] at e2
    cases e2
    by_cases hi : i < s.length
    · rw [ρup_ne (Nat.ne_of_lt hi)]
      exact h.tc p' hp' ps pos c e' ec i o (old hi ei) mo
    · obtain ⟨rfl, rfl⟩ := new hi ei
      rw [ρup_same]
      obtain ⟨c2, q1, q2⟩ := h3 pos _ ec
      cases q1
      intro z
      rw [← z, hp] at q2
      cases q2
theorem Ext.write {i : Nat} {o : SO} {u : HO} (h : OR K mg ρ n H (ρ i) o) (m : wrS o = true) : Ext ρ n H ρ n (upd H (ρ i) u) := by
  obtain ⟨w, hw, _, _, nt, _⟩ := h.mut (wrS.mut m)
  obtain ⟨w', hw', nf⟩ := h.wr m
  rw [hw] at hw'
  cases hw'
  have other : ∀ {a : Addr} {ob : Obj} {v : HO}, H a = some (.frz ob v) → upd H (ρ i) u a = some (.frz ob v) := fun {a ob v} r => by
    rw [upd_ne]
    · exact r
    · intro z
      rw [z, hw] at r
      exact nf _ _ (Option.some.inj r)
  refine ⟨Nat.le_refl _, fun _ _ => rfl, fun a vs r => ?_, fun a o k r => other r, fun a o k r => other r⟩
  rcases r with r | ⟨ob, r⟩
  · refine .inl ?_
    rw [upd_ne]
    · exact r
    · intro z
      rw [z, hw] at r
      exact nt vs (Option.some.inj r)
  · exact .inr ⟨ob, other r⟩
theorem Tabs.write {T : List (Addr × Str)} {a : Addr} {w u : HO} (t : LamX.Tabs T H) (hw : H a = some w) (nt : ∀ ps, w ≠ .tbl ps) (ne : ∀ p ∈ T, ∀ ps pos c, H p.1 = some (.tbl ps) → codeAmong pos ps.toList = some (.ref c) → a ≠ c) : LamX.Tabs T (upd H a u) := fun p hp => by
  obtain ⟨ps, h1, h2, h3⟩ := t p hp
  refine ⟨ps, ?_, h2, fun pos cv hc => ?_⟩
  · rw [upd_ne]
    · exact h1
    · intro z
      rw [z, hw] at h1
      exact nt ps (Option.some.inj h1)
  · obtain ⟨c, e1, e2⟩ := h3 pos cv hc
    subst e1
    refine ⟨c, rfl, ?_⟩
    rw [upd_ne]
    · exact e2
    · exact Ne.symm (ne p hp ps pos c h1 hc)
theorem SR.put {s : Sto} {i : Nat} {o o' : SO} {u : HO} (h : SR K mg ρ s H) (e : s[i]? = some o) (m : mutS o = true) (m' : mutS o' = true)
    (ho : OR K mg ρ s.length (upd H (ρ i) u) (ρ i) o') : SR K mg ρ (s.set i o') (upd H (ρ i) u) := by
  have ext : ∀ a vs, SqT K H a vs → SqT K (upd H (ρ i) u) a vs := fun a vs r => by
    obtain ⟨w, hw, _, nf2, nt, _⟩ := (h.ob i o e).mut m
    refine r.elim (fun r => .inl ?_) .inr
    rcases r with r | ⟨ob, r⟩
    · refine .inl ?_
      rw [upd_ne]
      · exact r
      · intro z
        rw [z, hw] at r
        exact nt vs (Option.some.inj r)
    · refine .inr ⟨ob, ?_⟩
      rw [upd_ne]
      · exact r
      · intro z
        rw [z, hw] at r
        exact nf2 _ _ (Option.some.inj r)
  have hi := (List.getElem?_eq_some_iff.mp e).1
  have back : ∀ {j : Nat} {oj : SO}, (s.set i o')[j]? = some oj → (j = i ∧ oj = o') ∨ (j ≠ i ∧ s[j]? = some oj) := fun {j oj} q => by
    by_cases hj : j = i
    · subst hj
      rw [List.getElem?_set_self hi] at q
      exact .inl ⟨rfl, (Option.some.inj q).symm⟩
    · rw [List.getElem?_set_ne (Ne.symm hj)] at q
      exact .inr ⟨hj, q⟩
  obtain ⟨w0, hw0, _, _, _, _, nt0⟩ := (h.ob i o e).mut m
  have tbs := Tabs.write (u := u) h.tb hw0 nt0 fun p hp ps pos c e1 e2 => h.tc p hp ps pos c e1 e2 i o e m
  refine ⟨fun j k oj ok e1 e2 m1 m2 q => ?_, fun j oj q => ?_, tbs, fun p hp ps pos c e1 ec j oj q mj => ?_⟩
  · have t1 : ∃ o1, s[j]? = some o1 ∧ mutS o1 = true := by
      rcases back e1 with ⟨rfl, rfl⟩ | ⟨_, z⟩
      · exact ⟨o, e, m⟩
      · exact ⟨oj, z, m1⟩
    have t2 : ∃ o1, s[k]? = some o1 ∧ mutS o1 = true := by
      rcases back e2 with ⟨rfl, rfl⟩ | ⟨_, z⟩
      · exact ⟨o, e, m⟩
      · exact ⟨ok, z, m2⟩
    obtain ⟨o1, f1, g1⟩ := t1
    obtain ⟨o2, f2, g2⟩ := t2
    exact h.inj j k o1 o2 f1 f2 g1 g2 q
  · rw [List.length_set]
    obtain ⟨w', hw', nf, nf2, nt, _⟩ := (h.ob i o e).mut m
    rcases back q with ⟨rfl, rfl⟩ | ⟨hj, z⟩
    · exact ho
    · cases mj : mutS oj with
      | true =>
        refine (h.ob j oj z).tp ext fun w hw => ?_
        rw [upd_ne]
        · exact hw
        · intro qq
          exact hj (h.inj j i oj o z e mj m qq)
      | false =>
        cases oj with
        | frz xs =>
          obtain ⟨vs, sq, r⟩ := h.ob j _ z
          refine ⟨vs, ?_, r.tp ext⟩
          rcases sq with ⟨ob, sq⟩ | sq
          · refine .inl ⟨ob, ?_⟩
            rw [upd_ne]
            · exact sq
            · intro qq
              rw [qq, hw'] at sq
              exact nf _ _ (Option.some.inj sq)
          · exact .inr sq
        | ptp xs =>
          obtain ⟨vs, sq, r⟩ := h.ob j _ z
          refine ⟨vs, ?_, r.tp ext⟩
          rcases sq with ⟨ob, sq, q0⟩ | sq
          · refine .inl ⟨ob, ?_, q0⟩
            rw [upd_ne]
            · exact sq
            · intro qq
              rw [qq, hw'] at sq
              exact nf2 _ _ (Option.some.inj sq)
          · exact .inr sq
        | _ => cases mj
  · have e3 : H p.1 = some (.tbl ps) := by
      rw [upd_ne] at e1
      · exact e1
      · intro z
        obtain ⟨ps', e', _⟩ := h.tb p hp
        rw [z, hw0] at e'
        exact nt0 _ (Option.some.inj e')
    rcases back q with ⟨rfl, rfl⟩ | ⟨_, z⟩
    · exact h.tc p hp ps pos c e3 ec j o e m
    · exact h.tc p hp ps pos c e3 ec j oj z mj
theorem SR.write {s : Sto} {i : Nat} {o o' : SO} {u : HO} (h : SR K mg ρ s H) (e : s[i]? = some o) (m : wrS o = true) (m' : mutS o' = true)
    (ho : OR K mg ρ s.length (upd H (ρ i) u) (ρ i) o') : SR K mg ρ (s.set i o') (upd H (ρ i) u) := h.put e (wrS.mut m) m' ho
end
end Z

set_option Elab.async false
set_option linter.all false
set_option maxRecDepth 100000
set_option maxHeartbeats 4000000
namespace Z
open PySem PySem.Spec PyProof.Rows L2
variable [Row]

/-- names by slots -/
def EnvR (K : PySem.W.Frag) (ρ : Nat → Addr) (n : Nat) (H : Hp) (env : Ev) (σ : L2.St) : Prop :=
  env.length = σ.length ∧ ∀ (i : Nat) d, env[i]? = some (some d) → ∃ v, σ[i]? = some (some v) ∧ VR K ρ n H d v
section
variable {K : PySem.W.Frag} {mg : Str → Option Value} {ρ ρ' ρ1 : Nat → Addr} {n n' n1 : Nat} {H H' H1 : Hp}
theorem EnvR.mono (e : Ext ρ n H ρ' n' H') {env : Ev} {σ : L2.St} (h : EnvR K ρ n H env σ) : EnvR K ρ' n' H' env σ :=
  ⟨h.1, fun i d q => let ⟨v, e1, r⟩ := h.2 i d q; ⟨v, e1, r.mono e⟩⟩
theorem EnvR.set {env : Ev} {σ : L2.St} (h : EnvR K ρ n H env σ) {i : Nat} {d : D} {v : V} (r : VR K ρ n H d v) : EnvR K ρ n H (env.set i (some d)) (σ.set i (some v)) := by
  refine ⟨by rw [List.length_set, List.length_set]; exact h.1, fun j e q => ?_⟩
  by_cases hj : i = j
  · subst hj
    by_cases hl : i < env.length
    · rw [List.getElem?_set_self hl] at q
      cases q
      exact ⟨v, by rw [List.getElem?_set_self (by rw [← h.1]; exact hl)], r⟩
    · rw [List.getElem?_eq_none (by rw [List.length_set]; omega)] at q
      cases q
  · rw [List.getElem?_set_ne hj] at q
    obtain ⟨u, e1, r1⟩ := h.2 j e q
    exact ⟨u, by rw [List.getElem?_set_ne hj]; exact e1, r1⟩
theorem EnvR.del {env : Ev} {σ : L2.St} (h : EnvR K ρ n H env σ) {i : Nat} : EnvR K ρ n H (env.set i none) (σ.set i none) := by
  refine ⟨by rw [List.length_set, List.length_set]; exact h.1, fun j e q => ?_⟩
  by_cases hj : i = j
  · subst hj
    by_cases hl : i < env.length
    · rw [List.getElem?_set_self hl] at q
      cases q
    · rw [List.getElem?_eq_none (by rw [List.length_set]; omega)] at q
      cases q
  · rw [List.getElem?_set_ne hj] at q
    obtain ⟨u, e1, r1⟩ := h.2 j e q
    exact ⟨u, by rw [List.getElem?_set_ne hj]; exact e1, r1⟩

abbrev Rl (α β : Type) := (Nat → Addr) → Nat → Hp → α → β → Prop
/-- what a result asks -/
def Po {α β : Type} (K : PySem.W.Frag) (mg : Str → Option Value) (R : Rl α β) (W : WX) (σ : L2.St) (ρ : Nat → Addr) (n : Nat) (H : Hp) (r : Rs α) (Q : β → Hp → Prop) : Prop :=
  match r with
  | .ok d s' => ∀ ρ' H' v, Ext ρ n H ρ' s'.length H' → SR K mg ρ' s' H' → R ρ' s'.length H' d v → Q v H'
  | .ex c f d s' => ∀ ρ' H' C dx v, Ext ρ n H ρ' s'.length H' → SR K mg ρ' s' H' → mg c = some (.ref C) → VR K ρ' s'.length H' d v → H' dx = some (.xd [(f, v)]) → W (.ref C) (some dx) σ H'
  | .no => False
theorem Po.rebase {α β : Type} {R : Rl α β} {W : WX} {σ : L2.St} {r : Rs α} {Q : β → Hp → Prop} (h : Po K mg R W σ ρ n H r Q) (e : Ext ρ n H ρ1 n1 H1) : Po K mg R W σ ρ1 n1 H1 r Q := by
  cases r with
  | ok d s => exact fun ρ' H' v e' => h ρ' H' v (e.trans e')
  | ex c f d s => exact fun ρ' H' C dx v e' => h ρ' H' C dx v (e.trans e')
  | no => exact h
/-- behind a part -/
def Mid {α β : Type} (K : PySem.W.Frag) (mg : Str → Option Value) (R : Rl α β) (ρ : Nat → Addr) (n : Nat) (H : Hp) (v : β) (H1 : Hp) (k : (Nat → Addr) → Sto → α → Prop) : Prop :=
  ∃ ρ1 s1 d, Ext ρ n H ρ1 s1.length H1 ∧ SR K mg ρ1 s1 H1 ∧ R ρ1 s1.length H1 d v ∧ k ρ1 s1 d
theorem Po.bind {α β γ δ : Type} {R : Rl α β} {R' : Rl γ δ} {W : WX} {σ : L2.St} {r : Rs α} {k : α → Sto → Rs γ} {Q : δ → Hp → Prop} (h : Po K mg R' W σ ρ n H (r.bind k) Q) :
    Po K mg R W σ ρ n H r (fun v H1 => Mid K mg R ρ n H v H1 fun ρ1 s1 d => Po K mg R' W σ ρ1 s1.length H1 (k d s1) Q) := by
  cases r with
  | ok d s => exact fun ρ' H' v e sr r => ⟨ρ', s, d, e, sr, r, Po.rebase h e⟩
  | ex c f d s => exact h
  | no => exact h
/-- the lifted reading -/
def lG {α β : Type} (K : PySem.W.Frag) (mg : Str → Option Value) (R : Rl α β) (W : WX) (m : EM α) : L2.St → Hp → (β → Hp → Prop) → Prop :=
  fun σ H Q => ∃ ρ env s, SR K mg ρ s H ∧ EnvR K ρ s.length H env σ ∧ Po K mg R W σ ρ s.length H (m env s) Q
abbrev RB : Rl Bool Bool := fun _ _ _ b c => b = c
abbrev lE (K : PySem.W.Frag) (mg : Str → Option Value) : WX → EM D → TE := lG K mg (VR K)
abbrev lA (K : PySem.W.Frag) (mg : Str → Option Value) : WX → EM (List D) → TA := lG K mg (VRs K)
abbrev lT (K : PySem.W.Frag) (mg : Str → Option Value) : WX → EM Bool → TT := lG K mg RB
end

section
variable {X : Cx}
theorem PE_imp {e : Expr} {t t' : TE} (h : PE X e t) (i : ∀ σ H Q, t' σ H Q → t σ H Q) : PE X e t' := ⟨fun p s σ H Q I q => h.run p s σ H Q I (i σ H Q q)⟩
theorem PT_imp {e : Expr} {t t' : TT} (h : PT X e t) (i : ∀ σ H Q, t' σ H Q → t σ H Q) : PT X e t' := ⟨fun p s σ H Q I q => h.run p s σ H Q I (i σ H Q q)⟩
theorem PW_imp {e : Expr} {t t' : TT} (h : PW X e t) (i : ∀ σ H Q, t' σ H Q → t σ H Q) : PW X e t' := ⟨fun w p s σ H Q I q => h.run w p s σ H Q I (i σ H Q q)⟩
theorem PA_imp {e : List Expr} {t t' : TA} (h : PA X e t) (i : ∀ σ H Q, t' σ H Q → t σ H Q) : PA X e t' := ⟨fun p pins s σ H Q I q => h.run p pins s σ H Q I (i σ H Q q)⟩
theorem PS_imp {e : Stmt} {t t' : TS} (h : PS X e t) (i : ∀ σ H Q, t' Q σ H → t Q σ H) : PS X e t' := ⟨fun p s σ H Q I q => h.run p s σ H Q I (i σ H Q q)⟩
theorem PSs_imp {e : List Stmt} {t t' : TS} (h : PSs X e t) (i : ∀ σ H Q, t' Q σ H → t Q σ H) : PSs X e t' := ⟨fun p s σ H Q I q => h.run p s σ H Q I (i σ H Q q)⟩

abbrev JE (X : Cx) (W : WX) (e : Expr) (m : EM D) : Prop := PE X e (lE X.K X.mg W m)
abbrev JT (X : Cx) (W : WX) (e : Expr) (m : EM Bool) : Prop := PT X e (lT X.K X.mg W m)
abbrev JW (X : Cx) (W : WX) (e : Expr) (m : EM Bool) : Prop := PW X e (lT X.K X.mg W m)
abbrev JA (X : Cx) (W : WX) (es : List Expr) (m : EM (List D)) : Prop := PA X es (lA X.K X.mg W m)

variable {W : WX}
/-! ### names, constants -/
def mV (i : Nat) : EM D := fun env s => match env[i]? with
  | some (some d) => .ok d s
  | _ => .no
def mC (d : D) : EM D := fun _ s => .ok d s
theorem je_v (i : Nat) {x : Str} {pos : Pos} (hN : X.N[i]? = some x := by rfl) (hv : Vis X.env.scope x := by first | exact Or.inl rfl | exact Or.inr (Or.inl rfl) | exact Or.inr (Or.inr rfl)) (hd : (x == ("__debug__" : Str)) = false := by decide)
    (hcd : (x == ("__classdict__" : Str)) = false := by decide) : JE X W (.Name x pos) (mV i) := by
  refine PE_imp (pe_var hN hv hd hcd) fun σ H Q ⟨ρ, env, s, sr, er, po⟩ => ?_
  unfold mV at po
  cases h : env[i]? with
  | none => rw [h] at po; exact po.elim
  | some o =>
    rw [h] at po
    cases o with
    | none => exact po.elim
    | some d =>
      obtain ⟨v, e1, r⟩ := er.2 i d h
      exact ⟨v, e1, po ρ H v Ext.refl sr r⟩
/-- a value that the store doesn't matter for -/
def flatD : D → V → Prop
  | .non, v => v = .non
  | .bl b, v => v = .bl b
  | .int i, v => v = .int i
  | .str x, v => v = .str x
  | _, _ => False
theorem flatD.vr {K : PySem.W.Frag} {ρ : Nat → Addr} {n : Nat} {H : Hp} {d : D} {v : V} (h : flatD d v) : VR K ρ n H d v := by
  cases d <;> first | exact h | exact h.elim
theorem je_const {e : Expr} {d : D} {v : V} (h : PE X e (tC v)) (r : flatD d v) : JE X W e (mC d) :=
  PE_imp h fun σ H Q ⟨ρ, env, s, sr, er, po⟩ => po ρ H v Ext.refl sr r.vr
theorem je_int {i j pos} : JE X W (.Constant (.int i) j pos) (mC (.int i)) := je_const pe_int rfl
theorem je_bl {b j pos} : JE X W (.Constant (.bool b) j pos) (mC (.bl b)) := je_const pe_bl rfl
theorem je_non {j pos} : JE X W (.Constant .none j pos) (mC .non) := je_const pe_non rfl
theorem je_str {x j pos} : JE X W (.Constant (.str x) j pos) (mC (.str x)) := je_const pe_str rfl
/-- a module's constant: an int, a text -/
theorem je_gint {x : Str} {i : Int} {pos : Pos} (hg : Gl X x) (hm : ∃ t, X.mg x = some (.int i t)) (hd : (x == ("__debug__" : Str)) = false := by decide) : JE X W (.Name x pos) (mC (.int i)) := by
  obtain ⟨t, hm⟩ := hm
  exact je_const (v := .int i) (pe_glob hg hm ⟨t, rfl⟩ hd) rfl
theorem je_gstr {x z : Str} {pos : Pos} (hg : Gl X x) (hm : ∃ t, X.mg x = some (.str z t)) (hd : (x == ("__debug__" : Str)) = false := by decide) : JE X W (.Name x pos) (mC (.str z)) := by
  obtain ⟨t, hm⟩ := hm
  exact je_const (v := .str z) (pe_glob hg hm ⟨t, rfl⟩ hd) rfl
/-- a module's constant: a tuple of the written part -/
theorem je_gtup {x : Str} {ds : List D} {a : Addr} {vs : List V} {pos : Pos} (hg : Gl X x) (hm : X.mg x = some (.ref a)) (hq : ∀ H, SqT X.K H a vs) (r : ∀ ρ n H, VRs X.K ρ n H ds vs) (hd : (x == ("__debug__" : Str)) = false := by decide) : JE X W (.Name x pos) (mC (.tup ds)) := by
  refine PE_imp (pe_glob hg hm (v := .ref a) rfl hd) fun σ H Q ⟨ρ, env, s, sr, er, po⟩ => po ρ H (.ref a) Ext.refl sr ?_
  rw [VR]
  exact ⟨a, vs, rfl, hq H, r _ _ _⟩

/-! ### operations on values -/
/-- f does what r does -/
def Pr2 (X : Cx) (W : WX) (f : D → D → Sto → Rs D) (r : R2) : Prop :=
  ∀ (ρ : Nat → Addr) (s : Sto) (H : Hp) (σ : L2.St) (x y : D) (vx vy : V) (Q : VK), SR X.K X.mg ρ s H → VR X.K ρ s.length H x vx → VR X.K ρ s.length H y vy → Po X.K X.mg (VR X.K) W σ ρ s.length H (f x y s) Q → r vx vy H Q
def Pr1 (X : Cx) (W : WX) (f : D → Sto → Rs D) (r : V → Hp → VK → Prop) : Prop :=
  ∀ (ρ : Nat → Addr) (s : Sto) (H : Hp) (σ : L2.St) (x : D) (vx : V) (Q : VK), SR X.K X.mg ρ s H → VR X.K ρ s.length H x vx → Po X.K X.mg (VR X.K) W σ ρ s.length H (f x s) Q → r vx H Q
def PrN (X : Cx) (W : WX) (f : List D → Sto → Rs D) (r : List V → Hp → VK → Prop) : Prop :=
  ∀ (ρ : Nat → Addr) (s : Sto) (H : Hp) (σ : L2.St) (xs : List D) (vs : List V) (Q : VK), SR X.K X.mg ρ s H → VRs X.K ρ s.length H xs vs → Po X.K X.mg (VR X.K) W σ ρ s.length H (f xs s) Q → r vs H Q
def PrM (X : Cx) (W : WX) (f : D → List D → Sto → Rs D) (r : V → List V → Hp → VK → Prop) : Prop :=
  ∀ (ρ : Nat → Addr) (s : Sto) (H : Hp) (σ : L2.St) (x : D) (xs : List D) (v : V) (vs : List V) (Q : VK), SR X.K X.mg ρ s H → VR X.K ρ s.length H x v → VRs X.K ρ s.length H xs vs → Po X.K X.mg (VR X.K) W σ ρ s.length H (f x xs s) Q → r v vs H Q
def m2 (f : D → D → Sto → Rs D) (ma mb : EM D) : EM D := fun env s => (ma env s).bind fun x s1 => (mb env s1).bind fun y s2 => f x y s2
def m1 (f : D → Sto → Rs D) (ma : EM D) : EM D := fun env s => (ma env s).bind fun x s1 => f x s1
def mN (f : List D → Sto → Rs D) (ms : EM (List D)) : EM D := fun env s => (ms env s).bind fun xs s1 => f xs s1
def mM (f : D → List D → Sto → Rs D) (ma : EM D) (ms : EM (List D)) : EM D := fun env s => (ma env s).bind fun x s1 => (ms env s1).bind fun xs s2 => f x xs s2
def aN : EM (List D) := fun _ s => .ok [] s
def aC (ma : EM D) (ms : EM (List D)) : EM (List D) := fun env s => (ma env s).bind fun x s1 => (ms env s1).bind fun xs s2 => .ok (x :: xs) s2
theorem Po.imp {α β : Type} {K : PySem.W.Frag} {mg : Str → Option Value} {R : Rl α β} {σ : L2.St} {ρ : Nat → Addr} {n : Nat} {H : Hp} {r : Rs α} {Q Q' : β → Hp → Prop} (h : Po K mg R W σ ρ n H r Q) (i : ∀ v H', Q v H' → Q' v H') : Po K mg R W σ ρ n H r Q' := by
  cases r with
  | ok d s => exact fun ρ' H' v e sr r => i _ _ (h ρ' H' v e sr r)
  | ex c f d s => exact h
  | no => exact h
theorem Po.ite {α β : Type} {K : PySem.W.Frag} {mg : Str → Option Value} {R : Rl α β} {σ : L2.St} {ρ : Nat → Addr} {n : Nat} {H : Hp} {c : Prop} [Decidable c] {r : Rs α} {Q : β → Hp → Prop} (h : Po K mg R W σ ρ n H (if c then r else .no) Q) : c ∧ Po K mg R W σ ρ n H r Q := by
  by_cases hc : c
  · rw [if_pos hc] at h
    exact ⟨hc, h⟩
  · rw [if_neg hc] at h
    exact h.elim
variable {a b c : Expr} {es : List Expr} {ma mb mc : EM D} {ms : EM (List D)} {pos : Pos} {f : D → D → Sto → Rs D} {r : R2}
theorem lop (hp : Pr2 X W f r) {σ : L2.St} {H : Hp} {Q : VK} (h : lE X.K X.mg W (m2 f ma mb) σ H Q) : tOp r (lE X.K X.mg W ma) (lE X.K X.mg W mb) σ H Q :=
  let ⟨ρ, env, s, sr, er, po⟩ := h
  ⟨ρ, env, s, sr, er, (Po.bind po).imp fun _ _ ⟨ρ1, s1, d1, e1, sr1, r1, po1⟩ => ⟨ρ1, env, s1, sr1, er.mono e1, (Po.bind po1).imp fun _ _ ⟨ρ2, s2, d2, e2, sr2, r2, po2⟩ =>
    hp ρ2 s2 _ σ _ _ _ _ Q sr2 (r1.mono e2) r2 po2⟩⟩
theorem lcb {f : List D → Sto → Rs D} {r : List V → Hp → VK → Prop} (hp : PrN X W f r) {σ : L2.St} {H : Hp} {Q : VK} (h : lE X.K X.mg W (mN f ms) σ H Q) : tCB r (lA X.K X.mg W ms) σ H Q :=
  let ⟨ρ, env, s, sr, er, po⟩ := h
  ⟨ρ, env, s, sr, er, (Po.bind po).imp fun _ _ ⟨ρ1, s1, d1, e1, sr1, r1, po1⟩ => hp ρ1 s1 _ σ _ _ Q sr1 r1 po1⟩
theorem ja_nil : JA X W [] aN := PA_imp pa_nil fun σ H Q ⟨ρ, env, s, sr, er, po⟩ => po ρ H [] Ext.refl sr VRs.nil
theorem ja_cons {e : Expr} (h : JE X W e ma) (t : JA X W es ms) (hs : starEach (e :: es) X.env = (false, eval e X.env) :: starEach es X.env := by rfl) : JA X W (e :: es) (aC ma ms) :=
  PA_imp (pa_cons h t hs) fun σ H Q ⟨ρ, env, s, sr, er, po⟩ =>
    ⟨ρ, env, s, sr, er, (Po.bind po).imp fun _ _ ⟨ρ1, s1, d1, e1, sr1, r1, po1⟩ => ⟨ρ1, env, s1, sr1, er.mono e1, (Po.bind po1).imp fun _ _ ⟨ρ2, s2, d2, e2, sr2, r2, po2⟩ =>
      po2 ρ2 _ _ Ext.refl sr2 (VRs.cons (r1.mono e2) r2)⟩⟩
theorem je_op {op : Operator} (ho : OpR X (binaryOp op) r) (hp : Pr2 X W f r) (ha : JE X W a ma) (hb : JE X W b mb) : JE X W (.BinOp a op b pos) (m2 f ma mb) := PE_imp (pe_op ho ha hb) fun _ _ _ => lop hp
theorem je_cmp {op : CmpOp} (ho : OpR X (compareOp op) r) (hp : Pr2 X W f r) (ha : JE X W a ma) (hb : JE X W b mb) (hm : behindInMarks op b = false) : JE X W (.Compare a [op] [b] pos) (m2 f ma mb) := PE_imp (pe_cmpR ho ha hb hm) fun _ _ _ => lop hp
/-- a bool as a test -/
def toB (m : EM D) : EM Bool := fun env s => (m env s).bind fun d s1 => match d with
  | .bl b => .ok b s1
  | _ => .no
theorem ltoB {m : EM D} {t : TE} {σ : L2.St} {H : Hp} {Q : Bool → Hp → Prop} (i : ∀ Q, lE X.K X.mg W m σ H Q → t σ H Q) (h : lT X.K X.mg W (toB m) σ H Q) : tTest t σ H Q :=
  let ⟨ρ, env, s, sr, er, po⟩ := h
  i _ ⟨ρ, env, s, sr, er, (Po.bind po).imp fun v H1 ⟨ρ1, s1, d1, e1, sr1, r1, po1⟩ => by
    cases d1 with
    | bl b =>
      have e : v = .bl b := r1
      exact ⟨b, e, po1 ρ1 H1 b Ext.refl sr1 rfl⟩
    | _ => exact po1.elim⟩
theorem jt_cmp {op : CmpOp} (ho : OpR X (compareOp op) r) (hp : Pr2 X W f r) (ha : JE X W a ma) (hb : JE X W b mb) (hm : behindInMarks op b = false) : JT X W (.Compare a [op] [b] pos) (toB (m2 f ma mb)) :=
  PT_imp (pt_cmpR ho ha hb hm) fun _ _ _ h => ltoB (fun _ => lop hp) h
/-! ### and, or, not, if -/
def bAnd (a b : EM Bool) : EM Bool := fun env s => (a env s).bind fun x s1 => if x then b env s1 else .ok false s1
def bOr (a b : EM Bool) : EM Bool := fun env s => (a env s).bind fun x s1 => if x then .ok true s1 else b env s1
def bNot (a : EM Bool) : EM Bool := fun env s => (a env s).bind fun x s1 => .ok (!x) s1
def mIf (t : EM Bool) (a b : EM D) : EM D := fun env s => (t env s).bind fun x s1 => if x then a env s1 else b env s1
/-- a test's value -/
def ofB (t : EM Bool) : EM D := fun env s => (t env s).bind fun x s1 => .ok (.bl x) s1
variable {t u : EM Bool} {rest : List Expr}
theorem jw_and1 (ha : JT X W a t) : JW X W (.BoolOp .And [a] pos) t := pw_and1 ha
theorem jw_or1 (ha : JT X W a t) : JW X W (.BoolOp .Or [a] pos) t := pw_or1 ha
theorem jw_and (ha : JT X W a t) (hb : JW X W (.BoolOp .And (b :: rest) pos) u) : JW X W (.BoolOp .And (a :: b :: rest) pos) (bAnd t u) :=
  PW_imp (pw_and ha hb) fun σ H Q ⟨ρ, env, s, sr, er, po⟩ => ⟨ρ, env, s, sr, er, (Po.bind po).imp fun v H1 ⟨ρ1, s1, d1, e1, sr1, r1, po1⟩ => by
    have e : d1 = v := r1
    subst e
    cases d1 with
    | true => exact ⟨ρ1, env, s1, sr1, er.mono e1, po1⟩
    | false => exact po1 ρ1 H1 false Ext.refl sr1 rfl⟩
theorem jw_or (ha : JT X W a t) (hb : JW X W (.BoolOp .Or (b :: rest) pos) u) : JW X W (.BoolOp .Or (a :: b :: rest) pos) (bOr t u) :=
  PW_imp (pw_or ha hb) fun σ H Q ⟨ρ, env, s, sr, er, po⟩ => ⟨ρ, env, s, sr, er, (Po.bind po).imp fun v H1 ⟨ρ1, s1, d1, e1, sr1, r1, po1⟩ => by
    have e : d1 = v := r1
    subst e
    cases d1 with
    | false => exact ⟨ρ1, env, s1, sr1, er.mono e1, po1⟩
    | true => exact po1 ρ1 H1 true Ext.refl sr1 rfl⟩
theorem JW_t {e : Expr} (h : JW X W e t) : JT X W e t := h.pt
theorem jt_not (ha : JT X W a t) : JT X W (.UnaryOp .Not a pos) (bNot t) :=
  PT_imp (pt_not ha) fun σ H Q ⟨ρ, env, s, sr, er, po⟩ => ⟨ρ, env, s, sr, er, (Po.bind po).imp fun v H1 ⟨ρ1, s1, d1, e1, sr1, r1, po1⟩ => by
    have e : d1 = v := r1
    subst e
    exact po1 ρ1 H1 _ Ext.refl sr1 rfl⟩
theorem je_if (ht : JT X W c t) (ha : JE X W a ma) (hb : JE X W b mb) : JE X W (.IfExp c a b pos) (mIf t ma mb) :=
  PE_imp (pe_ifExp ht ha hb) fun σ H Q ⟨ρ, env, s, sr, er, po⟩ => ⟨ρ, env, s, sr, er, (Po.bind po).imp fun v H1 ⟨ρ1, s1, d1, e1, sr1, r1, po1⟩ => by
    have e : d1 = v := r1
    subst e
    cases d1 with
    | true => exact ⟨ρ1, env, s1, sr1, er.mono e1, po1⟩
    | false => exact ⟨ρ1, env, s1, sr1, er.mono e1, po1⟩⟩
/-- and, or, not as values: the parts are bools -/
def mAnd (a b : EM D) : EM D := fun env s => (a env s).bind fun x s1 => match x with
  | .bl true => b env s1
  | .bl false => .ok (.bl false) s1
  | _ => .no
def mOr (a b : EM D) : EM D := fun env s => (a env s).bind fun x s1 => match x with
  | .bl true => .ok (.bl true) s1
  | .bl false => b env s1
  | _ => .no
def mNot (a : EM D) : EM D := fun env s => (a env s).bind fun x s1 => match x with
  | .bl b => .ok (.bl (!b)) s1
  | _ => .no
theorem je_one {op} (h : JE X W a ma) : JE X W (.BoolOp op [a] pos) ma := pe_one h
theorem je_and (ha : JE X W a ma) (hb : JE X W (.BoolOp .And (b :: rest) pos) mb) : JE X W (.BoolOp .And (a :: b :: rest) pos) (mAnd ma mb) :=
  PE_imp (pe_and ha hb) fun σ H Q ⟨ρ, env, s, sr, er, po⟩ => ⟨ρ, env, s, sr, er, (Po.bind po).imp fun v H1 ⟨ρ1, s1, d1, e1, sr1, r1, po1⟩ => by
    cases d1 with
    | bl q =>
      have e : v = .bl q := r1
      subst e
      cases q with
      | true => exact ⟨true, rfl, ρ1, env, s1, sr1, er.mono e1, po1⟩
      | false => exact ⟨false, rfl, po1 ρ1 H1 _ Ext.refl sr1 rfl⟩
    | _ => exact po1.elim⟩
/-- a chain of two comparisons -/
def mCh (f g : D → D → Sto → Rs D) (ma mb mc : EM D) : EM D := fun env s => (ma env s).bind fun x s1 => (mb env s1).bind fun y s2 => (f x y s2).bind fun z s3 => match z with
  | .bl true => (mc env s3).bind fun w s4 => g y w s4
  | .bl false => .ok (.bl false) s3
  | _ => .no
theorem lch {f g : D → D → Sto → Rs D} {r r' : R2} (hp : Pr2 X W f r) (hp' : Pr2 X W g r') {σ : L2.St} {H : Hp} {Q : VK} (h : lE X.K X.mg W (mCh f g ma mb mc) σ H Q) :
    tChain r r' (lE X.K X.mg W ma) (lE X.K X.mg W mb) (lE X.K X.mg W mc) σ H Q :=
  let ⟨ρ, env, s, sr, er, po⟩ := h
  ⟨ρ, env, s, sr, er, (Po.bind po).imp fun _ _ ⟨ρ1, s1, d1, e1, sr1, r1, po1⟩ => ⟨ρ1, env, s1, sr1, er.mono e1, (Po.bind po1).imp fun _ _ ⟨ρ2, s2, d2, e2, sr2, r2, po2⟩ =>
    hp ρ2 s2 _ σ _ _ _ _ _ sr2 (r1.mono e2) r2 ((Po.bind po2).imp fun v H3 ⟨ρ3, s3, d3, e3, sr3, r3, po3⟩ => by
      cases d3 with
      | bl q =>
        have e : v = .bl q := r3
        subst e
        cases q with
        | true => exact ⟨true, rfl, ρ3, env, s3, sr3, ((er.mono e1).mono e2).mono e3, (Po.bind po3).imp fun _ _ ⟨ρ4, s4, d4, e4, sr4, r4, po4⟩ => hp' ρ4 s4 _ σ _ _ _ _ _ sr4 ((r2.mono e3).mono e4) r4 po4⟩
        | false => exact ⟨false, rfl, po3 ρ3 H3 _ Ext.refl sr3 rfl⟩
      | _ => exact po3.elim)⟩⟩
theorem jt_ch {op op' : CmpOp} {f g : D → D → Sto → Rs D} {r r' : R2} (ho : OpR X (compareOp op) r) (ho' : OpR X (compareOp op') r') (hp : Pr2 X W f r) (hp' : Pr2 X W g r') (ha : JE X W a ma) (hb : JE X W b mb) (hc : JE X W c mc)
    (hm : lastMarks [op, op'] [b, c] = false := by with_unfolding_all rfl) : JT X W (.Compare a [op, op'] [b, c] pos) (toB (mCh f g ma mb mc)) := PT_imp (pt_chain ho ho' ha hb hc hm) fun _ _ _ h => ltoB (fun _ => lch hp hp') h
/-! ### built-ins by name, methods, subscripts, displays -/
variable {id T : String} {x : Str} {p apos : Pos} {e : Expr}
theorem je_cb {f : List D → Sto → Rs D} {r : List V → Hp → VK → Prop} (hc : CallR X (.builtin id) r) (hp : PrN X W f r) (hg : Gl X x) (hm : X.mg x = none) (hv : bootBuiltins x = some (.builtin id)) (ha : JA X W (e :: es) ms) (hn : x ≠ "__name__" := by decide) (hdb : (x == ("__debug__" : Str)) = false := by decide)
    (he : starEach (e :: es) X.env = (false, eval e X.env) :: starEach es X.env := by rfl) (hpl : (backTo pos (starEach es X.env)).any (·.1) = false := by rfl) : JE X W (.Call (.Name x p) (e :: es) [] pos) (mN f ms) :=
  PE_imp (pe_callB hc hg hm hv ha hn hdb he hpl) fun _ _ _ => lcb hp
theorem je_ct {f : List D → Sto → Rs D} {r : List V → Hp → VK → Prop} (hc : CallR X (.type T) r) (hp : PrN X W f r) (hg : Gl X x) (hm : X.mg x = none) (hv : bootBuiltins x = some (.type T)) (ha : JA X W (e :: es) ms) (hn : x ≠ "__name__" := by decide) (hdb : (x == ("__debug__" : Str)) = false := by decide)
    (he : starEach (e :: es) X.env = (false, eval e X.env) :: starEach es X.env := by rfl) (hpl : (backTo pos (starEach es X.env)).any (·.1) = false := by rfl) : JE X W (.Call (.Name x p) (e :: es) [] pos) (mN f ms) :=
  PE_imp (pe_callTy hc hg hm hv ha hn hdb he hpl) fun _ _ _ => lcb hp
/-- the receiver of a built-in's method is of its type -/
def isTy (T : String) (s : Sto) : D → Bool
  | .str _ => T == "str"
  | .ref n => match s[n]? with
    | some (.lst _) => T == "list"
    | some (.frz _) => T == "list"
    | some (.dict _ _) => T == "dict"
    | _ => false
  | _ => false
def mBM (T : String) (f : D → List D → Sto → Rs D) (ma : EM D) (ms : EM (List D)) : EM D := fun env s => (ma env s).bind fun x s1 => if isTy T s1 x then (ms env s1).bind fun xs s2 => f x xs s2 else .no
theorem isTy_tyV {K : PySem.W.Frag} {mg : Str → Option Value} {ρ : Nat → Addr} {s : Sto} {H : Hp} {d : D} {v : V} (sr : SR K mg ρ s H) (r : VR K ρ s.length H d v) (h : isTy T s d = true) : tyV K T v H := by
  cases d with
  | str y =>
    have e : v = .str y := r
    subst e
    exact eq_of_beq h
  | ref n =>
    rw [VR] at r
    obtain ⟨hn, rfl⟩ := r
    have h2 : (match s[n]? with
      | some (.lst _) => T == "list"
      | some (.frz _) => T == "list"
      | some (.dict _ _) => T == "dict"
      | _ => false) = true := h
    cases e : s[n]? with
    | none => rw [e] at h2; cases h2
    | some o =>
      rw [e] at h2
      have ob := sr.ob n o e
      cases o with
      | lst xs =>
        obtain ⟨vs, q, _⟩ := ob
        exact .inl ⟨eq_of_beq h2, vs, .of q⟩
      | frz xs =>
        obtain ⟨vs, q, _⟩ := ob
        exact .inl ⟨eq_of_beq h2, vs, q.sq⟩
      | dict t kvs =>
        have e2 : T = "dict" := eq_of_beq h2
        cases t with
        | false =>
          obtain ⟨vs, q, _⟩ := ob
          exact .inr (.inr (.inl ⟨e2, .inl ⟨vs, q⟩⟩))
        | true =>
          obtain ⟨vs, q, _⟩ := ob
          exact .inr (.inr (.inl ⟨e2, .inr ⟨vs, q⟩⟩))
      | ins c fs => cases h2
      | lck t kvs => cases h2
      | set xs => cases h2
      | ptp xs => cases h2
  | _ => cases h
variable {o : Expr} {name : Str} {cpos : Pos} {mo : EM D}
theorem lbm {f : D → List D → Sto → Rs D} {r : V → List V → Hp → VK → Prop} (hp : PrM X W f r) {σ : L2.St} {H : Hp} {Q : VK} (h : lE X.K X.mg W (mBM T f mo ms) σ H Q) : tBM X.K T r (lE X.K X.mg W mo) (lA X.K X.mg W ms) σ H Q :=
  let ⟨ρ, env, s, sr, er, po⟩ := h
  ⟨ρ, env, s, sr, er, (Po.bind po).imp fun _ H1 ⟨ρ1, s1, d1, e1, sr1, r1, po1⟩ => by
    dsimp only at po1
    cases hty : isTy T s1 d1 with
    | false =>
      rw [hty, if_neg Bool.false_ne_true] at po1
      exact po1.elim
    | true =>
      rw [hty, if_pos rfl] at po1
      exact ⟨isTy_tyV sr1 r1 hty, ρ1, env, s1, sr1, er.mono e1, (Po.bind po1).imp fun _ _ ⟨ρ2, s2, d2, e2, sr2, r2, po2⟩ => hp ρ2 s2 _ σ _ _ _ _ Q sr2 (r1.mono e2) r2 po2⟩⟩
theorem je_bm {f : D → List D → Sto → Rs D} {r : V → List V → Hp → VK → Prop} (pa : PlainAttrs T) (slot : Slot T name id) (hty : typeOf (.builtin id) = pure (.type "method_descriptor")) (hm : MtR X id r) (hp : PrM X W f r) (ho : JE X W o mo) (ha : JA X W (e :: es) ms)
    (hbase : attributeBase o name X.env (eval o X.env) = eval o X.env := by rfl)
    (hfew : ((backTo cpos (starEach (e :: es) X.env)).all (fun x => !x.1) && (backToKw cpos (keywordEach [] X.env)).all (fun x => x.1.isSome)
      && decide ((e :: es).length + ([] : List Keyword).length + (if ([] : List Keyword).isEmpty then 0 else 1) < 30)) = true := by rfl)
    (hline : (apos.endLine == cpos.line) = true := by rfl) (hs : starEach (e :: es) X.env = (false, eval e X.env) :: starEach es X.env := by rfl) (hplain : (backTo cpos (starEach es X.env)).any (·.1) = false := by rfl) :
    JE X W (.Call (.Attribute o name apos) (e :: es) [] cpos) (mBM T f mo ms) := PE_imp (pe_bm pa slot hty hm ho ha hbase hfew hline hs hplain) fun _ _ _ => lbm hp
theorem je_ix {f : D → D → Sto → Rs D} {r : R2} (hr : IxR X r) (hp : Pr2 X W f r) (ha : JE X W a ma) (hb : JE X W b mb) (hs : PlainIx b := by exact fun _ _ => rfl) : JE X W (.Subscript a b pos) (m2 f ma mb) := PE_imp (pe_ix hr ha hb hs) fun _ _ _ => lop hp
/-! ### slices -/
abbrev RO : Rl (Option Int) (Option Int) := fun _ _ _ b c => b = c
abbrev JO (X : Cx) (W : WX) (e : Option Expr) (m : EM (Option Int)) : Prop := PO X e (lG X.K X.mg RO W m)
def oN : EM (Option Int) := fun _ s => .ok none s
def oS (m : EM D) : EM (Option Int) := fun env s => (m env s).bind fun d s1 => match d with
  | .int i => .ok (some i) s1
  | _ => .no
theorem PO_imp {e : Option Expr} {t t' : TO} (h : PO X e t) (i : ∀ σ H Q, t' σ H Q → t σ H Q) : PO X e t' := ⟨fun p s σ H Q I q => h.run p s σ H Q I (i σ H Q q)⟩
theorem jo_none : JO X W none oN := PO_imp po_none fun σ H Q ⟨ρ, env, s, sr, er, po⟩ => po ρ H _ Ext.refl sr rfl
theorem jo_some (h : JE X W a ma) : JO X W (some a) (oS ma) := PO_imp (po_some h) fun σ H Q ⟨ρ, env, s, sr, er, po⟩ => ⟨ρ, env, s, sr, er, (Po.bind po).imp fun v H1 ⟨ρ1, s1, d1, e1, sr1, r1, po1⟩ => by
  cases d1 with
  | int i =>
    have e : v = .int i := r1
    exact ⟨i, e, po1 ρ1 H1 _ Ext.refl sr1 rfl⟩
  | _ => exact po1.elim⟩
def PrS (X : Cx) (W : WX) (f : D → Option Int → Option Int → Sto → Rs D) (r : V → Option Int → Option Int → Hp → VK → Prop) : Prop :=
  ∀ (ρ : Nat → Addr) (s : Sto) (H : Hp) (σ : L2.St) (x : D) (vx : V) (lo hi : Option Int) (Q : VK), SR X.K X.mg ρ s H → VR X.K ρ s.length H x vx → Po X.K X.mg (VR X.K) W σ ρ s.length H (f x lo hi s) Q → r vx lo hi H Q
def mSl (f : D → Option Int → Option Int → Sto → Rs D) (ma : EM D) (ml mh : EM (Option Int)) : EM D := fun env s => (ma env s).bind fun x s1 => (ml env s1).bind fun lo s2 => (mh env s2).bind fun hi s3 => f x lo hi s3
theorem je_sl {f : D → Option Int → Option Int → Sto → Rs D} {r : V → Option Int → Option Int → Hp → VK → Prop} {lo hi : Option Expr} {ml mh : EM (Option Int)} {p2 : Pos} (hr : SlR X r) (hp : PrS X W f r) (he : JE X W a ma) (hl : JO X W lo ml) (hu : JO X W hi mh) :
    JE X W (.Subscript a (.Slice lo hi none p2) pos) (mSl f ma ml mh) := PE_imp (pe_slice hr he hl hu) fun σ H Q ⟨ρ, env, s, sr, er, po⟩ =>
  ⟨ρ, env, s, sr, er, (Po.bind po).imp fun _ _ ⟨ρ1, s1, d1, e1, sr1, r1, po1⟩ => ⟨ρ1, env, s1, sr1, er.mono e1, (Po.bind po1).imp fun _ _ ⟨ρ2, s2, d2, e2, sr2, r2, po2⟩ =>
    ⟨ρ2, env, s2, sr2, (er.mono e1).mono e2, (Po.bind po2).imp fun _ _ ⟨ρ3, s3, d3, e3, sr3, r3, po3⟩ => by
      cases r2
      cases r3
      exact hp ρ3 s3 _ σ _ _ _ _ Q sr3 ((r1.mono e2).mono e3) po3⟩⟩⟩
/-! ### displays -/
theorem new_tup {K : PySem.W.Frag} {mg : Str → Option Value} {ρ : Nat → Addr} {s : Sto} {H : Hp} {ds : List D} {vs : List V} {q : Addr} (sr : SR K mg ρ s H) (hq : H q = none) (r : VRs K ρ s.length H ds vs) :
    Ext ρ s.length H ρ s.length (upd H q (.tup vs)) ∧ SR K mg ρ s (upd H q (.tup vs)) ∧ VR K ρ s.length (upd H q (.tup vs)) (.tup ds) (.ref q) := by
  have st : ∀ b o, H b = some o → upd H q (.tup vs) b = some o := fun b o e => by rw [upd_ne (ne_of_none e hq)]; exact e
  refine ⟨Ext.same st, sr.grow st, ?_⟩
  rw [VR]
  exact ⟨q, vs, rfl, .of upd_same, r.mono (Ext.same st)⟩
theorem new_lst {K : PySem.W.Frag} {mg : Str → Option Value} {ρ : Nat → Addr} {s : Sto} {H : Hp} {ds : List D} {vs : List V} {q : Addr} (sr : SR K mg ρ s H) (hq : H q = none) (r : VRs K ρ s.length H ds vs) :
    Ext ρ s.length H (ρup ρ s.length q) (s ++ [SO.lst ds]).length (upd H q (.lst vs)) ∧ SR K mg (ρup ρ s.length q) (s ++ [.lst ds]) (upd H q (.lst vs)) ∧ VR K (ρup ρ s.length q) (s ++ [SO.lst ds]).length (upd H q (.lst vs)) (.ref s.length) (.ref q) := by
  have st : ∀ b o, H b = some o → upd H q (.lst vs) b = some o := fun b o e => by rw [upd_ne (ne_of_none e hq)]; exact e
  rw [List.length_append]
  refine ⟨Ext.alloc st, sr.alloc hq st ⟨vs, upd_same, r.mono (Ext.alloc st)⟩, ?_⟩
  rw [VR]
  exact ⟨by simp, by rw [ρup_same]⟩
def fTup : List D → Sto → Rs D := fun ds s => if ds.length ≤ sizeLine then .ok (.tup ds) s else .no
def fLst : List D → Sto → Rs D := fun ds s => if ds.length ≤ sizeLine then .ok (.ref s.length) (s ++ [.lst ds]) else .no
theorem je_tup {k : Nat} (h : JA X W es ms) : JE X W (.Tuple es k pos) (mN fTup ms) := PE_imp (pe_tup h) fun σ H Q ⟨ρ, env, s, sr, er, po⟩ => ⟨ρ, env, s, sr, er, (Po.bind po).imp fun _ H1 ⟨ρ1, s1, d1, e1, sr1, r1, po1⟩ => by
  obtain ⟨hl, po1⟩ := Po.ite (c := d1.length ≤ sizeLine) po1
  · refine ⟨by rw [r1.length]; exact hl, fun q hq => ?_⟩
    obtain ⟨e2, sr2, r2⟩ := new_tup sr1 hq r1
    exact po1 ρ1 _ _ e2 sr2 r2⟩
theorem je_lst (h : JA X W es ms) : JE X W (.List es pos) (mN fLst ms) := PE_imp (pe_lst h) fun σ H Q ⟨ρ, env, s, sr, er, po⟩ => ⟨ρ, env, s, sr, er, (Po.bind po).imp fun _ H1 ⟨ρ1, s1, d1, e1, sr1, r1, po1⟩ => by
  obtain ⟨hl, po1⟩ := Po.ite (c := d1.length ≤ sizeLine) po1
  · refine ⟨by rw [r1.length]; exact hl, fun q hq => ?_⟩
    obtain ⟨e2, sr2, r2⟩ := new_lst sr1 hq r1
    exact po1 _ _ _ e2 sr2 r2⟩
end
end Z

set_option Elab.async false
set_option linter.all false
set_option maxRecDepth 100000
set_option maxHeartbeats 4000000
namespace Z
open PySem PySem.Spec PyProof.Rows L2
variable [Row]

/-! ### statements -/
def PoS (K : PySem.W.Frag) (mg : Str → Option Value) (W : WX) (D : Ends) (ρ : Nat → Addr) (n : Nat) (H : Hp) (r : RS) : Prop :=
  match r with
  | .nx e s' => ∀ ρ' H' σ', Ext ρ n H ρ' s'.length H' → SR K mg ρ' s' H' → EnvR K ρ' s'.length H' e σ' → D.nx σ' H'
  | .rt d s' => ∀ ρ' H' v, Ext ρ n H ρ' s'.length H' → SR K mg ρ' s' H' → VR K ρ' s'.length H' d v → D.rt v H'
  | .bk e s' => ∀ ρ' H' σ', Ext ρ n H ρ' s'.length H' → SR K mg ρ' s' H' → EnvR K ρ' s'.length H' e σ' → D.bk σ' H'
  | .ct e s' => ∀ ρ' H' σ', Ext ρ n H ρ' s'.length H' → SR K mg ρ' s' H' → EnvR K ρ' s'.length H' e σ' → D.ct σ' H'
  | .ex c f d e s' => ∀ ρ' H' σ' C dx v, Ext ρ n H ρ' s'.length H' → SR K mg ρ' s' H' → EnvR K ρ' s'.length H' e σ' → mg c = some (.ref C) → VR K ρ' s'.length H' d v → H' dx = some (.xd [(f, v)]) → W (.ref C) (some dx) σ' H'
  | .no => False
section
variable {K : PySem.W.Frag} {mg : Str → Option Value} {ρ ρ' ρ1 : Nat → Addr} {n n' n1 : Nat} {H H' H1 : Hp} {W : WX} {D : Ends}
theorem PoS.rebase {r : RS} (h : PoS K mg W D ρ n H r) (e : Ext ρ n H ρ1 n1 H1) : PoS K mg W D ρ1 n1 H1 r := by
  cases r with
  | nx env s => exact fun ρ' H' σ' e' => h ρ' H' σ' (e.trans e')
  | rt d s => exact fun ρ' H' v e' => h ρ' H' v (e.trans e')
  | bk env s => exact fun ρ' H' σ' e' => h ρ' H' σ' (e.trans e')
  | ct env s => exact fun ρ' H' σ' e' => h ρ' H' σ' (e.trans e')
  | ex c f d env s => exact fun ρ' H' σ' C dx v e' => h ρ' H' σ' C dx v (e.trans e')
  | no => exact h
def MidS (K : PySem.W.Frag) (mg : Str → Option Value) (ρ : Nat → Addr) (n : Nat) (H : Hp) (σ : L2.St) (H1 : Hp) (k : (Nat → Addr) → Ev → Sto → Prop) : Prop :=
  ∃ ρ1 env1 s1, Ext ρ n H ρ1 s1.length H1 ∧ SR K mg ρ1 s1 H1 ∧ EnvR K ρ1 s1.length H1 env1 σ ∧ k ρ1 env1 s1
theorem PoS.imp {D' : Ends} {r : RS} (h : PoS K mg W D ρ n H r) (h1 : ∀ σ H, D.nx σ H → D'.nx σ H) (h2 : ∀ v H, D.rt v H → D'.rt v H) (h3 : ∀ σ H, D.bk σ H → D'.bk σ H) (h4 : ∀ σ H, D.ct σ H → D'.ct σ H) : PoS K mg W D' ρ n H r := by
  cases r with
  | nx env s => exact fun ρ' H' σ' e sr er => h1 _ _ (h ρ' H' σ' e sr er)
  | rt d s => exact fun ρ' H' v e sr r => h2 _ _ (h ρ' H' v e sr r)
  | bk env s => exact fun ρ' H' σ' e sr er => h3 _ _ (h ρ' H' σ' e sr er)
  | ct env s => exact fun ρ' H' σ' e sr er => h4 _ _ (h ρ' H' σ' e sr er)
  | ex c f d env s => exact h
  | no => exact h
theorem PoS.seq {r : RS} {k : SM} (h : PoS K mg W D ρ n H (r.seq k)) :
    PoS K mg W { D with nx := fun σ H1 => MidS K mg ρ n H σ H1 fun ρ1 env1 s1 => PoS K mg W D ρ1 s1.length H1 (k env1 s1) } ρ n H r := by
  cases r with
  | nx env s => exact fun ρ' H' σ' e sr er => ⟨ρ', env, s, e, sr, er, PoS.rebase h e⟩
  | _ => exact h
theorem PoS.st {α β : Type} {R : Rl α β} {σ : L2.St} {r : Rs α} {env : Ev} {k : α → Sto → RS} (er : EnvR K ρ n H env σ) (h : PoS K mg W D ρ n H (r.st env k)) :
    Po K mg R W σ ρ n H r (fun v H1 => Mid K mg R ρ n H v H1 fun ρ1 s1 d => EnvR K ρ1 s1.length H1 env σ ∧ PoS K mg W D ρ1 s1.length H1 (k d s1)) := by
  cases r with
  | ok d s => exact fun ρ' H' v e sr r => ⟨ρ', s, d, e, sr, r, er.mono e, PoS.rebase h e⟩
  | ex c f d s => exact fun ρ' H' C dx v e sr => h ρ' H' σ C dx v e sr (er.mono e)
  | no => exact h
end
def lS (K : PySem.W.Frag) (mg : Str → Option Value) (W : WX) (m : SM) : TS :=
  fun D σ H => ∃ ρ env s, SR K mg ρ s H ∧ EnvR K ρ s.length H env σ ∧ PoS K mg W D ρ s.length H (m env s)
abbrev JS (X : Cx) (W : WX) (st : Stmt) (m : SM) : Prop := PS X st (lS X.K X.mg W m)
abbrev JSs (X : Cx) (W : WX) (st : List Stmt) (m : SM) : Prop := PSs X st (lS X.K X.mg W m)
def sN : SM := fun e s => .nx e s
def sC (a b : SM) : SM := fun e s => (a e s).seq b
def sA (i : Nat) (m : EM D) : SM := fun e s => (m e s).st e fun d s1 => .nx (e.set i (some d)) s1
def sE (m : EM D) : SM := fun e s => (m e s).st e fun _ s1 => .nx e s1
def sR (m : EM D) : SM := fun e s => (m e s).st e fun d s1 => .rt d s1
def sR0 : SM := fun _ s => .rt .non s
def sI (t : EM Bool) (a b : SM) : SM := fun e s => (t e s).st e fun q s1 => if q then a e s1 else b e s1
def sNo : SM := fun _ _ => .no
section
variable {X : Cx} {W : WX} {st : Stmt} {rest : List Stmt} {a b : SM} {e : Expr} {m : EM D} {pos : Pos}
theorem js_nil : JSs X W [] sN := PSs_imp pss_nil fun σ H D ⟨ρ, env, s, sr, er, po⟩ => po ρ H σ Ext.refl sr er
theorem js_cons (h1 : JS X W st a) (h2 : JSs X W rest b) : JSs X W (st :: rest) (sC a b) := PSs_imp (pss_cons h1 h2) fun σ H D ⟨ρ, env, s, sr, er, po⟩ =>
  ⟨ρ, env, s, sr, er, (PoS.seq po).imp (fun σ1 H1 ⟨ρ1, env1, s1, e1, sr1, er1, po1⟩ => ⟨ρ1, env1, s1, sr1, er1, po1⟩) (fun _ _ h => h) (fun _ _ h => h) fun _ _ h => h⟩
theorem js_one (h1 : JS X W st a) : JSs X W [st] a := pss_one h1
theorem js_no : JS X W st sNo := PS_imp ps_never fun σ H D ⟨ρ, env, s, sr, er, po⟩ => po
theorem js_expr (he : JE X W e m) (hs : swapsWith e none pos.line X.env = pure false := by rfl) : JS X W (.Expr e pos) (sE m) := PS_imp (ps_expr he hs) fun σ H D ⟨ρ, env, s, sr, er, po⟩ =>
  ⟨ρ, env, s, sr, er, (PoS.st (R := VR X.K) er po).imp fun v H1 ⟨ρ1, s1, d1, e1, sr1, r1, er1, po1⟩ => po1 ρ1 H1 σ Ext.refl sr1 er1⟩
theorem js_ret (he : JE X W e m) : JS X W (.Return (some e) pos) (sR m) := PS_imp (ps_ret he) fun σ H D ⟨ρ, env, s, sr, er, po⟩ =>
  ⟨ρ, env, s, sr, er, (PoS.st (R := VR X.K) er po).imp fun v H1 ⟨ρ1, s1, d1, e1, sr1, r1, er1, po1⟩ => po1 ρ1 H1 v Ext.refl sr1 r1⟩
theorem js_if {c : Expr} {t : EM Bool} {as bs : List Stmt} (ht : JT X W c t) (ha : JSs X W as a) (hb : JSs X W bs b) : JS X W (.If c as bs pos) (sI t a b) := PS_imp (ps_if ht ha hb) fun σ H D ⟨ρ, env, s, sr, er, po⟩ =>
  ⟨ρ, env, s, sr, er, (PoS.st (R := RB) er po).imp fun v H1 ⟨ρ1, s1, d1, e1, sr1, r1, er1, po1⟩ => by
    have q : d1 = v := r1
    subst q
    cases d1 with
    | true => exact ⟨ρ1, env, s1, sr1, er1, po1⟩
    | false => exact ⟨ρ1, env, s1, sr1, er1, po1⟩⟩
/-! ### assignments -/
/-- a target's store -/
abbrev GM := D → Ev → Sto → Option (Ev × Sto)
def PrG (X : Cx) (g : TG) (f : GM) : Prop :=
  ∀ (ρ : Nat → Addr) (s : Sto) (H : Hp) (σ : L2.St) (env : Ev) (x : D) (vx : V) (Q : L2.St → Hp → Prop) (env' : Ev) (s' : Sto), SR X.K X.mg ρ s H → EnvR X.K ρ s.length H env σ → VR X.K ρ s.length H x vx → f x env s = some (env', s') →
    (∀ ρ' H' σ', Ext ρ s.length H ρ' s'.length H' → SR X.K X.mg ρ' s' H' → EnvR X.K ρ' s'.length H' env' σ' → Q σ' H') → g vx σ H Q
/-- targets that keep the store: names, tuples of names -/
abbrev GN := D → Ev → Option Ev
def gN (i : Nat) : GN := fun d e => some (e.set i (some d))
def gTs : List GN → List D → Ev → Option Ev
  | [], [], e => some e
  | g :: gs, d :: ds, e => (g d e).bind fun e' => gTs gs ds e'
  | _, _, _ => none
def gT (gs : List GN) : GN := fun d e => match d with
  | .tup ds => gTs gs ds e
  | _ => none
theorem wipe_set {σ : L2.St} {i : Nat} {v : Option V} : ∀ {vs : List Nat}, i ∈ vs → wipe (σ.set i v) vs = wipe σ vs
  | [], h => by simp at h
  | w :: vs, h => by
    show (wipe (σ.set i v) vs).set w none = (wipe σ vs).set w none
    by_cases hm : i ∈ vs
    · rw [wipe_set hm]
    · have hw : i = w := by
        rcases List.mem_cons.mp h with h | h
        · exact h
        · exact absurd h hm
      subst hw
      have out : ∀ {us : List Nat}, i ∉ us → wipe (σ.set i v) us = (wipe σ us).set i v := by
        intro us
        induction us with
        | nil => intro _; rfl
        | cons u us ih =>
          intro hu
          simp only [List.mem_cons, not_or] at hu
          show (wipe (σ.set i v) us).set u none = ((wipe σ us).set u none).set i v
          rw [ih hu.2, List.set_comm _ _ hu.1]
      rw [out hm, List.set_set]
/-- a target's reading: it sets the slots at is alone -/
def GQ (K : PySem.W.Frag) (f : GN) (is : List Nat) (g : TG) : Prop :=
  ∀ (ρ : Nat → Addr) (s : Sto) (H : Hp) (σ : L2.St) (env env' : Ev) (x : D) (vx : V) (Q : L2.St → Hp → Prop), EnvR K ρ s.length H env σ → VR K ρ s.length H x vx → f x env = some env' →
    (∀ σ', EnvR K ρ s.length H env' σ' → (∀ vs, (∀ i ∈ is, i ∈ vs) → wipe σ' vs = wipe σ vs) → Q σ' H) → g vx σ H Q
def GQs (K : PySem.W.Frag) (fs : List GN) (is : List Nat) (g : TGs) : Prop :=
  ∀ (ρ : Nat → Addr) (s : Sto) (H : Hp) (σ : L2.St) (env env' : Ev) (xs : List D) (vs : List V) (Q : L2.St → Hp → Prop), EnvR K ρ s.length H env σ → VRs K ρ s.length H xs vs → gTs fs xs env = some env' →
    (∀ σ', EnvR K ρ s.length H env' σ' → (∀ vs, (∀ i ∈ is, i ∈ vs) → wipe σ' vs = wipe σ vs) → Q σ' H) → g vs σ H Q
theorem gq_n {K : PySem.W.Frag} {i : Nat} : GQ K (gN i) [i] (gName i) := fun ρ s H σ env env' x vx Q er r e q => by
  cases e
  exact q _ (er.set r) fun vs h => wipe_set (h i (by simp))
theorem gqs_nil {K : PySem.W.Frag} : GQs K [] [] gNil := fun ρ s H σ env env' xs vs Q er r e q => by
  cases xs with
  | nil =>
    rw [VRs] at r
    subst r
    cases e
    exact ⟨rfl, q _ er fun _ _ => rfl⟩
  | cons _ _ => cases e
theorem gqs_cons {K : PySem.W.Frag} {f : GN} {fs : List GN} {is js : List Nat} {g : TG} {gs : TGs} (h : GQ K f is g) (hs : GQs K fs js gs) : GQs K (f :: fs) (is ++ js) (gCons g gs) := fun ρ s H σ env env' xs vs Q er r e k => by
  cases xs with
  | nil => cases e
  | cons x xs =>
    obtain ⟨v, vr, rfl, r1, r2⟩ := r.uncons
    obtain ⟨e1, h1, h2⟩ := Option.bind_eq_some_iff.mp e
    exact ⟨v, vr, rfl, h ρ s H σ env e1 x v _ er r1 h1 fun σ' er' w1 => hs ρ s H σ' e1 env' xs vr Q er' r2 h2 fun σ2 er2 w2 => k σ2 er2 fun vs hv => (w2 vs fun i hi => hv i (List.mem_append_right _ hi)).trans (w1 vs fun i hi => hv i (List.mem_append_left _ hi))⟩
theorem gTs_len : ∀ {fs : List GN} {xs : List D} {e e' : Ev}, gTs fs xs e = some e' → xs.length = fs.length
  | [], [], _, _, _ => rfl
  | [], _ :: _, _, _, h => by cases h
  | _ :: _, [], _, _, h => by cases h
  | f :: fs, x :: xs, e, e', h => by
    obtain ⟨e1, h1, h2⟩ := Option.bind_eq_some_iff.mp h
    rw [List.length_cons, List.length_cons, gTs_len h2]
theorem gq_t {K : PySem.W.Frag} {fs : List GN} {is : List Nat} {gs : TGs} {n : Nat} (h : GQs K fs is gs) (hn : fs.length = n := by rfl) : GQ K (gT fs) is (gTup K n gs) := fun ρ s H σ env env' x vx Q er r e k => by
  cases x with
  | tup ds =>
    rw [VR] at r
    obtain ⟨a, vs, rfl, sq, r⟩ := r
    exact ⟨a, vs, rfl, sq, by rw [r.length, gTs_len e, hn], h ρ s H σ env env' ds vs Q er r e k⟩
  | _ => cases e
/-- target = e -/
def sG (g : GN) (m : EM D) : SM := fun e s => (m e s).st e fun d s1 => match g d e with
  | some e' => .nx e' s1
  | none => .no
theorem js_asg {tg : Expr} {g : GN} {g' : TG} {is : List Nat} (he : JE X W e m) (hg' : PG X tg g') (q : GQ X.K g is g') (hs : swapsWithSole [tg] e pos.line X.env = pure false := by rfl) (hw : swappedStores [tg] e X.env = pure none := by rfl)
    (h1 : (assignEach [tg] X.env).map (·.2) = [assign tg X.env] := by rfl) : JS X W (.Assign [tg] e pos) (sG g m) := by
  refine PS_imp (ps_asg he hg' hs hw h1) fun σ H D ⟨ρ, env, s, sr, er, po⟩ => ⟨ρ, env, s, sr, er, (PoS.st (R := VR X.K) er po).imp fun v H1 ⟨ρ1, s1, d1, e1, sr1, r1, er1, po1⟩ => ?_⟩
  cases hq : g d1 env with
  | none => rw [hq] at po1; exact po1.elim
  | some env' =>
    rw [hq] at po1
    exact q ρ1 s1 H1 σ env env' d1 v _ er1 r1 hq fun σ' er' _ => po1 ρ1 H1 σ' Ext.refl sr1 er'
theorem js_set {i : Nat} {x : Str} {pos' : Pos} (hN : X.N.Nodup) (hi : X.N[i]? = some x) (hx : Loc X.env.scope x) (he : JE X W e m) (hs : swapsWith e (some (.Name x pos')) pos.line X.env = pure false := by rfl) (hf : X.fn x = true ∨ X.env.scope.names.lookup x = some .local := by first | exact .inl rfl | exact .inr rfl | assumption) :
    JS X W (.Assign [.Name x pos'] e pos) (sA i m) := PS_imp (ps_set hN hi hx he hs hf) fun σ H D ⟨ρ, env, s, sr, er, po⟩ =>
  ⟨ρ, env, s, sr, er, (PoS.st (R := VR X.K) er po).imp fun v H1 ⟨ρ1, s1, d1, e1, sr1, r1, er1, po1⟩ => po1 ρ1 H1 _ Ext.refl sr1 (er1.set r1)⟩
/-- a, b = x, y -/
def sP (i j : Nat) (ms : EM (List D)) : SM := fun e s => (ms e s).st e fun ds s1 => match ds with
  | [x, y] => .nx ((e.set i (some x)).set j (some y)) s1
  | _ => .no
theorem js_par {i j : Nat} {x y : Str} {ea eb : Expr} {ms : EM (List D)} {px py pt : Pos} {kt k2 pt2} (hc : X.calm = true) (hN : X.N.Nodup) (hi : X.N[i]? = some x) (hj : X.N[j]? = some y) (hij : i ≠ j)
    (hx : X.env.scope.names.lookup x = some .local) (hy : X.env.scope.names.lookup y = some .local) (ha : JA X W [ea, eb] ms)
    (hw : swappedStores [.Tuple [.Name x px, .Name y py] kt pt] (.Tuple [ea, eb] k2 pt2) X.env = pure (some [x, y]))
    (hs : swapsWithSole [.Tuple [.Name x px, .Name y py] kt pt] (.Tuple [ea, eb] k2 pt2) pos.line X.env = pure false := by rfl) :
    JS X W (.Assign [.Tuple [.Name x px, .Name y py] kt pt] (.Tuple [ea, eb] k2 pt2) pos) (sP i j ms) := PS_imp (ps_par hc hN hi hj hij hx hy ha hw hs) fun σ H D ⟨ρ, env, s, sr, er, po⟩ =>
  ⟨ρ, env, s, sr, er, (PoS.st (R := VRs X.K) er po).imp fun v H1 ⟨ρ1, s1, d1, e1, sr1, r1, er1, po1⟩ => by
    split at po1
    · rename_i x y
      obtain ⟨v1, vr, rfl, r2, r3⟩ := r1.uncons
      obtain ⟨v2, rfl, r4⟩ := r3.one
      exact ⟨v1, v2, rfl, po1 ρ1 H1 _ Ext.refl sr1 ((er1.set r2).set r4)⟩
    · exact po1.elim⟩
/-- o[i] = e -/
def PrSet (X : Cx) (f : D → D → D → Sto → Option Sto) (t : TSet) : Prop :=
  ∀ (ρ : Nat → Addr) (s s' : Sto) (H : Hp) (o i x : D) (vo vi vx : V) (Q : Hp → Prop), SR X.K X.mg ρ s H → VR X.K ρ s.length H o vo → VR X.K ρ s.length H i vi → VR X.K ρ s.length H x vx → f o i x s = some s' →
    (∀ ρ' H', Ext ρ s.length H ρ' s'.length H' → SR X.K X.mg ρ' s' H' → Q H') → t vo vi vx H Q
def sX (f : D → D → D → Sto → Option Sto) (mo mi m : EM D) : SM := fun e s => (m e s).st e fun x s1 => (mo e s1).st e fun o s2 => (mi e s2).st e fun i s3 => match f o i x s3 with
  | some s4 => .nx e s4
  | none => .no
theorem js_sub {o i : Expr} {mo mi : EM D} {f : D → D → D → Sto → Option Sto} {t : TSet} {spos : Pos} (ht : PSet X t) (hp : PrSet X f t) (he : JE X W e m) (ho : JE X W o mo) (hi : JE X W i mi)
    (ha : ∀ v, assign (.Subscript o i spos) X.env v = (do
      let ov ← holding [v] (eval o X.env)
      let iv ← holding [v, ov] (eval i X.env)
      standAt spos
      holding [v, ov, iv] (setItem ov iv v)
      release [v, ov, iv] []) := by intro _; rfl)
    (hs : swapsWithSole [.Subscript o i spos] e pos.line X.env = pure false := by rfl) (hw : swappedStores [.Subscript o i spos] e X.env = pure none := by rfl)
    (h1 : (assignEach [.Subscript o i spos] X.env).map (·.2) = [assign (.Subscript o i spos) X.env] := by rfl) : JS X W (.Assign [.Subscript o i spos] e pos) (sX f mo mi m) :=
  PS_imp (ps_asg he (pg_sub ho hi ht ha) hs hw h1) fun σ H D ⟨ρ, env, s, sr, er, po⟩ => ⟨ρ, env, s, sr, er, (PoS.st (R := VR X.K) er po).imp fun v H1 ⟨ρ1, s1, d1, e1, sr1, r1, er1, po1⟩ =>
    ⟨ρ1, env, s1, sr1, er1, (PoS.st (R := VR X.K) er1 po1).imp fun v2 H2 ⟨ρ2, s2, d2, e2, sr2, r2, er2, po2⟩ =>
      ⟨ρ2, env, s2, sr2, er2, (PoS.st (R := VR X.K) er2 po2).imp fun v3 H3 ⟨ρ3, s3, d3, e3, sr3, r3, er3, po3⟩ => by
        cases hq : f d2 d3 d1 s3 with
        | none => rw [hq] at po3; exact po3.elim
        | some s4 =>
          rw [hq] at po3
          exact hp ρ3 s3 s4 H3 d2 d3 d1 v2 v3 v _ sr3 (r2.mono e3) r3 ((r1.mono e2).mono e3) hq fun ρ' H' e4 sr4 => po3 ρ' H' σ e4 sr4 (er3.mono e4)⟩⟩⟩
end
end Z

set_option Elab.async false
set_option linter.all false
set_option maxRecDepth 100000
set_option maxHeartbeats 4000000
namespace Z
open PySem PySem.Spec PyProof.Rows L2
variable [Row]

/-! ### what is walked: at turn i over the store: none: stuck; some none: the end; else the item -/
abbrev Stp := Nat → Sto → Option (Option D)
def RI (K : PySem.W.Frag) (mg : Str → Option Value) : Rl (Nat × Stp) It := fun ρ n H jt J =>
  ∀ (ρ' : Nat → Addr) (s' : Sto) (H' : Hp) (i : Nat), Ext ρ n H ρ' s'.length H' → SR K mg ρ' s' H' → match jt.2 i s' with
    | none => True
    | some none => J.stop i H'
    | some (some d) => J.go i H' ∧ ∀ x H'', J.yld i H' x H'' → Ext ρ' s'.length H' ρ' s'.length H'' ∧ SR K mg ρ' s' H'' ∧ VR K ρ' s'.length H'' d x
abbrev JI (X : Cx) (W : WX) (tg iter : Expr) (mi : EM (Nat × Stp)) : Prop := PI X tg iter (lG X.K X.mg (RI X.K X.mg) W mi)
theorem PI_imp {X : Cx} {tg e : Expr} {t t' : TI} (h : PI X tg e t) (i : ∀ σ H Q, t' σ H Q → t σ H Q) : PI X tg e t' := ⟨fun p s σ H Q I q => h.run p s σ H Q I (i σ H Q q)⟩
def jLst (n : Nat) : Stp := fun i s => match s[n]? with
  | some (.lst xs) => some xs[i]?
  | some (.frz xs) => some xs[i]?
  | _ => none
def jTup (ds : List D) : Stp := fun i _ => some ds[i]?
def jRng (lo : Int) (n : Nat) : Stp := fun i _ => some (if i < n then some (.int (lo + i)) else none)
/-- a list or a tuple -/
def iSq (m : EM D) : EM (Nat × Stp) := fun e s => (m e s).bind fun d s1 => match d with
  | .tup ds => .ok (ds.length, jTup ds) s1
  | .ref n => match s1[n]? with
    | some (.lst xs) => .ok (xs.length, jLst n) s1
    | some (.frz xs) => .ok (xs.length, jLst n) s1
    | _ => .no
  | _ => .no
section
variable {K : PySem.W.Frag} {mg : Str → Option Value} {ρ : Nat → Addr} {s : Sto} {H : Hp}
/-- a place that is a list is read -/
def lstAt (s : Sto) (n : Nat) : Option (List D) := match s[n]? with
  | some (.lst xs) => some xs
  | some (.frz xs) => some xs
  | _ => none
theorem SR.lst (sr : SR K mg ρ s H) {n : Nat} {xs : List D} (h : lstAt s n = some xs) : ∃ vs, SqL K H (ρ n) vs ∧ VRs K ρ s.length H xs vs := by
  unfold lstAt at h
  cases e : s[n]? with
  | none => rw [e] at h; cases h
  | some o =>
    rw [e] at h
    have ob := sr.ob n o e
    cases o with
    | lst ys =>
      cases h
      obtain ⟨vs, q, r⟩ := ob
      exact ⟨vs, .of q, r⟩
    | frz ys =>
      cases h
      obtain ⟨vs, q, r⟩ := ob
      exact ⟨vs, q.sq, r⟩
    | _ => cases h
omit [Row] in
theorem lstAt_lt {n : Nat} {xs : List D} (h : lstAt s n = some xs) : n < s.length := by
  unfold lstAt at h
  cases e : s[n]? with
  | none => rw [e] at h; cases h
  | some o => exact (List.getElem?_eq_some_iff.mp e).1
omit [Row] in
theorem jLst_eq (n i : Nat) (s : Sto) : jLst n i s = (lstAt s n).map fun xs => xs[i]? := by
  unfold jLst lstAt
  cases s[n]? with
  | none => rfl
  | some o => cases o <;> rfl
end
section
variable {X : Cx} {W : WX} {pos : Pos}
/-- the list walked: what is yielded is its item -/
theorem ri_lst {ρ : Nat → Addr} {n m : Nat} {H : Hp} {N : Nat} (hm : m < n) : RI X.K X.mg ρ n H (N, jLst m) (Itl X.K (ρ m)) := by
  intro ρ' s' H' i e sr
  show match jLst m i s' with
    | none => True
    | some none => _
    | some (some d) => _
  rw [jLst_eq]
  cases h : lstAt s' m with
  | none => trivial
  | some xs =>
    obtain ⟨vs, sq, r⟩ := sr.lst h
    rw [e.ag m hm] at sq
    cases hx : xs[i]? with
    | none =>
      simp only [Option.map, hx]
      exact ⟨vs, sq, by rw [r.length]; exact List.getElem?_eq_none_iff.mp hx⟩
    | some d =>
      simp only [Option.map, hx]
      obtain ⟨v, hv, rv⟩ := r.get hx
      refine ⟨⟨vs, v, sq, hv⟩, fun x H'' y => ?_⟩
      obtain ⟨rfl, y⟩ := y
      have q := y vs sq
      rw [hv] at q
      cases q
      exact ⟨Ext.refl, sr, rv⟩
theorem ri_tup {ρ : Nat → Addr} {n : Nat} {H : Hp} {N : Nat} {ds : List D} {vs : List V} {a : Addr} (sq : SqT X.K H a vs) (r : VRs X.K ρ n H ds vs) : RI X.K X.mg ρ n H (N, jTup ds) (Itt X.K a) := by
  intro ρ' s' H' i e sr
  show match some ds[i]? with
    | none => True
    | some none => _
    | some (some d) => _
  have r' := r.mono e
  have sq' := e.sqt sq
  cases hx : ds[i]? with
  | none => exact ⟨vs, sq', by rw [r'.length]; exact List.getElem?_eq_none_iff.mp hx⟩
  | some d =>
    obtain ⟨v, hv, rv⟩ := r'.get hx
    refine ⟨⟨vs, v, sq', hv⟩, fun x H'' y => ?_⟩
    obtain ⟨rfl, y⟩ := y
    have q := y vs sq'
    rw [hv] at q
    cases q
    exact ⟨Ext.refl, sr, rv⟩
theorem ri_rng {ρ : Nat → Addr} {n : Nat} {H : Hp} {N : Nat} {lo : Int} {k : Nat} : RI X.K X.mg ρ n H (N, jRng lo k) (Itr lo k) := by
  intro ρ' s' H' i e sr
  show match some (if i < k then some (D.int (lo + i)) else none) with
    | none => True
    | some none => _
    | some (some d) => _
  by_cases h : i < k
  · rw [if_pos h]
    refine ⟨h, fun x H'' y => ?_⟩
    obtain ⟨rfl, rfl⟩ := y
    exact ⟨Ext.refl, sr, rfl⟩
  · rw [if_neg h]
    exact Nat.le_of_not_lt h
variable {tg l : Expr} {m : EM D}
/-- the walk's two kinds -/
def iLsT (K : PySem.W.Frag) (tl : TE) : TI := fun σ H R => tl σ H fun x H1 => ∃ a, x = .ref a ∧ ((∃ xs, SqL K H1 a xs) ∧ R (Itl K a) H1 ∨ (∃ xs, SqT K H1 a xs) ∧ R (Itt K a) H1)
theorem pi_sq {tl : TE} (hl : PE X l tl) : PI X tg l (iLsT X.K tl) := by
  refine ⟨fun pins s σ H R I h => ?_⟩
  refine thn (hl.run pins s σ H _ I h) fun v s1 ⟨x, H1, I1, r1, q1⟩ => ?_
  obtain ⟨a, e, q⟩ := q1
  subst e
  cases r1
  rcases q with ⟨⟨xs, hq⟩, q⟩ | ⟨⟨xs, hq⟩, q⟩
  · obtain ⟨its, rv, p, hz⟩ := I1.list hq
    refine wpAny_pyIter_list p.isList ?_
    refine ⟨s1.heap.objs.size, [s1.heap.objs.size], _, _, H1, rfl, I1.kept (t' := s1.toks) fun b o e => Heap.get?_push_of_some _ e, turn_list a _, ⟨_, Heap.get?_push_size _ rfl, rfl, rfl⟩, fun b hb => ?_, q⟩
    have e : b = s1.heap.objs.size := by simpa using hb
    subst e
    exact I1.fpOk (Nat.le_refl _) (I1.hok.fresh (Nat.le_refl _))
  · obtain ⟨its, rv, p, hz⟩ := I1.tuple hq
    refine wpAny_pyIter_tuple (show s1.heap.IsTuple a its.toArray from p) ?_
    refine ⟨s1.heap.objs.size, [s1.heap.objs.size], _, _, H1, rfl, I1.kept (t' := s1.toks) fun b o e => Heap.get?_push_of_some _ e, turn_tuple a _, ⟨_, Heap.get?_push_size _ rfl, rfl, rfl⟩, fun b hb => ?_, q⟩
    have e : b = s1.heap.objs.size := by simpa using hb
    subst e
    exact I1.fpOk (Nat.le_refl _) (I1.hok.fresh (Nat.le_refl _))
theorem ji_sq (hl : JE X W l m) : JI X W tg l (iSq m) := PI_imp (pi_sq hl) fun σ H Q ⟨ρ, env, s, sr, er, po⟩ => ⟨ρ, env, s, sr, er, (Po.bind po).imp fun v H1 ⟨ρ1, s1, d1, e1, sr1, r1, po1⟩ => by
  cases d1 with
  | tup ds =>
    rw [VR] at r1
    obtain ⟨a, vs, rfl, sq, r⟩ := r1
    exact ⟨a, rfl, .inr ⟨⟨vs, sq⟩, po1 ρ1 H1 _ Ext.refl sr1 (ri_tup sq r)⟩⟩
  | ref n =>
    rw [VR] at r1
    obtain ⟨hn, rfl⟩ := r1
    have po2 : Po X.K X.mg (RI X.K X.mg) W σ ρ1 s1.length H1 (match s1[n]? with
      | some (.lst xs) => .ok (xs.length, jLst n) s1
      | some (.frz xs) => .ok (xs.length, jLst n) s1
      | _ => .no) Q := po1
    cases e : s1[n]? with
    | none => rw [e] at po2; exact po2.elim
    | some o =>
      rw [e] at po2
      cases o with
      | lst xs =>
        obtain ⟨vs, sq, _⟩ := sr1.lst (n := n) (xs := xs) (by unfold lstAt; rw [e])
        exact ⟨_, rfl, .inl ⟨⟨vs, sq⟩, po2 ρ1 H1 _ Ext.refl sr1 (ri_lst hn)⟩⟩
      | frz xs =>
        obtain ⟨vs, sq, _⟩ := sr1.lst (n := n) (xs := xs) (by unfold lstAt; rw [e])
        exact ⟨_, rfl, .inl ⟨⟨vs, sq⟩, po2 ρ1 H1 _ Ext.refl sr1 (ri_lst hn)⟩⟩
      | _ => exact po2.elim
  | _ => exact po1.elim⟩
/-- range(n), range(a, b) -/
def iR1 (ms : EM (List D)) : EM (Nat × Stp) := fun e s => (ms e s).bind fun ds s1 => match ds with
  | [.int j] => if -(2 ^ 62) ≤ j ∧ j < 2 ^ 62 then .ok (j.toNat, jRng 0 j.toNat) s1 else .no
  | _ => .no
def iR2 (ms : EM (List D)) : EM (Nat × Stp) := fun e s => (ms e s).bind fun ds s1 => match ds with
  | [.int i, .int j] => if -(2 ^ 62) ≤ i ∧ i < 2 ^ 62 ∧ -(2 ^ 62) ≤ j ∧ j < 2 ^ 62 then .ok ((j - i).toNat, jRng i (j - i).toNat) s1 else .no
  | _ => .no
variable {a b : Expr} {ms : EM (List D)} {p : Pos}
theorem ji_range1 (hg : Gl X "range") (hm : X.mg "range" = none) (ha : JA X W [a] ms) (hs : starEach [a] X.env = [(false, eval a X.env)] := by rfl) : JI X W tg (.Call (.Name "range" p) [a] [] pos) (iR1 ms) :=
  PI_imp (pi_range1 hg hm ha hs) fun σ H Q ⟨ρ, env, s, sr, er, po⟩ => ⟨ρ, env, s, sr, er, (Po.bind po).imp fun v H1 ⟨ρ1, s1, d1, e1, sr1, r1, po1⟩ => by
    dsimp only at po1
    split at po1
    · rename_i j
      obtain ⟨u, rfl, ru⟩ := r1.one
      obtain rfl : u = .int j := ru
      obtain ⟨⟨h1, h2⟩, po1⟩ := Po.ite po1
      exact ⟨j, rfl, h1, h2, po1 ρ1 H1 _ Ext.refl sr1 ri_rng⟩
    · exact po1.elim⟩
end

/-! ### for, while -/
def forL (j : Stp) (g : GN) (body : SM) : Nat → Nat → Ev → Sto → RS
  | 0, i, e, s => match j i s with
    | some none => .nx e s
    | _ => .no
  | f + 1, i, e, s => match j i s with
    | none => .no
    | some none => .nx e s
    | some (some d) => match g d e with
      | none => .no
      | some e1 => match body e1 s with
        | .nx e2 s2 => forL j g body f (i + 1) e2 s2
        | .ct e2 s2 => forL j g body f (i + 1) e2 s2
        | .bk e2 s2 => .nx e2 s2
        | r => r
def sF (mi : EM (Nat × Stp)) (g : GN) (body : SM) : SM := fun e s => (mi e s).st e fun jt s1 => forL jt.2 g body jt.1 0 e s1
def whL (t : EM Bool) (body : SM) : Nat → Ev → Sto → RS
  | 0, _, _ => .no
  | f + 1, e, s => (t e s).st e fun q s1 => if q then match body e s1 with
      | .nx e2 s2 => whL t body f e2 s2
      | .ct e2 s2 => whL t body f e2 s2
      | .bk e2 s2 => .nx e2 s2
      | r => r
    else .nx e s1
def sW (f : Nat) (t : EM Bool) (body : SM) : SM := fun e s => whL t body f e s
section
variable {X : Cx} {W : WX} {pos : Pos}
theorem js_for {tg iter : Expr} {body : List Stmt} {mi : EM (Nat × Stp)} {g : GN} {g' : TG} {is : List Nat} {mb : SM} (hp : PassesOwn (model X.prog X.w) X.A X.env X.xe) (hc : X.calm = true) (hi : JI X W tg iter mi) (hg' : PG X tg g') (gq : GQ X.K g is g') (hb : JSs X W body mb)
    (hs : ∀ x, foldedSetIterable iter X.env x = pure x := by intro _; rfl) : JS X W (.For tg iter body [] pos) (sF mi g mb) := by
  refine PS_imp (ps_for hp hc hi hg' hb hs) fun σ H D ⟨ρ, env, s, sr, er, po⟩ => ⟨ρ, env, s, sr, er, (PoS.st (R := RI X.K X.mg) er po).imp fun J H1 ⟨ρ1, s1, jt, e1, sr1, ri, er1, po1⟩ => ?_⟩
  refine ⟨fun i m σ2 H2 => ∃ ρ2 env2 s2, Ext ρ1 s1.length H1 ρ2 s2.length H2 ∧ SR X.K X.mg ρ2 s2 H2 ∧ EnvR X.K ρ2 s2.length H2 env2 σ2 ∧ PoS X.K X.mg W D ρ2 s2.length H2 (forL jt.2 g mb m i env2 s2), ⟨jt.1, ρ1, env, s1, Ext.refl, sr1, er1, po1⟩, ?_⟩
  rintro i m σ2 H2 ⟨ρ2, env2, s2, x2, sr2, er2, po2⟩
  have hj := ri ρ2 s2 H2 i x2 sr2
  cases m with
  | zero =>
    rw [forL] at po2
    cases e : jt.2 i s2 with
    | none => rw [e] at po2; exact po2.elim
    | some o =>
      rw [e] at po2 hj
      cases o with
      | none => exact .inl ⟨hj, po2 ρ2 H2 σ2 Ext.refl sr2 er2⟩
      | some d => exact po2.elim
  | succ f =>
    rw [forL] at po2
    cases e : jt.2 i s2 with
    | none => rw [e] at po2; exact po2.elim
    | some o =>
      rw [e] at po2 hj
      cases o with
      | none => exact .inl ⟨hj, po2 ρ2 H2 σ2 Ext.refl sr2 er2⟩
      | some d =>
        dsimp only at po2 hj
        obtain ⟨go, yl⟩ := hj
        refine .inr ⟨go, _, fun σ' H' w => ⟨f, Nat.lt_succ_self f, w⟩, fun x H' y => ?_⟩
        obtain ⟨x3, sr3, r3⟩ := yl x H' y
        cases hgd : g d env2 with
        | none => rw [hgd] at po2; exact po2.elim
        | some e4 =>
          rw [hgd] at po2
          dsimp only at po2
          refine gq ρ2 s2 H' σ2 env2 e4 d x _ (er2.mono x3) r3 hgd fun σ4 er4 _ => ⟨ρ2, e4, s2, sr3, er4, ?_⟩
          have po3 := po2.rebase x3
          have x5 := x2.trans x3
          cases hb2 : mb e4 s2 with
          | nx e6 s6 =>
            rw [hb2] at po3
            intro ρ6 H6 σ6 x6 sr6 er6
            exact ⟨ρ6, e6, s6, x5.trans x6, sr6, er6, po3.rebase x6⟩
          | ct e6 s6 =>
            rw [hb2] at po3
            intro ρ6 H6 σ6 x6 sr6 er6
            exact ⟨ρ6, e6, s6, x5.trans x6, sr6, er6, po3.rebase x6⟩
          | bk e6 s6 =>
            rw [hb2] at po3
            exact po3
          | rt d6 s6 =>
            rw [hb2] at po3
            exact po3
          | ex c f d6 e6 s6 =>
            rw [hb2] at po3
            exact po3
          | no =>
            rw [hb2] at po3
            exact po3
theorem js_while (N : Nat) {c : Expr} {body : List Stmt} {t : EM Bool} {mb : SM} (hp : PassesOwn (model X.prog X.w) X.A X.env X.xe) (hc : JT X W c t) (hb : JSs X W body mb) : JS X W (.While c body [] pos) (sW N t mb) := by
  refine PS_imp (ps_while hp hc hb) fun σ H D ⟨ρ, env, s, sr, er, po⟩ => ?_
  refine ⟨fun m σ2 H2 => ∃ ρ2 env2 s2, SR X.K X.mg ρ2 s2 H2 ∧ EnvR X.K ρ2 s2.length H2 env2 σ2 ∧ PoS X.K X.mg W D ρ2 s2.length H2 (whL t mb m env2 s2), ⟨N, ρ, env, s, sr, er, po⟩, ?_⟩
  rintro m σ2 H2 ⟨ρ2, env2, s2, sr2, er2, po2⟩
  cases m with
  | zero => exact po2.elim
  | succ f =>
    rw [whL] at po2
    refine ⟨ρ2, env2, s2, sr2, er2, (PoS.st (R := RB) er2 po2).imp fun q H3 ⟨ρ3, s3, q3, x3, sr3, r3, er3, po3⟩ => ?_⟩
    have e : q3 = q := r3
    subst e
    cases q3 with
    | false => exact po3 ρ3 H3 σ2 Ext.refl sr3 er3
    | true =>
      rw [if_pos rfl] at po3 ⊢
      refine ⟨_, fun σ' H' w => ⟨f, Nat.lt_succ_self f, w⟩, ρ3, env2, s3, sr3, er3, ?_⟩
      cases hb2 : mb env2 s3 with
      | nx e6 s6 =>
        rw [hb2] at po3
        intro ρ6 H6 σ6 x6 sr6 er6
        exact ⟨ρ6, e6, s6, sr6, er6, po3.rebase x6⟩
      | ct e6 s6 =>
        rw [hb2] at po3
        intro ρ6 H6 σ6 x6 sr6 er6
        exact ⟨ρ6, e6, s6, sr6, er6, po3.rebase x6⟩
      | bk e6 s6 =>
        rw [hb2] at po3
        exact po3
      | rt d6 s6 =>
        rw [hb2] at po3
        exact po3
      | ex c f d6 e6 s6 =>
        rw [hb2] at po3
        exact po3
      | no =>
        rw [hb2] at po3
        exact po3
end

/-! ### list comprehensions -/
def Rs.nox {α : Type} (r : Rs α) : Rs α := match r with
  | .ok a s => .ok a s
  | _ => .no
def wipeD (e : Ev) : List Nat → Ev
  | [] => e
  | v :: vs => (wipeD e vs).set v none
def lcL (j : Stp) (g : GN) (t : EM Bool) (m : EM D) (l : Nat) : Nat → Nat → Ev → Sto → Rs D
  | 0, i, e, s => match j i s with
    | some none => .ok (.ref l) s
    | _ => .no
  | f + 1, i, e, s => match j i s with
    | none => .no
    | some none => .ok (.ref l) s
    | some (some d) => match g d e with
      | none => .no
      | some e1 => (t e1 s).nox.bind fun q s1 => if q then (m e1 s1).nox.bind fun y s2 => match s2[l]? with
          | some (.lst acc) => if acc.length < sizeLine then lcL j g t m l f (i + 1) e (s2.set l (.lst (acc ++ [y]))) else .no
          | _ => .no
        else lcL j g t m l f (i + 1) e s1
def mL (mi : EM (Nat × Stp)) (g : GN) (t : EM Bool) (m : EM D) (vs : List Nat) : EM D := fun e s => (mi e s).bind fun jt s1 => lcL jt.2 g t m s1.length jt.1 0 (wipeD e vs) (s1 ++ [.lst []])
def tY : EM Bool := fun _ s => .ok true s
abbrev WF : WX := fun _ _ _ _ => False
section
variable {K : PySem.W.Frag} {mg : Str → Option Value} {ρ : Nat → Addr} {n : Nat} {H : Hp}
theorem EnvR.wipe {env : Ev} {σ : L2.St} (h : EnvR K ρ n H env σ) : ∀ vs, EnvR K ρ n H (wipeD env vs) (L2.wipe σ vs)
  | [] => h
  | v :: vs => EnvR.del (EnvR.wipe h vs)
theorem Po.nox {α β : Type} {R : Rl α β} {W W' : WX} {σ σ' : L2.St} {r : Rs α} {Q : β → Hp → Prop} (h : Po K mg R W σ ρ n H r.nox Q) : Po K mg R W' σ' ρ n H r Q := by
  cases r with
  | ok a s => exact h
  | _ => exact h.elim
theorem Po.bindx {α β γ δ : Type} {R : Rl α β} {R' : Rl γ δ} {W W' : WX} {σ σ' : L2.St} {r : Rs α} {k : α → Sto → Rs γ} {Q : δ → Hp → Prop} (h : Po K mg R' W σ ρ n H (r.nox.bind k) Q) :
    Po K mg R W' σ' ρ n H r (fun v H1 => Mid K mg R ρ n H v H1 fun ρ1 s1 d => Po K mg R' W σ ρ1 s1.length H1 (k d s1) Q) := Po.nox (W := W) (σ := σ) (Po.bind h)
end
section
variable {X : Cx} {W : WX} {pos : Pos} {elt tg iter : Expr} {ifs : List Expr} {scope : Scope} {own : List (Str × Nat)} {mi : EM (Nat × Stp)} {g : GN} {is : List Nat} {t : EM Bool} {m : EM D}
theorem llc {K : PySem.W.Frag} {mg : Str → Option Value} {vs : List Nat} {g' : TG} {tt : TT} {te : TE} (his : ∀ i ∈ is, i ∈ vs)
    (gq : GQ K g is g')
    (ht : ∀ σ H Q, lT K mg WF t σ H Q → tt σ H Q) (he : ∀ σ H Q, lE K mg WF m σ H Q → te σ H Q) {σ : L2.St} {H : Hp} {Q : VK} (h : lE K mg W (mL mi g t m vs) σ H Q) : tLc (lG K mg (RI K mg) W mi) g' tt te vs σ H Q := by
  obtain ⟨ρ, env, s, sr, er, po⟩ := h
  refine ⟨ρ, env, s, sr, er, (Po.bind po).imp fun J H1 ⟨ρ1, s1, jt, e1, sr1, ri, po1⟩ => fun Dl hDl => ?_⟩
  obtain ⟨x2, sr2, r2⟩ := new_lst sr1 hDl (VRs.nil (K := K) (ρ := ρ1) (n := s1.length) (H := H1))
  refine ⟨fun i m2 H2 => ∃ ρ2 s2, Ext (ρup ρ1 s1.length Dl) (s1 ++ [SO.lst []]).length (upd H1 Dl (.lst [])) ρ2 s2.length H2 ∧ SR K mg ρ2 s2 H2 ∧ Po K mg (VR K) W σ ρ2 s2.length H2 (lcL jt.2 g t m s1.length m2 i (wipeD env vs) s2) Q, ⟨jt.1, ρup ρ1 s1.length Dl, _, Ext.refl, sr2, po1.rebase x2⟩, ?_⟩
  rintro i m2 H2 ⟨ρ2, s2, x3, sr3, po2⟩
  have x23 := x2.trans x3
  have hj := ri ρ2 s2 H2 i x23 sr3
  have lt1 : s1.length < (s1 ++ [SO.lst []]).length := by simp
  have rD : VR K ρ2 s2.length H2 (.ref s1.length) (.ref Dl) := r2.mono x3
  have eD : ρ2 s1.length = Dl := by
    rw [x3.ag _ lt1, ρup_same]
  cases m2 with
  | zero =>
    rw [lcL] at po2
    cases e : jt.2 i s2 with
    | none => rw [e] at po2; exact po2.elim
    | some o =>
      rw [e] at po2 hj
      cases o with
      | none => exact .inl ⟨hj, po2 ρ2 H2 _ Ext.refl sr3 rD⟩
      | some d => exact po2.elim
  | succ f =>
    rw [lcL] at po2
    cases e : jt.2 i s2 with
    | none => rw [e] at po2; exact po2.elim
    | some o =>
      rw [e] at po2 hj
      cases o with
      | none => exact .inl ⟨hj, po2 ρ2 H2 _ Ext.refl sr3 rD⟩
      | some d =>
        dsimp only at po2 hj
        obtain ⟨go, yl⟩ := hj
        refine .inr ⟨go, _, fun H' w => ⟨f, Nat.lt_succ_self f, w⟩, fun x H' y => ?_⟩
        obtain ⟨x4, sr4, r4⟩ := yl x H' y
        cases hgd : g d (wipeD env vs) with
        | none => rw [hgd] at po2; exact po2.elim
        | some e4 =>
          rw [hgd] at po2
          dsimp only at po2
          have erw : EnvR K ρ2 s2.length H' (wipeD env vs) (wipe σ vs) := ((er.mono e1).mono (x23.trans x4)).wipe vs
          refine gq ρ2 s2 H' _ _ e4 d x _ erw r4 hgd fun σ4 er4 hw => ⟨?_, ?_⟩
          · rw [hw vs his]
            have ww : ∀ us : List Nat, (∀ u ∈ us, u ∈ vs) → wipe (wipe σ vs) us = wipe σ vs := by
              intro us
              induction us with
              | nil => intro _; rfl
              | cons u us ih =>
                intro hu
                show (wipe (wipe σ vs) us).set u none = wipe σ vs
                rw [ih fun z hz => hu z (List.mem_cons_of_mem _ hz)]
                have key : ∀ ws : List Nat, u ∈ ws → (wipe σ ws).set u none = wipe σ ws := by
                  intro ws
                  induction ws with
                  | nil => intro h; simp at h
                  | cons w ws ihw =>
                    intro h
                    show ((wipe σ ws).set w none).set u none = (wipe σ ws).set w none
                    by_cases q : u = w
                    · subst q
                      rw [List.set_set]
                    · rw [List.set_comm _ _ (Ne.symm q), ihw ((List.mem_cons.mp h).resolve_left q)]
                exact key vs (hu u List.mem_cons_self)
            exact ww vs fun _ h => h
          · refine ht _ _ _ ⟨ρ2, e4, s2, sr4, er4, (Po.bindx (po2.rebase x4)).imp fun q H5 ⟨ρ5, s5, q5, x5, sr5, r5, po5⟩ => ?_⟩
            have eq : q5 = q := r5
            subst eq
            have x35 := (x3.trans x4).trans x5
            cases q5 with
            | false => exact ⟨ρ5, s5, x35, sr5, po5⟩
            | true =>
              rw [if_pos rfl] at po5 ⊢
              refine he _ _ _ ⟨ρ5, e4, s5, sr5, er4.mono x5, (Po.bindx po5).imp fun y6 H6 ⟨ρ6, s6, d6, x6, sr6, r6, po6⟩ => ?_⟩
              have x36 := x35.trans x6
              have eD6 : ρ6 s1.length = Dl := by
                rw [x36.ag _ lt1, ρup_same]
              dsimp only at po6
              cases el : s6[s1.length]? with
              | none => rw [el] at po6; exact po6.elim
              | some o =>
                rw [el] at po6
                cases o with
                | lst acc =>
                  obtain ⟨hl, po7⟩ := Po.ite po6
                  obtain ⟨av, hav, rav⟩ := sr6.ob _ _ el
                  rw [eD6] at hav
                  have ob' := sr6.ob _ _ el
                  have xw : Ext ρ6 s6.length H6 ρ6 s6.length (upd H6 (ρ6 s1.length) (.lst (av ++ [y6]))) := Ext.write (u := .lst (av ++ [y6])) ob' rfl
                  refine ⟨av, hav, by rw [rav.length]; exact hl, ρ6, s6.set s1.length (.lst (acc ++ [d6])), ?_, ?_, ?_⟩
                  · rw [List.length_set]
                    have x7 := x36.trans xw
                    rw [eD6] at x7
                    exact x7
                  · rw [← eD6]
                    exact sr6.write el rfl rfl ⟨av ++ [y6], upd_same, (rav.append (VRs.cons r6 VRs.nil)).mono xw⟩
                  · rw [List.length_set, ← eD6]
                    exact po7.rebase xw
                | _ => exact po6.elim
theorem je_lc {g' : TG} (hc : X.calm = true) (hN : X.N.Nodup) (hi : JI X W tg iter mi) (ok : BlkOk X.N X.env.scope scope own) (his : ∀ i ∈ is, i ∈ own.map (·.2))
    (hg' : ∀ (s : Shared) (H : Hp) (C : Addr) (cl : List (Str × Addr)) (fp : List Addr), PG (X.blk s H scope (compEnvC scope cl C X.env) fp) tg g') (gq : GQ X.K g is g')
    (ht : ∀ (s : Shared) (H : Hp) (C : Addr) (cl : List (Str × Addr)) (fp : List Addr), PTs (X.blk s H scope (compEnvC scope cl C X.env) fp) ifs (lT X.K X.mg WF t))
    (he : ∀ (s : Shared) (H : Hp) (C : Addr) (cl : List (Str × Addr)) (fp : List Addr), JE (X.blk s H scope (compEnvC scope cl C X.env) fp) WF elt m) (hs : ∀ x, foldedSetIterable iter X.env x = pure x := by intro _; rfl) :
    JE X W (.ListComp elt [⟨tg, iter, ifs, 0⟩] scope pos) (mL mi g t m (own.map (·.2))) := by
  exact PE_imp (pe_lc hc hN hi ok hg' ht he hs) fun σ H Q h => llc his gq (fun _ _ _ z => z) (fun _ _ _ z => z) h
end
end Z

set_option Elab.async false
set_option linter.all false
set_option maxRecDepth 100000
set_option maxHeartbeats 4000000
namespace Z
open PySem PySem.Spec PyProof.Rows L2
variable [Row]

/-! ### functions -/
/-- room for a call; no collection is being shown -/
structure Rm (k : Nat) (A : Around) : Prop where
  room : Room k A
  gd : A.guards = some []
theorem Rm.mono {j k : Nat} {A : Around} (r : Rm k A) (h : j ≤ k) : Rm j A := ⟨r.room.mono h, r.gd⟩
theorem Rm.deeper {k : Nat} {A : Around} (r : Rm (k + 1) A) (env : Env) : Rm k (A.deeper env) := ⟨r.room.deeper env, r.gd⟩
theorem Rm.units {k : Nat} {A : Around} (r : Rm k A) : A.units + 100 < cLine := by have := r.room.un; omega
/-- what is called at f keeps the promise sp, for positional values and keywords named ks -/
def FnG (P : Program) (w : World) (K : PySem.W.Frag) (mg : Str → Option Value) (base : Heap) (k : Nat) (f : Addr) (n : Option Nat) (ks : List Str) (sp : Sp) : Prop :=
  ∀ (A : Around) (outer : List Env) (st : Shared) (H : Hp) (us ws : List Value) (vs zs : List V) (Q : VK) (E : XK), Rm k A → Env0 P w K mg base A outer st H → Vals vs us → Vals zs ws → (∀ m, n = some m → us.length = m) → ws.length = ks.length → sp (vs ++ zs) H Q E →
    codeAny (model P w) A (.call (.ref f) ⟨us, ks.zip ws⟩) (CR (L2.CX P w) outer P w H st Q E) st
/-- the promise: what F says -/
def spF (K : PySem.W.Frag) (mg : Str → Option Value) (F : List D → Sto → Rs D) : Sp := fun vs H Q E => ∃ ρ s ds, SR K mg ρ s H ∧ VRs K ρ s.length H ds vs ∧ Po K mg (VR K) (fun c d _ H => E c d H) [] ρ s.length H (F ds s) Q
/-- positional calls; calls of n positional values and keywords ks -/
abbrev FS (P : Program) (w : World) (K : PySem.W.Frag) (mg : Str → Option Value) (base : Heap) (k : Nat) (f : Addr) (F : List D → Sto → Rs D) : Prop := FnG P w K mg base k f none [] (spF K mg F)
abbrev FSk (P : Program) (w : World) (K : PySem.W.Frag) (mg : Str → Option Value) (base : Heap) (k : Nat) (f : Addr) (n : Nat) (ks : List Str) (F : List D → Sto → Rs D) : Prop := FnG P w K mg base k f (some n) ks (spF K mg F)
theorem FnG.mono {P : Program} {w : World} {K : PySem.W.Frag} {mg : Str → Option Value} {base : Heap} {j k : Nat} {f : Addr} {n : Option Nat} {ks : List Str} {sp : Sp} (F : FnG P w K mg base j f n ks sp) (h : j ≤ k) : FnG P w K mg base k f n ks sp :=
  fun A outer st H us ws vs zs Q E hr => F A outer st H us ws vs zs Q E (hr.mono h)
def RS.fin (r : RS) : Rs D := match r with
  | .nx _ s' => .ok .non s'
  | .rt d s' => .ok d s'
  | .ex c f d _ s' => .ex c f d s'
  | _ => .no
def fnM (ps n : Nat) (m : SM) : List D → Sto → Rs D := fun ds s => if ds.length = ps then (m (ds.map some ++ List.replicate (n - ds.length) none) s).fin else .no
section
variable {P : Program} {w : World} {K : PySem.W.Frag} {mg : Str → Option Value} {base : Heap} {k : Nat} {f : Addr} {fd : FuncData} {x qual : Str} {params : Arguments} {body : List Stmt} {scope : Scope} {dvs : List V} {kws : List (Str × V)} {N ps : List Str} {m : SM}
theorem envR_start {ρ : Nat → Addr} {n : Nat} {H : Hp} {N : List Str} {ds : List D} {vs : List V} (r : VRs K ρ n H ds vs) : EnvR K ρ n H (ds.map some ++ List.replicate (N.length - ds.length) none) (L2.start N vs) := by
  unfold L2.start
  have hl := r.length
  refine ⟨by simp [hl], fun i d h => ?_⟩
  by_cases hi : i < ds.length
  · rw [List.getElem?_append_left (by simpa using hi), List.getElem?_map] at h
    cases e : ds[i]? with
    | none => rw [e] at h; cases h
    | some d' =>
      rw [e] at h
      cases h
      obtain ⟨v, hv, rv⟩ := r.get e
      refine ⟨v, ?_, rv⟩
      rw [List.getElem?_append_left (by simp [hl]; exact hi), List.getElem?_map, hv]
      rfl
  · rw [List.getElem?_append_right (by simpa using hi), List.getElem?_replicate] at h
    split at h <;> cases h
theorem PoS.fin {ρ : Nat → Addr} {n : Nat} {H : Hp} {σ : L2.St} {r : RS} {Q : VK} {E : XK} (h : Po K mg (VR K) (fun c d _ H => E c d H) σ ρ n H r.fin Q) : PoS K mg (fun c d _ H => E c d H) { nx := fun _ H' => Q .non H', rt := Q } ρ n H r := by
  cases r with
  | nx e s => exact fun ρ' H' σ' x sr er => h ρ' H' .non x sr rfl
  | rt d s => exact h
  | ex c f d e s => exact fun ρ' H' σ' C dx v x sr er => h ρ' H' C dx v x sr
  | _ => exact h.elim
/-- a def's code object -/
def codeV (K : PySem.W.Frag) (f : Addr) : Value := match K.lookup f with
  | some ⟨_, _, .func fd, _⟩ => fd.code
  | _ => .none
/-- a body does m -/
abbrev Body (P : Program) (w : World) (K : PySem.W.Frag) (mg : Str → Option Value) (base : Heap) (k : Nat) (N : List Str) (qual : Str) (scope : Scope) (f : Addr) (body : List Stmt) (m : SM) : Prop :=
  ∀ (cdv : Value) (A : Around) (outer : List Env) (s : Shared) (H : Hp) (E : XK), cdv = codeV K f → Rm k (A.deeper (envOfC qual scope s.heap.objs.size f cdv)) → JSs (cxOf (L2.CX P w) P w K mg base N qual scope f cdv A outer s H E) (fun c d _ H => E c d H) body m
/-- how the values come to the parameters: positional us, keywords' ws give g us ws -/
structure Bnd (K : PySem.W.Frag) (fd : FuncData) (ps : List Str) (n : Nat) (ks : List Str) (g : List Value → List Value → List Value) (gV : List V → List V → List V) (gD : List D → List D → List D) : Prop where
  to : ∀ (st : Shared) (us ws : List Value), K.In st.heap → us.length = n → ws.length = ks.length → BindsTo st fd ⟨us, ks.zip ws⟩ (ps.zip (g us ws))
  rel : ∀ {vs : List V} {us : List Value} {zs : List V} {ws : List Value}, Vals vs us → Vals zs ws → Vals (gV vs zs) (g us ws)
  len : ∀ us ws : List Value, us.length = n → ws.length = ks.length → (g us ws).length = ps.length
  dat : ∀ {ρ : Nat → Addr} {m : Nat} {H : Hp} {ds es : List D} {vs zs : List V}, VRs K ρ m H ds vs → VRs K ρ m H es zs → VRs K ρ m H (gD ds es) (gV vs zs)
/-- the function of a call by g -/
def callF (n : Nat) (gD : List D → List D → List D) (F : List D → Sto → Rs D) : List D → Sto → Rs D := fun ds s => F (gD (ds.take n) (ds.drop n)) s
/-- THE RULE: a def whose body does m, however it is called -/
theorem fs_ok {n : Nat} {ks : List Str} {g : List Value → List Value → List Value} {gV : List V → List V → List V} {gD : List D → List D → List D} (F : FunD K x qual params body scope dvs kws f fd) (S : FnScope N ps scope) (hb : Body P w K mg base k N qual scope f body m)
    (B : Bnd K fd ps n ks g gV gD) : FSk P w K mg base (k + 1) f n ks (callF n gD (fnM ps.length N.length m)) := by
  obtain ⟨oc, od, dV, kV, doc, pm, an, cdv, ct, osl, rfl, lk, hcd, _, _⟩ := F.ex
  intro A outer st H us ws vs zs Q E hr e0 rv rz hn hks ⟨ρ, s, ds, sr, rd, po⟩
  have hn := hn n rfl
  have r1 : VRs K ρ s.length H (ds.take n) vs := by
    have := rd.take n
    rwa [List.take_left' (by rw [rv.length]; exact hn)] at this
  have r2 : VRs K ρ s.length H (ds.drop n) zs := by
    have := rd.drop n
    rwa [List.drop_left' (by rw [rv.length]; exact hn)] at this
  have rr := B.rel rv rz
  have rD := B.dat r1 r2
  have inK : K.In st.heap := e0.mod.kin.keeps fun b o e => (e0.bs b o e).1
  have noL : st.heap.NoLimit := e0.mod.nolimit.keeps fun b o e => (e0.bs b o e).1
  have kinds : ∀ y ∈ ps.zip (g us ws), scope.names.lookup y.1 = some .local ∨ (scope.names.lookup y.1 = some .cell ∧ ((cellsFrom (st.heap.objs.size + 1) scope.names []).lookup y.1).isSome = true) := by
    rintro ⟨z, u⟩ hz
    rcases S.par z (List.of_mem_zip hz).1 with q | q
    · exact .inl q
    · exact .inr ⟨q, PySem.W.cellsFrom_some _ _ _ (.inl q)⟩
  refine codeAny_call_function hr.room.depth (inK _ _ lk) rfl S.co S.gen rfl (PySem.W.codeRec_of inK hcd) (B.to st us ws inK hn hks _ _ _ _ ?_)
  refine wpAny_newFunctionEnv_cells S.kind kinds fun env he st1 xx => ?_
  subst he
  refine ⟨noL.keeps xx.toInCall.keep, codeAny_func ?_⟩
  have I := inv_start (CX := L2.CX P w) (E := E) S hr.room.hd e0 (by rw [rr.length]; exact B.len us ws hn hks) rr xx
  refine wpAny_mono ((hb cdv A outer st H E (by unfold codeV; rw [lk]) (hr.deeper _)).run [] st1 _ H { nx := fun _ H' => Q .non H', rt := Q } I ⟨ρ, _, s, sr, envR_start rD, PoS.fin (σ := []) (Po.ite po).2⟩) (fun fl st2 hs => ?_) fun e st2 hs => hs
  cases fl with
  | ret u =>
    obtain ⟨v, σ', H', J, rv', q⟩ := hs
    exact ⟨v, H', J.os, J.bare, J.base, J.hok, rv', q⟩
  | next =>
    obtain ⟨σ', H', J, q⟩ := hs
    exact ⟨V.non, H', J.os, J.bare, J.base, J.hok, rfl, q⟩
  | brk =>
    obtain ⟨_, _, _, q⟩ := hs
    exact False.elim q
  | cont =>
    obtain ⟨_, _, _, q⟩ := hs
    exact False.elim q
/-- a plain def, called by position -/
theorem fs_pos (F : FunD K x qual params body scope [] [] f fd) (S : FnScope N ps scope) (hb : Body P w K mg base k N qual scope f body m)
    (h : ∀ (kV doc pm : Value) (an : Option Addr) (cdv ct : Value) (us : List Value), us.length = ps.length → bindArgs (PySem.W.fnOf x qual params body scope .none kV doc pm an cdv ct) ⟨us, []⟩ = pure (ps.zip us)) :
    FS P w K mg base (k + 1) f (fnM ps.length N.length m) := by
  have B : Bnd K fd ps ps.length [] (fun us _ => us) (fun vs _ => vs) (fun ds _ => ds) := by
    refine ⟨fun st us ws _ h1 h2 => ?_, fun h _ => h, fun _ _ h _ => h, fun h _ => h⟩
    obtain ⟨oc, od, dV, kV, doc, pm, an, cdv, ct, osl, rfl, lk, hcd, hD, hK⟩ := F.ex
    rcases hD with ⟨_, rfl⟩ | ⟨e, _⟩
    · exact .of_eq (h kV doc pm an cdv ct us h1)
    · exact absurd rfl e
  intro A outer st H us ws vs zs Q E hr e0 rv rz _ hks ⟨ρ, s, ds, sr, rd, po⟩
  have hz : zs = [] := by
    have e1 := rz.length
    rw [hks] at e1
    exact List.eq_nil_of_length_eq_zero e1
  subst hz
  rw [List.append_nil] at rd
  have hl := (Po.ite (c := ds.length = ps.length) po).1
  refine fs_ok F S hb B A outer st H us ws vs [] Q E hr e0 rv rz (fun m hm => ?_) hks ⟨ρ, s, ds, sr, by rw [List.append_nil]; exact rd, ?_⟩
  · cases hm
    rw [← rv.length, rd.length]
    exact hl
  · unfold callF
    have e : ds.take ps.length = ds := by rw [← hl, List.take_length]
    rw [e]
    exact po
theorem Po.congr {α β : Type} {R : Rl α β} {W W' : WX} {σ σ' : L2.St} {ρ : Nat → Addr} {n : Nat} {H : Hp} {r : Rs α} {Q : β → Hp → Prop} (h : Po K mg R W σ ρ n H r Q) (i : ∀ c d H, W c d σ H → W' c d σ' H) : Po K mg R W' σ' ρ n H r Q := by
  cases r with
  | ok a s => exact h
  | ex c f d s => exact fun ρ' H' C dx v e sr hm r hx => i _ _ _ (h ρ' H' C dx v e sr hm r hx)
  | no => exact h
end
section
variable {X : Cx} {W : WX} {k : Nat} {f : Addr} {F : List D → Sto → Rs D} {x : Str} {p pos apos : Pos} {e o : Expr} {es : List Expr} {ms mk : EM (List D)} {sp : Sp} {E : L2.St → XK} {n : Option Nat} {ks : List Str} {kws : List Keyword}
theorem run_at {pins : List (Addr × Obj)} {σ : L2.St} {H : Hp} {s : Shared} {Q : VK} {us ws : List Value} {vs zs : List V} (F : FnG X.prog X.w X.K X.mg X.base k f n ks sp) (hr : Rm k X.A) (hx : PassesAt (L2.CX X.prog X.w) X σ (E σ))
    (I : Inv X pins σ H s) (r : Vals vs us) (rz : Vals zs ws) (hn : ∀ m, n = some m → us.length = m) (hks : ws.length = ks.length) (h : sp (vs ++ zs) H Q (E σ)) : wpAny (model X.prog X.w) X.A (call (.ref f) us (ks.zip ws)) (EP X pins σ Q) X.xe s := by
  refine wpAny_call (codeAny_mono (F X.A X.stack s H us ws vs zs Q (E σ) hr I.env0 r rz hn hks h) fun r s' hq => ?_)
  cases r with
  | error e => exact hx pins H s e s' I hq
  | ok fl =>
    cases fl with
    | ret u => exact I.after hq
    | next => exact False.elim hq
    | brk => exact False.elim hq
    | cont => exact False.elim hq
/-- f(e, ..) -/
theorem je_call (F' : FS X.prog X.w X.K X.mg X.base k f F) (hr : Rm k X.A) (tk : Takes X W) (hg : Gl X x) (hm : X.mg x = some (.ref f)) (hk : PySem.W.keepIn X.K (.ref f) = true)
    (ha : JA X W (e :: es) ms) (hdb : (x == ("__debug__" : Str)) = false := by decide) (he : starEach (e :: es) X.env = (false, eval e X.env) :: starEach es X.env := by rfl) (hpl : (backTo pos (starEach es X.env)).any (·.1) = false := by rfl) :
    JE X W (.Call (.Name x p) (e :: es) [] pos) (mN F ms) := by
  refine ⟨fun pins s σ H Q I ⟨ρ, env, st, sr, er, po⟩ => ?_⟩
  refine wpAny_Call_Name_kw (ld_glob I hg hm ?_ hdb)
  refine PySem.W.callWith_K (h₀ := X.base) I.ok.mod.kin hk (thn (ha.run pos pins s σ H _ I ⟨ρ, env, st, sr, er, Po.bind po⟩) fun us s1 ⟨vs, H1, I1, r, ρ1, s2, ds, e1, sr1, r1, po1⟩ => ⟨I1.kIn, ?_⟩) he hpl
  exact run_at (E := WE W) (ws := []) (zs := []) F' hr (passAt tk σ) I1 r .nil (fun _ h => nomatch h) rfl ⟨ρ1, s2, ds, sr1, by rw [List.append_nil]; exact r1, po1.congr fun _ _ _ z => z⟩
/-! ### keywords: F takes the positional values, then the keywords' -/
abbrev JK (X : Cx) (W : WX) (kws : List Keyword) (m : EM (List D)) : Prop := PK X kws (lA X.K X.mg W m)
/-- positional values, then keywords' -/
def mNk (n m : Nat) (F : List D → Sto → Rs D) (ms mk : EM (List D)) : EM D := fun e s => (ms e s).bind fun xs s1 => (mk e s1).bind fun ys s2 => if xs.length = n ∧ ys.length = m then F (xs ++ ys) s2 else .no
end
/-! ### the law's own call -/
section
variable {P : Program} {w : World} {K : PySem.W.Frag} {mg mb : Str → Option Value} {k : Nat} {fa a : Addr} {s₁ : Shared} {vs : List Value} {ns : List Int} {F : List D → Sto → Rs D}
theorem rm_caller {k : Nat} (h : Room k callerA) : Rm k callerA := ⟨h, rfl⟩
/-- the law, over the heap behind the top -/
theorem law_run (KX : K.In s₁.heap) (hns : s₁.heap.Ns mainGlobals mg) (hb : s₁.heap.Ns builtinsNs mb) (hbb : ∀ y : Str, y ≠ "__name__" → mb y = bootBuiltins y) (hlim : s₁.heap.NoLimit) (hg : s₁.gens = #[])
    (ha : s₁.heap.get? a = some { cls := .type "list", data := .seq vs.toArray }) (hi : IntsAre vs ns) (hl : ns.length ≤ sizeLine) (hr : Room k callerA)
    (hT : Row.tabs = []) (hF : ∀ base : Heap, K.In base → base.Ns mainGlobals mg → FS P w K mg base k fa F) (hQ : ∃ s', F [.ref 0] [.frz (ns.map D.int)] = .ok (.bl true) s') :
    codeAny (model P w) callerA (.call (.ref fa) ⟨[.ref a], []⟩) (fun r s' => r = .ok (.ret (.bool true)) ∧ OldK s₁.heap s'.heap ∧ s'.os = s₁.os ∧ AllBare s'.gens) s₁ := by
  obtain ⟨se, hse⟩ := hQ
  have vI := vals_ints hi
  have eL := hi.length
  have vD : ∀ {ρ : Nat → Addr} {n : Nat} {H : Hp} (ms : List Int), VRs K ρ n H (ms.map D.int) (ms.map V.int) := by
    intro ρ n H ms
    induction ms with
    | nil => exact VRs.nil
    | cons m ms ih => exact VRs.cons rfl ih
  have core : ∀ H : Hp, Only H → SqF K H a (ns.map V.int) → HOk P w H s₁.heap → (∀ b, H b ≠ none → b = a) → (H a ≠ none → K.lookup a = none) →
      codeAny (model P w) callerA (.call (.ref fa) ⟨[.ref a], []⟩) (fun r s' => r = .ok (.ret (.bool true)) ∧ OldK s₁.heap s'.heap ∧ s'.os = s₁.os ∧ AllBare s'.gens) s₁ := by
    intro H hO hS hok hA hK
    have only : ∀ {b : Addr} {u : HO}, H b = some u → b = a := fun {b u} q => hA b (by rw [q]; exact nofun)
    have nd : ∀ {b : Addr} {o : Obj} {es : Array DictEntry} {ep : Nat}, s₁.heap.get? b = some o → o.data = .dict es ep → H b = none := fun {b o es ep} e d => by
      cases q : H b with
      | none => rfl
      | some u =>
        have eb := only q
        subst eb
        rw [ha] at e
        cases e
        cases d
    have nsH : ∀ {b : Addr} {m : Str → Option Value}, s₁.heap.Ns b m → (hidT s₁.heap H).Ns b m := fun {b m} ⟨o, es, ep, e, d, r⟩ => ⟨o, es, ep, hidT_get e (nd e d), d, r⟩
    have kH : K.In (hidT s₁.heap H) := fun b o e => hidT_get (KX b o e) (by
      cases q : H b with
      | none => rfl
      | some u =>
        have eb := only q
        subst eb
        rw [hK (by rw [q]; exact nofun)] at e
        cases e)
    have e0 : Env0 P w K mg (hidT s₁.heap H) callerA [] s₁ H := ⟨rfl, ⟨kH, nsH hns, ⟨mb, nsH hb, hbb⟩, let ⟨mc, h1, h2⟩ := hlim; ⟨mc, nsH h1, h2⟩⟩, fun b o e => of_hidT e, Nat.le_of_eq (hidT_size _ _), trivial, fun b hb => absurd hb (by simp [frs]), hok, .of_eq hg⟩
    have sr : SR K mg (fun _ => a) [SO.frz (ns.map D.int)] H := by
      refine ⟨fun i j oi oj e1 e2 _ _ _ => ?_, fun i o e => ?_, by rw [hT]; exact fun p hp => absurd hp (by simp), by rw [hT]; exact fun p hp => absurd hp (by simp)⟩
      · have h1 := (List.getElem?_eq_some_iff.mp e1).1
        have h2 := (List.getElem?_eq_some_iff.mp e2).1
        simp only [List.length_cons, List.length_nil] at h1 h2
        omega
      · have h1 := (List.getElem?_eq_some_iff.mp e).1
        simp only [List.length_cons, List.length_nil] at h1
        have : i = 0 := by omega
        subst this
        cases e
        exact ⟨_, hS, vD ns⟩
    refine codeAny_mono (hF _ kH (nsH hns) callerA [] s₁ H [.ref a] [] [V.ref a] [] (fun v _ => v = .bl true) (fun _ _ _ => False) (rm_caller hr) e0 (.cons rfl .nil) .nil (fun _ h => nomatch h) rfl ⟨_, _, [.ref 0], sr, VRs.cons (by rw [VR]; exact ⟨Nat.zero_lt_succ _, rfl⟩) VRs.nil, ?_⟩) fun r s' h => ?_
    · rw [hse]
      exact fun ρ' H' v _ _ r => r
    · cases r with
      | error e =>
        obtain ⟨_, _, _, _, _, _, _, _, _, _, _, _, z⟩ := h
        exact z.elim
      | ok fl =>
        cases fl with
        | ret u =>
          obtain ⟨v, H', os, bare, un, hok', r', q⟩ := h
          have q' : v = .bl true := q
          subst q'
          obtain rfl : u = Value.bool true := r'
          refine ⟨rfl, OldK.of_keep fun b o e => ?_, os, bare⟩
          cases q : H b with
          | none => exact un.keep b o e q (by simp [frs]) (by simp)
          | some u =>
            rcases hO b with z | ⟨ob, xs, z⟩
            · rw [q] at z
              cases z
            · obtain ⟨e1, _⟩ := hok b _ z
              obtain ⟨e2, _⟩ := hok' b _ (un.frzs b ob _ z)
              rw [e] at e1
              cases e1
              exact e2
        | next => exact False.elim h
        | brk => exact False.elim h
        | cont => exact False.elim h
  cases hk : K.lookup a with
  | some o =>
    have e := KX a o hk
    rw [ha] at e
    cases e
    exact core (fun _ => none) (fun _ => .inl rfl) (.inr ⟨_, vs.toArray, _, hk, rfl, rfl, rfl, by rw [List.size_toArray, eL]; exact hl, by simpa using vI⟩) (fun b u z => nomatch z) (fun b z => absurd rfl z) fun z => absurd rfl z
  | none =>
    refine core (fun b => if b = a then some (.frz { cls := .type "list", data := .seq vs.toArray } (.lst (ns.map V.int))) else none) (fun b => ?_) (.inl ⟨{ cls := .type "list", data := .seq vs.toArray }, if_pos rfl⟩) (fun b u z => ?_) (fun b z => ?_) fun _ => hk
    · by_cases eb : b = a
      · exact .inr ⟨_, _, if_pos eb⟩
      · exact .inl (if_neg eb)
    · by_cases eb : b = a
      · have z' := (if_pos eb).symm.trans z
        cases z'
        subst eb
        exact ⟨ha, by rw [List.length_map]; exact hl, vs, _, vI, ha⟩
      · have z' := (if_neg eb).symm.trans z
        cases z'
    · by_cases eb : b = a
      · exact eb
      · exact absurd (if_neg eb) z
end
/-- the row's own run -/
abbrev rowOf (P : Program) (w : World) : Row := ⟨P, w, []⟩
omit [Row] in
/-- the law's walk: F gives the written part and the law's function -/
theorem walk_law {l : PySem.W.OpenLaw} {n k : Nat} {q : Program} {loose : List Str} {XP : (Str → Option Value) → Heap → Prop} {YP : World → Heap → Prop} {d : DefRec}
    (hn : l.most = some n) (hn2 : n ≤ sizeLine) (hdf : d.params.defaults = []) (hr : Room k callerA)
    (F : ∀ (w : World) (mg : Str → Option Value) (fa : Addr) (h : Heap), YP w h → h.Ns mainGlobals mg → mg d.name = some (.ref fa) →
      ∃ (K : PySem.W.Frag) (F : List D → Sto → Rs D), K.In h ∧ (∀ ns : List Int, ns.length ≤ n → ∃ s', F [.ref 0] [.frz (ns.map D.int)] = .ok (.bl true) s') ∧ ∀ base : Heap, K.In base → base.Ns mainGlobals mg → @FS (rowOf l.prog w) l.prog w K mg base k fa F) :
    PySem.W.WalkO q loose XP YP l.row.toRowW d [] (fun f vs => PySem.call f vs) := by
  refine Att.attach_call hn hdf fun w s₀ s₁ mg mb fa o pm cd doc a vs ns G Y ho hd hcd hmg hobj hints hlen hg => ?_
  obtain ⟨K, F, KX, hsp, hF⟩ := F w mg fa _ Y G.T.g hmg
  exact @law_run (rowOf l.prog w) _ _ _ _ _ _ _ _ _ _ _ _ KX G.T.g G.T.b G.T.builtins G.T.nolimit hg hobj hints (Nat.le_trans hlen hn2) hr rfl hF (hsp ns hlen)
end Z

set_option Elab.async false
set_option linter.all false
set_option maxRecDepth 100000
set_option maxHeartbeats 4000000
namespace Z
open PySem PySem.Spec PyProof.Rows L2
variable [Row]

section
variable {X : Cx} {W : WX}
/-! ### ints -/
def dI (g : Int → Int → D) (x y : D) (s : Sto) : Rs D := match x, y with
  | .int i, .int j => .ok (g i j) s
  | _, _ => .no
def dIc (C : Int → Int → Prop) [∀ i j, Decidable (C i j)] (g : Int → Int → D) (x y : D) (s : Sto) : Rs D := match x, y with
  | .int i, .int j => if C i j then .ok (g i j) s else .no
  | _, _ => .no
theorem pr_I {g : Int → Int → D} {g' : Int → Int → V} (h : ∀ i j, flatD (g i j) (g' i j)) : Pr2 X W (dI g) (rI0 g') := by
  intro ρ s H σ x y vx vy Q sr r1 r2 po
  cases x with
  | int i =>
    cases y with
    | int j =>
      obtain rfl : vx = .int i := r1
      obtain rfl : vy = .int j := r2
      exact ⟨i, j, rfl, rfl, po ρ H _ Ext.refl sr (h i j).vr⟩
    | _ => exact po.elim
  | _ => exact po.elim
theorem pr_Ic {C C' : Int → Int → Prop} [∀ i j, Decidable (C i j)] {g : Int → Int → D} {g' : Int → Int → V} (hc : ∀ i j, C i j → C' i j) (h : ∀ i j, flatD (g i j) (g' i j)) : Pr2 X W (dIc C g) (rI C' g') := by
  intro ρ s H σ x y vx vy Q sr r1 r2 po
  cases x with
  | int i =>
    cases y with
    | int j =>
      obtain rfl : vx = .int i := r1
      obtain rfl : vy = .int j := r2
      obtain ⟨h1, po⟩ := Po.ite (c := C i j) po
      exact ⟨i, j, rfl, rfl, hc i j h1, po ρ H _ Ext.refl sr (h i j).vr⟩
    | _ => exact po.elim
  | _ => exact po.elim
def cDiv (i j : Int) : Prop := 0 < j ∧ j < 1073741824
instance (i j : Int) : Decidable (cDiv i j) := inferInstanceAs (Decidable (_ ∧ _))
def cMul (i j : Int) : Prop := (-(2 ^ 64) < i ∧ i < 2 ^ 64) ∨ (-(2 ^ 64) < j ∧ j < 2 ^ 64)
instance (i j : Int) : Decidable (cMul i j) := inferInstanceAs (Decidable (_ ∨ _))
def cMod (i j : Int) : Prop := 0 < j
instance (i j : Int) : Decidable (cMod i j) := inferInstanceAs (Decidable (0 < j))
def cPow (i j : Int) : Prop := 0 ≤ j ∧ j ≤ 1000000 ∧ i.natAbs < 2 ^ 64
instance (i j : Int) : Decidable (cPow i j) := inferInstanceAs (Decidable (_ ∧ _ ∧ _))
def dSub := dI fun i j => .int (i - j)
def dMul := dIc cMul fun i j => .int (i * j)
def dDiv := dIc cDiv fun i j => .int (i / j)
def dMod := dIc cMod fun i j => .int (i % j)
def dPow := dIc cPow fun i j => .int (i ^ j.toNat)
def dLt := dI fun i j => .bl (decide (i < j))
def dLe := dI fun i j => .bl (decide (i ≤ j))
def dGt := dI fun i j => .bl (decide (j < i))
def dGe := dI fun i j => .bl (decide (j ≤ i))
theorem pr_div : Pr2 X W dDiv (rI CDiv fun i j => .int (i / j)) := pr_Ic (fun _ _ h => h) fun _ _ => rfl
theorem pr_mod : Pr2 X W dMod (rI (fun _ j => 0 < j) fun i j => .int (i % j)) := pr_Ic (fun _ _ h => h) fun _ _ => rfl
theorem pr_pow : Pr2 X W dPow (rI CPow fun i j => .int (i ^ j.toNat)) := pr_Ic (fun _ _ h => h) fun _ _ => rfl
theorem pr_lt : Pr2 X W dLt (rI0 fun i j => .bl (decide (i < j))) := pr_I fun _ _ => rfl
theorem pr_le : Pr2 X W dLe (rI0 fun i j => .bl (decide (i ≤ j))) := pr_I fun _ _ => rfl
theorem pr_gt : Pr2 X W dGt (rI0 fun i j => .bl (decide (j < i))) := pr_I fun _ _ => rfl
theorem pr_ge : Pr2 X W dGe (rI0 fun i j => .bl (decide (j ≤ i))) := pr_I fun _ _ => rfl
def dNeg (x : D) (s : Sto) : Rs D := match x with
  | .int i => .ok (.int (-i)) s
  | _ => .no
/-! ### + -/
def dAdd (x y : D) (s : Sto) : Rs D := match x, y with
  | .int i, .int j => .ok (.int (i + j)) s
  | .str a, .str b => if a.length + b.length ≤ sizeLine then .ok (.str (a ++ b)) s else .no
  | .tup a, .tup b => if a.length + b.length ≤ sizeLine then .ok (.tup (a ++ b)) s else .no
  | .ref a, .ref b => match s[a]?, s[b]? with
    | some (.lst xs), some (.lst ys) => if xs.length + ys.length ≤ sizeLine then .ok (.ref s.length) (s ++ [.lst (xs ++ ys)]) else .no
    | _, _ => .no
  | _, _ => .no
def rAdds (K : PySem.W.Frag) : R2 := fun x y H Q => (∃ i j, x = .int i ∧ y = .int j ∧ Q (.int (i + j)) H) ∨ (∃ i j, x = .str i ∧ y = .str j ∧ i.length + j.length ≤ sizeLine ∧ Q (.str (i ++ j)) H) ∨ rCatA K x y H Q ∨ rCat x y H Q
theorem op_adds : OpR X (binaryOp .Add) (rAdds X.K) := op_add.or (op_add_str.or (op_catA.or op_cat))
theorem pr_add : Pr2 X W dAdd (rAdds X.K) := by
  intro ρ s H σ x y vx vy Q sr r1 r2 po
  cases x with
  | int i =>
    cases y with
    | int j => exact .inl ⟨i, j, r1, r2, po ρ H _ Ext.refl sr rfl⟩
    | _ => exact po.elim
  | str i =>
    cases y with
    | str j =>
      obtain ⟨h1, po⟩ := Po.ite (c := i.length + j.length ≤ sizeLine) po
      exact .inr (.inl ⟨i, j, r1, r2, h1, po ρ H _ Ext.refl sr rfl⟩)
    | _ => exact po.elim
  | tup i =>
    cases y with
    | tup j =>
      obtain ⟨h1, po⟩ := Po.ite (c := i.length + j.length ≤ sizeLine) po
      have q1 := r1
      have q2 := r2
      rw [VR] at r1 r2
      obtain ⟨a, vs, e1, sq1, rr1⟩ := r1
      obtain ⟨b, us, e2, sq2, rr2⟩ := r2
      subst e1 e2
      refine .inr (.inr (.inl ⟨a, b, vs, us, rfl, rfl, sq1, sq2, by rw [rr1.length, rr2.length]; exact h1, fun e => ?_, fun _ e => ?_, fun _ _ p hp => ?_⟩))
      · subst e
        have e' : i = [] := List.eq_nil_of_length_eq_zero rr1.length.symm
        subst e'
        exact po ρ H _ Ext.refl sr q2
      · subst e
        have e' : j = [] := List.eq_nil_of_length_eq_zero rr2.length.symm
        subst e'
        rw [List.append_nil] at po
        exact po ρ H _ Ext.refl sr q1
      · obtain ⟨x1, sr1, v1⟩ := new_tup sr hp (rr1.append rr2)
        exact po ρ _ _ x1 sr1 v1
    | _ => exact po.elim
  | ref a =>
    cases y with
    | ref b =>
      have po2 : Po X.K X.mg (VR X.K) W σ ρ s.length H (match s[a]?, s[b]? with
        | some (.lst xs), some (.lst ys) => if xs.length + ys.length ≤ sizeLine then Rs.ok (.ref s.length) (s ++ [.lst (xs ++ ys)]) else .no
        | _, _ => .no) Q := po
      rw [VR] at r1 r2
      obtain ⟨h1, rfl⟩ := r1
      obtain ⟨h2, rfl⟩ := r2
      split at po2
      · rename_i xs ys e1 e2
        obtain ⟨vs, hv, rv⟩ := sr.ob _ _ e1
        obtain ⟨us, hu, ru⟩ := sr.ob _ _ e2
        obtain ⟨hl, po3⟩ := Po.ite po2
        refine .inr (.inr (.inr ⟨_, _, vs, us, rfl, rfl, hv, hu, by rw [rv.length, ru.length]; exact hl, fun p hp => ?_⟩))
        obtain ⟨x1, sr1, v1⟩ := new_lst sr hp (rv.append ru)
        exact po3 _ _ _ x1 sr1 v1
      · exact po2.elim
    | _ => exact po.elim
  | _ => exact po.elim

/-! ### data: none, bools, ints, texts, lists, tuples -/
def pyd : Nat → Sto → D → Option PyData
  | 0, _, _ => none
  | _ + 1, _, .non => some .none
  | _ + 1, _, .bl b => some (.bool b)
  | _ + 1, _, .int i => some (.int i)
  | _ + 1, _, .str x => some (.str x)
  | n + 1, s, .tup xs => (xs.mapM (pyd n s)).map .tuple
  | n + 1, s, .ref k => (lstAt s k).bind fun xs => (xs.mapM (pyd n s)).map .list
theorem pyd_dp {K : PySem.W.Frag} {mg : Str → Option Value} {ρ : Nat → Addr} {s : Sto} {H : Hp} (sr : SR K mg ρ s H) : ∀ (n : Nat) (d : D) (v : V) (p : PyData), pyd n s d = some p → VR K ρ s.length H d v → Dp K H v p := by
  intro n
  induction n with
  | zero => intro d v p h; cases h
  | succ n ih =>
    have all : ∀ (ds : List D) (vs : List V) (ps : List PyData), ds.mapM (pyd n s) = some ps → VRs K ρ s.length H ds vs → DpAll K H vs ps := by
      intro ds
      induction ds with
      | nil =>
        intro vs ps h r
        rw [VRs] at r
        subst r
        simp at h
        subst h
        exact .nil
      | cons d ds ihd =>
        intro vs ps h r
        obtain ⟨v, vr, rfl, r1, r2⟩ := r.uncons
        rw [List.mapM_cons] at h
        obtain ⟨p, h1, h⟩ := Option.bind_eq_some_iff.mp h
        obtain ⟨qs, h2, h⟩ := Option.bind_eq_some_iff.mp h
        cases h
        exact .cons (ih d v p h1 r1) (ihd vr qs h2 r2)
    intro d v p h r
    cases d with
    | non =>
      cases h
      obtain rfl : v = .non := r
      exact .non
    | bl b =>
      cases h
      obtain rfl : v = .bl b := r
      exact .bl b
    | int i =>
      cases h
      obtain rfl : v = .int i := r
      exact .int i
    | str x =>
      cases h
      obtain rfl : v = .str x := r
      exact .str x
    | tup xs =>
      rw [pyd] at h
      obtain ⟨ps, h1, rfl⟩ := Option.map_eq_some_iff.mp h
      rw [VR] at r
      obtain ⟨a, vs, rfl, sq, rr⟩ := r
      exact .tup sq (all xs vs ps h1 rr)
    | ref k =>
      rw [pyd] at h
      obtain ⟨xs, h1, h⟩ := Option.bind_eq_some_iff.mp h
      obtain ⟨ps, h2, rfl⟩ := Option.map_eq_some_iff.mp h
      rw [VR] at r
      obtain ⟨hk, rfl⟩ := r
      obtain ⟨vs, sq, rr⟩ := sr.lst h1
      exact .lst sq (all xs vs ps h2 rr)
/-- the data of a value that == and repr take -/
def shp (s : Sto) (d : D) : Option PyData := match pyd 30 s d with
  | some p => if SeqAt.shaped p = true then some p else none
  | none => none
theorem shp_dp {K : PySem.W.Frag} {mg : Str → Option Value} {ρ : Nat → Addr} {s : Sto} {H : Hp} (sr : SR K mg ρ s H) {d : D} {v : V} {p : PyData} (h : shp s d = some p) (r : VR K ρ s.length H d v) : Dp K H v p ∧ SeqAt.shaped p = true := by
  unfold shp at h
  cases e : pyd 30 s d with
  | none => rw [e] at h; cases h
  | some q =>
    rw [e] at h
    by_cases hs : SeqAt.shaped q = true
    · simp only [hs, if_true] at h
      obtain rfl : q = p := Option.some.inj h
      exact ⟨pyd_dp sr 30 d v q e r, hs⟩
    · simp only [hs] at h
      cases h
/-- == of texts, of data -/
def dEqB (neg : Bool) (x y : D) (s : Sto) : Rs D := match x, y with
  | .str a, .str b => .ok (.bl (neg ^^ decide (a = b))) s
  | x, y => match shp s x, shp s y with
    | some p, some q => .ok (.bl (neg ^^ PyData.eqv p q)) s
    | _, _ => .no
def dEq := dEqB false
def dNe := dEqB true
def rEqs (K : PySem.W.Frag) : R2 := fun x y H Q => rEq x y H Q ∨ rEqD K x y H Q
def rNes (K : PySem.W.Frag) : R2 := fun x y H Q => rNe x y H Q ∨ rNeD K x y H Q
theorem op_eqs (hu : X.A.units + 64 < cLine) : OpR X (compareOp .Eq) (rEqs X.K) := op_eq.or (op_eqD hu)
theorem op_nes (hu : X.A.units + 64 < cLine) : OpR X (compareOp .NotEq) (rNes X.K) := op_ne.or (op_neD hu)
theorem decide_strV (a b : Str) : decide (V.str a = V.str b) = decide (a = b) := by
  by_cases h : a = b
  · rw [h, decide_eq_true rfl, decide_eq_true rfl]
  · rw [decide_eq_false h, decide_eq_false fun e => h (by cases e; rfl)]
theorem pr_eq : Pr2 X W dEq (rEqs X.K) := by
  intro ρ s H σ x y vx vy Q sr r1 r2 po
  unfold dEq dEqB at po
  split at po
  · rename_i a b
    obtain rfl : vx = .str a := r1
    obtain rfl : vy = .str b := r2
    refine .inl ⟨rfl, ?_⟩
    rw [decide_strV]
    refine po ρ H _ Ext.refl sr ?_
    show V.bl _ = V.bl _
    rw [Bool.false_xor]
  · split at po
    · rename_i p q h1 h2
      obtain ⟨a1, a2⟩ := shp_dp sr h1 r1
      obtain ⟨b1, b2⟩ := shp_dp sr h2 r2
      refine .inr ⟨p, q, a1, b1, a2, b2, po ρ H _ Ext.refl sr ?_⟩
      show V.bl _ = V.bl _
      rw [Bool.false_xor]
    · exact po.elim
theorem pr_ne : Pr2 X W dNe (rNes X.K) := by
  intro ρ s H σ x y vx vy Q sr r1 r2 po
  unfold dNe dEqB at po
  split at po
  · rename_i a b
    obtain rfl : vx = .str a := r1
    obtain rfl : vy = .str b := r2
    refine .inl ⟨rfl, ?_⟩
    rw [decide_strV]
    refine po ρ H _ Ext.refl sr ?_
    show V.bl _ = V.bl _
    rw [Bool.true_xor]
  · split at po
    · rename_i p q h1 h2
      obtain ⟨a1, a2⟩ := shp_dp sr h1 r1
      obtain ⟨b1, b2⟩ := shp_dp sr h2 r2
      refine .inr ⟨p, q, a1, b1, a2, b2, po ρ H _ Ext.refl sr ?_⟩
      show V.bl _ = V.bl _
      rw [Bool.true_xor]
    · exact po.elim
/-- is None -/
def dIsN (neg : Bool) (x : D) (s : Sto) : Rs D := match x with
  | .non => .ok (.bl (!neg)) s
  | _ => .ok (.bl neg) s
/-- x in a list or a tuple of data; one sign in a text -/
def dInB (neg : Bool) (x y : D) (s : Sto) : Rs D := match y with
  | .str z => match x with
    | .str c => if c.length = 1 then .ok (.bl (neg ^^ decide (c.cps.getD 0 0 ∈ z.cps.toList))) s else .no
    | _ => .no
  | .tup ys => match shp s x, shp s (.tup ys) with
    | some p, some (.tuple ps) => .ok (.bl (neg ^^ ps.any fun z => PyData.eqv z p)) s
    | _, _ => .no
  | .ref n => match shp s x, shp s (.ref n) with
    | some p, some (.list ps) => .ok (.bl (neg ^^ ps.any fun z => PyData.eqv z p)) s
    | _, _ => .no
  | _ => .no

theorem room_in {A : Around} {d : PyData} (h : SeqAt.shaped d = true) (hu : A.units + 65 < cLine) : A.units + d.depth < cLine := by
  have := SeqAt.depth_of_shaped h
  omega
def rInT (K : PySem.W.Frag) (neg : Bool) : R2 := fun x y H Q => ∃ d ds, Dp K H x d ∧ Dp K H y (.tuple ds) ∧ SeqAt.shaped d = true ∧ SeqAt.shaped (.tuple ds) = true ∧ Q (.bl (neg ^^ ds.any fun z => PyData.eqv z d)) H
theorem op_inT (hu : X.A.units + 65 < cLine) : OpR X (compareOp .In) (rInT X.K false) := by
  intro pins s σ H x y v u Q I rx ry h
  obtain ⟨d, ds, hd, he, sd, se, q⟩ := h
  obtain ⟨as, r1⟩ := Dp.reads I d x v hd rx
  obtain ⟨bs, r2⟩ := Dp.reads I (.tuple ds) y u he ry
  rw [Bool.false_xor] at q
  exact SeqAt.in_tuple_reads r2 r1 (SeqAt.canLay_of_shaped se) (SeqAt.canLay_of_shaped sd) (by first | exact room_in sd hu | exact room_in_shaped sd hu) ⟨.bl _, H, I, rfl, q⟩
theorem op_notInT (hu : X.A.units + 65 < cLine) : OpR X (compareOp .NotIn) (rInT X.K true) := by
  intro pins s σ H x y v u Q I rx ry h
  obtain ⟨d, ds, hd, he, sd, se, q⟩ := h
  obtain ⟨as, r1⟩ := Dp.reads I d x v hd rx
  obtain ⟨bs, r2⟩ := Dp.reads I (.tuple ds) y u he ry
  rw [Bool.true_xor] at q
  exact SeqAt.notIn_tuple_reads r2 r1 (SeqAt.canLay_of_shaped se) (SeqAt.canLay_of_shaped sd) (by first | exact room_in sd hu | exact room_in_shaped sd hu) ⟨.bl _, H, I, rfl, q⟩
def rInL (K : PySem.W.Frag) (neg : Bool) : R2 := fun x y H Q => ∃ d ds, Dp K H x d ∧ Dp K H y (.list ds) ∧ SeqAt.shaped d = true ∧ SeqAt.shaped (.list ds) = true ∧ Q (.bl (neg ^^ ds.any fun z => PyData.eqv z d)) H
theorem op_inL (hu : X.A.units + 65 < cLine) : OpR X (compareOp .In) (rInL X.K false) := by
  intro pins s σ H x y v u Q I rx ry ⟨d, ds, h1, h2, h3, h4, q⟩
  rw [Bool.false_xor] at q
  exact op_inD hu pins s σ H x y v u Q I rx ry ⟨d, ds, h1, h2, h3, h4, q⟩
theorem op_notInL (hu : X.A.units + 65 < cLine) : OpR X (compareOp .NotIn) (rInL X.K true) := by
  intro pins s σ H x y v u Q I rx ry ⟨d, ds, h1, h2, h3, h4, q⟩
  rw [Bool.true_xor] at q
  exact op_notInD hu pins s σ H x y v u Q I rx ry ⟨d, ds, h1, h2, h3, h4, q⟩
def rInS (neg : Bool) : R2 := fun x y H Q => ∃ (c : Nat) (z : Str), x = .str ⟨#[c]⟩ ∧ y = .str z ∧ Q (.bl (neg ^^ decide (c ∈ z.cps.toList))) H
theorem op_inS : OpR X (compareOp .In) (rInS false) := by
  intro pins s σ H x y v u Q I rx ry ⟨c, z, h1, h2, q⟩
  rw [Bool.false_xor] at q
  exact op_in_sign pins s σ H x y v u Q I rx ry ⟨c, z, h1, h2, q⟩
theorem op_notInS : OpR X (compareOp .NotIn) (rInS true) := by
  intro pins s σ H x y v u Q I rx ry ⟨c, z, h1, h2, q⟩
  rw [Bool.true_xor] at q
  exact op_notIn_sign pins s σ H x y v u Q I rx ry ⟨c, z, h1, h2, q⟩
def rIns (K : PySem.W.Frag) (neg : Bool) : R2 := fun x y H Q => rInS neg x y H Q ∨ rInT K neg x y H Q ∨ rInL K neg x y H Q
theorem op_ins (hu : X.A.units + 65 < cLine) : OpR X (compareOp .In) (rIns X.K false) := op_inS.or ((op_inT hu).or (op_inL hu))
theorem op_notIns (hu : X.A.units + 65 < cLine) : OpR X (compareOp .NotIn) (rIns X.K true) := op_notInS.or ((op_notInT hu).or (op_notInL hu))
theorem str_one {c : Str} (h : c.length = 1) : c = ⟨#[c.cps.getD 0 0]⟩ := by
  obtain ⟨⟨l⟩⟩ := c
  match l, h with
  | [a], _ => rfl
theorem pr_in {neg : Bool} : Pr2 X W (dInB neg) (rIns X.K neg) := by
  intro ρ s H σ x y vx vy Q sr r1 r2 po
  cases y with
  | str z =>
    cases x with
    | str c =>
      obtain ⟨h1, po⟩ := Po.ite (c := c.length = 1) po
      obtain rfl : vx = .str c := r1
      obtain rfl : vy = .str z := r2
      exact .inl ⟨c.cps.getD 0 0, z, congrArg V.str (str_one h1), rfl, po ρ H _ Ext.refl sr rfl⟩
    | _ => exact po.elim
  | tup ys =>
    have po2 : Po X.K X.mg (VR X.K) W σ ρ s.length H (match shp s x, shp s (.tup ys) with
      | some p, some (.tuple ps) => .ok (.bl (neg ^^ ps.any fun z => PyData.eqv z p)) s
      | _, _ => .no) Q := po
    split at po2
    · rename_i p ps h1 h2
      obtain ⟨a1, a2⟩ := shp_dp sr h1 r1
      obtain ⟨b1, b2⟩ := shp_dp sr h2 r2
      exact .inr (.inl ⟨p, ps, a1, b1, a2, b2, po2 ρ H _ Ext.refl sr rfl⟩)
    · exact po2.elim
  | ref k =>
    have po2 : Po X.K X.mg (VR X.K) W σ ρ s.length H (match shp s x, shp s (.ref k) with
      | some p, some (.list ps) => .ok (.bl (neg ^^ ps.any fun z => PyData.eqv z p)) s
      | _, _ => .no) Q := po
    split at po2
    · rename_i p ps h1 h2
      obtain ⟨a1, a2⟩ := shp_dp sr h1 r1
      obtain ⟨b1, b2⟩ := shp_dp sr h2 r2
      exact .inr (.inr ⟨p, ps, a1, b1, a2, b2, po2 ρ H _ Ext.refl sr rfl⟩)
    · exact po2.elim
  | _ => exact po.elim
theorem pr_isN : Pr2 X W (fun x y s => match y with | .non => dIsN false x s | _ => .no) (fun x y H Q => y = .non ∧ Q (.bl (decide (x = .non))) H) := by
  intro ρ s H σ x y vx vy Q sr r1 r2 po
  cases y with
  | non =>
    refine ⟨r2, ?_⟩
    cases x with
    | non =>
      obtain rfl : vx = .non := r1
      exact po ρ H _ Ext.refl sr rfl
    | tup xs =>
      rw [VR] at r1
      obtain ⟨a, vs, rfl, _⟩ := r1
      exact po ρ H _ Ext.refl sr rfl
    | ref k =>
      rw [VR] at r1
      obtain ⟨_, rfl⟩ := r1
      exact po ρ H _ Ext.refl sr rfl
    | bl b =>
      obtain rfl : vx = .bl b := r1
      exact po ρ H _ Ext.refl sr rfl
    | int b =>
      obtain rfl : vx = .int b := r1
      exact po ρ H _ Ext.refl sr rfl
    | str b =>
      obtain rfl : vx = .str b := r1
      exact po ρ H _ Ext.refl sr rfl
  | _ => exact po.elim
theorem pr_notN : Pr2 X W (fun x y s => match y with | .non => dIsN true x s | _ => .no) (fun x y H Q => y = .non ∧ Q (.bl (!decide (x = .non))) H) := by
  intro ρ s H σ x y vx vy Q sr r1 r2 po
  cases y with
  | non =>
    refine ⟨r2, ?_⟩
    cases x with
    | non =>
      obtain rfl : vx = .non := r1
      exact po ρ H _ Ext.refl sr rfl
    | tup xs =>
      rw [VR] at r1
      obtain ⟨a, vs, rfl, _⟩ := r1
      exact po ρ H _ Ext.refl sr rfl
    | ref k =>
      rw [VR] at r1
      obtain ⟨_, rfl⟩ := r1
      exact po ρ H _ Ext.refl sr rfl
    | bl b =>
      obtain rfl : vx = .bl b := r1
      exact po ρ H _ Ext.refl sr rfl
    | int b =>
      obtain rfl : vx = .int b := r1
      exact po ρ H _ Ext.refl sr rfl
    | str b =>
      obtain rfl : vx = .str b := r1
      exact po ρ H _ Ext.refl sr rfl
  | _ => exact po.elim

/-! ### built-ins by name -/
theorem vr_seq {K : PySem.W.Frag} {mg : Str → Option Value} {ρ : Nat → Addr} {s : Sto} {H : Hp} (sr : SR K mg ρ s H) {d : D} {v : V} (r : VR K ρ s.length H d v) {xs : List D} (h : (match d with | .tup ys => some ys | .ref n => lstAt s n | _ => none) = some xs) :
    ∃ a vs, v = .ref a ∧ (SqL K H a vs ∨ SqT K H a vs) ∧ VRs K ρ s.length H xs vs := by
  cases d with
  | tup ys =>
    cases h
    rw [VR] at r
    obtain ⟨a, vs, rfl, sq, rr⟩ := r
    exact ⟨a, vs, rfl, .inr sq, rr⟩
  | ref n =>
    rw [VR] at r
    obtain ⟨_, rfl⟩ := r
    obtain ⟨vs, sq, rr⟩ := sr.lst h
    exact ⟨_, vs, rfl, .inl sq, rr⟩
  | _ => cases h
/-- the items of a list or a tuple -/
def seqD (s : Sto) (d : D) : Option (List D) := match d with
  | .tup ys => some ys
  | .ref n => lstAt s n
  | _ => none
def fLen (ds : List D) (s : Sto) : Rs D := match ds with
  | [.str z] => if z.length ≤ sizeLine then .ok (.int z.length) s else .no
  | [d] => match seqD s d with
    | some xs => .ok (.int xs.length) s
    | none => .no
  | _ => .no
def rLens (K : PySem.W.Frag) : List V → Hp → VK → Prop := fun xs H Q => (∃ z, xs = [.str z] ∧ z.length ≤ sizeLine ∧ Q (.int z.length) H) ∨ ∃ p ys, xs = [.ref p] ∧ (SqL K H p ys ∨ SqT K H p ys) ∧ Q (.int ys.length) H
theorem call_lens : CallR X (.builtin "len") (rLens X.K) := call_len_str.or call_len_seq
theorem pn_len : PrN X W fLen (rLens X.K) := by
  intro ρ s H σ xs vs Q sr r po
  unfold fLen at po
  split at po
  · rename_i z
    obtain ⟨v, rfl, rv⟩ := r.one
    obtain rfl : v = .str z := rv
    obtain ⟨h1, po⟩ := Po.ite po
    exact .inl ⟨z, rfl, h1, po ρ H _ Ext.refl sr rfl⟩
  · rename_i d _
    obtain ⟨v, rfl, rv⟩ := r.one
    cases e : seqD s d with
    | none => rw [e] at po; exact po.elim
    | some ys =>
      rw [e] at po
      obtain ⟨a, ws, rfl, sq, rr⟩ := vr_seq sr rv (xs := ys) (by cases d <;> exact e)
      exact .inr ⟨a, ws, rfl, sq, po ρ H _ Ext.refl sr (by rw [rr.length]; rfl)⟩
  · exact po.elim
def fList (ds : List D) (s : Sto) : Rs D := match ds with
  | [d] => match seqD s d with
    | some xs => if xs.length ≤ sizeLine then .ok (.ref s.length) (s ++ [.lst xs]) else .no
    | none => .no
  | _ => .no
theorem pn_list : PrN X W fList (fun xs H Q => ∃ p ys, xs = [.ref p] ∧ (SqL X.K H p ys ∨ SqT X.K H p ys) ∧ ∀ l, H l = none → Q (.ref l) (upd H l (.lst ys))) := by
  intro ρ s H σ xs vs Q sr r po
  unfold fList at po
  split at po
  · rename_i d
    obtain ⟨v, rfl, rv⟩ := r.one
    cases e : seqD s d with
    | none => rw [e] at po; exact po.elim
    | some ys =>
      rw [e] at po
      obtain ⟨hl, po⟩ := Po.ite po
      obtain ⟨a, ws, rfl, sq, rr⟩ := vr_seq sr rv (xs := ys) (by cases d <;> exact e)
      refine ⟨a, ws, rfl, sq, fun l hn => ?_⟩
      obtain ⟨x1, sr1, v1⟩ := new_lst sr hn rr
      exact po _ _ _ x1 sr1 v1
  · exact po.elim
def fTuple (ds : List D) (s : Sto) : Rs D := match ds with
  | [d] => match seqD s d with
    | some xs => .ok (.tup xs) s
    | none => .no
  | _ => .no
theorem pn_tuple : PrN X W fTuple (fun xs H Q => ∃ p ys, xs = [.ref p] ∧ ((SqL X.K H p ys ∧ ∀ l, H l = none → Q (.ref l) (upd H l (.tup ys))) ∨ (SqT X.K H p ys ∧ Q (.ref p) H))) := by
  intro ρ s H σ xs vs Q sr r po
  unfold fTuple at po
  split at po
  · rename_i d
    obtain ⟨v, rfl, rv⟩ := r.one
    cases e : seqD s d with
    | none => rw [e] at po; exact po.elim
    | some ys =>
      rw [e] at po
      obtain ⟨a, ws, rfl, sq, rr⟩ := vr_seq sr rv (xs := ys) (by cases d <;> exact e)
      refine ⟨a, ws, rfl, ?_⟩
      rcases sq with sq | sq
      · refine .inl ⟨sq, fun l hn => ?_⟩
        obtain ⟨x1, sr1, v1⟩ := new_tup sr hn rr
        exact po _ _ _ x1 sr1 v1
      · refine .inr ⟨sq, po ρ H _ Ext.refl sr ?_⟩
        rw [VR]
        exact ⟨a, ws, rfl, sq, rr⟩
  · exact po.elim
def fInt (ds : List D) (s : Sto) : Rs D := match ds with
  | [.int i] => .ok (.int i) s
  | [.bl b] => .ok (.int (if b then 1 else 0)) s
  | _ => .no
theorem pn_int : PrN X W fInt (fun xs H Q => (∃ i, xs = [.int i] ∧ Q (.int i) H) ∨ ∃ k, xs = [.bl k] ∧ Q (.int (if k then 1 else 0)) H) := by
  intro ρ s H σ xs vs Q sr r po
  unfold fInt at po
  split at po
  · rename_i i
    obtain ⟨v, rfl, rv⟩ := r.one
    obtain rfl : v = .int i := rv
    exact .inl ⟨i, rfl, po ρ H _ Ext.refl sr rfl⟩
  · rename_i b
    obtain ⟨v, rfl, rv⟩ := r.one
    obtain rfl : v = .bl b := rv
    exact .inr ⟨b, rfl, po ρ H _ Ext.refl sr rfl⟩
  · exact po.elim
def fAbs (ds : List D) (s : Sto) : Rs D := match ds with
  | [.int i] => .ok (.int (if i < 0 then -i else i)) s
  | _ => .no
theorem pn_abs : PrN X W fAbs (fun xs H Q => ∃ i, xs = [.int i] ∧ Q (.int (if i < 0 then -i else i)) H) := by
  intro ρ s H σ xs vs Q sr r po
  unfold fAbs at po
  split at po
  · rename_i i
    obtain ⟨v, rfl, rv⟩ := r.one
    obtain rfl : v = .int i := rv
    exact ⟨i, rfl, po ρ H _ Ext.refl sr rfl⟩
  · exact po.elim
def fMax2 (ds : List D) (s : Sto) : Rs D := match ds with
  | [.int i, .int j] => .ok (.int (if j > i then j else i)) s
  | _ => .no
def fMin2 (ds : List D) (s : Sto) : Rs D := match ds with
  | [.int i, .int j] => .ok (.int (if j < i then j else i)) s
  | _ => .no
theorem pn_max2 : PrN X W fMax2 (fun xs H Q => ∃ i j, xs = [.int i, .int j] ∧ Q (.int (if j > i then j else i)) H) := by
  intro ρ s H σ xs vs Q sr r po
  unfold fMax2 at po
  split at po
  · rename_i i j
    obtain ⟨v, vr, rfl, rv, rr⟩ := r.uncons
    obtain ⟨u, rfl, ru⟩ := rr.one
    obtain rfl : v = .int i := rv
    obtain rfl : u = .int j := ru
    exact ⟨i, j, rfl, po ρ H _ Ext.refl sr rfl⟩
  · exact po.elim
theorem pn_min2 : PrN X W fMin2 (fun xs H Q => ∃ i j, xs = [.int i, .int j] ∧ Q (.int (if j < i then j else i)) H) := by
  intro ρ s H σ xs vs Q sr r po
  unfold fMin2 at po
  split at po
  · rename_i i j
    obtain ⟨v, vr, rfl, rv, rr⟩ := r.uncons
    obtain ⟨u, rfl, ru⟩ := rr.one
    obtain rfl : v = .int i := rv
    obtain rfl : u = .int j := ru
    exact ⟨i, j, rfl, po ρ H _ Ext.refl sr rfl⟩
  · exact po.elim
def blD : D → Option Bool
  | .bl b => some b
  | _ => none
theorem bls_of {K : PySem.W.Frag} {ρ : Nat → Addr} {n : Nat} {H : Hp} : ∀ {xs : List D} {vs : List V} {bs : List Bool}, VRs K ρ n H xs vs → xs.mapM blD = some bs → vs = bs.map V.bl
  | [], vs, bs, r, h => by
    rw [VRs] at r
    subst r
    simp at h
    subst h
    rfl
  | x :: xs, vs, bs, r, h => by
    obtain ⟨v, vr, rfl, r1, r2⟩ := r.uncons
    rw [List.mapM_cons] at h
    obtain ⟨b, h1, h⟩ := Option.bind_eq_some_iff.mp h
    obtain ⟨cs, h2, h⟩ := Option.bind_eq_some_iff.mp h
    cases h
    rw [bls_of r2 h2]
    cases x with
    | bl b' =>
      cases h1
      obtain rfl : v = .bl _ := r1
      rfl
    | _ => cases h1
def fAllAny (all : Bool) (ds : List D) (s : Sto) : Rs D := match ds with
  | [.ref n] => match (lstAt s n).bind fun xs => xs.mapM blD with
    | some bs => .ok (.bl (if all then bs.all id else bs.any id)) s
    | none => .no
  | _ => .no
theorem pn_all : PrN X W (fAllAny true) (rAll X.K) := by
  intro ρ s H σ xs vs Q sr r po
  unfold fAllAny at po
  split at po
  · rename_i n
    obtain ⟨v, rfl, rv⟩ := r.one
    split at po
    · rename_i bs e
      obtain ⟨ys, h1, h2⟩ := Option.bind_eq_some_iff.mp e
      rw [VR] at rv
      obtain ⟨_, rfl⟩ := rv
      obtain ⟨ws, sq, rr⟩ := sr.lst h1
      rw [bls_of rr h2] at sq
      exact ⟨_, bs, rfl, sq, po ρ H _ Ext.refl sr rfl⟩
    · exact po.elim
  · exact po.elim
/-! ### sorted: data of one shape, stable, any length -/
open PySem.W in
def rSrt (X : Cx) : List V → Hp → VK → Prop := fun vs H Q => ∃ (a : Addr) (ps : List (D × V)) (enc : D → PyData), vs = [.ref a] ∧ SqL X.K H a (ps.map (·.2)) ∧ (∀ p ∈ ps, Dp X.K H p.2 (enc p.1)) ∧
  AllAlike (ps.map fun p => enc p.1) ∧ Sortable (ps.map fun p => enc p.1) ∧ (∀ p ∈ ps, X.A.units + 2 + (enc p.1).depth < cLine) ∧ ∀ q, H q = none → Q (.ref q) (upd H q (.lst ((ps.mergeSort (dataLe false fun p => enc p.1)).map (·.2))))
theorem each_vals {ps : List (D × V)} : ∀ {us : List Value}, PySem.W.EachIs (fun u (p : D × V) => RelV p.2 u) us ps → Vals (ps.map (·.2)) us := by
  induction ps with
  | nil =>
    intro us h
    cases h
    exact .nil
  | cons p ps ih =>
    intro us h
    cases h with
    | cons h1 h2 => exact .cons h1 (ih h2)
theorem vals_each {ps : List (D × V)} : ∀ {us : List Value}, Vals (ps.map (·.2)) us → PySem.W.EachIs (fun u (p : D × V) => RelV p.2 u) us ps := by
  induction ps with
  | nil =>
    intro us h
    cases h
    exact .nil
  | cons p ps ih =>
    intro us h
    cases h with
    | cons h1 h2 => exact .cons h1 (ih h2)
end
end Z

set_option Elab.async false
set_option linter.all false
set_option maxRecDepth 100000
set_option maxHeartbeats 4000000
namespace Z
open PySem PySem.Spec PyProof.Rows L2
variable [Row]

section
variable {X : Cx} {W : WX}
/-! ### sorted -/
def encD (s : Sto) (d : D) : PyData := (pyd 30 s d).getD .none
def tupB : PyData → Bool
  | .tuple (_ :: _) => true
  | _ => false
def noTupB : PyData → Bool
  | .tuple _ => false
  | .none => false
  | _ => true
def canSort (s : Sto) (xs : List D) : Bool := (xs.all fun d => (shp s d).isSome) && (xs.all fun d => xs.all fun e => PySem.W.alike (encD s d) (encD s e)) && ((xs.all fun d => tupB (encD s d)) || xs.all fun d => noTupB (encD s d))
def sortD (s : Sto) (xs : List D) : List D := xs.mergeSort (PySem.W.dataLe false (encD s))
theorem shp_enc {s : Sto} {d : D} (h : (shp s d).isSome = true) : pyd 30 s d = some (encD s d) ∧ SeqAt.shaped (encD s d) = true := by
  unfold shp at h
  unfold encD
  cases e : pyd 30 s d with
  | none => rw [e] at h; cases h
  | some p =>
    rw [e] at h
    by_cases hs : SeqAt.shaped p = true
    · exact ⟨rfl, hs⟩
    · simp [hs] at h
theorem VRs.pairs {K : PySem.W.Frag} {ρ : Nat → Addr} {n : Nat} {H : Hp} : ∀ {ds : List D} {vs : List V}, VRs K ρ n H ds vs → ∃ ps : List (D × V), ps.map (·.1) = ds ∧ ps.map (·.2) = vs ∧ ∀ p ∈ ps, VR K ρ n H p.1 p.2
  | [], vs, r => by
    rw [VRs] at r
    subst r
    exact ⟨[], rfl, rfl, fun p hp => absurd hp (by simp)⟩
  | d :: ds, vs, r => by
    obtain ⟨v, vr, rfl, r1, r2⟩ := r.uncons
    obtain ⟨ps, h1, h2, h3⟩ := VRs.pairs r2
    exact ⟨(d, v) :: ps, by simp [h1], by simp [h2], fun p hp => by
      rcases List.mem_cons.mp hp with rfl | hp
      · exact r1
      · exact h3 p hp⟩
theorem VRs.of_pairs {K : PySem.W.Frag} {ρ : Nat → Addr} {n : Nat} {H : Hp} : ∀ {ps : List (D × V)}, (∀ p ∈ ps, VR K ρ n H p.1 p.2) → VRs K ρ n H (ps.map (·.1)) (ps.map (·.2))
  | [], _ => VRs.nil
  | p :: ps, h => VRs.cons (h p List.mem_cons_self) (VRs.of_pairs fun q hq => h q (List.mem_cons_of_mem _ hq))
def fSorted (ds : List D) (s : Sto) : Rs D := match ds with
  | [.ref n] => match lstAt s n with
    | some xs => if canSort s xs = true then .ok (.ref s.length) (s ++ [.lst (sortD s xs)]) else .no
    | none => .no
  | _ => .no
/-! ### subscripts, slices -/
def dIx (x y : D) (s : Sto) : Rs D := match y with
  | .int i => match x with
    | .str z => if z.length ≤ sizeLine then (match atI z.cps.toList i with
        | some c => .ok (.str ⟨#[c]⟩) s
        | none => .no) else .no
    | _ => match seqD s x with
      | some xs => match atI xs i with
        | some d => .ok d s
        | none => .no
      | none => .no
  | _ => .no
theorem VRs.atI {K : PySem.W.Frag} {ρ : Nat → Addr} {n : Nat} {H : Hp} {ds : List D} {vs : List V} {i : Int} {d : D} (r : VRs K ρ n H ds vs) (h : atI ds i = some d) : ∃ v, L2.atI vs i = some v ∧ VR K ρ n H d v := by
  unfold L2.atI at h ⊢
  rw [r.length]
  cases e : ixN ds.length i with
  | none => rw [e] at h; cases h
  | some j =>
    rw [e] at h
    exact r.get h
theorem pr_ix : Pr2 X W dIx (rIx X.K) := by
  intro ρ s H σ x y vx vy Q sr r1 r2 po
  cases y with
  | int i =>
    obtain rfl : vy = .int i := r2
    have gen : ∀ xs : List D, seqD s x = some xs → Po X.K X.mg (VR X.K) W σ ρ s.length H (match atI xs i with | some d => Rs.ok d s | none => .no) Q → rIx X.K vx (.int i) H Q := by
      intro xs e po
      cases h : atI xs i with
      | none => rw [h] at po; exact po.elim
      | some d =>
        rw [h] at po
        obtain ⟨a, vs, rfl, sq, rr⟩ := vr_seq sr r1 (xs := xs) (by cases x <;> exact e)
        obtain ⟨v, hv, rv⟩ := rr.atI h
        rcases sq with sq | sq
        · exact .inl ⟨a, vs, i, v, rfl, rfl, sq, hv, po ρ H _ Ext.refl sr rv⟩
        · exact .inr (.inl ⟨a, vs, i, v, rfl, rfl, sq, hv, po ρ H _ Ext.refl sr rv⟩)
    cases x with
    | str z =>
      obtain rfl : vx = .str z := r1
      obtain ⟨hl, po⟩ := Po.ite (c := z.length ≤ sizeLine) po
      cases h : L2.atI z.cps.toList i with
      | none => rw [h] at po; exact po.elim
      | some c =>
        rw [h] at po
        exact .inr (.inr ⟨z, i, c, rfl, rfl, hl, h, po ρ H _ Ext.refl sr rfl⟩)
    | tup xs => exact gen xs rfl po
    | ref n =>
      have po2 : Po X.K X.mg (VR X.K) W σ ρ s.length H (match lstAt s n with
        | some xs => match atI xs i with
          | some d => Rs.ok d s
          | none => .no
        | none => .no) Q := po
      cases e : lstAt s n with
      | none => rw [e] at po2; exact po2.elim
      | some xs =>
        rw [e] at po2
        exact gen xs e po2
    | _ => exact po.elim
  | _ =>
    unfold dIx at po
    exact po.elim
def cutD (xs : List D) (lo hi : Option Int) : List D := (xs.drop (HT.sIx xs.length 0 lo)).take (HT.sIx xs.length xs.length hi - HT.sIx xs.length 0 lo)
def dSl (x : D) (lo hi : Option Int) (s : Sto) : Rs D := match x with
  | .str z => if z.length ≤ sizeLine then .ok (.str (cutS z lo hi)) s else .no
  | .tup xs => .ok (.tup (cutD xs lo hi)) s
  | .ref n => match lstAt s n with
    | some xs => .ok (.ref s.length) (s ++ [.lst (cutD xs lo hi)])
    | none => .no
  | _ => .no
def rSls (K : PySem.W.Frag) : V → Option Int → Option Int → Hp → VK → Prop := fun x lo hi H Q => rSlS x lo hi H Q ∨ rSlA K x lo hi H Q ∨ rSlL K x lo hi H Q
theorem sl_all : SlR X (rSls X.K) := sl_str.or (sl_tupA.or sl_list)
theorem VRs.cut {K : PySem.W.Frag} {ρ : Nat → Addr} {n : Nat} {H : Hp} {ds : List D} {vs : List V} {lo hi : Option Int} (r : VRs K ρ n H ds vs) : VRs K ρ n H (cutD ds lo hi) (cutV vs lo hi) := by
  unfold cutD cutV
  rw [r.length]
  exact (r.drop _).take _
theorem ps_sl : PrS X W dSl (rSls X.K) := by
  intro ρ s H σ x vx lo hi Q sr r po
  cases x with
  | str z =>
    obtain rfl : vx = .str z := r
    obtain ⟨hl, po⟩ := Po.ite (c := z.length ≤ sizeLine) po
    exact .inl ⟨z, rfl, hl, po ρ H _ Ext.refl sr rfl⟩
  | tup xs =>
    have r' := r
    rw [VR] at r
    obtain ⟨a, vs, rfl, sq, rr⟩ := r
    refine .inr (.inl ⟨a, vs, rfl, sq, fun hh => ?_, fun _ p hp => ?_⟩)
    · refine po ρ H _ Ext.refl sr ?_
      have e : cutD xs lo hi = xs := by
        unfold cutD
        rw [← rr.length, hh.1, hh.2, List.drop_zero, rr.length, Nat.sub_zero, List.take_length]
      rw [e]
      exact r'
    · obtain ⟨x1, sr1, v1⟩ := new_tup sr hp (rr.cut (lo := lo) (hi := hi))
      exact po ρ _ _ x1 sr1 v1
  | ref n =>
    have po2 : Po X.K X.mg (VR X.K) W σ ρ s.length H (match lstAt s n with
      | some xs => Rs.ok (.ref s.length) (s ++ [.lst (cutD xs lo hi)])
      | none => .no) Q := po
    cases e : lstAt s n with
    | none => rw [e] at po2; exact po2.elim
    | some xs =>
      rw [e] at po2
      rw [VR] at r
      obtain ⟨_, rfl⟩ := r
      obtain ⟨vs, sq, rr⟩ := sr.lst e
      refine .inr (.inr ⟨_, vs, rfl, sq, fun p hp => ?_⟩)
      obtain ⟨x1, sr1, v1⟩ := new_lst sr hp (rr.cut (lo := lo) (hi := hi))
      exact po2 _ _ _ x1 sr1 v1
  | _ => exact po.elim
/-! ### stores to a place, methods of lists -/
def xSetL (o i x : D) (s : Sto) : Option Sto := match o, i with
  | .ref n, .int k => match s[n]? with
    | some (.lst xs) => (ixN xs.length k).map fun j => s.set n (.lst (xs.set j x))
    | _ => none
  | _, _ => none
theorem px_setL : PrSet X xSetL rSetL := by
  intro ρ s s' H o i x vo vi vx Q sr ro ri rx e q
  unfold xSetL at e
  split at e
  · rename_i n k
    split at e
    · rename_i xs h1
      obtain ⟨j, hj, rfl⟩ := Option.map_eq_some_iff.mp e
      rw [VR] at ro
      obtain ⟨_, rfl⟩ := ro
      obtain rfl : vi = .int k := ri
      obtain ⟨vs, hv, rv⟩ := sr.ob _ _ h1
      refine ⟨_, vs, k, j, rfl, rfl, hv, by rw [rv.length]; exact hj, ?_⟩
      have xw : Ext ρ s.length H ρ s.length (upd H (ρ n) (.lst (vs.set j vx))) := Ext.write (sr.ob _ _ h1) rfl
      refine q ρ _ (by rw [List.length_set]; exact xw) ?_
      exact sr.write h1 rfl rfl ⟨_, upd_same, (rv.set j rx).mono xw⟩
    · cases e
  · cases e
/-- a list's method that changes it -/
def mtL (f : List D → List D → Option (List D × D)) (x : D) (ds : List D) (s : Sto) : Rs D := match x with
  | .ref n => match s[n]? with
    | some (.lst xs) => match f xs ds with
      | some (ys, d) => .ok d (s.set n (.lst ys))
      | none => .no
    | _ => .no
  | _ => .no
theorem pm_L {f : List D → List D → Option (List D × D)} {r : V → List V → Hp → VK → Prop}
    (h : ∀ (ρ : Nat → Addr) (n : Nat) (H : Hp) (a : Addr) (xs ds ys : List D) (d : D) (vs us : List V) (Q : VK), H a = some (.lst vs) → VRs X.K ρ n H xs vs → VRs X.K ρ n H ds us → f xs ds = some (ys, d) →
      (∀ ws v, VRs X.K ρ n H ys ws → VR X.K ρ n H d v → Q v (upd H a (.lst ws))) → r (.ref a) us H Q) : PrM X W (mtL f) r := by
  intro ρ s H σ x ds v us Q sr r1 r2 po
  unfold mtL at po
  cases x with
  | ref n =>
    dsimp only at po
    split at po
    · rename_i xs h1
      split at po
      · rename_i ys d h2
        rw [VR] at r1
        obtain ⟨_, rfl⟩ := r1
        obtain ⟨vs, hv, rv⟩ := sr.ob _ _ h1
        refine h ρ s.length H (ρ n) xs ds ys d vs us Q hv rv r2 h2 fun ws v rw1 rd => ?_
        have xw : Ext ρ s.length H ρ s.length (upd H (ρ n) (.lst ws)) := Ext.write (sr.ob _ _ h1) rfl
        refine po ρ _ v (by rw [List.length_set]; exact xw) (sr.write h1 rfl rfl ⟨_, upd_same, rw1.mono xw⟩) (by rw [List.length_set]; exact rd.mono xw)
      · exact po.elim
    · exact po.elim
  | _ => exact po.elim
def lAppend (xs ds : List D) : Option (List D × D) := match ds with
  | [d] => if xs.length < sizeLine then some (xs ++ [d], .non) else none
  | _ => none
theorem pm_append : PrM X W (mtL lAppend) rAppend := pm_L fun ρ n H a xs ds ys d vs us Q hv rv ru e q => by
  unfold lAppend at e
  split at e
  · rename_i x
    split at e
    · rename_i hl
      cases e
      obtain ⟨u, rfl, r1⟩ := ru.one
      exact ⟨a, vs, u, rfl, rfl, hv, by rw [rv.length]; exact hl, q _ _ (rv.append (VRs.cons r1 VRs.nil)) rfl⟩
    · cases e
  · cases e
theorem VRs.eraseIdx {K : PySem.W.Frag} {ρ : Nat → Addr} {n : Nat} {H : Hp} : ∀ {ds : List D} {vs : List V} (i : Nat), VRs K ρ n H ds vs → VRs K ρ n H (ds.eraseIdx i) (vs.eraseIdx i)
  | [], vs, i, r => by
    rw [VRs] at r
    subst r
    exact VRs.nil
  | d :: ds, vs, 0, r => by
    obtain ⟨v, vr, rfl, r1, r2⟩ := r.uncons
    exact r2
  | d :: ds, vs, i + 1, r => by
    obtain ⟨v, vr, rfl, r1, r2⟩ := r.uncons
    exact VRs.cons r1 (VRs.eraseIdx i r2)
def lPopAt (xs ds : List D) : Option (List D × D) := match ds with
  | [.int i] => if -(2 ^ 63) ≤ i ∧ i < 2 ^ 63 then (seqIndex? i xs.length).bind fun k => (xs[k]?).map fun d => (xs.eraseIdx k, d) else none
  | _ => none
theorem pm_popAt : PrM X W (mtL lPopAt) rPopAt := pm_L fun ρ n H a xs ds ys d vs us Q hv rv ru e q => by
  unfold lPopAt at e
  split at e
  · rename_i i
    split at e
    · rename_i hi
      obtain ⟨k, h1, e⟩ := Option.bind_eq_some_iff.mp e
      obtain ⟨z, h2, e⟩ := Option.map_eq_some_iff.mp e
      cases e
      obtain ⟨u, rfl, r1⟩ := ru.one
      obtain rfl : u = .int i := r1
      obtain ⟨v, hk, rk⟩ := rv.get h2
      exact ⟨a, vs, i, k, v, rfl, rfl, hv, hi.1, hi.2, by rw [rv.length]; exact h1, hk, q _ _ (rv.eraseIdx k) rk⟩
    · cases e
  · cases e
def lReverse (xs ds : List D) : Option (List D × D) := match ds with
  | [] => some (xs.reverse, .non)
  | _ => none
/-! ### texts -/
def strD : D → Option Str
  | .str x => some x
  | _ => none
theorem strs_of {K : PySem.W.Frag} {ρ : Nat → Addr} {n : Nat} {H : Hp} : ∀ {xs : List D} {vs : List V} {bs : List Str}, VRs K ρ n H xs vs → xs.mapM strD = some bs → vs = bs.map V.str
  | [], vs, bs, r, h => by
    rw [VRs] at r
    subst r
    simp at h
    subst h
    rfl
  | x :: xs, vs, bs, r, h => by
    obtain ⟨v, vr, rfl, r1, r2⟩ := r.uncons
    rw [List.mapM_cons] at h
    obtain ⟨b, h1, h⟩ := Option.bind_eq_some_iff.mp h
    obtain ⟨cs, h2, h⟩ := Option.bind_eq_some_iff.mp h
    cases h
    rw [strs_of r2 h2]
    cases x with
    | str b' =>
      cases h1
      obtain rfl : v = .str _ := r1
      rfl
    | _ => cases h1
def fJoin (x : D) (ds : List D) (s : Sto) : Rs D := match x, ds with
  | .str a, [d] => match (seqD s d).bind fun xs => xs.mapM strD with
    | some ys => if (ys.map (·.length)).sum + ys.length * a.length ≤ 16777216 then .ok (.str (Txt.join a ys)) s else .no
    | none => .no
  | _, _ => .no
def fSplit (x : D) (ds : List D) (s : Sto) : Rs D := match x, ds with
  | .str a, [.str b] => if (b.length == 0) = false ∧ a.length + 2 ≤ sizeLine then .ok (.ref s.length) (s ++ [.lst ((Txt.split a b).map D.str)]) else .no
  | _, _ => .no
/-! ### f-strings -/
def fFmt (d : D) (s : Sto) : Rs D := match d with
  | .str y => if y.length ≤ sizeLine then .ok (.str y) s else .no
  | .int i => if i.natAbs.log2 < 1920 then .ok (.str (toString i)) s else .no
  | _ => .no
variable {pos : Pos} {e : Expr} {m : EM D}
def mJs : List (EM D) → Str → Ev → Sto → Rs D
  | [], acc, _, s => .ok (.str acc) s
  | m :: ms, acc, e, s => (m e s).bind fun d s1 => match d with
    | .str y => if (acc ++ y).length ≤ sizeLine then mJs ms (acc ++ y) e s1 else .no
    | _ => .no
inductive JP (X : Cx) (W : WX) : List Expr → List (EM D) → Prop where
  | nil : JP X W [] []
  | cons {e : Expr} {m : EM D} {es : List Expr} {ms : List (EM D)} (h : JE X W e m) (r : JP X W es ms) : JP X W (e :: es) (m :: ms)
end
end Z

set_option Elab.async false
set_option linter.all false
set_option maxRecDepth 100000
set_option maxHeartbeats 4000000
namespace Z
open PySem PySem.Spec PyProof.Rows L2
variable [Row]

section
variable {X : Cx} {W : WX} {pos : Pos}
/-! ### further walks -/
def jEn (n : Nat) : Stp := fun i s => (lstAt s n).map fun xs => (xs[i]?).map fun d => .tup [.int i, d]
def jStr (x : Str) : Stp := fun i _ => some ((x.cps[i]?).map fun c => .str ⟨#[c]⟩)
def jZip (n m : Nat) : Stp := fun i s => match lstAt s n, lstAt s m with
  | some xs, some ys => some (match xs[i]?, ys[i]? with
    | some x, some y => some (.tup [x, y])
    | _, _ => none)
  | _, _ => none
def iEn (ms : EM (List D)) : EM (Nat × Stp) := fun e s => (ms e s).bind fun ds s1 => match ds with
  | [.ref n] => match lstAt s1 n with
    | some xs => .ok (xs.length, jEn n) s1
    | none => .no
  | _ => .no
def iSt (m : EM D) : EM (Nat × Stp) := fun e s => (m e s).bind fun d s1 => match d with
  | .str x => .ok (x.cps.size, jStr x) s1
  | _ => .no
def iZp (ms : EM (List D)) : EM (Nat × Stp) := fun e s => (ms e s).bind fun ds s1 => match ds with
  | [.ref n, .ref m] => match lstAt s1 n, lstAt s1 m with
    | some xs, some ys => .ok (xs.length, jZip n m) s1
    | _, _ => .no
  | _ => .no
theorem ri_en {ρ : Nat → Addr} {n m : Nat} {H : Hp} {N : Nat} (hm : m < n) : RI X.K X.mg ρ n H (N, jEn m) (Ite X.K (ρ m)) := by
  intro ρ' s' H' i e sr
  show match (lstAt s' m).map fun xs => (xs[i]?).map fun d => D.tup [.int i, d] with
    | none => True
    | some none => _
    | some (some d) => _
  cases h : lstAt s' m with
  | none => trivial
  | some xs =>
    obtain ⟨vs, sq, r⟩ := sr.lst h
    rw [e.ag m hm] at sq
    cases hx : xs[i]? with
    | none =>
      simp only [Option.map, hx]
      exact ⟨vs, sq, by rw [r.length]; exact List.getElem?_eq_none_iff.mp hx⟩
    | some d =>
      simp only [Option.map, hx]
      obtain ⟨v, hv, rv⟩ := r.get hx
      refine ⟨⟨vs, v, sq, hv⟩, fun x H'' y => ?_⟩
      obtain ⟨T, u, rfl, hT, rfl, y⟩ := y
      have q := y vs sq
      rw [hv] at q
      cases q
      exact new_tup sr hT (VRs.cons rfl (VRs.cons rv VRs.nil))
theorem ri_str {ρ : Nat → Addr} {n : Nat} {H : Hp} {N : Nat} {x : Str} : RI X.K X.mg ρ n H (N, jStr x) (Its x) := by
  intro ρ' s' H' i e sr
  show match some ((x.cps[i]?).map fun c => D.str ⟨#[c]⟩) with
    | none => True
    | some none => _
    | some (some d) => _
  cases hx : x.cps[i]? with
  | none =>
    simp only [Option.map]
    exact Array.getElem?_eq_none_iff.mp hx
  | some c =>
    simp only [Option.map]
    have hi : i < x.cps.size := (Array.getElem?_eq_some_iff.mp hx).1
    refine ⟨hi, fun v H'' y => ?_⟩
    obtain ⟨rfl, c', hc, rfl⟩ := y
    rw [hx] at hc
    cases hc
    exact ⟨Ext.refl, sr, rfl⟩
variable {tg e e2 : Expr} {ms : EM (List D)} {m : EM D} {p tpos : Pos} {elts : List Expr} {kk : Nat}
theorem ji_en (hg : Gl X "enumerate") (hm : X.mg "enumerate" = none) (ha : JA X W [e] ms) (hs : starEach [e] X.env = [(false, eval e X.env)] := by rfl) : JI X W (.Tuple elts kk tpos) (.Call (.Name "enumerate" p) [e] [] pos) (iEn ms) :=
  PI_imp (pi_enum hg hm ha hs) fun σ H Q ⟨ρ, env, s, sr, er, po⟩ => ⟨ρ, env, s, sr, er, (Po.bind po).imp fun v H1 ⟨ρ1, s1, d1, e1, sr1, r1, po1⟩ => by
    dsimp only at po1
    split at po1
    · rename_i n
      split at po1
      · rename_i xs hx
        obtain ⟨u, rfl, ru⟩ := r1.one
        rw [VR] at ru
        obtain ⟨hn, rfl⟩ := ru
        obtain ⟨vs, sq, rr⟩ := sr1.lst hx
        exact ⟨_, vs, rfl, sq, po1 ρ1 H1 _ Ext.refl sr1 (ri_en hn)⟩
      · exact po1.elim
    · exact po1.elim⟩
/-! ### int * int, list * int -/
def dMul2 (x y : D) (s : Sto) : Rs D := match x, y with
  | .int i, .int j => if cMul i j then .ok (.int (i * j)) s else .no
  | .ref n, .int k => match s[n]? with
    | some (.lst xs) => if (-(2 ^ 63) ≤ k ∧ k < 2 ^ 63) ∧ xs.length * k.toNat ≤ sizeLine then .ok (.ref s.length) (s ++ [.lst (List.replicate k.toNat xs).flatten]) else .no
    | _ => .no
  | _, _ => .no
def rMuls : R2 := fun x y H Q => rI CMul (fun i j => .int (i * j)) x y H Q ∨ rRep x y H Q
theorem op_muls : OpR X (binaryOp .Mult) rMuls := op_mul.or op_rep
theorem VRs.rep {K : PySem.W.Frag} {ρ : Nat → Addr} {n : Nat} {H : Hp} {ds : List D} {vs : List V} (r : VRs K ρ n H ds vs) : ∀ k : Nat, VRs K ρ n H (List.replicate k ds).flatten (List.replicate k vs).flatten
  | 0 => VRs.nil
  | k + 1 => by
    rw [List.replicate_succ, List.flatten_cons, List.replicate_succ, List.flatten_cons]
    exact r.append (VRs.rep r k)
theorem pr_mul2 : Pr2 X W dMul2 rMuls := by
  intro ρ s H σ x y vx vy Q sr r1 r2 po
  unfold dMul2 at po
  split at po
  · rename_i i j
    obtain ⟨hc, po⟩ := Po.ite po
    obtain rfl : vx = .int i := r1
    obtain rfl : vy = .int j := r2
    exact .inl ⟨i, j, rfl, rfl, hc, po ρ H _ Ext.refl sr rfl⟩
  · rename_i n k
    split at po
    · rename_i xs hx
      obtain ⟨⟨h1, h2⟩, po⟩ := Po.ite po
      rw [VR] at r1
      obtain ⟨_, rfl⟩ := r1
      obtain rfl : vy = .int k := r2
      obtain ⟨vs, hv, rv⟩ := sr.ob _ _ hx
      refine .inr ⟨_, k, vs, rfl, rfl, hv, h1.1, h1.2, by rw [rv.length]; exact h2, fun q hq => ?_⟩
      obtain ⟨x1, sr1, v1⟩ := new_lst sr hq (rv.rep k.toNat)
      exact po _ _ _ x1 sr1 v1
    · exact po.elim
  · exact po.elim
/-! ### isinstance with one built-in class -/
def tyN (s : Sto) : D → Option String
  | .non => some "NoneType"
  | .bl _ => some "bool"
  | .int _ => some "int"
  | .str _ => some "str"
  | .tup _ => some "tuple"
  | .ref n => match s[n]? with
    | some (.lst _) => some "list"
    | some (.frz _) => some "list"
    | some (.dict _ _) => some "dict"
    | _ => none
theorem tyN_ok {K : PySem.W.Frag} {mg : Str → Option Value} {ρ : Nat → Addr} {s : Sto} {H : Hp} (sr : SR K mg ρ s H) {d : D} {v : V} {t : String} (r : VR K ρ s.length H d v) (h : tyN s d = some t) : TyX K H v (.type t) := by
  cases d with
  | non =>
    cases h
    obtain rfl : v = .non := r
    exact .base .non
  | bl b =>
    cases h
    obtain rfl : v = .bl b := r
    exact .base (.bl b)
  | int b =>
    cases h
    obtain rfl : v = .int b := r
    exact .base (.int b)
  | str b =>
    cases h
    obtain rfl : v = .str b := r
    exact .base (.str b)
  | tup ds =>
    cases h
    rw [VR] at r
    obtain ⟨a, vs, rfl, sq, _⟩ := r
    rcases sq with (sq | ⟨o, sq⟩) | ⟨o, its, n, hk, hc, _⟩
    · exact .base (.tup sq)
    · exact .fTuple sq
    · exact .kTuple hk hc
  | ref n =>
    rw [VR] at r
    obtain ⟨_, rfl⟩ := r
    have h2 : (match s[n]? with
      | some (.lst _) => some "list"
      | some (.frz _) => some "list"
      | some (.dict _ _) => some "dict"
      | _ => none) = some t := h
    clear h
    split at h2
    · rename_i xs hx
      cases h2
      obtain ⟨vs, q, _⟩ := sr.ob _ _ hx
      exact .base (.lst q)
    · rename_i xs hx
      cases h2
      obtain ⟨vs, q, _⟩ := sr.ob _ _ hx
      rcases q with ⟨o, q⟩ | ⟨o, its, m, hk, hc, _⟩
      · exact .base (.frz q)
      · exact .kList hk hc
    · rename_i t kvs hx
      cases h2
      have ob := sr.ob _ _ hx
      cases t with
      | false =>
        obtain ⟨vs, q, _⟩ := ob
        exact .base (.dK q)
      | true =>
        obtain ⟨vs, q, _⟩ := ob
        exact .base (.dT q)
    · cases h2
def mIsi (T : String) (m : EM D) : EM D := fun e s => (m e s).bind fun d s1 => match tyN s1 d with
  | some a => match kitB a T with
    | some b => .ok (.bl b) s1
    | none => .no
  | none => .no
theorem je_isi {x : Str} {p1 p2 : Pos} {T : String} (hg : Gl X "isinstance") (hm : X.mg "isinstance" = none) (hg2 : Gl X x) (hm2 : X.mg x = none) (hv : bootBuiltins x = some (.type T)) (he : JE X W e m) (hn : x ≠ "__name__" := by decide) (hdb : (x == ("__debug__" : Str)) = false := by decide)
    (hs : starEach [e, .Name x p2] X.env = (false, eval e X.env) :: starEach [.Name x p2] X.env := by rfl) (hpl : (backTo pos (starEach [.Name x p2] X.env)).any (·.1) = false := by rfl) (hs2 : starEach [.Name x p2] X.env = (false, eval (.Name x p2) X.env) :: starEach [] X.env := by rfl) :
    JE X W (.Call (.Name "isinstance" p1) [e, .Name x p2] [] pos) (mIsi T m) := by
  refine PE_imp (pe_callB call_isi hg hm boot_isinstance (pa_cons he (pa_cons (pe_bltn (v := .ty T) hg2 hm2 hv rfl hn hdb) pa_nil hs2) hs) (he := hs) (hpl := hpl)) fun σ H Q ⟨ρ, env, s, sr, er, po⟩ => ⟨ρ, env, s, sr, er, (Po.bind po).imp fun v H1 ⟨ρ1, s1, d1, e1, sr1, r1, po1⟩ => ?_⟩
  dsimp only at po1
  split at po1
  · rename_i a ha
    split at po1
    · rename_i b hb
      exact ⟨v, .ty T, .type a, .type T, b, rfl, .ty T, tyN_ok sr1 r1 ha, kit_ty hb, po1 ρ1 H1 _ Ext.refl sr1 rfl⟩
    · exact po1.elim
  · exact po1.elim
/-! ### repr of data -/
def fRepr (ds : List D) (s : Sto) : Rs D := match ds with
  | [d] => match shp s d with
    | some p => if p.showable = true ∧ p.shown.length ≤ sizeLine then .ok (.str p.shown) s else .no
    | none => .no
  | _ => .no
def rReprD (K : PySem.W.Frag) : List V → Hp → VK → Prop := fun xs H Q => ∃ v p, xs = [v] ∧ Dp K H v p ∧ SeqAt.shaped p = true ∧ p.showable = true ∧ p.shown.length ≤ sizeLine ∧ Q (.str p.shown) H
theorem noDict_lay : (∀ d : PyData, d.canLay0 = true → d.hasDict = false) ∧ ∀ ds : List PyData, PyData.canLayAll0 ds = true → PyData.hasDictAll ds = false := by
  have h : ∀ n, (∀ d : PyData, sizeOf d < n → d.canLay0 = true → d.hasDict = false) ∧ ∀ ds : List PyData, sizeOf ds < n → PyData.canLayAll0 ds = true → PyData.hasDictAll ds = false := by
    intro n
    induction n with
    | zero => exact ⟨fun _ h => absurd h (Nat.not_lt_zero _), fun _ h => absurd h (Nat.not_lt_zero _)⟩
    | succ n ih =>
      refine ⟨fun d hd hl => ?_, fun ds hd hl => ?_⟩
      · cases d with
        | list xs =>
          rw [PyData.canLay0] at hl
          rw [PyData.hasDict]
          exact ih.2 xs (by simp at hd; omega) hl
        | tuple xs =>
          rw [PyData.canLay0] at hl
          rw [PyData.hasDict]
          exact ih.2 xs (by simp at hd; omega) hl
        | dict kvs => simp [PyData.canLay0] at hl
        | _ => rfl
      · cases ds with
        | nil => rfl
        | cons d ds =>
          rw [PyData.canLayAll0, Bool.and_eq_true] at hl
          rw [PyData.hasDictAll, ih.1 d (by simp at hd; omega) hl.1, ih.2 ds (by simp at hd; omega) hl.2]
          rfl
  exact ⟨fun d => (h _).1 d (Nat.lt_succ_self _), fun ds => (h _).2 ds (Nat.lt_succ_self _)⟩
theorem call_reprD (hg : X.A.guards = some []) (hu : X.A.units + 66 < cLine) : CallR X (.builtin "repr") (rReprD X.K) := by
  intro pins s σ H xs us Q I r h
  obtain ⟨v, p, rfl, dp, sh, hs, hz, q⟩ := h
  obtain ⟨u, rfl, ru⟩ := vals1 r
  cases dp with
  | non =>
    cases ru
    exact PySem.P.repr_of_none ⟨.str _, H, I.tok _, ⟨_, rfl⟩, q⟩
  | bl b =>
    cases ru
    refine PySem.P.repr_of_bool ⟨.str _, H, I.tok _, ⟨_, rfl⟩, ?_⟩
    cases b <;> exact q
  | int i =>
    obtain ⟨t, rfl⟩ := ru
    exact PySem.P.repr_of_int (of_decide_eq_true hs) ⟨.str _, H, I.tok _, ⟨_, rfl⟩, q⟩
  | str x =>
    obtain ⟨t, rfl⟩ := ru
    exact PySem.P.repr_of_str ⟨.str _, H, I.tok _, ⟨_, rfl⟩, q⟩ hz
  | lst sq ha =>
    obtain ⟨as, rd⟩ := Dp.reads I _ _ _ (Dp.lst sq ha) ru
    cases ru
    exact repr_of_reads' rd hs (PyData.noDict_hsm (noDict_lay.1 _ (SeqAt.canLay_of_shaped sh))) hg (by have := SeqAt.depth_of_shaped sh; omega) (fun _ _ e => e) (fun h' u tk kk => ⟨.str _, H, I.kept kk, ⟨_, rfl⟩, q⟩) hz
  | tup sq ha =>
    obtain ⟨as, rd⟩ := Dp.reads I _ _ _ (Dp.tup sq ha) ru
    cases ru
    exact repr_of_reads' rd hs (PyData.noDict_hsm (noDict_lay.1 _ (SeqAt.canLay_of_shaped sh))) hg (by have := SeqAt.depth_of_shaped sh; omega) (fun _ _ e => e) (fun h' u tk kk => ⟨.str _, H, I.kept kk, ⟨_, rfl⟩, q⟩) hz
theorem pn_repr : PrN X W fRepr (rReprD X.K) := by
  intro ρ s H σ xs vs Q sr r po
  unfold fRepr at po
  split at po
  · rename_i d
    obtain ⟨v, rfl, rv⟩ := r.one
    split at po
    · rename_i p hp
      obtain ⟨⟨h1, h2⟩, po⟩ := Po.ite po
      obtain ⟨a1, a2⟩ := shp_dp sr hp rv
      exact ⟨v, p, rfl, a1, a2, h1, h2, po ρ H _ Ext.refl sr rfl⟩
    · exact po.elim
  · exact po.elim
end
section
variable {X : Cx} {W : WX} {pos spos : Pos} {elt tg iter : Expr} {ifs : List Expr} {scope : Scope} {own : List (Str × Nat)} {mi : EM (Nat × Stp)} {g : GN} {is : List Nat} {t : EM Bool} {m : EM D} {i : Nat} {y : Str} {py : Pos}
/-- y = [..] on one line -/
theorem js_setLc {g' : TG} (hc : X.calm = true) (hN : X.N.Nodup) (hy : X.N[i]? = some y) (hyl : X.env.scope.names.lookup y = some .local)
    (hsw : swapsWith (.ListComp elt [⟨tg, iter, ifs, 0⟩] scope pos) (some (.Name y py)) spos.line X.env = pure true) (hi : JI X W tg iter mi) (ok : BlkOk X.N X.env.scope scope own) (his : ∀ i ∈ is, i ∈ own.map (·.2))
    (hg' : ∀ (s : Shared) (H : Hp) (C : Addr) (cl : List (Str × Addr)) (fp : List Addr), PG (X.blk s H scope (compEnvC scope cl C X.env) fp) tg g') (gq : GQ X.K g is g')
    (ht : ∀ (s : Shared) (H : Hp) (C : Addr) (cl : List (Str × Addr)) (fp : List Addr), PTs (X.blk s H scope (compEnvC scope cl C X.env) fp) ifs (lT X.K X.mg WF t))
    (he : ∀ (s : Shared) (H : Hp) (C : Addr) (cl : List (Str × Addr)) (fp : List Addr), JE (X.blk s H scope (compEnvC scope cl C X.env) fp) WF elt m) (hs : ∀ x, foldedSetIterable iter X.env x = pure x := by intro _; rfl) :
    JS X W (.Assign [.Name y py] (.ListComp elt [⟨tg, iter, ifs, 0⟩] scope pos) spos) (sA i (mL mi g t m (own.map (·.2)))) := by
  exact PS_imp (ps_setLc hc hN hy hyl hsw hi ok hg' ht he hs) fun σ H D ⟨ρ, env, s, sr, er, po⟩ =>
    llc (Q := fun x H1 => D.nx (σ.set i (some x)) H1) his gq (fun _ _ _ z => z) (fun _ _ _ z => z) ⟨ρ, env, s, sr, er, (PoS.st (R := VR X.K) er po).imp fun v H1 ⟨ρ1, s1, d1, e1, sr1, r1, er1, po1⟩ => po1 ρ1 H1 _ Ext.refl sr1 (er1.set r1)⟩
end
end Z

set_option Elab.async false
set_option linter.all false
set_option maxRecDepth 100000
set_option maxHeartbeats 4000000
namespace Z
open PySem PySem.Spec PyProof.Rows L2
variable [Row]

section
variable {X : Cx} {W : WX} {pos : Pos} {e : Expr} {m : EM D}
/-! ### truth -/
def trD (s : Sto) : D → Option Bool
  | .non => some false
  | .bl b => some b
  | .int i => some (i != 0)
  | .str y => if y.length ≤ sizeLine then some ((y.length : Int) != 0) else none
  | .tup xs => some (!xs.isEmpty)
  | .ref n => match s[n]? with
    | some (.lst xs) => some (!xs.isEmpty)
    | some (.frz xs) => some (!xs.isEmpty)
    | _ => none
theorem VRs.isEmpty {K : PySem.W.Frag} {ρ : Nat → Addr} {n : Nat} {H : Hp} {ds : List D} {vs : List V} (r : VRs K ρ n H ds vs) : ds.isEmpty = vs.isEmpty := by
  have := r.length
  cases ds <;> cases vs <;> first | rfl | simp at this
theorem trD_ok {K : PySem.W.Frag} {mg : Str → Option Value} {ρ : Nat → Addr} {s : Sto} {H : Hp} (sr : SR K mg ρ s H) {d : D} {v : V} {b : Bool} (r : VR K ρ s.length H d v) (h : trD s d = some b) : TruV K v H b := by
  cases d with
  | non =>
    cases h
    obtain rfl : v = .non := r
    rfl
  | bl c =>
    cases h
    obtain rfl : v = .bl b := r
    rfl
  | int c =>
    cases h
    obtain rfl : v = .int c := r
    rfl
  | str c =>
    obtain rfl : v = .str c := r
    have h2 : (if c.length ≤ sizeLine then some ((c.length : Int) != 0) else none) = some b := h
    clear h
    split at h2
    · rename_i hl
      cases h2
      exact ⟨hl, rfl⟩
    · cases h2
  | tup ds =>
    cases h
    rw [VR] at r
    obtain ⟨a, vs, rfl, sq, rr⟩ := r
    exact .inr (.inl ⟨vs, sq, by rw [rr.isEmpty]⟩)
  | ref n =>
    rw [VR] at r
    obtain ⟨_, rfl⟩ := r
    have h2 : (match s[n]? with
      | some (.lst xs) => some (!xs.isEmpty)
      | some (.frz xs) => some (!xs.isEmpty)
      | _ => none) = some b := h
    clear h
    split at h2
    · rename_i xs hx
      cases h2
      obtain ⟨vs, sq, rr⟩ := sr.lst (n := n) (xs := xs) (by unfold lstAt; rw [hx])
      exact .inl ⟨vs, sq, by rw [rr.isEmpty]⟩
    · rename_i xs hx
      cases h2
      obtain ⟨vs, sq, rr⟩ := sr.lst (n := n) (xs := xs) (by unfold lstAt; rw [hx])
      exact .inl ⟨vs, sq, by rw [rr.isEmpty]⟩
    · cases h2
def toT (m : EM D) : EM Bool := fun e s => (m e s).bind fun d s1 => match trD s1 d with
  | some b => .ok b s1
  | none => .no
theorem jt_tru (h : JE X W e m) (he : ∀ whole, isTrue e X.env whole = (do let v ← whole; standAt e.pos; holding [v] (truthy v)) := by intro _; rfl) : JT X W e (toT m) :=
  PT_imp (pt_truth h he) fun σ H Q ⟨ρ, env, s, sr, er, po⟩ => ⟨ρ, env, s, sr, er, (Po.bind po).imp fun v H1 ⟨ρ1, s1, d1, e1, sr1, r1, po1⟩ => by
    dsimp only at po1
    split at po1
    · rename_i b hb
      exact ⟨b, trD_ok sr1 r1 hb, po1 ρ1 H1 _ Ext.refl sr1 rfl⟩
    · exact po1.elim⟩
/-- a module's tuple -/
def TupC (K : PySem.W.Frag) (mg : Str → Option Value) (x : Str) (ds : List D) : Prop := ∃ a vs, mg x = some (.ref a) ∧ (∀ H, SqT K H a vs) ∧ (∀ ρ n H, VRs K ρ n H ds vs) ∧ ∃ o, K.lookup a = some o ∧ o.cls = .type "tuple" ∧ o.dict = none
theorem je_gt {x : Str} {ds : List D} (hg : Gl X x) (h : TupC X.K X.mg x ds) (hd : (x == ("__debug__" : Str)) = false := by decide) : JE X W (.Name x pos) (mC (.tup ds)) := by
  obtain ⟨a, vs, h1, h2, h3, -⟩ := h
  exact je_gtup hg h1 h2 h3 hd
end
/-! ### the head's facts: any check of the written part -/
theorem fnZ_fun {K : PySem.W.Frag} {d : He.DefD} {f : Addr} (e : fnZ K f = d.val) (c : okZ K f d.qual (d.dvs K) (d.kws K) = true) : ∃ fd, FunD K d.name d.qual d.params d.body d.scope (d.dvs K) (d.kws K) f fd := by
  obtain ⟨kp, c2⟩ := He.ba c
  unfold fnZ at e
  cases q : K.lookup f with
  | none => rw [q] at c2; cases c2
  | some o =>
    obtain ⟨oc, od, dt, osl⟩ := o
    rw [q] at c2 e
    cases dt with
    | func fd =>
      obtain ⟨n1, n2, n3, n4, n5, n6, n7, n8, n9, n10, n11, n12, n13, n14, n15⟩ := fd
      have e2 := Option.some.inj (show (some (n1, n2, n3, n4, n5, n6, n7, n15) : He.FnW) = some (d.name, d.qual, d.params, .stmts d.body, d.scope, mainGlobals, [], builtinsNs) from e)
      simp only [Prod.mk.injEq] at e2
      obtain ⟨rfl, rfl, rfl, rfl, rfl, rfl, rfl, rfl⟩ := e2
      obtain ⟨k1, k2⟩ := He.ba (show (PySem.W.codeIn K n13 d.qual && (He.dflB K n8 (d.dvs K) && He.kwdB K n9 (d.kws K))) = true from c2)
      exact ⟨_, ⟨oc, od, n8, n9, n10, n11, n12, n13, n14, osl, rfl, q, k1, He.dflB_ok (He.ba k2).1, He.kwdB_ok (He.ba k2).2⟩, kp⟩
    | _ => cases c2
section
variable {chk : PySem.W.Frag → Bool} {fn : List He.DefD} {K : PySem.W.Frag}
theorem SaysZ.ok_ (c : SaysZ chk fn K) : chk K = true := (He.ba (show (chk K && fn.all fun d => okZ K (fAz K d.at_) d.qual (d.dvs K) (d.kws K)) = true from congrArg (fun z : AlZ => z.1) c)).1
theorem SaysZ.defZ (c : SaysZ chk fn K) (i : Nat) {d : He.DefD} (h : fn[i]? = some d) : ∃ fd, FunD K d.name d.qual d.params d.body d.scope (d.dvs K) (d.kws K) (fAz K d.at_) fd := by
  have c2 := (He.ba (show (chk K && fn.all fun d => okZ K (fAz K d.at_) d.qual (d.dvs K) (d.kws K)) = true from congrArg (fun z : AlZ => z.1) c)).2
  have e2 : (fn.map fun d => fnZ K (fAz K d.at_))[i]? = (fn.map He.DefD.val)[i]? := by rw [show (fn.map fun d => fnZ K (fAz K d.at_)) = fn.map He.DefD.val from congrArg (fun z : AlZ => z.2) c]
  rw [List.getElem?_map, List.getElem?_map, h] at e2
  exact fnZ_fun (Option.some.inj e2) (List.all_eq_true.mp c2 d (List.mem_of_getElem? h))
theorem fAz_def {p : Str × Option Str} (h : isPm p = false) : fAz K p = He.fAd K p := by
  unfold fAz
  rw [h]
theorem SaysZ.def_ (c : SaysZ chk fn K) (i : Nat) {d : He.DefD} (h : fn[i]? = some d := by rfl) (hp : isPm d.at_ = false := by rfl) : ∃ fd, FunD K d.name d.qual d.params d.body d.scope (d.dvs K) (d.kws K) (He.fAd K d.at_) fd := by
  have := c.defZ i h
  rwa [fAz_def hp] at this
theorem tupN_ok {K : PySem.W.Frag} {x : Str} (h : tupN K x = true) : ∃ o, K.lookup (He.ga K x) = some o ∧ o.cls = .type "tuple" ∧ o.dict = none := by
  unfold tupN at h
  split at h
  · rename_i t _ _ e
    have h := of_decide_eq_true h
    subst h
    exact ⟨_, e, rfl, rfl⟩
  · cases h
theorem chk_fa {fa : List He.Fa} {ts : List (Str × List He.Dv)} (h : chkAll fa ts K = true) (i : Nat) {f : He.Fa} (e : fa[i]? = some f := by rfl) : f.ok K = true := List.all_eq_true.mp (He.ba h).1 f (List.mem_of_getElem? e)
def dvD : He.Dv → D
  | .non => .non
  | .bl b => .bl b
  | .int i => .int i
  | .str x => .str x
  | _ => .non
def plainDv : He.Dv → Bool
  | .non => true
  | .bl _ => true
  | .int _ => true
  | .str _ => true
  | _ => false
theorem vrs_dv {ρ : Nat → Addr} {n : Nat} {H : Hp} : ∀ ds : List He.Dv, ds.all plainDv = true → VRs K ρ n H (ds.map dvD) (ds.map (He.Dv.v K))
  | [], _ => VRs.nil
  | d :: ds, h => by
    rw [List.all_cons, Bool.and_eq_true] at h
    refine VRs.cons ?_ (vrs_dv ds h.2)
    cases d <;> first | rfl | cases h.1
theorem chk_tup {fa : List He.Fa} {ts : List (Str × List He.Dv)} (h : chkAll fa ts K = true) {hp : Heap} {mg : Str → Option Value} (X : K.In hp) (G : hp.Ns mainGlobals mg) (i j : Nat) {x : Str} {ds : List He.Dv} (e : ts[i]? = some (x, ds) := by rfl) (e2 : fa[j]? = some (.glo x) := by rfl) (hd : ds.all plainDv = true := by rfl) :
    TupC K mg x (ds.map dvD) :=
  ⟨He.ga K x, ds.map (He.Dv.v K), He.glo_ok X G (chk_fa h j e2), fun H => He.tupB_ok (He.ba (List.all_eq_true.mp (He.ba h).2 _ (List.mem_of_getElem? e))).1 H, fun ρ n H => vrs_dv ds hd, tupN_ok (He.ba (List.all_eq_true.mp (He.ba h).2 _ (List.mem_of_getElem? e))).2⟩
end
end Z

set_option Elab.async false
set_option linter.all false
set_option maxRecDepth 100000
set_option maxHeartbeats 4000000
namespace Z
open PySem PySem.Spec PyProof.Rows L2
variable [Row]
theorem hu64 {a c : Nat} (h : a + 100 < c) : a + 64 < c := by omega
theorem hu65 {a c : Nat} (h : a + 100 < c) : a + 65 < c := by omega
theorem hu66 {a c : Nat} (h : a + 100 < c) : a + 66 < c := by omega
section
variable {X : Cx} {W : WX}
theorem jts_nil : PTs X [] (lT X.K X.mg W tY) := ⟨fun _ _ _ H _ I ⟨ρ, env, s, sr, er, po⟩ => wpAny_tests_nil ⟨H, I, po ρ H true Ext.refl sr rfl⟩⟩
def dIsN2 (x y : D) (s : Sto) : Rs D := match y with | .non => dIsN false x s | _ => .no
def dNotN2 (x y : D) (s : Sto) : Rs D := match y with | .non => dIsN true x s | _ => .no
theorem pr_isN2 : Pr2 X W dIsN2 (fun x y H Q => y = .non ∧ Q (.bl (decide (x = .non))) H) := pr_isN
theorem pr_notN2 : Pr2 X W dNotN2 (fun x y H Q => y = .non ∧ Q (.bl (!decide (x = .non))) H) := pr_notN
end
end Z

set_option Elab.async false
set_option linter.all false
set_option maxRecDepth 100000
set_option maxHeartbeats 4000000
namespace Z
open PySem PySem.Spec PyProof.Rows L2
/-! ### what a mirror answers: weakest preconditions -/
/-- an equation that simp takes as a proof, not as a computation -/
theorem nr {α : Sort u} {a b : α} (h : a = b) : a = b := h
def NE : Str → Str → D → Sto → Prop := fun _ _ _ _ => False
def Rs.wp {α : Type} (r : Rs α) (P : α → Sto → Prop) (E : Str → Str → D → Sto → Prop := NE) : Prop := match r with
  | .ok a s => P a s
  | .ex c f v s => E c f v s
  | .no => False
structure En where
  nx : Ev → Sto → Prop
  rt : D → Sto → Prop
  bk : Ev → Sto → Prop := fun _ _ => False
  ct : Ev → Sto → Prop := fun _ _ => False
  ex : Str → Str → D → Ev → Sto → Prop := fun _ _ _ _ _ => False
def RS.wp (r : RS) (Q : En) : Prop := match r with
  | .nx e s => Q.nx e s
  | .rt d s => Q.rt d s
  | .bk e s => Q.bk e s
  | .ct e s => Q.ct e s
  | .ex c f v e s => Q.ex c f v e s
  | .no => False
section
variable {α β : Type} {P : α → Sto → Prop} {P' : β → Sto → Prop} {E : Str → Str → D → Sto → Prop} {Q : En} {e : Ev} {s : Sto} {r : Rs α}
@[simp ↓] theorem z_ok {a : α} : (Rs.ok a s).wp P E = P a s := nr rfl
@[simp ↓] theorem z_ex {c f : Str} {v : D} : (Rs.ex c f v s : Rs α).wp P E = E c f v s := nr rfl
@[simp ↓] theorem z_no : (Rs.no : Rs α).wp P E = False := nr rfl
theorem z_bind {k : α → Sto → Rs β} : (r.bind k).wp P' E = r.wp (fun a s => (k a s).wp P' E) E := by cases r <;> rfl
theorem z_st {k : α → Sto → RS} : (r.st e k).wp Q = r.wp (fun a s => (k a s).wp Q) (fun c f v s => Q.ex c f v e s) := by cases r <;> rfl
theorem z_seq {r : RS} {k : SM} : (r.seq k).wp Q = r.wp { Q with nx := fun e s => (k e s).wp Q } := by cases r <;> rfl
@[simp ↓] theorem z_nx : (RS.nx e s).wp Q = Q.nx e s := nr rfl
@[simp ↓] theorem z_rt {d : D} : (RS.rt d s).wp Q = Q.rt d s := nr rfl
@[simp ↓] theorem z_bk : (RS.bk e s).wp Q = Q.bk e s := nr rfl
@[simp ↓] theorem z_ct : (RS.ct e s).wp Q = Q.ct e s := nr rfl
@[simp ↓] theorem z_rex {c f : Str} {v : D} : (RS.ex c f v e s).wp Q = Q.ex c f v e s := nr rfl
@[simp ↓] theorem z_rno : (RS.no).wp Q = False := nr rfl
theorem z_fin {r : RS} {P : D → Sto → Prop} : (r.fin).wp P E = r.wp { nx := fun _ s => P .non s, rt := P, ex := fun c f v _ s => E c f v s } := by cases r <;> rfl
theorem z_nox {P : α → Sto → Prop} : (r.nox).wp P E = r.wp P NE := by cases r <;> rfl
theorem wp_mono {P2 : α → Sto → Prop} {E2 : Str → Str → D → Sto → Prop} (h : r.wp P E) (hP : ∀ a s, P a s → P2 a s) (hE : ∀ c f v s, E c f v s → E2 c f v s) : r.wp P2 E2 := by
  cases r with
  | ok a s => exact hP a s h
  | ex c f v s => exact hE c f v s h
  | no => exact h
/-- the wish kept apart -/
theorem wp_of {P : α → Sto → Prop} (h : ∀ P2 : α → Sto → Prop, (∀ a s, P a s → P2 a s) → r.wp P2 E) : r.wp P E := h P fun _ _ h => h
/-- no error came: whatever is asked of errors -/
theorem wp_ne {P2 : α → Sto → Prop} (h : r.wp P) (hP : ∀ a s, P a s → P2 a s) : r.wp P2 E := wp_mono h hP fun _ _ _ _ z => z.elim
theorem z_fnM {ps n : Nat} {m : SM} {ds : List D} {P : D → Sto → Prop} (h : ds.length = ps) : (fnM ps n m ds s).wp P E = (m (ds.map some ++ List.replicate (n - ds.length) none) s).wp { nx := fun _ s => P .non s, rt := P, ex := fun c f v _ s => E c f v s } := by
  unfold fnM
  rw [if_pos h, z_fin]
theorem RS.wp_mono {r : RS} {Q Q2 : En} (h : r.wp Q) (h1 : ∀ e s, Q.nx e s → Q2.nx e s) (h2 : ∀ e s, Q.rt e s → Q2.rt e s) (h3 : ∀ e s, Q.bk e s → Q2.bk e s) (h4 : ∀ e s, Q.ct e s → Q2.ct e s) (h5 : ∀ c f v e s, Q.ex c f v e s → Q2.ex c f v e s) : r.wp Q2 := by
  cases r with
  | nx e s => exact h1 e s h
  | rt d s => exact h2 d s h
  | bk e s => exact h3 e s h
  | ct e s => exact h4 e s h
  | ex c f v e s => exact h5 c f v e s h
  | no => exact h
end
theorem ok_of_wp {r : Rs D} {d : D} (h : r.wp fun a _ => a = d) : ∃ s', r = .ok d s' := by
  cases r with
  | ok a s =>
    have h : a = d := h
    exact ⟨s, by rw [h]⟩
  | ex c f v s => exact h.elim
  | no => exact h.elim
/-! ### for, comprehensions by an invariant -/
section
variable {j : Stp} {g : GN} {body : SM} {Q : En} {N : Nat}
/-- one round of a for -/
def ForStep (j : Stp) (g : GN) (body : SM) (Q : En) (I : Nat → Ev → Sto → Prop) (N i : Nat) (e : Ev) (s : Sto) : Prop :=
  (i = N → j i s = some none ∧ Q.nx e s) ∧ (i < N → ∃ d e1, j i s = some (some d) ∧ g d e = some e1 ∧ (body e1 s).wp { nx := I (i + 1), ct := I (i + 1), bk := Q.nx, rt := Q.rt, ex := Q.ex })
theorem forL_wp (I : Nat → Ev → Sto → Prop) (st : ∀ i e s, i ≤ N → I i e s → ForStep j g body Q I N i e s) : ∀ (f i : Nat) (e : Ev) (s : Sto), i + f = N → I i e s → (forL j g body f i e s).wp Q
  | 0, i, e, s, h, hi => by
    obtain ⟨h1, h2⟩ := (st i e s (by omega) hi).1 (by omega)
    unfold forL
    rw [h1]
    exact h2
  | f + 1, i, e, s, h, hi => by
    obtain ⟨d, e1, h1, h2, h3⟩ := (st i e s (by omega) hi).2 (by omega)
    unfold forL
    rw [h1]
    dsimp only
    rw [h2]
    dsimp only
    cases hb : body e1 s with
    | nx e2 s2 =>
      rw [hb] at h3
      exact forL_wp I st f (i + 1) e2 s2 (by omega) h3
    | ct e2 s2 =>
      rw [hb] at h3
      exact forL_wp I st f (i + 1) e2 s2 (by omega) h3
    | bk e2 s2 => rw [hb] at h3; exact h3
    | rt d s2 => rw [hb] at h3; exact h3
    | ex c f v e s => rw [hb] at h3; exact h3
    | no => rw [hb] at h3; exact h3
variable {t : EM Bool} {m : EM D} {P : D → Sto → Prop} {l : Nat}
def LcStep (j : Stp) (g : GN) (t : EM Bool) (m : EM D) (l : Nat) (I : Nat → List D → Sto → Prop) (N i : Nat) (acc : List D) (e : Ev) (s : Sto) : Prop :=
  (i = N → j i s = some none) ∧ (i < N → ∃ d e1, j i s = some (some d) ∧ g d e = some e1 ∧
    (t e1 s).wp fun q s1 => if q then (m e1 s1).wp fun y s2 => s2[l]? = some (.lst acc) ∧ acc.length < sizeLine ∧ I (i + 1) (acc ++ [y]) (s2.set l (.lst (acc ++ [y])))
      else s1[l]? = some (.lst acc) ∧ I (i + 1) acc s1)
theorem lcL_wp (I : Nat → List D → Sto → Prop) {e : Ev} (st : ∀ i acc s, i ≤ N → I i acc s → s[l]? = some (.lst acc) → LcStep j g t m l I N i acc e s) : ∀ (f i : Nat) (acc : List D) (s : Sto), i + f = N → I i acc s → s[l]? = some (.lst acc) →
    (lcL j g t m l f i e s).wp fun d s' => d = .ref l ∧ ∃ ys, s'[l]? = some (.lst ys) ∧ I N ys s'
  | 0, i, acc, s, h, hi, hl => by
    have h1 := (st i acc s (by omega) hi hl).1 (by omega)
    unfold lcL
    rw [h1]
    have e1 : i = N := by omega
    subst e1
    exact ⟨rfl, acc, hl, hi⟩
  | f + 1, i, acc, s, h, hi, hl => by
    obtain ⟨d, e1, h1, h2, h3⟩ := (st i acc s (by omega) hi hl).2 (by omega)
    unfold lcL
    rw [h1]
    dsimp only
    rw [h2]
    dsimp only
    rw [z_bind, z_nox]
    refine wp_mono h3 (fun q s1 h4 => ?_) fun _ _ _ _ z => z.elim
    cases q with
    | true =>
      rw [if_pos rfl] at h4 ⊢
      rw [z_bind, z_nox]
      refine wp_mono h4 (fun y s2 h5 => ?_) fun _ _ _ _ z => z.elim
      obtain ⟨h6, h7, h8⟩ := h5
      rw [h6]
      dsimp only
      rw [if_pos h7]
      have hl2 : l < s2.length := (List.getElem?_eq_some_iff.mp h6).1
      exact lcL_wp I st f (i + 1) _ _ (by omega) h8 (by rw [List.getElem?_set_self hl2])
    | false =>
      simp only [Bool.false_eq_true, ↓reduceIte] at h4 ⊢
      exact lcL_wp I st f (i + 1) _ _ (by omega) h4.2 h4.1
end
/-! ### what a piece of code leaves as it was -/
/-- the bags: lists of two whole numbers -/
def Bag (s : Sto) (k : Nat) : Prop := ∃ a b : Int, s[k]? = some (.lst [.int a, .int b])
/-- from s to t: only the bags ks are changed -/
structure Eff (ks : List Nat) (s t : Sto) : Prop where
  le : s.length ≤ t.length
  eq : ∀ i, i < s.length → i ∉ ks → t[i]? = s[i]?
  bag : ∀ k ∈ ks, Bag s k → Bag t k
theorem Eff.refl {ks : List Nat} {s : Sto} : Eff ks s s := ⟨Nat.le_refl _, fun _ _ _ => rfl, fun _ _ h => h⟩
theorem Bag.lt {s : Sto} {k : Nat} (h : Bag s k) : k < s.length := by
  obtain ⟨a, b, h⟩ := h
  exact (List.getElem?_eq_some_iff.mp h).1
theorem Eff.trans {ks : List Nat} {s t u : Sto} (h : Eff ks s t) (h2 : Eff ks t u) : Eff ks s u :=
  ⟨Nat.le_trans h.le h2.le, fun i hi hk => (h2.eq i (Nat.lt_of_lt_of_le hi h.le) hk).trans (h.eq i hi hk), fun k hk hb => h2.bag k hk (h.bag k hk hb)⟩
theorem Eff.sub {ks js : List Nat} {s t : Sto} (h : Eff ks s t) (hs : ∀ k ∈ ks, k ∈ js) : Eff js s t := ⟨h.le, fun i hi hk => h.eq i hi fun hm => hk (hs i hm), fun k hk hb => by
  by_cases hm : k ∈ ks
  · exact h.bag k hm hb
  · obtain ⟨a, b, e⟩ := hb
    exact ⟨a, b, by rw [h.eq k (List.getElem?_eq_some_iff.mp e).1 hm]; exact e⟩⟩
theorem Eff.nil {js : List Nat} {s t : Sto} (h : Eff [] s t) : Eff js s t := h.sub fun _ h => by simp at h
theorem Eff.push {ks : List Nat} {s : Sto} {o : SO} : Eff ks s (s ++ [o]) := ⟨by simp, fun i hi _ => List.getElem?_append_left hi, fun k _ hb => by
  obtain ⟨a, b, e⟩ := hb
  exact ⟨a, b, by rw [List.getElem?_append_left (List.getElem?_eq_some_iff.mp e).1]; exact e⟩⟩
/-- a place made since is written -/
theorem Eff.set {ks : List Nat} {s t : Sto} (h : Eff ks s t) {n : Nat} {o : SO} (hn : s.length ≤ n) : Eff ks s (t.set n o) :=
  ⟨by simpa using h.le, fun i hi hk => by rw [List.getElem?_set_ne (by omega)]; exact h.eq i hi hk, fun k hk hb => by
    have hlt := hb.lt
    obtain ⟨a, b, e⟩ := h.bag k hk hb
    exact ⟨a, b, by rw [List.getElem?_set_ne (by omega)]; exact e⟩⟩
theorem Eff.get {ks : List Nat} {s t : Sto} (h : Eff ks s t) {i : Nat} {o : SO} (e : s[i]? = some o) (hi : i ∉ ks) : t[i]? = some o := by
  rw [h.eq i (List.getElem?_eq_some_iff.mp e).1 hi]
  exact e
theorem Eff.lst {ks : List Nat} {s t : Sto} (h : Eff ks s t) {i : Nat} {xs : List D} (e : lstAt s i = some xs) (hi : i ∉ ks) : lstAt t i = some xs := by
  have hl : i < s.length := lstAt_lt e
  unfold lstAt at e ⊢
  rw [h.eq i hl hi]
  exact e
theorem Bag.lst {s : Sto} {k : Nat} (h : Bag s k) : ∃ a b : Int, s[k]? = some (.lst [.int a, .int b]) ∧ lstAt s k = some [.int a, .int b] := by
  obtain ⟨a, b, e⟩ := h
  exact ⟨a, b, e, by unfold lstAt; rw [e]⟩
end Z

set_option Elab.async false
set_option linter.all false
set_option maxRecDepth 100000
set_option maxHeartbeats 4000000
namespace Z
open PySem PySem.Spec PyProof.Rows L2
/-! ### the steps of a mirror, for simp: outermost first -/
section
variable {P : D → Sto → Prop} {PL : List D → Sto → Prop} {PB : Bool → Sto → Prop} {PO : Option Int → Sto → Prop} {PI : Nat × Stp → Sto → Prop} {E : Str → Str → D → Sto → Prop} {Q : En} {e : Ev} {s : Sto}
variable {a b c : EM D} {ms : EM (List D)} {t u : EM Bool} {i : Nat} {d x y : D} {f h : D → D → Sto → Rs D} {f1 : D → Sto → Rs D} {fN : List D → Sto → Rs D} {fM : D → List D → Sto → Rs D}
theorem z_ite {c : Prop} [Decidable c] {α : Type} {a b : Rs α} {P : α → Sto → Prop} : (if c then a else b).wp P E = if c then a.wp P E else b.wp P E := by split <;> rfl
theorem z_iteS {c : Prop} [Decidable c] {a b : RS} : (if c then a else b).wp Q = if c then a.wp Q else b.wp Q := by split <;> rfl
theorem z_iteN {c : Prop} [Decidable c] {α : Type} {a : Rs α} {P : α → Sto → Prop} : (if c then a else .no).wp P E = (c ∧ a.wp P E) := by
  by_cases h : c <;> simp [h, Rs.wp]
/-- the value in a slot -/
def slotP (o : Option (Option D)) (P : D → Prop) : Prop := match o with
  | some (some d) => P d
  | _ => False
@[simp ↓] theorem slotP_some {P : D → Prop} : slotP (some (some d)) P = P d := nr rfl
@[simp ↓] theorem slotP_none {P : D → Prop} : slotP (some none) P = False := nr rfl
@[simp ↓] theorem z_mV : (mV i e s).wp P E = slotP e[i]? fun d => P d s := by
  unfold mV slotP
  cases e[i]? with
  | none => rfl
  | some o => cases o <;> rfl
@[simp ↓] theorem z_mC : (mC d e s).wp P E = P d s := nr rfl
@[simp ↓] theorem z_m2 : (m2 f a b e s).wp P E = (a e s).wp (fun x s1 => (b e s1).wp (fun y s2 => (f x y s2).wp P E) E) E := by
  unfold m2; simp only [z_bind]
@[simp ↓] theorem z_m1 : (m1 f1 a e s).wp P E = (a e s).wp (fun x s1 => (f1 x s1).wp P E) E := by
  unfold m1; simp only [z_bind]
@[simp ↓] theorem z_mN : (mN fN ms e s).wp P E = (ms e s).wp (fun xs s1 => (fN xs s1).wp P E) E := by
  unfold mN; simp only [z_bind]
@[simp ↓] theorem z_aN : (aN e s).wp PL E = PL [] s := nr rfl
@[simp ↓] theorem z_aC : (aC a ms e s).wp PL E = (a e s).wp (fun x s1 => (ms e s1).wp (fun xs s2 => PL (x :: xs) s2) E) E := by
  unfold aC; simp only [z_bind, z_ok]
def blP (d : D) (P : Bool → Prop) : Prop := match d with
  | .bl b => P b
  | _ => False
@[simp ↓] theorem blP_bl {b : Bool} {P : Bool → Prop} : blP (.bl b) P = P b := nr rfl
@[simp ↓] theorem z_toB : (toB a e s).wp PB E = (a e s).wp (fun d s1 => blP d fun b => PB b s1) E := by
  unfold toB blP; simp only [z_bind]
  congr 1
  funext d s1
  cases d <;> rfl
@[simp] theorem trD_bl {q : Bool} : trD s (.bl q) = some q := rfl
@[simp] theorem trD_non : trD s .non = some false := rfl
@[simp] theorem trD_int {j : Int} : trD s (.int j) = some (j != 0) := rfl
@[simp] theorem trD_tup {xs : List D} : trD s (.tup xs) = some (!xs.isEmpty) := rfl
@[simp ↓] theorem z_toT : (toT a e s).wp PB E = (a e s).wp (fun d s1 => ∃ b, trD s1 d = some b ∧ PB b s1) E := by
  unfold toT; simp only [z_bind]
  congr 1
  funext d s1
  cases h : trD s1 d <;> simp [Rs.wp]
@[simp ↓] theorem z_bAnd : (bAnd t u e s).wp PB E = (t e s).wp (fun x s1 => if x then (u e s1).wp PB E else PB false s1) E := by
  unfold bAnd; simp only [z_bind, z_ite, z_ok]
@[simp ↓] theorem z_bOr : (bOr t u e s).wp PB E = (t e s).wp (fun x s1 => if x then PB true s1 else (u e s1).wp PB E) E := by
  unfold bOr; simp only [z_bind, z_ite, z_ok]
@[simp ↓] theorem z_bNot : (bNot t e s).wp PB E = (t e s).wp (fun x s1 => PB (!x) s1) E := by
  unfold bNot; simp only [z_bind, z_ok]
@[simp ↓] theorem z_tY : (tY e s).wp PB E = PB true s := nr rfl
@[simp ↓] theorem z_mIf : (mIf t a b e s).wp P E = (t e s).wp (fun x s1 => if x then (a e s1).wp P E else (b e s1).wp P E) E := by
  unfold mIf; simp only [z_bind, z_ite]
@[simp ↓] theorem z_mAnd : (mAnd a b e s).wp P E = (a e s).wp (fun d s1 => blP d fun q => if q then (b e s1).wp P E else P (.bl false) s1) E := by
  unfold mAnd blP; simp only [z_bind]
  congr 1
  funext d s1
  cases d with
  | bl q => cases q <;> rfl
  | _ => rfl
@[simp ↓] theorem z_mOr : (mOr a b e s).wp P E = (a e s).wp (fun d s1 => blP d fun q => if q then P (.bl true) s1 else (b e s1).wp P E) E := by
  unfold mOr blP; simp only [z_bind]
  congr 1
  funext d s1
  cases d with
  | bl q => cases q <;> rfl
  | _ => rfl
@[simp ↓] theorem z_mNot : (mNot a e s).wp P E = (a e s).wp (fun d s1 => blP d fun q => P (.bl (!q)) s1) E := by
  unfold mNot blP; simp only [z_bind]
  congr 1
  funext d s1
  cases d <;> rfl
@[simp ↓] theorem z_mCh : (mCh f h a b c e s).wp P E = (a e s).wp (fun x s1 => (b e s1).wp (fun y s2 => (f x y s2).wp (fun z s3 => blP z fun q => if q then (c e s3).wp (fun w s4 => (h y w s4).wp P E) E else P (.bl false) s3) E) E) E := by
  unfold mCh blP; simp only [z_bind]
  congr 1
  funext d s1
  congr 1
  funext d2 s2
  congr 1
  funext d3 s3
  cases d3 with
  | bl q =>
    cases q with
    | false => rfl
    | true => simp only [z_bind]; rfl
  | _ => rfl
@[simp ↓] theorem z_mBM {T : String} : (mBM T fM a ms e s).wp P E = (a e s).wp (fun x s1 => isTy T s1 x = true ∧ (ms e s1).wp (fun xs s2 => (fM x xs s2).wp P E) E) E := by
  unfold mBM; simp only [z_bind, z_iteN]
@[simp ↓] theorem z_oN : (oN e s).wp PO E = PO none s := nr rfl
def intP (d : D) (P : Int → Prop) : Prop := match d with
  | .int i => P i
  | _ => False
@[simp ↓] theorem intP_int {j : Int} {P : Int → Prop} : intP (.int j) P = P j := nr rfl
@[simp ↓] theorem z_oS : (oS a e s).wp PO E = (a e s).wp (fun d s1 => intP d fun i => PO (some i) s1) E := by
  unfold oS intP; simp only [z_bind]
  congr 1
  funext d s1
  cases d <;> rfl
@[simp ↓] theorem z_mSl {fS : D → Option Int → Option Int → Sto → Rs D} {l k : EM (Option Int)} : (mSl fS a l k e s).wp P E = (a e s).wp (fun x s1 => (l e s1).wp (fun lo s2 => (k e s2).wp (fun hi s3 => (fS x lo hi s3).wp P E) E) E) E := by
  unfold mSl; simp only [z_bind]
@[simp ↓] theorem z_fTup {ds : List D} : (fTup ds s).wp P E = (ds.length ≤ sizeLine ∧ P (.tup ds) s) := by
  unfold fTup; rw [z_iteN, z_ok]
@[simp ↓] theorem z_fLst {ds : List D} : (fLst ds s).wp P E = (ds.length ≤ sizeLine ∧ P (.ref s.length) (s ++ [.lst ds])) := by
  unfold fLst; rw [z_iteN, z_ok]
/-! statements -/
variable {A B : SM} {g : GN} {mi : EM (Nat × Stp)}
@[simp ↓] theorem z_sN : (sN e s).wp Q = Q.nx e s := nr rfl
@[simp ↓] theorem z_sNo : (sNo e s).wp Q = False := nr rfl
@[simp ↓] theorem z_sC : (sC A B e s).wp Q = (A e s).wp { nx := fun e s => (B e s).wp Q, rt := Q.rt, bk := Q.bk, ct := Q.ct, ex := Q.ex } := by
  unfold sC; rw [z_seq]
/-- what comes next, not yet looked at -/
def nxt (B : SM) (Q : En) : Ev → Sto → Prop := fun e s => (B e s).wp Q
theorem z_sCn : (sC A B e s).wp Q = (A e s).wp { nx := nxt B Q, rt := Q.rt, bk := Q.bk, ct := Q.ct, ex := Q.ex } := z_sC
theorem z_nxt : nxt B Q e s = (B e s).wp Q := rfl
theorem z_nxC {B2 : SM} : nxt (sC B B2) Q e s = (B e s).wp { nx := nxt B2 Q, rt := Q.rt, bk := Q.bk, ct := Q.ct, ex := Q.ex } := z_sCn
@[simp ↓] theorem z_sA : (sA i a e s).wp Q = (a e s).wp (fun d s1 => Q.nx (e.set i (some d)) s1) (fun c f v s => Q.ex c f v e s) := by
  unfold sA; rw [z_st]; rfl
@[simp ↓] theorem z_sE : (sE a e s).wp Q = (a e s).wp (fun _ s1 => Q.nx e s1) (fun c f v s => Q.ex c f v e s) := by
  unfold sE; rw [z_st]; rfl
@[simp ↓] theorem z_sR : (sR a e s).wp Q = (a e s).wp (fun d s1 => Q.rt d s1) (fun c f v s => Q.ex c f v e s) := by
  unfold sR; rw [z_st]; rfl
@[simp ↓] theorem z_sR0 : (sR0 e s).wp Q = Q.rt .non s := nr rfl
@[simp ↓] theorem z_sI : (sI t A B e s).wp Q = (t e s).wp (fun q s1 => if q then (A e s1).wp Q else (B e s1).wp Q) (fun c f v s => Q.ex c f v e s) := by
  unfold sI; rw [z_st]; simp only [z_iteS]
def evP (o : Option Ev) (P : Ev → Prop) : Prop := match o with
  | some e => P e
  | none => False
@[simp ↓] theorem evP_some {e : Ev} {P : Ev → Prop} : evP (some e) P = P e := nr rfl
@[simp ↓] theorem z_sG : (sG g a e s).wp Q = (a e s).wp (fun d s1 => evP (g d e) fun e' => Q.nx e' s1) (fun c f v s => Q.ex c f v e s) := by
  unfold sG evP; rw [z_st]
  congr 1
  funext d s1
  cases g d e <;> rfl
def twoP (ds : List D) (P : D → D → Prop) : Prop := match ds with
  | [x, y] => P x y
  | _ => False
@[simp ↓] theorem twoP_two {P : D → D → Prop} : twoP [x, y] P = P x y := nr rfl
@[simp ↓] theorem z_sP {j : Nat} : (sP i j ms e s).wp Q = (ms e s).wp (fun ds s1 => twoP ds fun x y => Q.nx ((e.set i (some x)).set j (some y)) s1) (fun c f v s => Q.ex c f v e s) := by
  unfold sP; rw [z_st]
  congr 1
  funext d s1
  match d with
  | [] => rfl
  | [_] => rfl
  | [_, _] => rfl
  | _ :: _ :: _ :: _ => rfl
def stoP (o : Option Sto) (P : Sto → Prop) : Prop := match o with
  | some e => P e
  | none => False
@[simp ↓] theorem stoP_some {P : Sto → Prop} : stoP (some s) P = P s := nr rfl
@[simp ↓] theorem z_sX {fX : D → D → D → Sto → Option Sto} : (sX fX a b c e s).wp Q = (c e s).wp (fun x s1 => (a e s1).wp (fun o s2 => (b e s2).wp (fun i s3 => stoP (fX o i x s3) fun s4 => Q.nx e s4) (fun c f v s => Q.ex c f v e s)) (fun c f v s => Q.ex c f v e s)) (fun c f v s => Q.ex c f v e s) := by
  unfold sX stoP; simp only [z_st]
  congr 1
  funext d s1
  congr 1
  funext d2 s2
  congr 1
  funext d3 s3
  cases fX d2 d3 d s3 <;> rfl
@[simp ↓] theorem z_sF : (sF mi g A e s).wp Q = (mi e s).wp (fun jt s1 => (forL jt.2 g A jt.1 0 e s1).wp Q) (fun c f v s => Q.ex c f v e s) := by
  unfold sF; rw [z_st]
@[simp ↓] theorem z_mL {vs : List Nat} : (mL mi g t a vs e s).wp P E = (mi e s).wp (fun jt s1 => (lcL jt.2 g t a s1.length jt.1 0 (wipeD e vs) (s1 ++ [.lst []])).wp P E) E := by
  unfold mL; rw [z_bind]
/-- a list's items at a place -/
def lstP (o : Option (List D)) (P : List D → Prop) : Prop := match o with
  | some xs => P xs
  | none => False
@[simp ↓] theorem lstP_some {xs : List D} {P : List D → Prop} : lstP (some xs) P = P xs := nr rfl
/-- a list that may be written -/
def mlAt (s : Sto) (n : Nat) : Option (List D) := match s[n]? with
  | some (.lst xs) => some xs
  | _ => none
@[simp ↓] theorem z_setL {n : Nat} {j : Int} {PS : Sto → Prop} : stoP (xSetL (.ref n) (.int j) x s) PS = lstP (mlAt s n) fun xs => ∃ k, ixN xs.length j = some k ∧ PS (s.set n (.lst (xs.set k x))) := by
  unfold xSetL mlAt
  dsimp only
  cases h : s[n]? with
  | none => rfl
  | some o =>
    cases o with
    | lst xs =>
      dsimp only [lstP]
      cases ixN xs.length j <;> simp [stoP]
    | _ => rfl
/-! targets -/
@[simp ↓] theorem z_gN : gN i d e = some (e.set i (some d)) := nr rfl
@[simp ↓] theorem z_gT {gs : List GN} {ds : List D} : gT gs (.tup ds) e = gTs gs ds e := nr rfl
@[simp ↓] theorem z_gTs0 : gTs [] [] e = some e := nr rfl
@[simp ↓] theorem z_gTsC {gs : List GN} {ds : List D} : gTs (g :: gs) (d :: ds) e = (g d e).bind fun e' => gTs gs ds e' := nr rfl
@[simp ↓] theorem z_wipe0 : wipeD e [] = e := nr rfl
@[simp ↓] theorem z_wipeC {vs : List Nat} : wipeD e (i :: vs) = (wipeD e vs).set i none := nr rfl
/-! iterables -/
@[simp ↓] theorem z_iR1 : (iR1 ms e s).wp PI E = (ms e s).wp (fun ds s1 => ∃ j, ds = [.int j] ∧ (-(2 ^ 62) ≤ j ∧ j < 2 ^ 62) ∧ PI (j.toNat, jRng 0 j.toNat) s1) E := by
  unfold iR1; rw [z_bind]
  congr 1
  funext ds s1
  split
  · rename_i j
    rw [z_iteN, z_ok]
    simp
  · rename_i hn
    simp only [z_no, eq_iff_iff, false_iff, not_exists]
    intro j hj
    exact hn j hj.1
@[simp ↓] theorem z_iR2 : (iR2 ms e s).wp PI E = (ms e s).wp (fun ds s1 => ∃ i j, ds = [.int i, .int j] ∧ (-(2 ^ 62) ≤ i ∧ i < 2 ^ 62 ∧ -(2 ^ 62) ≤ j ∧ j < 2 ^ 62) ∧ PI ((j - i).toNat, jRng i (j - i).toNat) s1) E := by
  unfold iR2; rw [z_bind]
  congr 1
  funext ds s1
  split
  · rename_i i j
    rw [z_iteN, z_ok]
    simp only [eq_iff_iff]
    constructor
    · intro h; exact ⟨i, j, rfl, h⟩
    · rintro ⟨i', j', h1, h2⟩
      cases h1
      exact h2
  · rename_i hn
    simp only [z_no, eq_iff_iff, false_iff, not_exists]
    intro i j hj
    exact hn i j hj.1
@[simp ↓] theorem z_iSq : (iSq a e s).wp PI E = (a e s).wp (fun d s1 => match d with | .tup ds => PI (ds.length, jTup ds) s1 | .ref n => lstP (lstAt s1 n) fun xs => PI (xs.length, jLst n) s1 | _ => False) E := by
  unfold iSq; rw [z_bind]
  congr 1
  funext d s1
  cases d with
  | ref n =>
    dsimp only
    unfold lstAt lstP
    split <;> simp_all [Rs.wp]
  | _ => rfl
@[simp ↓] theorem z_iSt : (iSt a e s).wp PI E = (a e s).wp (fun d s1 => match d with | .str x => PI (x.cps.size, jStr x) s1 | _ => False) E := by
  unfold iSt; rw [z_bind]
  congr 1
  funext d s1
  cases d <;> rfl
@[simp ↓] theorem z_iEn : (iEn ms e s).wp PI E = (ms e s).wp (fun ds s1 => ∃ n, ds = [.ref n] ∧ lstP (lstAt s1 n) fun xs => PI (xs.length, jEn n) s1) E := by
  unfold iEn; rw [z_bind]
  congr 1
  funext ds s1
  split
  · rename_i n
    simp only [List.cons.injEq, D.ref.injEq, and_true, exists_eq_left']
    unfold lstP
    cases lstAt s1 n <;> rfl
  · rename_i hn
    simp only [z_no, eq_iff_iff, false_iff, not_exists]
    intro n hj
    exact hn n hj.1
@[simp ↓] theorem z_iZp : (iZp ms e s).wp PI E = (ms e s).wp (fun ds s1 => ∃ n m, ds = [.ref n, .ref m] ∧ lstP (lstAt s1 n) fun xs => lstP (lstAt s1 m) fun ys => PI (xs.length, jZip n m) s1) E := by
  unfold iZp; rw [z_bind]
  congr 1
  funext ds s1
  split
  · rename_i n m
    simp only [eq_iff_iff]
    constructor
    · intro h
      refine ⟨n, m, rfl, ?_⟩
      unfold lstP
      cases h1 : lstAt s1 n <;> cases h2 : lstAt s1 m <;> rw [h1, h2] at h <;> first | exact h | exact h.elim
    · rintro ⟨n', m', h1, h2⟩
      cases h1
      unfold lstP at h2
      cases h3 : lstAt s1 n <;> rw [h3] at h2 <;> first | exact h2.elim | skip
      cases h4 : lstAt s1 m <;> rw [h4] at h2 <;> first | exact h2.elim | exact h2
  · rename_i hn
    simp only [z_no, eq_iff_iff, false_iff, not_exists]
    intro n m hj
    exact hn n m hj.1
/-! primitives on what is known of them -/
theorem z_int {C : Int → Int → Prop} [∀ i j, Decidable (C i j)] {g : Int → Int → D} {i j : Int} : (dIc C g (.int i) (.int j) s).wp P E = (C i j ∧ P (g i j) s) := by
  show (if C i j then Rs.ok (g i j) s else Rs.no).wp P E = _
  rw [z_iteN, z_ok]
@[simp ↓] theorem z_sub {i j : Int} : (dSub (.int i) (.int j) s).wp P E = P (.int (i - j)) s := nr rfl
@[simp ↓] theorem z_lt {i j : Int} : (dLt (.int i) (.int j) s).wp P E = P (.bl (decide (i < j))) s := nr rfl
@[simp ↓] theorem z_le {i j : Int} : (dLe (.int i) (.int j) s).wp P E = P (.bl (decide (i ≤ j))) s := nr rfl
@[simp ↓] theorem z_gt {i j : Int} : (dGt (.int i) (.int j) s).wp P E = P (.bl (decide (j < i))) s := nr rfl
@[simp ↓] theorem z_ge {i j : Int} : (dGe (.int i) (.int j) s).wp P E = P (.bl (decide (j ≤ i))) s := nr rfl
@[simp ↓] theorem z_mul {i j : Int} : (dMul2 (.int i) (.int j) s).wp P E = (cMul i j ∧ P (.int (i * j)) s) := by
  show (if cMul i j then Rs.ok (D.int (i * j)) s else Rs.no).wp P E = _
  rw [z_iteN, z_ok]
@[simp ↓] theorem z_div {i j : Int} : (dDiv (.int i) (.int j) s).wp P E = ((0 < j ∧ j < 1073741824) ∧ P (.int (i / j)) s) := z_int
@[simp ↓] theorem z_mod {i j : Int} : (dMod (.int i) (.int j) s).wp P E = (0 < j ∧ P (.int (i % j)) s) := z_int
@[simp ↓] theorem z_pow {i j : Int} : (dPow (.int i) (.int j) s).wp P E = (cPow i j ∧ P (.int (i ^ j.toNat)) s) := z_int
@[simp ↓] theorem z_neg {i : Int} : (dNeg (.int i) s).wp P E = P (.int (-i)) s := nr rfl
@[simp ↓] theorem z_addI {i j : Int} : (dAdd (.int i) (.int j) s).wp P E = P (.int (i + j)) s := nr rfl
@[simp ↓] theorem z_addS {i j : Str} : (dAdd (.str i) (.str j) s).wp P E = (i.length + j.length ≤ sizeLine ∧ P (.str (i ++ j)) s) := by
  show (if _ then _ else _ : Rs D).wp P E = _
  rw [z_iteN, z_ok]
@[simp ↓] theorem z_addT {i j : List D} : (dAdd (.tup i) (.tup j) s).wp P E = (i.length + j.length ≤ sizeLine ∧ P (.tup (i ++ j)) s) := by
  show (if _ then _ else _ : Rs D).wp P E = _
  rw [z_iteN, z_ok]
@[simp ↓] theorem z_addL {n m : Nat} : (dAdd (.ref n) (.ref m) s).wp P E = lstP (mlAt s n) fun xs => lstP (mlAt s m) fun ys => xs.length + ys.length ≤ sizeLine ∧ P (.ref s.length) (s ++ [.lst (xs ++ ys)]) := by
  unfold dAdd mlAt lstP
  dsimp only
  cases s[n]? with
  | none => rfl
  | some o =>
    cases o with
    | lst xs =>
      cases s[m]? with
      | none => rfl
      | some o2 =>
        cases o2 with
        | lst ys => exact z_iteN
        | _ => rfl
    | _ => rfl
@[simp ↓] theorem z_fIntI {j : Int} : (fInt [.int j] s).wp P E = P (.int j) s := nr rfl
@[simp ↓] theorem z_fAbs {j : Int} : (fAbs [.int j] s).wp P E = P (.int (if j < 0 then -j else j)) s := nr rfl
@[simp ↓] theorem z_fMax {i j : Int} : (fMax2 [.int i, .int j] s).wp P E = P (.int (if j > i then j else i)) s := nr rfl
@[simp ↓] theorem z_fMin {i j : Int} : (fMin2 [.int i, .int j] s).wp P E = P (.int (if j < i then j else i)) s := nr rfl
@[simp ↓] theorem z_lenS {x : Str} : (fLen [.str x] s).wp P E = (x.length ≤ sizeLine ∧ P (.int x.length) s) := by
  show (if _ then _ else _ : Rs D).wp P E = _
  rw [z_iteN, z_ok]
@[simp ↓] theorem z_lenT {xs : List D} : (fLen [.tup xs] s).wp P E = P (.int xs.length) s := nr rfl
@[simp ↓] theorem z_lenL {n : Nat} : (fLen [.ref n] s).wp P E = lstP (lstAt s n) fun xs => P (.int xs.length) s := by
  unfold fLen seqD lstP
  dsimp only
  cases lstAt s n <;> rfl
@[simp ↓] theorem z_tupT {xs : List D} : (fTuple [.tup xs] s).wp P E = P (.tup xs) s := nr rfl
@[simp ↓] theorem z_tupL {n : Nat} : (fTuple [.ref n] s).wp P E = lstP (lstAt s n) fun xs => P (.tup xs) s := by
  unfold fTuple seqD lstP
  dsimp only
  cases lstAt s n <;> rfl
@[simp ↓] theorem z_listT {xs : List D} : (fList [.tup xs] s).wp P E = (xs.length ≤ sizeLine ∧ P (.ref s.length) (s ++ [.lst xs])) := by
  show (if _ then _ else _ : Rs D).wp P E = _
  rw [z_iteN, z_ok]
@[simp ↓] theorem z_listL {n : Nat} : (fList [.ref n] s).wp P E = lstP (lstAt s n) fun xs => xs.length ≤ sizeLine ∧ P (.ref s.length) (s ++ [.lst xs]) := by
  unfold fList seqD lstP
  dsimp only
  cases lstAt s n with
  | none => rfl
  | some xs => exact z_iteN
def datP (o : Option D) (P : D → Prop) : Prop := match o with
  | some d => P d
  | none => False
@[simp ↓] theorem datP_some {P : D → Prop} : datP (some d) P = P d := nr rfl
@[simp ↓] theorem z_ixT {xs : List D} {j : Int} : (dIx (.tup xs) (.int j) s).wp P E = datP (atI xs j) fun d => P d s := by
  unfold dIx seqD datP
  dsimp only
  cases atI xs j <;> rfl
@[simp ↓] theorem z_ixL {n : Nat} {j : Int} : (dIx (.ref n) (.int j) s).wp P E = lstP (lstAt s n) fun xs => datP (atI xs j) fun d => P d s := by
  unfold dIx seqD datP lstP
  dsimp only
  cases lstAt s n with
  | none => rfl
  | some xs => dsimp only; cases atI xs j <;> rfl
@[simp ↓] theorem z_ixS {x : Str} {j : Int} : (dIx (.str x) (.int j) s).wp P E = (x.length ≤ sizeLine ∧ ∃ c, atI x.cps.toList j = some c ∧ P (.str ⟨#[c]⟩) s) := by
  unfold dIx
  dsimp only
  rw [z_iteN]
  cases atI x.cps.toList j <;> simp [Rs.wp]
@[simp ↓] theorem z_slS {x : Str} {lo hi : Option Int} : (dSl (.str x) lo hi s).wp P E = (x.length ≤ sizeLine ∧ P (.str (cutS x lo hi)) s) := by
  show (if _ then _ else _ : Rs D).wp P E = _
  rw [z_iteN, z_ok]
@[simp ↓] theorem z_slT {xs : List D} {lo hi : Option Int} : (dSl (.tup xs) lo hi s).wp P E = P (.tup (cutD xs lo hi)) s := nr rfl
@[simp ↓] theorem z_slL {n : Nat} {lo hi : Option Int} : (dSl (.ref n) lo hi s).wp P E = lstP (lstAt s n) fun xs => P (.ref s.length) (s ++ [.lst (cutD xs lo hi)]) := by
  unfold dSl lstP
  dsimp only
  cases lstAt s n <;> rfl
@[simp ↓] theorem z_append {n : Nat} : (mtL lAppend (.ref n) [d] s).wp P E = lstP (mlAt s n) fun xs => xs.length < sizeLine ∧ P .non (s.set n (.lst (xs ++ [d]))) := by
  unfold mtL lAppend mlAt lstP
  dsimp only
  cases s[n]? with
  | none => rfl
  | some o =>
    cases o with
    | lst xs =>
      dsimp only
      by_cases q : xs.length < sizeLine <;> simp [q, Rs.wp]
    | _ => rfl
@[simp ↓] theorem z_fmtS {x : Str} : (fFmt (.str x) s).wp P E = (x.length ≤ sizeLine ∧ P (.str x) s) := by
  show (if _ then _ else _ : Rs D).wp P E = _
  rw [z_iteN, z_ok]
@[simp ↓] theorem z_js0 {acc : Str} : (mJs [] acc e s).wp P E = P (.str acc) s := nr rfl
def strP (d : D) (P : Str → Prop) : Prop := match d with
  | .str x => P x
  | _ => False
@[simp ↓] theorem strP_str {x : Str} {P : Str → Prop} : strP (.str x) P = P x := nr rfl
@[simp ↓] theorem z_jsC {r : List (EM D)} {acc : Str} : (mJs (a :: r) acc e s).wp P E = (a e s).wp (fun d s1 => strP d fun y => (acc ++ y).length ≤ sizeLine ∧ (mJs r (acc ++ y) e s1).wp P E) E := by
  rw [mJs]
  unfold strP
  rw [z_bind]
  congr 1
  funext d s1
  cases d with
  | str y => dsimp only; rw [z_iteN]
  | _ => rfl
theorem z_join {x : Str} : (fJoin (.str x) [d] s).wp P E = ∃ xs ys, seqD s d = some xs ∧ xs.mapM strD = some ys ∧ (ys.map (·.length)).sum + ys.length * x.length ≤ 16777216 ∧ P (.str (Txt.join x ys)) s := by
  unfold fJoin
  dsimp only
  cases h : seqD s d with
  | none => simp [Rs.wp]
  | some xs =>
    simp only [Option.bind_some, Option.some.injEq, exists_and_left, exists_eq_left']
    cases h2 : xs.mapM strD with
    | none => simp [Rs.wp]
    | some ys => simp [z_iteN, z_ok]
@[simp ↓] theorem z_split {x y : Str} : (fSplit (.str x) [.str y] s).wp P E = (((y.length == 0) = false ∧ x.length + 2 ≤ sizeLine) ∧ P (.ref s.length) (s ++ [.lst ((Txt.split x y).map D.str)])) := by
  show (if _ then _ else _ : Rs D).wp P E = _
  rw [z_iteN, z_ok]
theorem z_isi {T : String} : (mIsi T a e s).wp P E = (a e s).wp (fun d s1 => ∃ n b, tyN s1 d = some n ∧ kitB n T = some b ∧ P (.bl b) s1) E := by
  unfold mIsi
  rw [z_bind]
  congr 1
  funext d s1
  cases h : tyN s1 d with
  | none => simp [Rs.wp]
  | some n =>
    simp only [Option.some.injEq, exists_and_left, exists_eq_left']
    cases h2 : kitB n T <;> simp [Rs.wp]
theorem z_all {n : Nat} {q : Bool} : (fAllAny q [.ref n] s).wp P E = ∃ xs bs, lstAt s n = some xs ∧ xs.mapM blD = some bs ∧ P (.bl (if q then bs.all id else bs.any id)) s := by
  unfold fAllAny
  dsimp only
  cases h : lstAt s n with
  | none => simp [Rs.wp]
  | some xs =>
    simp only [Option.bind_some, Option.some.injEq, exists_and_left, exists_eq_left']
    cases h2 : xs.mapM blD <;> simp [Rs.wp]
def isNon : D → Bool
  | .non => true
  | _ => false
@[simp ↓] theorem z_isN : (dIsN2 x .non s).wp P E = P (.bl (isNon x)) s := by
  unfold dIsN2 dIsN isNon
  cases x <;> rfl
@[simp ↓] theorem z_notN : (dNotN2 x .non s).wp P E = P (.bl (!isNon x)) s := by
  unfold dNotN2 dIsN isNon
  cases x <;> rfl
@[simp ↓] theorem z_eqS {a b : Str} : (dEq (.str a) (.str b) s).wp P E = P (.bl (decide (a = b))) s := by
  show (Rs.ok (D.bl (false ^^ decide (a = b))) s).wp P E = _
  rw [Bool.false_xor, z_ok]
@[simp ↓] theorem z_neS {a b : Str} : (dNe (.str a) (.str b) s).wp P E = P (.bl (!decide (a = b))) s := by
  show (Rs.ok (D.bl (true ^^ decide (a = b))) s).wp P E = _
  rw [Bool.true_xor, z_ok]
theorem shp_str {a : Str} {p : PyData} (h : shp s (.str a) = some p) : p = .str a := by
  unfold shp at h
  rw [pyd] at h
  dsimp only at h
  split at h
  · cases h; rfl
  · cases h
theorem z_eqG {neg : Bool} {p q : PyData} (h1 : shp s x = some p) (h2 : shp s y = some q) : (dEqB neg x y s).wp P E = P (.bl (neg ^^ PyData.eqv p q)) s := by
  unfold dEqB
  split
  · rename_i a b
    rw [shp_str h1, shp_str h2, z_ok, PyData.eqv]
    rfl
  · rw [h1, h2, z_ok]
theorem z_eq {p q : PyData} (h1 : shp s x = some p) (h2 : shp s y = some q) : (dEq x y s).wp P E = P (.bl (PyData.eqv p q)) s := by
  unfold dEq
  rw [z_eqG h1 h2, Bool.false_xor]
theorem z_ne {p q : PyData} (h1 : shp s x = some p) (h2 : shp s y = some q) : (dNe x y s).wp P E = P (.bl (!PyData.eqv p q)) s := by
  unfold dNe
  rw [z_eqG h1 h2, Bool.true_xor]
@[simp ↓] theorem z_mulL {n : Nat} {j : Int} : (dMul2 (.ref n) (.int j) s).wp P E = lstP (mlAt s n) fun xs => ((-(2 ^ 63) ≤ j ∧ j < 2 ^ 63) ∧ xs.length * j.toNat ≤ sizeLine) ∧ P (.ref s.length) (s ++ [.lst (List.replicate j.toNat xs).flatten]) := by
  unfold dMul2 mlAt lstP
  dsimp only
  cases s[n]? with
  | none => rfl
  | some o =>
    cases o with
    | lst xs => exact z_iteN
    | _ => rfl
@[simp ↓] theorem z_mNk {n m : Nat} {mk : EM (List D)} : (mNk n m fN ms mk e s).wp P E = (ms e s).wp (fun xs s1 => (mk e s1).wp (fun ys s2 => (xs.length = n ∧ ys.length = m) ∧ (fN (xs ++ ys) s2).wp P E) E) E := by
  unfold mNk
  simp only [z_bind, z_iteN]
end
end Z

set_option Elab.async false
set_option linter.all false
set_option maxRecDepth 100000
set_option maxHeartbeats 4000000
namespace Z
open PySem PySem.Spec PyProof.Rows L2
/-! ### places -/
section
variable {s t : Sto} {k n : Nat} {xs ys : List D} {o : SO} {x y z : D}
theorem lstAt_some (h : s[k]? = some (.lst xs)) : lstAt s k = some xs := by unfold lstAt; rw [h]
theorem lstAt_frz (h : s[k]? = some (.frz xs)) : lstAt s k = some xs := by unfold lstAt; rw [h]
theorem mlAt_some (h : s[k]? = some (.lst xs)) : mlAt s k = some xs := by unfold mlAt; rw [h]
theorem lstAt_ml (h : mlAt s k = some xs) : lstAt s k = some xs := by
  unfold mlAt at h
  split at h
  · rename_i ys e
    cases h
    exact lstAt_some e
  · cases h
theorem mlAt_get (h : mlAt s k = some xs) : s[k]? = some (.lst xs) := by
  unfold mlAt at h
  split at h
  · rename_i ys e
    cases h
    exact e
  · cases h
theorem isTy_ml (h : mlAt s k = some xs) : isTy "list" s (.ref k) = true := by
  unfold isTy
  dsimp only
  rw [mlAt_get h]
  exact beq_self_eq_true _
@[simp] theorem mlAt_set_self (h : k < s.length) : mlAt (s.set k (.lst xs)) k = some xs := mlAt_some (List.getElem?_set_self h)
@[simp] theorem mlAt_set_ne (h : k ≠ n) : mlAt (s.set k o) n = mlAt s n := by unfold mlAt; rw [List.getElem?_set_ne h]
@[simp] theorem mlAt_push : mlAt (s ++ [.lst xs]) s.length = some xs := mlAt_some (by simp)
@[simp] theorem mlAt_app (h : n < s.length) : mlAt (s ++ t) n = mlAt s n := by unfold mlAt; rw [List.getElem?_append_left h]
@[simp] theorem lstAt_set_self (h : k < s.length) : lstAt (s.set k (.lst xs)) k = some xs := lstAt_some (List.getElem?_set_self h)
@[simp] theorem lstAt_set_ne (h : k ≠ n) : lstAt (s.set k o) n = lstAt s n := by unfold lstAt; rw [List.getElem?_set_ne h]
@[simp] theorem lstAt_push : lstAt (s ++ [.lst xs]) s.length = some xs := lstAt_some (by simp)
@[simp] theorem lstAt_app (h : n < s.length) : lstAt (s ++ t) n = lstAt s n := by unfold lstAt; rw [List.getElem?_append_left h]
theorem atI_of {α : Type} {xs : List α} {i : Nat} {a : α} (h : xs[i]? = some a) : atI xs (i : Int) = some a := by
  have hl : i < xs.length := (List.getElem?_eq_some_iff.mp h).1
  unfold atI ixN
  rw [if_pos (by omega), if_pos (by omega)]
  exact h
@[simp] theorem atI_0 {α : Type} {x : α} {xs : List α} : atI (x :: xs) 0 = some x := atI_of (i := 0) rfl
@[simp] theorem atI_1 {α : Type} {x y : α} {xs : List α} : atI (x :: y :: xs) 1 = some y := atI_of (i := 1) rfl
@[simp] theorem atI_2 {α : Type} {x y z : α} {xs : List α} : atI (x :: y :: z :: xs) 2 = some z := atI_of (i := 2) rfl
@[simp] theorem atI_3 {α : Type} {x y z w : α} {xs : List α} : atI (x :: y :: z :: w :: xs) 3 = some w := atI_of (i := 3) rfl
theorem atI_nat {α : Type} {xs : List α} {i : Int} (h0 : 0 ≤ i) (h1 : i < xs.length) : ∃ (a : α) (j : Nat), i = j ∧ xs[j]? = some a ∧ atI xs i = some a ∧ a ∈ xs := by
  obtain ⟨j, rfl⟩ := Int.eq_ofNat_of_zero_le h0
  have hj : j < xs.length := by omega
  refine ⟨xs[j], j, rfl, List.getElem?_eq_getElem hj, ?_, List.getElem_mem hj⟩
  unfold atI ixN
  rw [if_pos (by omega), if_pos (by omega)]
  simp [hj]
@[simp] theorem ixN_0 {n : Nat} : (ixN (n + 1) 0) = some 0 := by
  unfold ixN
  rw [if_pos (by omega), if_pos (by omega)]
  rfl
@[simp] theorem ixN_1 {n : Nat} : (ixN (n + 1 + 1) 1) = some 1 := by
  unfold ixN
  rw [if_pos (by omega), if_pos (by omega)]
  rfl
@[simp] theorem ixN_20 : (ixN 2 0) = some 0 := rfl
@[simp] theorem ixN_21 : (ixN 2 1) = some 1 := rfl
theorem mod_lt {i n : Int} (h : 0 < n) : 0 ≤ i % n ∧ i % n < n := ⟨Int.emod_nonneg _ (by omega), Int.emod_lt_of_pos _ h⟩
theorem Eff.bagset {a b : Int} (h : k < s.length) : Eff [k] s (s.set k (.lst [.int a, .int b])) :=
  ⟨by simp, fun i hi hk => by rw [List.getElem?_set_ne (by simp at hk; omega)], fun j hj _ => by
    obtain rfl : j = k := by simpa using hj
    exact ⟨a, b, List.getElem?_set_self h⟩⟩
theorem Bag.ml {s : Sto} {k : Nat} (h : Bag s k) : ∃ a b : Int, mlAt s k = some [.int a, .int b] ∧ lstAt s k = some [.int a, .int b] ∧ k < s.length := by
  obtain ⟨a, b, e, h1⟩ := h.lst
  exact ⟨a, b, mlAt_some e, h1, lstAt_lt h1⟩
theorem Eff.ml {ks : List Nat} {s t : Sto} (h : Eff ks s t) {i : Nat} {xs : List D} (e : mlAt s i = some xs) (hi : i ∉ ks) : mlAt t i = some xs := mlAt_some (h.get (mlAt_get e) hi)
end
end Z

set_option Elab.async false
set_option linter.all false
set_option maxRecDepth 100000
set_option maxHeartbeats 4000000
namespace Z
open PySem PySem.Spec PyProof.Rows L2
/-! ### what is walked -/
/-- the walk j gives the items xs, as long as only ks are changed -/
def ItOk (ks : List Nat) (s0 : Sto) (j : Stp) (N : Nat) (xs : List D) : Prop := N = xs.length ∧ ∀ i s, Eff ks s0 s → j i s = some xs[i]?
section
variable {ks : List Nat} {s0 s t : Sto} {n m : Nat} {xs ys : List D}
def rngD (lo : Int) (n : Nat) : List D := (List.range n).map fun i => .int (lo + (i : Nat))
def strDs (x : Str) : List D := x.cps.toList.map fun c => .str ⟨#[c]⟩
def enD (xs : List D) : List D := xs.mapIdx fun i d => .tup [.int i, d]
theorem it_rng {lo : Int} : ItOk ks s0 (jRng lo n) n (rngD lo n) := ⟨by simp [rngD], fun i s _ => by
  unfold jRng rngD
  by_cases h : i < n
  · simp [h]
  · simp [h]⟩
theorem it_tup {N : Nat} (e : N = xs.length := by simp) : ItOk ks s0 (jTup xs) N xs := ⟨e, fun i s _ => rfl⟩
theorem it_lst {N : Nat} (h : lstAt s0 n = some xs) (hn : n ∉ ks) (e : N = xs.length := by simp) : ItOk ks s0 (jLst n) N xs := ⟨e, fun i s e => by rw [jLst_eq, e.lst h hn]; rfl⟩
theorem it_str {x : Str} : ItOk ks s0 (jStr x) x.cps.size (strDs x) := ⟨by simp [strDs], fun i s _ => by
  unfold jStr strDs
  simp⟩
theorem ItOk.later {j : Stp} {N : Nat} (h : ItOk ks s j N xs) (e : Eff ks s t) : ItOk ks t j N xs := ⟨h.1, fun i u f => h.2 i u (e.trans f)⟩
/-! ### comprehensions -/
variable {j : Stp} {g : GN} {tt : EM Bool} {mm : EM D} {N : Nat} {e : Ev}
theorem lc_gen (it : ItOk ks s0 j N xs) (hb : ∀ k ∈ ks, Bag s0 k) (hl : xs.length < sizeLine) (R : Nat → D → Option D → Sto → Prop)
    (st : ∀ i d o s t, R i d o s → s.length ≤ t.length → (∀ n, n < s.length → s0.length < n → t[n]? = s[n]?) → R i d o t)
    (body : ∀ i d s, xs[i]? = some d → Eff ks s0 s → (∀ k ∈ ks, Bag s k) → s0.length < s.length → ∃ e1, g d e = some e1 ∧ (tt e1 s).wp fun q s1 => Eff ks s s1 ∧ if q then (mm e1 s1).wp fun y s2 => Eff ks s1 s2 ∧ R i d (some y) s2 else R i d none s1) :
    (lcL j g tt mm s0.length N 0 e (s0 ++ [.lst []])).wp fun d s' => d = .ref s0.length ∧ Eff ks s0 s' ∧ s0.length < s'.length ∧ ∃ zs : List (Option D), zs.length = xs.length ∧ mlAt s' s0.length = some (zs.filterMap id) ∧ ∀ i d o, xs[i]? = some d → zs[i]? = some o → R i d o s' := by
  have lks : s0.length ∉ ks := fun h => Nat.lt_irrefl _ (hb _ h).lt
  refine wp_ne (lcL_wp (N := N) (fun i acc s => Eff ks s0 s ∧ s0.length < s.length ∧ ∃ zs : List (Option D), zs.length = i ∧ acc = zs.filterMap id ∧ ∀ i d o, xs[i]? = some d → zs[i]? = some o → R i d o s) ?_ N 0 [] _ (by simp) ⟨Eff.push, by simp, [], rfl, rfl, by simp⟩ (by simp)) ?_
  · rintro i acc s hi ⟨ef, hlt, zs, hz, rfl, hR⟩ hs
    refine ⟨fun h => ?_, fun h => ?_⟩
    · rw [it.2 i s ef, List.getElem?_eq_none (by rw [← it.1]; omega)]
    · have hi2 : i < xs.length := by rw [← it.1]; exact h
      obtain ⟨e1, h1, h2⟩ := body i xs[i] s (List.getElem?_eq_getElem hi2) ef (fun k hk => ef.bag k hk (hb k hk)) hlt
      refine ⟨xs[i], e1, by rw [it.2 i s ef, List.getElem?_eq_getElem hi2], h1, wp_ne h2 fun q s1 ⟨ef1, h3⟩ => ?_⟩
      have hs1 : s1[s0.length]? = some (SO.lst (zs.filterMap id)) := ef1.get hs lks
      have Rm : ∀ {s2 : Sto}, s.length ≤ s2.length → (∀ n, n < s.length → s0.length < n → s2[n]? = s[n]?) → ∀ o', R i xs[i] o' s2 → ∀ i' d o, xs[i']? = some d → (zs ++ [o'])[i']? = some o → R i' d o s2 := by
        intro s2 hle heq o' hR' i' d o hx ho
        by_cases hi' : i' < zs.length
        · rw [List.getElem?_append_left hi'] at ho
          exact st _ _ _ _ _ (hR i' d o hx ho) hle heq
        · have : i' = i := by
            have := (List.getElem?_eq_some_iff.mp ho).1
            simp at this
            omega
          subst this
          rw [List.getElem?_append_right (by omega), hz, Nat.sub_self] at ho
          cases ho
          rw [List.getElem?_eq_getElem hi2] at hx
          cases hx
          exact hR'
      have fl : (zs.filterMap id).length ≤ zs.length := List.length_filterMap_le _ _
      cases q with
      | true =>
        rw [if_pos rfl] at h3 ⊢
        refine wp_ne h3 fun y s2 ⟨ef2, h4⟩ => ?_
        have hs2 := ef2.get hs1 lks
        refine ⟨hs2, by omega, ((ef.trans ef1).trans ef2).set (Nat.le_refl _), by rw [List.length_set]; have := ef1.le; have := ef2.le; omega, zs ++ [some y], by simp [hz], by simp, ?_⟩
        refine Rm (by rw [List.length_set]; exact Nat.le_trans ef1.le ef2.le) (fun n hn hn2 => ?_) (some y) (st _ _ _ _ _ h4 (by simp) fun n hn hn2 => by rw [List.getElem?_set_ne (by omega)])
        rw [List.getElem?_set_ne (by omega)]
        have nk : n ∉ ks := fun hk => by have := (hb n hk).lt; omega
        rw [ef2.eq n (Nat.lt_of_lt_of_le hn ef1.le) nk, ef1.eq n hn nk]
      | false =>
        simp only [Bool.false_eq_true, ↓reduceIte] at h3 ⊢
        refine ⟨hs1, ef.trans ef1, Nat.lt_of_lt_of_le hlt ef1.le, zs ++ [none], by simp [hz], by simp, ?_⟩
        exact Rm ef1.le (fun n hn hn2 => ef1.eq n hn fun hk => by have := (hb n hk).lt; omega) none h3
  · rintro d s' ⟨rfl, ys, h1, ef, hlt, zs, hz, rfl, hR⟩
    exact ⟨rfl, ef, hlt, zs, by rw [hz]; exact it.1, mlAt_some h1, hR⟩
/-- every item gives a value that keeps R -/
theorem lc_all (it : ItOk ks s0 j N xs) (hb : ∀ k ∈ ks, Bag s0 k) (hl : xs.length < sizeLine) (R : Nat → D → D → Prop)
    (body : ∀ i d s, xs[i]? = some d → Eff ks s0 s → (∀ k ∈ ks, Bag s k) → ∃ e1, g d e = some e1 ∧ (mm e1 s).wp fun y s2 => Eff ks s s2 ∧ R i d y) :
    (lcL j g tY mm s0.length N 0 e (s0 ++ [.lst []])).wp fun d s' => d = .ref s0.length ∧ Eff ks s0 s' ∧ s0.length < s'.length ∧ ∃ ys : List D, ys.length = xs.length ∧ mlAt s' s0.length = some ys ∧ ∀ i d y, xs[i]? = some d → ys[i]? = some y → R i d y := by
  refine wp_ne (lc_gen it hb hl (fun i d o _ => ∃ y, o = some y ∧ R i d y) (fun _ _ _ _ _ h _ _ => h) fun i d s hx ef hbs _ => ?_) ?_
  · obtain ⟨e1, h1, h2⟩ := body i d s hx ef hbs
    refine ⟨e1, h1, ?_⟩
    rw [z_tY, if_pos rfl]
    exact ⟨Eff.refl, wp_ne h2 fun y s2 ⟨h3, h4⟩ => ⟨h3, y, rfl, h4⟩⟩
  · rintro d s' ⟨rfl, ef, hlt, zs, hz, hm, hR⟩
    refine ⟨rfl, ef, hlt, _, ?_, hm, ?_⟩
    · have : ∀ (zs : List (Option D)), (∀ o ∈ zs, ∃ y, o = some y) → (zs.filterMap id).length = zs.length := by
        intro zs
        induction zs with
        | nil => intro _; rfl
        | cons z zs ih =>
          intro h
          obtain ⟨y, rfl⟩ := h z (by simp)
          simp [ih fun o ho => h o (by simp [ho])]
      rw [← hz]
      refine this zs fun o ho => ?_
      obtain ⟨i, hi, rfl⟩ := List.getElem_of_mem ho
      obtain ⟨y, h, _⟩ := hR i (xs[i]'(by omega)) _ (List.getElem?_eq_getElem (by omega)) (List.getElem?_eq_getElem hi)
      exact ⟨y, h⟩
    · have : ∀ (zs : List (Option D)), (∀ o ∈ zs, ∃ y, o = some y) → ∀ (i : Nat) (y : D), (zs.filterMap id)[i]? = some y → zs[i]? = some (some y) := by
        intro zs
        induction zs with
        | nil => intro _ i y h; simp at h
        | cons z zs ih =>
          intro h i y hy
          obtain ⟨y', rfl⟩ := h z (by simp)
          cases i with
          | zero => simpa using hy
          | succ i => simpa using ih (fun o ho => h o (by simp [ho])) i y (by simpa using hy)
      intro i d y hx hy
      have h5 := this zs (fun o ho => by
        obtain ⟨i, hi, rfl⟩ := List.getElem_of_mem ho
        obtain ⟨y, h, _⟩ := hR i (xs[i]'(by omega)) _ (List.getElem?_eq_getElem (by omega)) (List.getElem?_eq_getElem hi)
        exact ⟨y, h⟩) i y hy
      obtain ⟨y', h, h6⟩ := hR i d _ hx h5
      cases h
      exact h6
/-- a pure map -/
theorem lc_map (f : D → D) (it : ItOk ks s0 j N xs) (hb : ∀ k ∈ ks, Bag s0 k) (hl : xs.length < sizeLine)
    (body : ∀ d s, d ∈ xs → Eff ks s0 s → (∀ k ∈ ks, Bag s k) → ∃ e1, g d e = some e1 ∧ (mm e1 s).wp fun y s2 => Eff ks s s2 ∧ y = f d) :
    (lcL j g tY mm s0.length N 0 e (s0 ++ [.lst []])).wp fun d s' => d = .ref s0.length ∧ Eff ks s0 s' ∧ s0.length < s'.length ∧ mlAt s' s0.length = some (xs.map f) := by
  refine wp_ne (lc_all it hb hl (fun i d y => y = f d) fun i d s hx ef hbs => body d s (List.mem_of_getElem? hx) ef hbs) ?_
  rintro d s' ⟨rfl, ef, hlt, ys, h1, h2, h3⟩
  refine ⟨rfl, ef, hlt, ?_⟩
  rw [h2]
  congr 1
  refine List.ext_getElem (by simp [h1]) fun i hi hi2 => ?_
  rw [List.getElem_map]
  exact h3 i _ _ (List.getElem?_eq_getElem (by omega)) (List.getElem?_eq_getElem hi)
end
end Z

set_option Elab.async false
set_option linter.all false
set_option maxRecDepth 100000
set_option maxHeartbeats 4000000
namespace Z
open PySem PySem.Spec PyProof.Rows L2
/-! ### draws: bag, take, of -/
def bagG (c0 c1 z : Int) (upd : EM D) (M p : Int) : SM :=
  sC (sA 2 (mIf (toB (m2 dLt (mV 1) (mN fLen (aC (mV 0) aN)))) (m2 dIx (mV 0) (mV 1)) (mC (.int 0))))
  (sC (sA 3 (m2 dAdd (m2 dMul2 (mC (.int c0)) (mV 1)) (mC (.int c1))))
  (sC (sF (iEn (aC (mSl dSl (mV 0) oN (oS (mC (.int z)))) aN)) (gT [gN 4, gN 5]) (sA 3 (m2 dMod (mN fInt (aC upd aN)) (mC (.int M)))))
  (sR (mN fLst (aC (mIf (toB (m2 dGe (mN fAbs (aC (mV 2) aN)) (m2 dPow (mC (.int 10)) (mC (.int p))))) (mN fAbs (aC (mV 2) aN)) (mC (.int 0))) (aC (mV 3) aN))))))
def updA (a b c : Int) : EM D := m2 dAdd (m2 dAdd (m2 dMul2 (mV 3) (mC (.int a))) (m2 dMod (mN fInt (aC (mV 5) aN)) (mC (.int b)))) (m2 dMul2 (mC (.int c)) (mV 4))
def updB (a b c d : Int) : EM D := m2 dAdd (updA a b c) (mC (.int d))
def smallI (i : Int) : Prop := -(2 ^ 64) < i ∧ i < 2 ^ 64
instance (i : Int) : Decidable (smallI i) := by unfold smallI; infer_instance
theorem two_le_line : 2 ≤ sizeLine := by decide
theorem bag_gen {c0 c1 z M p : Int} {upd : EM D} (h0 : smallI c0) (hM : 0 < M) (hp : cPow 10 p)
    (hu : ∀ (o0 o1 o2 : Option D) (m k j : Int) (s : Sto), (upd [o0, o1, o2, some (.int m), some (.int k), some (.int j)] s).wp fun d s' => s' = s ∧ ∃ i, d = .int i)
    {s : Sto} {n : Nat} {ns : List Int} {a : Nat} (hx : lstAt s n = some (ns.map D.int)) : (fnM 2 6 (bagG c0 c1 z upd M p) [.ref n, .int a] s).wp fun d s' => ∃ k, d = .ref k ∧ s.length ≤ k ∧ Bag s' k ∧ Eff [] s s' := by
  unfold bagG
  rw [z_fnM (by rfl)]
  have hn : n < s.length := lstAt_lt hx
  have hc : ∀ d, d ∈ cutD (ns.map D.int) none (some z) → ∃ i, d = .int i := fun d hd => by
    have := List.mem_of_mem_drop (List.mem_of_mem_take hd)
    obtain ⟨i, -, rfl⟩ := List.mem_map.mp this
    exact ⟨i, rfl⟩
  have first : ∀ Q : En, (∀ A : Int, Q.nx [some (.ref n), some (.int a), some (.int A), none, none, none] s) → (sA 2 (mIf (toB (m2 dLt (mV 1) (mN fLen (aC (mV 0) aN)))) (m2 dIx (mV 0) (mV 1)) (mC (.int 0))) [some (.ref n), some (.int a), none, none, none, none] s).wp Q := by
    intro Q hQ
    simp [hx]
    split
    · rename_i h
      obtain ⟨i, e⟩ : ∃ i, atI (ns.map D.int) (a : Int) = some (.int i) := ⟨_, atI_of (by rw [List.getElem?_map, List.getElem?_eq_getElem h]; rfl)⟩
      rw [e]
      exact hQ _
    · exact hQ _
  rw [z_sC]
  refine first _ fun A => ?_
  have loop : ∀ (j0 : Stp) (Q : En) (m : Int) (s1 : Sto), lstAt s1 s.length = some (cutD (ns.map D.int) none (some z)) → (∀ m o4 o5, Q.nx [some (.ref n), some (.int a), some (.int A), some (.int m), o4, o5] s1) →
      (forL (jEn s.length) (gT [gN 4, gN 5]) (sA 3 (m2 dMod (mN fInt (aC upd aN)) (mC (.int M)))) (cutD (ns.map D.int) none (some z)).length 0 [some (.ref n), some (.int a), some (.int A), some (.int m), none, none] s1).wp Q := by
    intro j0 Q m s1 hs1 hQ
    refine forL_wp (fun i e s2 => s2 = s1 ∧ ∃ m o4 o5, e = [some (.ref n), some (.int a), some (.int A), some (.int m), o4, o5]) ?_ _ 0 _ _ (Nat.zero_add _) ⟨rfl, m, none, none, rfl⟩
    rintro i e s2 hi ⟨rfl, m, o4, o5, rfl⟩
    refine ⟨fun h => ⟨by subst h; simp [jEn, hs1], hQ m o4 o5⟩, fun h => ?_⟩
    obtain ⟨j, hj⟩ := hc _ (List.getElem_mem h)
    refine ⟨.tup [.int i, .int j], _, by simp [jEn, hs1, h, hj], rfl, ?_⟩
    have := hu (some (.ref n)) (some (.int a)) (some (.int A)) m i j s2
    simp
    refine wp_ne this fun d s3 ⟨e1, i2, e2⟩ => ?_
    subst e1 e2
    simp [hM]
  simp [hx, cMul]
  refine ⟨.inl h0, loop (fun _ _ => none) _ _ _ (by simp) fun m o4 o5 => ?_⟩
  have fin : ∀ B : Int, 2 ≤ sizeLine ∧ s.length ≤ s.length + 1 ∧ Bag (s ++ [SO.lst (cutD (List.map D.int ns) none (some z)), SO.lst [D.int B, D.int m]]) (s.length + 1) ∧ Eff [] s (s ++ [SO.lst (cutD (List.map D.int ns) none (some z)), SO.lst [D.int B, D.int m]]) := fun B =>
    ⟨two_le_line, by omega, ⟨B, m, by rw [List.getElem?_append_right (by omega)]; simp⟩, by
      have := (Eff.push (ks := []) (s := s) (o := SO.lst (cutD (List.map D.int ns) none (some z)))).trans (Eff.push (o := SO.lst [D.int B, D.int m]))
      simpa using this⟩
  have f1 := fun B => (fin B).1
  have f3 := fun B => (fin B).2.2
  simp [hp]
  split <;> (try split) <;> first | exact ⟨two_le_line, f3 _⟩ | exact f3 _
theorem updA_ok {a b c : Int} (ha : smallI a) (hb : 0 < b) (hc : smallI c) (o0 o1 o2 : Option D) (m k j : Int) (s : Sto) : (updA a b c [o0, o1, o2, some (.int m), some (.int k), some (.int j)] s).wp fun d s' => s' = s ∧ ∃ i, d = .int i := by
  unfold updA
  simp [cMul, hb]
  exact ⟨.inr ha, .inl hc⟩
/-- a draw: a whole number below n -/
def TakeOk (F : List D → Sto → Rs D) : Prop := ∀ {s : Sto} {k : Nat} {n : Int}, Bag s k → 0 < n → n < 1073741824 → (F [.ref k, .int n] s).wp fun d s' => ∃ i : Nat, d = .int i ∧ (i : Int) < n ∧ Eff [k] s s'
def takeG (c1 c2 M d1 c3 M2 d2 : Int) : SM := (sC (sI (toB (m2 dGt (m2 dIx (mV 0) (mC (.int 0))) (mC (.int 0)))) (sC (sA 2 (m2 dMod (mN fInt (aC (m2 dIx (mV 0) (mC (.int 0))) aN)) (mV 1))) (sC (sX xSetL (mV 0) (mC (.int 0)) (m2 dDiv (m2 dIx (mV 0) (mC (.int 0))) (mV 1))) (sR (mV 2)))) sN) (sC (sX xSetL (mV 0) (mC (.int 1)) (m2 dMod (mN fInt (aC (m2 dAdd (m2 dMul2 (m2 dIx (mV 0) (mC (.int 1))) (mC (.int c1))) (mC (.int c2))) aN)) (mC (.int M)))) (sR (m2 dMod (m2 dDiv (m2 dMod (mN fInt (aC (m2 dMul2 (m2 dDiv (m2 dIx (mV 0) (mC (.int 1))) (mC (.int d1))) (mC (.int c3))) aN)) (mC (.int M2))) (mC (.int d2))) (mV 1)))))
theorem take_gen {c1 c2 M d1 c3 M2 d2 : Int} (h1 : smallI c1) (h2 : smallI c3) (hM : 0 < M) (hM2 : 0 < M2) (hd1 : 0 < d1 ∧ d1 < 1073741824) (hd2 : 0 < d2 ∧ d2 < 1073741824) : TakeOk (fnM 2 3 (takeG c1 c2 M d1 c3 M2 d2)) := by
  intro s k n hb hn hn2
  obtain ⟨a, b, h, hl, hk⟩ := hb.ml
  unfold takeG
  rw [z_fnM (by rfl)]
  have h4 := fun i => mod_lt (i := i) hn
  have nat : ∀ i : Int, ∃ j : Nat, D.int (i % n) = D.int j ∧ (j : Int) < n := fun i => by
    obtain ⟨j, hj⟩ := Int.eq_ofNat_of_zero_le (h4 i).1
    exact ⟨j, by rw [hj], by rw [← hj]; exact (h4 i).2⟩
  have key : ∀ (i : Int) {t : Sto}, Eff [k] s t → ∃ j : Nat, i % n = j ∧ (j : Int) < n ∧ Eff [k] s t := fun i t e => by
    obtain ⟨j, hj⟩ := Int.eq_ofNat_of_zero_le (h4 i).1
    exact ⟨j, hj, by rw [← hj]; exact (h4 i).2, e⟩
  simp [hl, h, hk, hn, hn2, hM, hM2, hd1.1, hd1.2, hd2.1, hd2.2, cMul]
  split
  · exact key _ (Eff.bagset hk)
  · exact ⟨.inr h1, .inr h2, key _ (Eff.bagset hk)⟩
/-- one of a list's or a tuple's items -/
def OfOk (F : List D → Sto → Rs D) : Prop := ∀ {s : Sto} {k : Nat} {x : D} {xs : List D}, Bag s k → seqD s x = some xs → x ≠ .ref k → xs ≠ [] → xs.length < 1073741824 → (F [.ref k, x] s).wp fun d s' => d ∈ xs ∧ Eff [k] s s'
def ofG (take : List D → Sto → Rs D) : SM := (sR (m2 dIx (mV 1) (mN take (aC (mV 0) (aC (mN fLen (aC (mV 1) aN)) aN)))))
theorem of_gen {take : List D → Sto → Rs D} (T : TakeOk take) : OfOk (fnM 2 2 (ofG take)) := by
  intro s k x xs hb hx hk h0 hl
  have hp : 0 < xs.length := List.length_pos_iff.mpr h0
  unfold ofG
  rw [z_fnM (by rfl)]
  cases x with
  | ref n =>
    have hx : lstAt s n = some xs := hx
    have hn : n ≠ k := fun e => hk (by rw [e])
    simp [hx]
    refine wp_ne (T hb (by omega) (by omega)) fun d s' ⟨i, e, h1, ef⟩ => ?_
    subst e
    obtain ⟨c, j, -, -, h4, h5⟩ := atI_nat (xs := xs) (i := i) (by omega) h1
    simp [ef.lst hx (by simpa using hn), h4, h5, ef]
  | tup ys =>
    cases hx
    simp
    refine wp_ne (T hb (by omega) (by omega)) fun d s' ⟨i, e, h1, ef⟩ => ?_
    subst e
    obtain ⟨c, j, -, -, h4, h5⟩ := atI_nat (xs := xs) (i := i) (by omega) h1
    simp [h4, h5, ef]
  | _ => cases hx
end Z

set_option Elab.async false
set_option linter.all false
set_option maxRecDepth 100000
set_option maxHeartbeats 4000000
namespace Z
open PySem PySem.Spec PyProof.Rows L2 TL
/-! ### names -/
def abc : Str := "abcdefghijklmnopqrstuvwxyz"
def one (c : Nat) : Str := ⟨#[c]⟩
def isLow (c : Nat) : Prop := 97 ≤ c ∧ c ≤ 122
instance (c : Nat) : Decidable (isLow c) := by unfold isLow; infer_instance
structure IsName (x : Str) : Prop where
  pos : 1 ≤ (tl x).length
  len : (tl x).length ≤ 8
  low : ∀ c ∈ tl x, isLow c
theorem abc_tl : tl abc = (List.range 26).map (97 + ·) := by decide +kernel
theorem abc_le : abc.length ≤ sizeLine := by decide +kernel
theorem tl_one (c : Nat) : tl (one c) = [c] := rfl
theorem mapM_strD : ∀ ys : List Str, (ys.map D.str).mapM strD = some ys
  | [] => rfl
  | y :: ys => by
    rw [List.map_cons, List.mapM_cons, mapM_strD ys]
    rfl
/-- distinct names, n of them, in a new list -/
def NamesOk (F : List D → Sto → Rs D) : Prop := ∀ {s : Sto} {k n : Nat}, Bag s k → n ≤ 26 → (F [.ref k, .int n] s).wp fun d s' => ∃ (l : Nat) (ms : List Str), d = .ref l ∧ s.length ≤ l ∧ mlAt s' l = some (ms.map D.str) ∧ ms.length = n ∧ ms.Nodup ∧ (∀ x ∈ ms, IsName x) ∧ Eff [k] s s'
def namesB (take of_ : List D → Sto → Rs D) : SM := (sC (sA 2 (mC (.str "abcdefghijklmnopqrstuvwxyz"))) (sC (sA 3 (mBM "str" fJoin (mC (.str "")) (aC (mL (iR1 (aC (mN of_ (aC (mV 0) (aC (mN fLst (aC (mC (.int 0)) (aC (mC (.int 0)) (aC (mC (.int 1)) (aC (mC (.int 3)) (aC (mC (.int 7)) aN)))))) aN))) aN)) (gN 7) tY (m2 dIx (mV 2) (mN take (aC (mV 0) (aC (mC (.int 26)) aN)))) [7]) aN))) (sC (sG (gT [(gN 5), (gN 6)]) (mN fTup (aC (mN take (aC (mV 0) (aC (mC (.int 26)) aN))) (aC (mN take (aC (mV 0) (aC (mC (.int 2)) aN))) aN)))) (sC (sA 4 (mL (iR1 (aC (mV 1) aN)) (gN 7) tY (m2 dIx (mV 2) (m2 dMod (m2 dAdd (mV 5) (m2 dMul2 (mC (.int 5)) (mV 7))) (mC (.int 26)))) [7])) (sR (mL (iSq (mV 4)) (gN 8) tY (mIf (toT (mV 6)) (m2 dAdd (mV 3) (mV 8)) (m2 dAdd (mV 8) (mV 3))) [8]))))))
theorem rngD_get {lo : Int} {n i : Nat} {d : D} (h : (rngD lo n)[i]? = some d) : i < n ∧ d = .int (lo + i) := by
  unfold rngD at h
  rw [List.getElem?_map] at h
  by_cases hi : i < n
  · rw [List.getElem?_range hi] at h
    cases h
    exact ⟨hi, rfl⟩
  · rw [List.getElem?_eq_none (by simpa using hi)] at h
    cases h
theorem rngD_len {lo : Int} {n : Nat} : (rngD lo n).length = n := by simp [rngD]
end Z

set_option Elab.async false
set_option linter.all false
set_option maxRecDepth 100000
set_option maxHeartbeats 4000000
namespace Z
open PySem PySem.Spec PyProof.Rows L2 TL
open PySem.PyData (strOk)
/-! ### data without places: none, ints, texts, tuples of these -/
mutual
def enc : D → PyData
  | .non => .none
  | .bl b => .bool b
  | .int i => .int i
  | .str x => .str x
  | .tup xs => .tuple (encs xs)
  | .ref _ => .none
def encs : List D → List PyData
  | [] => []
  | x :: xs => enc x :: encs xs
end
mutual
/-- plain, of depth below n -/
def plain : Nat → D → Bool
  | _, .non => true
  | _, .bl _ => false
  | _, .int _ => true
  | _, .str x => strOk x
  | 0, .tup _ => false
  | n + 1, .tup xs => plains n xs
  | _, .ref _ => false
def plains : Nat → List D → Bool
  | _, [] => true
  | n, x :: xs => plain n x && plains n xs
end
theorem encs_map : ∀ xs : List D, encs xs = xs.map enc
  | [] => rfl
  | x :: xs => by rw [encs, encs_map xs]; rfl
theorem plains_iff {n : Nat} : ∀ {xs : List D}, plains n xs = true ↔ ∀ x ∈ xs, plain n x = true
  | [] => by simp [plains]
  | x :: xs => by simp [plains, plains_iff (xs := xs)]
mutual
theorem pyd_plain (s : Sto) : ∀ (n : Nat) (d : D), plain n d = true → pyd (n + 1) s d = some (enc d)
  | n, .non, _ => by rw [pyd]; rfl
  | n, .bl _, h => by rw [plain] at h; cases h
  | n, .int _, _ => by rw [pyd]; rfl
  | n, .str _, _ => by rw [pyd]; rfl
  | 0, .tup _, h => by rw [plain] at h; cases h
  | n + 1, .tup xs, h => by
    rw [plain] at h
    rw [pyd, pyds_plain s n xs h]
    rfl
  | n, .ref _, h => by cases n <;> (rw [plain] at h; cases h)
theorem pyds_plain (s : Sto) : ∀ (n : Nat) (xs : List D), plains n xs = true → xs.mapM (pyd (n + 1) s) = some (encs xs)
  | _, [], _ => rfl
  | n, x :: xs, h => by
    rw [plains, Bool.and_eq_true] at h
    rw [List.mapM_cons, pyd_plain s n x h.1, pyds_plain s n xs h.2]
    rfl
end
theorem pyd_mono (s : Sto) : ∀ (n : Nat) (d : D) (p : PyData), pyd n s d = some p → pyd (n + 1) s d = some p
  | 0, d, p, h => by rw [pyd] at h; cases h
  | n + 1, .non, p, h => by rw [pyd] at h ⊢; exact h
  | n + 1, .bl _, p, h => by rw [pyd] at h ⊢; exact h
  | n + 1, .int _, p, h => by rw [pyd] at h ⊢; exact h
  | n + 1, .str _, p, h => by rw [pyd] at h ⊢; exact h
  | n + 1, .tup xs, p, h => by
    rw [pyd] at h ⊢
    obtain ⟨ps, h1, rfl⟩ := Option.map_eq_some_iff.mp h
    have : ∀ (xs : List D) (ps : List PyData), xs.mapM (pyd n s) = some ps → xs.mapM (pyd (n + 1) s) = some ps := by
      intro xs
      induction xs with
      | nil => intro ps h; exact h
      | cons x xs ih =>
        intro ps h
        rw [List.mapM_cons] at h ⊢
        obtain ⟨a, h1, h⟩ := Option.bind_eq_some_iff.mp h
        obtain ⟨b, h2, h⟩ := Option.bind_eq_some_iff.mp h
        cases h
        rw [pyd_mono s n x a h1, ih b h2]
        rfl
    rw [this xs ps h1]
    rfl
  | n + 1, .ref k, p, h => by
    rw [pyd] at h ⊢
    obtain ⟨xs, h0, h⟩ := Option.bind_eq_some_iff.mp h
    obtain ⟨ps, h1, rfl⟩ := Option.map_eq_some_iff.mp h
    have : ∀ (xs : List D) (ps : List PyData), xs.mapM (pyd n s) = some ps → xs.mapM (pyd (n + 1) s) = some ps := by
      intro xs
      induction xs with
      | nil => intro ps h; exact h
      | cons x xs ih =>
        intro ps h
        rw [List.mapM_cons] at h ⊢
        obtain ⟨a, h1, h⟩ := Option.bind_eq_some_iff.mp h
        obtain ⟨b, h2, h⟩ := Option.bind_eq_some_iff.mp h
        cases h
        rw [pyd_mono s n x a h1, ih b h2]
        rfl
    rw [h0, Option.bind_some, this xs ps h1]
    rfl
theorem pyd_le {s : Sto} {d : D} {p : PyData} {n m : Nat} (h : pyd n s d = some p) (hm : n ≤ m) : pyd m s d = some p := by
  induction hm with
  | refl => exact h
  | step _ ih => exact pyd_mono s _ d p ih
mutual
theorem canLay_plain : ∀ (n : Nat) (d : D), plain n d = true → (enc d).canLay0 = true ∧ (enc d).depth ≤ n
  | n, .non, _ => by simp [enc, PyData.canLay0, PyData.depth]
  | n, .bl _, h => by rw [plain] at h; cases h
  | n, .int _, _ => by simp [enc, PyData.canLay0, PyData.depth]
  | n, .str _, h => by
    rw [plain] at h
    simp [enc, PyData.canLay0, PyData.depth, h]
  | 0, .tup _, h => by rw [plain] at h; cases h
  | n + 1, .tup xs, h => by
    rw [plain] at h
    obtain ⟨h1, h2⟩ := canLays_plain n xs h
    rw [enc, PyData.canLay0, PyData.depth]
    exact ⟨h1, by omega⟩
  | n, .ref _, h => by cases n <;> (rw [plain] at h; cases h)
theorem canLays_plain : ∀ (n : Nat) (xs : List D), plains n xs = true → PyData.canLayAll0 (encs xs) = true ∧ PyData.depthAll (encs xs) ≤ n
  | _, [], _ => by simp [encs, PyData.canLayAll0, PyData.depthAll]
  | n, x :: xs, h => by
    rw [plains, Bool.and_eq_true] at h
    obtain ⟨h1, h2⟩ := canLay_plain n x h.1
    obtain ⟨h3, h4⟩ := canLays_plain n xs h.2
    rw [encs, PyData.canLayAll0, PyData.depthAll, h1, h3]
    exact ⟨rfl, Nat.max_le.mpr ⟨h2, h4⟩⟩
end
theorem plain_mono : ∀ (n : Nat) (d : D), plain n d = true → plain (n + 1) d = true
  | n, .non, _ => by rw [plain]
  | n, .bl _, h => by rw [plain] at h; cases h
  | n, .int _, _ => by rw [plain]
  | n, .str _, h => by rw [plain] at h ⊢; exact h
  | 0, .tup _, h => by rw [plain] at h; cases h
  | n + 1, .tup xs, h => by
    rw [plain] at h ⊢
    rw [plains_iff] at h ⊢
    exact fun x hx => plain_mono n x (h x hx)
  | n, .ref _, h => by cases n <;> (rw [plain] at h; cases h)
theorem shp_of {s : Sto} {d : D} {p : PyData} (h : pyd 30 s d = some p) (hs : SeqAt.shaped p = true) : shp s d = some p := by
  unfold shp
  rw [h]
  simp [hs]
theorem shaped_of {p : PyData} (h1 : p.canLay0 = true) (h2 : p.depth ≤ 64) : SeqAt.shaped p = true := by
  unfold SeqAt.shaped
  rw [h1]
  simpa using h2
theorem shp_plain {s : Sto} {d : D} (h : plain 20 d = true) : shp s d = some (enc d) := by
  obtain ⟨h1, h2⟩ := canLay_plain 20 d h
  exact shp_of (pyd_le (pyd_plain s 20 d h) (by omega)) (shaped_of h1 (by omega))
theorem shp_lst {s : Sto} {n : Nat} {xs : List D} (hx : lstAt s n = some xs) (h : plains 20 xs = true) : shp s (.ref n) = some (.list (encs xs)) := by
  obtain ⟨h1, h2⟩ := canLays_plain 20 xs h
  refine shp_of ?_ (shaped_of (by rw [PyData.canLay0]; exact h1) (by rw [PyData.depth]; omega))
  have : pyd 22 s (.ref n) = some (.list (encs xs)) := by
    rw [pyd, hx, Option.bind_some, pyds_plain s 20 xs h]
    rfl
  exact pyd_le this (by omega)
/-! ### == of plain data -/
mutual
theorem eqv_enc : ∀ (n : Nat) (a b : D), plain n a = true → plain n b = true → (PyData.eqv (enc a) (enc b) = true ↔ a = b)
  | n, .bl _, _, h, _ => by rw [plain] at h; cases h
  | n, .ref _, _, h, _ => by cases n <;> (rw [plain] at h; cases h)
  | n, .non, b, _, h => by
    cases b with
    | bl _ => rw [plain] at h; cases h
    | ref _ => cases n <;> (rw [plain] at h; cases h)
    | _ => simp [enc, PyData.eqv]
  | n, .int i, b, _, h => by
    cases b with
    | bl _ => rw [plain] at h; cases h
    | ref _ => cases n <;> (rw [plain] at h; cases h)
    | _ => simp [enc, PyData.eqv]
  | n, .str i, b, _, h => by
    cases b with
    | bl _ => rw [plain] at h; cases h
    | ref _ => cases n <;> (rw [plain] at h; cases h)
    | _ => simp [enc, PyData.eqv]
  | 0, .tup _, _, h, _ => by rw [plain] at h; cases h
  | n + 1, .tup xs, b, h1, h => by
    cases b with
    | bl _ => rw [plain] at h; cases h
    | ref _ => rw [plain] at h; cases h
    | tup ys =>
      rw [plain] at h1 h
      rw [enc, enc, PyData.eqv, eqvs_enc n xs ys h1 h]
      simp
    | _ => simp [enc, PyData.eqv]
theorem eqvs_enc : ∀ (n : Nat) (xs ys : List D), plains n xs = true → plains n ys = true → (PyData.eqvAll (encs xs) (encs ys) = true ↔ xs = ys)
  | _, [], [], _, _ => by simp [encs, PyData.eqvAll]
  | _, [], _ :: _, _, _ => by simp [encs, PyData.eqvAll]
  | _, _ :: _, [], _, _ => by simp [encs, PyData.eqvAll]
  | n, x :: xs, y :: ys, h1, h2 => by
    rw [plains, Bool.and_eq_true] at h1 h2
    rw [encs, encs, PyData.eqvAll, Bool.and_eq_true, eqv_enc n x y h1.1 h2.1, eqvs_enc n xs ys h1.2 h2.2]
    simp
end
section
variable {P : D → Sto → Prop} {E : Str → Str → D → Sto → Prop} {s : Sto} {a b : D} {xs ys : List D} {n m : Nat}
/-- the answer of == as a proposition -/
theorem z_eqP [Decidable (a = b)] (ha : plain 20 a = true) (hb : plain 20 b = true) : (dEq a b s).wp P E = P (.bl (decide (a = b))) s := by
  rw [z_eq (shp_plain ha) (shp_plain hb)]
  have := eqv_enc 20 a b ha hb
  have e : PyData.eqv (enc a) (enc b) = decide (a = b) := by
    by_cases h : a = b
    · rw [decide_eq_true h, this.mpr h]
    · rw [decide_eq_false h]
      exact Bool.eq_false_iff.mpr fun q => h (this.mp q)
  rw [e]
theorem z_neP [Decidable (a = b)] (ha : plain 20 a = true) (hb : plain 20 b = true) : (dNe a b s).wp P E = P (.bl (!decide (a = b))) s := by
  rw [z_ne (shp_plain ha) (shp_plain hb)]
  have := eqv_enc 20 a b ha hb
  have e : PyData.eqv (enc a) (enc b) = decide (a = b) := by
    by_cases h : a = b
    · rw [decide_eq_true h, this.mpr h]
    · rw [decide_eq_false h]
      exact Bool.eq_false_iff.mpr fun q => h (this.mp q)
  rw [e]
theorem eqv_lst [Decidable (xs = ys)] (h1 : plains 20 xs = true) (h2 : plains 20 ys = true) : PyData.eqv (.list (encs xs)) (.list (encs ys)) = decide (xs = ys) := by
  rw [PyData.eqv]
  have := eqvs_enc 20 xs ys h1 h2
  by_cases h : xs = ys
  · rw [decide_eq_true h, this.mpr h]
  · rw [decide_eq_false h]
    exact Bool.eq_false_iff.mpr fun q => h (this.mp q)
theorem z_eqL [Decidable (xs = ys)] (hx : lstAt s n = some xs) (hy : lstAt s m = some ys) (h1 : plains 20 xs = true) (h2 : plains 20 ys = true) : (dEq (.ref n) (.ref m) s).wp P E = P (.bl (decide (xs = ys))) s := by
  rw [z_eq (shp_lst hx h1) (shp_lst hy h2), eqv_lst h1 h2]
theorem z_neL [Decidable (xs = ys)] (hx : lstAt s n = some xs) (hy : lstAt s m = some ys) (h1 : plains 20 xs = true) (h2 : plains 20 ys = true) : (dNe (.ref n) (.ref m) s).wp P E = P (.bl (!decide (xs = ys))) s := by
  rw [z_ne (shp_lst hx h1) (shp_lst hy h2), eqv_lst h1 h2]
@[simp] theorem z_eqI {i j : Int} : (dEq (.int i) (.int j) s).wp P E = P (.bl (decide (i = j))) s := by
  rw [z_eq (shp_plain (s := s) (d := .int i) (by rw [plain])) (shp_plain (s := s) (d := .int j) (by rw [plain]))]
  rfl
@[simp] theorem z_neI {i j : Int} : (dNe (.int i) (.int j) s).wp P E = P (.bl (!decide (i = j))) s := by
  rw [z_ne (shp_plain (s := s) (d := .int i) (by rw [plain])) (shp_plain (s := s) (d := .int j) (by rw [plain]))]
  rfl
/-! ### in -/
theorem any_enc [Decidable (a ∈ xs)] (ha : plain 20 a = true) (hx : plains 20 xs = true) : ((encs xs).any fun z => PyData.eqv z (enc a)) = decide (a ∈ xs) := by
  rw [encs_map, List.any_map]
  rw [plains_iff] at hx
  by_cases h : a ∈ xs
  · rw [decide_eq_true h, List.any_eq_true]
    exact ⟨a, h, (eqv_enc 20 a a ha ha).mpr rfl⟩
  · rw [decide_eq_false h, List.any_eq_false]
    intro x hxm hq
    exact h (by rw [← (eqv_enc 20 x a (hx x hxm) ha).mp hq]; exact hxm)
theorem z_inT {neg : Bool} [Decidable (a ∈ xs)] (ha : plain 20 a = true) (hx : plains 19 xs = true) : (dInB neg a (.tup xs) s).wp P E = P (.bl (neg ^^ decide (a ∈ xs))) s := by
  have h2 : plain 20 (.tup xs) = true := by rw [plain]; exact hx
  have hx' : plains 20 xs = true := plains_iff.mpr fun x h => plain_mono _ _ (plains_iff.mp hx x h)
  unfold dInB
  dsimp only
  rw [shp_plain ha, shp_plain h2, enc]
  dsimp only
  rw [any_enc ha hx', z_ok]
theorem z_inL {neg : Bool} [Decidable (a ∈ xs)] (ha : plain 20 a = true) (hl : lstAt s n = some xs) (hx : plains 20 xs = true) : (dInB neg a (.ref n) s).wp P E = P (.bl (neg ^^ decide (a ∈ xs))) s := by
  unfold dInB
  dsimp only
  rw [shp_plain ha, shp_lst hl hx]
  dsimp only
  rw [any_enc ha hx, z_ok]
theorem z_inS {neg : Bool} {c : Nat} {y : Str} : (dInB neg (.str (one c)) (.str y) s).wp P E = P (.bl (neg ^^ decide (c ∈ tl y))) s := by
  unfold dInB
  dsimp only
  rw [if_pos (show (one c).length = 1 from rfl), z_ok]
  rfl
theorem z_eq_yes (ha : plain 20 a = true) : (dEq a a s).wp P E = P (.bl true) s := by
  classical
  rw [z_eqP ha ha, decide_eq_true rfl]
theorem z_eq_no (ha : plain 20 a = true) (hb : plain 20 b = true) (h : a ≠ b) : (dEq a b s).wp P E = P (.bl false) s := by
  classical
  rw [z_eqP ha hb, decide_eq_false h]
theorem z_ne_no (ha : plain 20 a = true) : (dNe a a s).wp P E = P (.bl false) s := by
  classical
  rw [z_neP ha ha, decide_eq_true rfl]
  rfl
theorem z_inT_yes {neg : Bool} (ha : plain 20 a = true) (hx : plains 19 xs = true) (h : a ∈ xs) : (dInB neg a (.tup xs) s).wp P E = P (.bl !neg) s := by
  classical
  rw [z_inT ha hx, decide_eq_true h, Bool.xor_true]
theorem z_inL_no {neg : Bool} (ha : plain 20 a = true) (hl : lstAt s n = some xs) (hx : plains 20 xs = true) (h : a ∉ xs) : (dInB neg a (.ref n) s).wp P E = P (.bl neg) s := by
  classical
  rw [z_inL ha hl hx, decide_eq_false h, Bool.xor_false]
theorem z_inL_yes {neg : Bool} (ha : plain 20 a = true) (hl : lstAt s n = some xs) (hx : plains 20 xs = true) (h : a ∈ xs) : (dInB neg a (.ref n) s).wp P E = P (.bl !neg) s := by
  classical
  rw [z_inL ha hl hx, decide_eq_true h, Bool.xor_true]
theorem z_neL_no (hx : lstAt s n = some xs) (hy : lstAt s m = some xs) (h1 : plains 20 xs = true) : (dNe (.ref n) (.ref m) s).wp P E = P (.bl false) s := by
  classical
  rw [z_neL hx hy h1 h1, decide_eq_true rfl]
  rfl
/-! ### sorted texts -/
def leS (a b : Str) : Bool := decide (tl a ≤ tl b)
def sortS (xs : List Str) : List Str := xs.mergeSort leS
theorem leS_trans (a b c : Str) (h1 : leS a b = true) (h2 : leS b c = true) : leS a c = true := by
  unfold leS at *
  simp only [decide_eq_true_eq] at *
  exact List.le_trans h1 h2
theorem leS_total (a b : Str) : (leS a b || leS b a) = true := by
  unfold leS
  simp only [Bool.or_eq_true, decide_eq_true_eq]
  exact List.le_total _ _
theorem plains_strs {ms : List Str} (h : ∀ x ∈ ms, strOk x = true) : plains n (ms.map D.str) = true := plains_iff.mpr fun d hd => by
  obtain ⟨x, hx, rfl⟩ := List.mem_map.mp hd
  rw [plain]
  exact h x hx
theorem encD_str {x : Str} : encD s (.str x) = .str x := by
  unfold encD
  rw [pyd]
  rfl
theorem sortS_perm (ms : List Str) : (sortS ms).Perm ms := List.mergeSort_perm _ _
theorem sortS_sorted (ms : List Str) : (sortS ms).Pairwise fun a b => leS a b = true := List.pairwise_mergeSort leS_trans leS_total ms
theorem sortS_of {ms : List Str} (h : ms.Pairwise fun a b => leS a b = true) : sortS ms = ms := List.mergeSort_of_pairwise h
/-! ### repr -/
theorem z_repr : (fRepr [a] s).wp P E = ∃ p, shp s a = some p ∧ (p.showable = true ∧ p.shown.length ≤ sizeLine) ∧ P (.str p.shown) s := by
  unfold fRepr
  dsimp only
  cases h : shp s a with
  | none => simp [Rs.wp]
  | some p => simp [z_iteN, z_ok]
end
end Z

set_option Elab.async false
set_option linter.all false
set_option maxRecDepth 100000
set_option maxHeartbeats 4000000
namespace Z
open PySem PySem.Spec PyProof.Rows L2
variable [Row]
/-! ### list comprehensions of two walks -/
def lcI (j : Stp) (g : GN) (t : EM Bool) (m : EM D) (l : Nat) : Nat → Nat → Ev → Sto → Rs Unit
  | 0, i, e, s => match j i s with
    | some none => .ok () s
    | _ => .no
  | f + 1, i, e, s => match j i s with
    | none => .no
    | some none => .ok () s
    | some (some d) => match g d e with
      | none => .no
      | some e1 => (t e1 s).nox.bind fun q s1 => if q then (m e1 s1).nox.bind fun y s2 => match s2[l]? with
          | some (.lst acc) => if acc.length < sizeLine then lcI j g t m l f (i + 1) e (s2.set l (.lst (acc ++ [y]))) else .no
          | _ => .no
        else lcI j g t m l f (i + 1) e s1
def lcL2 (j : Stp) (g : GN) (t : EM Bool) (mi1 : EM (Nat × Stp)) (g1 : GN) (t1 : EM Bool) (m : EM D) (vs1 : List Nat) (l : Nat) : Nat → Nat → Ev → Sto → Rs D
  | 0, i, e, s => match j i s with
    | some none => .ok (.ref l) s
    | _ => .no
  | f + 1, i, e, s => match j i s with
    | none => .no
    | some none => .ok (.ref l) s
    | some (some d) => match g d e with
      | none => .no
      | some e1 => (t e1 s).nox.bind fun q s1 => if q then (mi1 e1 s1).nox.bind fun jt s2 => (lcI jt.2 g1 t1 m l jt.1 0 (wipeD e1 vs1) s2).bind fun _ s3 => lcL2 j g t mi1 g1 t1 m vs1 l f (i + 1) e s3
        else lcL2 j g t mi1 g1 t1 m vs1 l f (i + 1) e s1
def mL2 (mi : EM (Nat × Stp)) (g : GN) (t : EM Bool) (mi1 : EM (Nat × Stp)) (g1 : GN) (t1 : EM Bool) (m : EM D) (vs vs1 : List Nat) : EM D := fun e s => (mi e s).bind fun jt s1 => lcL2 jt.2 g t mi1 g1 t1 m vs1 s1.length jt.1 0 (wipeD e vs) (s1 ++ [.lst []])
omit [Row] in
theorem wipe_again (σ : L2.St) (vs : List Nat) : wipe (wipe σ vs) vs = wipe σ vs := by
  have ww : ∀ us : List Nat, (∀ u ∈ us, u ∈ vs) → wipe (wipe σ vs) us = wipe σ vs := by
    intro us
    induction us with
    | nil => intro _; rfl
    | cons u us ih =>
      intro hu
      show (wipe (wipe σ vs) us).set u none = wipe σ vs
      rw [ih fun z hz => hu z (List.mem_cons_of_mem _ hz)]
      have key : ∀ ws : List Nat, u ∈ ws → (wipe σ ws).set u none = wipe σ ws := by
        intro ws
        induction ws with
        | nil => intro h; simp at h
        | cons w ws ihw =>
          intro h
          show ((wipe σ ws).set w none).set u none = (wipe σ ws).set w none
          by_cases q : u = w
          · subst q
            rw [List.set_set]
          · rw [List.set_comm _ _ (Ne.symm q), ihw ((List.mem_cons.mp h).resolve_left q)]
      exact key vs (hu u List.mem_cons_self)
  exact ww vs fun _ h => h
omit [Row] in
theorem Rs.bind_assoc {α β γ : Type} {r : Rs α} {k : α → Sto → Rs β} {h : β → Sto → Rs γ} : (r.bind k).bind h = r.bind fun a s => (k a s).bind h := by cases r <;> rfl
section
variable {X : Cx} {W : WX} {pos : Pos} {elt tg iter tg1 iter1 : Expr} {ifs ifs1 : List Expr} {scope : Scope} {own : List (Str × Nat)} {mi mi1 : EM (Nat × Stp)} {g g1 : GN} {is is1 : List Nat} {t t1 : EM Bool} {m : EM D}
theorem llc2 {K : PySem.W.Frag} {mg : Str → Option Value} {vs vs1 : List Nat} {g' g1' : TG} {wi1 : TI} {tt tt1 : TT} {te : TE} (his : ∀ i ∈ is, i ∈ vs) (his1 : ∀ i ∈ is1, i ∈ vs1)
    (gq : GQ K g is g') (gq1 : GQ K g1 is1 g1')
    (ht : ∀ σ H Q, lT K mg WF t σ H Q → tt σ H Q) (hi1 : ∀ σ H Q, lG K mg (RI K mg) WF mi1 σ H Q → wi1 σ H Q) (ht1 : ∀ σ H Q, lT K mg WF t1 σ H Q → tt1 σ H Q) (he : ∀ σ H Q, lE K mg WF m σ H Q → te σ H Q) {σ : L2.St} {H : Hp} {Q : VK}
    (h : lE K mg W (mL2 mi g t mi1 g1 t1 m vs vs1) σ H Q) : tLc2 (lG K mg (RI K mg) W mi) g' tt wi1 g1' tt1 te vs vs1 σ H Q := by
  obtain ⟨ρ, env, s, sr, er, po⟩ := h
  refine ⟨ρ, env, s, sr, er, (Po.bind po).imp fun J H1 ⟨ρ1, s1, jt, e1, sr1, ri, po1⟩ => fun Dl hDl => ?_⟩
  obtain ⟨x2, sr2, r2⟩ := new_lst sr1 hDl (VRs.nil (K := K) (ρ := ρ1) (n := s1.length) (H := H1))
  refine ⟨fun i m2 H2 => ∃ ρ2 s2, Ext (ρup ρ1 s1.length Dl) (s1 ++ [SO.lst []]).length (upd H1 Dl (.lst [])) ρ2 s2.length H2 ∧ SR K mg ρ2 s2 H2 ∧ Po K mg (VR K) W σ ρ2 s2.length H2 (lcL2 jt.2 g t mi1 g1 t1 m vs1 s1.length m2 i (wipeD env vs) s2) Q, ⟨jt.1, ρup ρ1 s1.length Dl, _, Ext.refl, sr2, po1.rebase x2⟩, ?_⟩
  rintro i m2 H2 ⟨ρ2, s2, x3, sr3, po2⟩
  have x23 := x2.trans x3
  have hj := ri ρ2 s2 H2 i x23 sr3
  have lt1 : s1.length < (s1 ++ [SO.lst []]).length := by simp
  have rD : VR K ρ2 s2.length H2 (.ref s1.length) (.ref Dl) := r2.mono x3
  cases m2 with
  | zero =>
    rw [lcL2] at po2
    cases e : jt.2 i s2 with
    | none => rw [e] at po2; exact po2.elim
    | some o =>
      rw [e] at po2 hj
      cases o with
      | none => exact .inl ⟨hj, po2 ρ2 H2 _ Ext.refl sr3 rD⟩
      | some d => exact po2.elim
  | succ f =>
    rw [lcL2] at po2
    cases e : jt.2 i s2 with
    | none => rw [e] at po2; exact po2.elim
    | some o =>
      rw [e] at po2 hj
      cases o with
      | none => exact .inl ⟨hj, po2 ρ2 H2 _ Ext.refl sr3 rD⟩
      | some d =>
        dsimp only at po2 hj
        obtain ⟨go, yl⟩ := hj
        refine .inr ⟨go, _, fun H' w => ⟨f, Nat.lt_succ_self f, w⟩, fun x H' y => ?_⟩
        obtain ⟨x4, sr4, r4⟩ := yl x H' y
        cases hgd : g d (wipeD env vs) with
        | none => rw [hgd] at po2; exact po2.elim
        | some e4 =>
          rw [hgd] at po2
          dsimp only at po2
          have erw : EnvR K ρ2 s2.length H' (wipeD env vs) (wipe σ vs) := ((er.mono e1).mono (x23.trans x4)).wipe vs
          refine gq ρ2 s2 H' _ _ e4 d x _ erw r4 hgd fun σ4 er4 hw => ⟨by rw [hw vs his, wipe_again], ?_⟩
          refine ht _ _ _ ⟨ρ2, e4, s2, sr4, er4, (Po.bindx (po2.rebase x4)).imp fun q H5 ⟨ρ5, s5, q5, x5, sr5, r5, po5⟩ => ?_⟩
          have eq : q5 = q := r5
          subst eq
          have x35 := (x3.trans x4).trans x5
          cases q5 with
          | false => exact ⟨ρ5, s5, x35, sr5, po5⟩
          | true =>
            rw [if_pos rfl] at po5 ⊢
            refine hi1 _ _ _ ⟨ρ5, e4, s5, sr5, er4.mono x5, (Po.bindx po5).imp fun J1 H6 ⟨ρ6, s6, jt1, x6, sr6, ri6, po6⟩ => ?_⟩
            have x36 := x35.trans x6
            have er6 : EnvR K ρ6 s6.length H6 e4 σ4 := (er4.mono x5).mono x6
            dsimp only at po6
            refine ⟨fun i1 k1 H7 => ∃ ρ7 s7, Ext ρ6 s6.length H6 ρ7 s7.length H7 ∧ SR K mg ρ7 s7 H7 ∧ Po K mg (VR K) W σ ρ7 s7.length H7 ((lcI jt1.2 g1 t1 m s1.length k1 i1 (wipeD e4 vs1) s7).bind fun _ s3 => lcL2 jt.2 g t mi1 g1 t1 m vs1 s1.length f (i + 1) (wipeD env vs) s3) Q, ⟨jt1.1, ρ6, s6, Ext.refl, sr6, po6⟩, ?_⟩
            rintro i1 k1 H7 ⟨ρ7, s7, x7, sr7, po7⟩
            have hj7 := ri6 ρ7 s7 H7 i1 x7 sr7
            have x37 := x36.trans x7
            cases k1 with
            | zero =>
              rw [lcI] at po7
              cases e7 : jt1.2 i1 s7 with
              | none => rw [e7] at po7; exact po7.elim
              | some o =>
                rw [e7] at po7 hj7
                cases o with
                | none => exact .inl ⟨hj7, ρ7, s7, x37, sr7, po7⟩
                | some d => exact po7.elim
            | succ f7 =>
              rw [lcI] at po7
              cases e7 : jt1.2 i1 s7 with
              | none => rw [e7] at po7; exact po7.elim
              | some o =>
                rw [e7] at po7 hj7
                cases o with
                | none => exact .inl ⟨hj7, ρ7, s7, x37, sr7, po7⟩
                | some d7 =>
                  dsimp only at po7 hj7
                  obtain ⟨go7, yl7⟩ := hj7
                  refine .inr ⟨go7, _, fun H' w => ⟨f7, Nat.lt_succ_self f7, w⟩, fun x' H' y' => ?_⟩
                  obtain ⟨x8, sr8, r8⟩ := yl7 x' H' y'
                  cases hg7 : g1 d7 (wipeD e4 vs1) with
                  | none => rw [hg7] at po7; exact po7.elim
                  | some e8 =>
                    rw [hg7] at po7
                    dsimp only at po7
                    have erw8 : EnvR K ρ7 s7.length H' (wipeD e4 vs1) (wipe σ4 vs1) := (er6.mono (x7.trans x8)).wipe vs1
                    refine gq1 ρ7 s7 H' _ _ e8 d7 x' _ erw8 r8 hg7 fun σ8 er8 hw8 => ⟨by rw [hw8 vs1 his1, wipe_again], ?_⟩
                    rw [Rs.bind_assoc] at po7
                    refine ht1 _ _ _ ⟨ρ7, e8, s7, sr8, er8, (Po.bindx (po7.rebase x8)).imp fun q H9 ⟨ρ9, s9, q9, x9, sr9, r9, po9⟩ => ?_⟩
                    have eq9 : q9 = q := r9
                    subst eq9
                    have x79 := (x7.trans x8).trans x9
                    have x39 := (x37.trans x8).trans x9
                    cases q9 with
                    | false => exact ⟨ρ9, s9, x79, sr9, po9⟩
                    | true =>
                      rw [if_pos rfl] at po9 ⊢
                      rw [Rs.bind_assoc] at po9
                      refine he _ _ _ ⟨ρ9, e8, s9, sr9, er8.mono x9, (Po.bindx po9).imp fun y6 Ha ⟨ρa, sa, da, xa, sra, ra, poa⟩ => ?_⟩
                      have x3a := x39.trans xa
                      have eDa : ρa s1.length = Dl := by
                        rw [x3a.ag _ lt1, ρup_same]
                      dsimp only at poa
                      cases el : sa[s1.length]? with
                      | none => rw [el] at poa; exact poa.elim
                      | some o =>
                        rw [el] at poa
                        cases o with
                        | lst acc =>
                          dsimp only at poa
                          by_cases hl : acc.length < sizeLine
                          · rw [if_pos hl] at poa
                            obtain ⟨av, hav, rav⟩ := sra.ob _ _ el
                            rw [eDa] at hav
                            have ob' := sra.ob _ _ el
                            have xw : Ext ρa sa.length Ha ρa sa.length (upd Ha (ρa s1.length) (.lst (av ++ [y6]))) := Ext.write (u := .lst (av ++ [y6])) ob' rfl
                            refine ⟨av, hav, by rw [rav.length]; exact hl, ρa, sa.set s1.length (.lst (acc ++ [da])), ?_, ?_, ?_⟩
                            · rw [List.length_set]
                              have x7 := (x79.trans xa).trans xw
                              rw [eDa] at x7
                              exact x7
                            · rw [← eDa]
                              exact sra.write el rfl rfl ⟨av ++ [y6], upd_same, (rav.append (VRs.cons ra VRs.nil)).mono xw⟩
                            · rw [List.length_set, ← eDa]
                              exact poa.rebase xw
                          · rw [if_neg hl] at poa
                            exact poa.elim
                        | _ => exact poa.elim
theorem je_lc2 {g' g1' : TG} {vs1 : List Nat} (hc : X.calm = true) (hN : X.N.Nodup) (hi : JI X W tg iter mi) (ok : BlkOk X.N X.env.scope scope own) (hv : ∀ i ∈ vs1, i ∈ own.map (·.2)) (his : ∀ i ∈ is, i ∈ own.map (·.2)) (his1 : ∀ i ∈ is1, i ∈ vs1)
    (hg' : ∀ (s : Shared) (H : Hp) (C : Addr) (cl : List (Str × Addr)) (fp : List Addr), PG (X.blk s H scope (compEnvC scope cl C X.env) fp) tg g') (gq : GQ X.K g is g')
    (ht : ∀ (s : Shared) (H : Hp) (C : Addr) (cl : List (Str × Addr)) (fp : List Addr), PTs (X.blk s H scope (compEnvC scope cl C X.env) fp) ifs (lT X.K X.mg WF t))
    (hi1 : ∀ (s : Shared) (H : Hp) (C : Addr) (cl : List (Str × Addr)) (fp : List Addr), JI (X.blk s H scope (compEnvC scope cl C X.env) fp) WF tg1 iter1 mi1)
    (hg1 : ∀ (s : Shared) (H : Hp) (C : Addr) (cl : List (Str × Addr)) (fp : List Addr), PG (X.blk s H scope (compEnvC scope cl C X.env) fp) tg1 g1') (gq1 : GQ X.K g1 is1 g1')
    (ht1 : ∀ (s : Shared) (H : Hp) (C : Addr) (cl : List (Str × Addr)) (fp : List Addr), PTs (X.blk s H scope (compEnvC scope cl C X.env) fp) ifs1 (lT X.K X.mg WF t1))
    (he : ∀ (s : Shared) (H : Hp) (C : Addr) (cl : List (Str × Addr)) (fp : List Addr), JE (X.blk s H scope (compEnvC scope cl C X.env) fp) WF elt m) (hs : ∀ x, foldedSetIterable iter X.env x = pure x := by intro _; rfl) (hs1 : ∀ env x, foldedSetIterable iter1 env x = pure x := by intro _ _; rfl) :
    JE X W (.ListComp elt [⟨tg, iter, ifs, 0⟩, ⟨tg1, iter1, ifs1, 0⟩] scope pos) (mL2 mi g t mi1 g1 t1 m (own.map (·.2)) vs1) := by
  exact PE_imp (pe_lc2 hc hN hi ok hv hg' ht hi1 hg1 ht1 he hs hs1) fun σ H Q h => llc2 his his1 gq gq1 (fun _ _ _ z => z) (fun _ _ _ z => z) (fun _ _ _ z => z) (fun _ _ _ z => z) h
end
end Z

set_option Elab.async false
set_option linter.all false
set_option maxRecDepth 100000
set_option maxHeartbeats 4000000
namespace Z
open PySem PySem.Spec PyProof.Rows L2
variable [Row]
abbrev MF := List D → Sto → Rs D
/-! ### operations that may run defs -/
def OpD (X : Cx) (W : WX) (f : Value → Value → Sem Value) (F : D → D → Sto → Rs D) : Prop :=
  ∀ (pins : List (Addr × Obj)) (s : Shared) (σ : L2.St) (H : Hp) (ρ : Nat → Addr) (st : Sto) (x y : D) (vx vy : V) (ux uy : Value) (Q : VK), Inv X pins σ H s → SR X.K X.mg ρ st H → VR X.K ρ st.length H x vx → VR X.K ρ st.length H y vy → RelV vx ux → RelV vy uy →
    Po X.K X.mg (VR X.K) W σ ρ st.length H (F x y st) Q → wpAny (model X.prog X.w) X.A (f ux uy) (EP X pins σ Q) X.xe s
section
variable {X : Cx} {W : WX} {k : Nat} {F : D → D → Sto → Rs D} {x : Str} {p pos apos pos' : Pos} {a b e o value : Expr} {es : List Expr} {ma mb m mo : EM D} {ms mk : EM (List D)} {f : Str}
theorem OpD.of {g : Value → Value → Sem Value} {r : R2} (ho : OpR X g r) (hp : Pr2 X W F r) : OpD X W g F :=
  fun pins s σ H ρ st x y vx vy ux uy Q I sr rx ry e1 e2 po => ho pins s σ H vx vy ux uy Q I e1 e2 (hp ρ st H σ x y vx vy Q sr rx ry po)
/-! ### attributes of instances -/
def insC (s : Sto) : D → Option Str
  | .ref n => match s[n]? with
    | some (.ins c _) => some c
    | _ => none
  | _ => none
def FldOk (K : PySem.W.Frag) (mg : Str → Option Value) (cs : List Str) (f : Str) : Prop := ∀ c ∈ cs, ∃ C, mg c = some (.ref C) ∧ Cls K C ∧ NoAttr K C f
def gFld (cs : List Str) (f : Str) (d : D) (s : Sto) : Rs D := match d with
  | .ref n => match s[n]? with
    | some (.ins c fs) => if c ∈ cs then (match fs.lookup f with | some v => .ok v s | none => .no) else .no
    | _ => .no
  | _ => .no
def mFld (cs : List Str) (f : Str) (m : EM D) : EM D := fun e s => (m e s).bind fun d s1 => gFld cs f d s1
/-- o.f = value -/
def sFldD (cs : List Str) (f : Str) (mo m : EM D) : SM := fun e s => (m e s).st e fun v s1 => (mo e s1).st e fun d s2 => match d with
  | .ref n => match s2[n]? with
    | some (.ins c fs) => if c ∈ cs ∧ fs.length < 1000 then .nx e (s2.set n (.ins c (putD f v fs))) else .no
    | _ => .no
  | _ => .no
theorem PoS.ite {K : PySem.W.Frag} {mg : Str → Option Value} {D : Ends} {ρ : Nat → Addr} {n : Nat} {H : Hp} {c : Prop} [Decidable c] {r : RS} (h : PoS K mg W D ρ n H (if c then r else .no)) : c ∧ PoS K mg W D ρ n H r := by
  by_cases hc : c
  · rw [if_pos hc] at h
    exact ⟨hc, h⟩
  · rw [if_neg hc] at h
    exact h.elim
end
end Z

set_option Elab.async false
set_option linter.all false
set_option maxRecDepth 100000
set_option maxHeartbeats 4000000
namespace Z
open PySem PySem.Spec PyProof.Rows L2
variable [Row]
theorem Rm.in1 {k : Nat} {A : Around} (r : Rm (k + 1) A) : Rm k A.in1 := ⟨r.room.in1, r.gd⟩
theorem make_guards {A : Around} {C : Addr} {us : List Value} {kw : List (Str × Value)} : (A.under (.builtin "type.__call__" ⟨.ref C :: us, kw⟩)).guards = A.guards := by
  first | rfl | (obtain ⟨hd, d, fr, gs, u⟩ := A; simp [Around.under, Code.weight, Code.isCreation, Code.isGuard, Code.isCaller, Code.frames, Code.isFrame, guardIds, Code.guards, pushGuards]) 
theorem Rm.make {k : Nat} {A : Around} (r : Rm (k + 1) A) (C : Addr) (us : List Value) (kw : List (Str × Value)) : Rm k (A.under (.builtin "type.__call__" ⟨.ref C :: us, kw⟩)) := ⟨r.room.make C us kw, by rw [make_guards]; exact r.gd⟩
/-! ### an own class made -/
/-- the class named c, its __init__ does F -/
def CMk (P : Program) (w : World) (K : PySem.W.Frag) (mg : Str → Option Value) (base : Heap) (k : Nat) (c : Str) (n : Option Nat) (ks : List Str) (F : MF) : Prop := ∃ C g, mg c = some (.ref C) ∧ Mk K C g ∧ FnG P w K mg base k g n ks (spF K mg F)
def mkD (c : Str) (F : MF) : MF := fun ds s => (F (.ref s.length :: ds) (s ++ [.ins c []])).bind fun d s2 => match d with | .non => .ok (.ref s.length) s2 | _ => .no
section
variable {X : Cx} {W : WX} {k : Nat} {F : MF} {x c : Str} {p pos apos pos' : Pos} {a b e o value : Expr} {es : List Expr} {kws : List Keyword} {ma mb m mo : EM D} {ms mk : EM (List D)} {f : Str} {n : Option Nat} {ks : List Str}
theorem Ext.lt {ρ ρ' : Nat → Addr} {n n' : Nat} {H H' : Hp} (e : Ext ρ n H ρ' n' H') {i : Nat} (h : i < n) : i < n' := Nat.lt_of_lt_of_le h e.le
/-! ### starred arguments -/
def aS (ma : EM D) (ms : EM (List D)) : EM (List D) := fun env s => (ma env s).bind fun x s1 => match seqD s1 x with
  | some xs => (ms env s1).bind fun ys s2 => .ok (xs ++ ys) s2
  | none => .no
/-- the class called with one starred part alone -/
def aS1 (ma : EM D) : EM (List D) := fun env s => (ma env s).bind fun x s1 => match seqD s1 x with
  | some xs => .ok xs s1
  | none => .no
end
/-! ### a def with a starred parameter -/
/-- the values by parameters: what is left over is a tuple -/
def starF (n : Nat) (F : MF) : MF := fun ds s => if n ≤ ds.length ∧ ds.length ≤ sizeLine then F (ds.take n ++ [.tup (ds.drop n)]) s else .no
section
variable {P : Program} {w : World} {K : PySem.W.Frag} {mg : Str → Option Value} {base : Heap} {k : Nat} {f : Addr} {fd : FuncData} {x qual : Str} {params : Arguments} {body : List Stmt} {scope : Scope} {N ps : List Str} {m : SM} {pv : Str}
end
end Z

set_option Elab.async false
set_option linter.all false
set_option maxRecDepth 100000
set_option maxHeartbeats 4000000
namespace Z
open PySem PySem.Spec PyProof.Rows L2
variable [Row]
/-! ### methods: by the class of the receiver -/
abbrev Tb := List (Str × MF)
/-- the classes of the table have the method m, at level k -/
def MTab (P : Program) (w : World) (K : PySem.W.Frag) (mg : Str → Option Value) (base : Heap) (k : Nat) (tb : Tb) (m : Str) : Prop :=
  ∀ c F, tb.lookup c = some F → ∃ C g, mg c = some (.ref C) ∧ Cls K C ∧ Meth K C m g ∧ FS P w K mg base k g F
section
variable {P : Program} {w : World} {K : PySem.W.Frag} {mg : Str → Option Value} {base : Heap} {j k : Nat} {tb : Tb} {m c : Str} {F : MF}
end
def mMeth (tb : Tb) (m : Str) (mo : EM D) (ms : EM (List D)) : EM D := fun e s => (mo e s).bind fun d s1 => match d with
  | .ref n => match s1[n]? with
    | some (.ins c fs) => match tb.lookup c with
      | some F => if (fs.lookup m).isNone then (ms e s1).bind fun ds s2 => F (.ref n :: ds) s2 else .no
      | none => .no
    | _ => .no
  | _ => .no
section
variable {X : Cx} {W : WX} {k : Nat} {tb : Tb} {x c m : Str} {p pos apos pos' : Pos} {a b e o value : Expr} {es : List Expr} {mo ma mb : EM D} {ms : EM (List D)}
/-! ### operators that the class of an instance does -/
/-- the instance's place in the library's words -/
theorem inst_look {pins : List (Addr × Obj)} {σ : L2.St} {H : Hp} {s : Shared} {a C dx : Addr} {vs : List (Str × V)} (I : Inv X pins σ H s) (ea : H a = some (.ins C dx vs)) : ∃ ox od, PySem.W.InstAt s.heap a ox C od ∧ ox.data = .plain := by
  obtain ⟨mA, O, _, _, _, _⟩ := ins_get I.hok ea
  obtain ⟨od, J, _⟩ := O.look
  exact ⟨_, _, J, rfl⟩
/-- x in y, x not in y -/
def dInO (neg : Bool) (tb : Tb) (B : D → D → Sto → Rs D) (x y : D) (s : Sto) : Rs D := match insC s y with
  | some c => match tb.lookup c with
    | some F => (F [y, x] s).bind fun d s1 => match d with | .bl b => .ok (.bl (neg ^^ b)) s1 | _ => .no
    | none => .no
  | none => B x y s
/-! ### o[i] -/
def IxD (X : Cx) (W : WX) (F : D → D → Sto → Rs D) : Prop :=
  ∀ (value slice : Expr) (pins : List (Addr × Obj)) (s : Shared) (σ : L2.St) (H : Hp) (ρ : Nat → Addr) (st : Sto) (x y : D) (vx vy : V) (ux uy : Value) (Q : VK), Inv X pins σ H s → SR X.K X.mg ρ st H → VR X.K ρ st.length H x vx → VR X.K ρ st.length H y vy → RelV vx ux → RelV vy uy →
    Po X.K X.mg (VR X.K) W σ ρ st.length H (F x y st) Q → (∀ v u, subscripted slice false v u = operate [v, u] (getItem v u)) → (∀ v u, subscripted slice true v u = runValue (.builtin "lifetime.subscript" ⟨[v, u], []⟩)) → wpAny (model X.prog X.w) X.A (subscriptTail value slice ux uy) (EP X pins σ Q) X.xe s
def dIxO (tb : Tb) (B : D → D → Sto → Rs D) (x y : D) (s : Sto) : Rs D := match insC s x with
  | some c => match tb.lookup c with
    | some F => F [x, y] s
    | none => .no
  | none => B x y s
def FnTab (K : PySem.W.Frag) (mg : Str → Option Value) (tb : Tb) (m : Str) : Prop := ∀ c F, tb.lookup c = some F → ∀ C g, mg c = some (.ref C) → Meth K C m g → PySem.W.fnIn K g = true
/-! ### len(o) -/
def CallD (X : Cx) (W : WX) (f : Value) (F : MF) : Prop :=
  ∀ (pins : List (Addr × Obj)) (s : Shared) (σ : L2.St) (H : Hp) (ρ : Nat → Addr) (st : Sto) (ds : List D) (vs : List V) (us : List Value) (Q : VK), Inv X pins σ H s → SR X.K X.mg ρ st H → VRs X.K ρ st.length H ds vs → Vals vs us →
    Po X.K X.mg (VR X.K) W σ ρ st.length H (F ds st) Q → wpAny (model X.prog X.w) X.A (call f us) (EP X pins σ Q) X.xe s
theorem calld_of {f : Value} {F : MF} {r : List V → Hp → VK → Prop} (hr : CallR X f r) (hp : PrN X W F r) : CallD X W f F := fun pins s σ H ρ st ds vs us Q I sr vr r po => hr pins s σ H vs us Q I r (hp ρ st H σ ds vs Q sr vr po)
theorem je_cbd {id : String} {F : MF} (hc : CallD X W (.builtin id) F) (hg : Gl X x) (hm : X.mg x = none) (hv : bootBuiltins x = some (.builtin id)) (ha : JA X W (e :: es) ms) (hn : x ≠ "__name__" := by decide) (hdb : (x == ("__debug__" : Str)) = false := by decide)
    (he : starEach (e :: es) X.env = (false, eval e X.env) :: starEach es X.env := by rfl) (hpl : (backTo pos (starEach es X.env)).any (·.1) = false := by rfl) : JE X W (.Call (.Name x p) (e :: es) [] pos) (mN F ms) := by
  refine ⟨fun pins s σ H Q I ⟨ρ, env, st, sr, er, po⟩ => ?_⟩
  refine wpAny_Call_Name_kw (ld_blt I hg hm hv ?_ hn hdb)
  exact PyProof.Rows.callWith_builtin1 (thn (ha.run pos pins s σ H _ I ⟨ρ, env, st, sr, er, Po.bind po⟩) fun us s1 ⟨vs, H1, I1, r1, ρ1, st1, ds, e1, sr1, vr1, po1⟩ => hc pins s1 σ H1 ρ1 st1 ds vs us Q I1 sr1 vr1 r1 po1) he hpl
theorem je_ctd {T : String} {F : MF} (hc : CallD X W (.type T) F) (hg : Gl X x) (hm : X.mg x = none) (hv : bootBuiltins x = some (.type T)) (ha : JA X W (e :: es) ms) (hn : x ≠ "__name__" := by decide) (hdb : (x == ("__debug__" : Str)) = false := by decide)
    (he : starEach (e :: es) X.env = (false, eval e X.env) :: starEach es X.env := by rfl) (hpl : (backTo pos (starEach es X.env)).any (·.1) = false := by rfl) : JE X W (.Call (.Name x p) (e :: es) [] pos) (mN F ms) := by
  refine ⟨fun pins s σ H Q I ⟨ρ, env, st, sr, er, po⟩ => ?_⟩
  refine wpAny_Call_Name_kw (ld_blt I hg hm hv ?_ hn hdb)
  exact PyProof.Rows.callWith_type1 (thn (ha.run pos pins s σ H _ I ⟨ρ, env, st, sr, er, Po.bind po⟩) fun us s1 ⟨vs, H1, I1, r1, ρ1, st1, ds, e1, sr1, vr1, po1⟩ => hc pins s1 σ H1 ρ1 st1 ds vs us Q I1 sr1 vr1 r1 po1) he hpl
def fLenO (tb : Tb) (B : MF) : MF := fun ds s => match ds with
  | [d] => match insC s d with
    | some c => match tb.lookup c with
      | some F => (F [d] s).bind fun d1 s1 => match d1 with | .int i => if 0 ≤ i ∧ i < 2 ^ 63 then .ok (.int i) s1 else .no | _ => .no
      | none => .no
    | none => B ds s
  | _ => B ds s
end
end Z

set_option Elab.async false
set_option linter.all false
set_option maxRecDepth 100000
set_option maxHeartbeats 4000000
namespace Z
open PySem PySem.Spec PyProof.Rows L2
variable [Row]
/-! ### a class whose __iter__ walks a tuple of its own -/
/-- what its __iter__ at g does: a new walk over the tuple in the attribute f -/
def IterG (P : Program) (w : World) (K : PySem.W.Frag) (mg : Str → Option Value) (base : Heap) (k : Nat) (g C : Addr) (f : Str) : Prop :=
  ∀ (A : Around) (outer : List Env) (st : Shared) (H : Hp) (a dx t : Addr) (vs : List (Str × V)) (xs : List V), Rm k A → Env0 P w K mg base A outer st H → H a = some (.ins C dx vs) → vs.lookup f = some (.ref t) → SqT K H t xs →
    codeAny (model P w) A (.call (.ref g) ⟨[.ref a], []⟩) (fun r s' => ∃ it, r = .ok (.ret (.ref it)) ∧ CE outer P w H st (fun _ H' => H' = H) (.ref it) s' ∧ s'.heap.IsTupleIter it t 0 ∧ st.heap.objs.size ≤ it) st
section
variable {P : Program} {w : World} {K : PySem.W.Frag} {mg : Str → Option Value} {base : Heap} {k : Nat} {g C : Addr} {fd : FuncData} {x qual f : Str} {params : Arguments} {body : List Stmt} {scope : Scope} {N : List Str}
end
/-- class, the attribute that its __iter__ walks -/
abbrev Itb := List (Str × Str)
def ITab (P : Program) (w : World) (K : PySem.W.Frag) (mg : Str → Option Value) (base : Heap) (k : Nat) (tb : Itb) : Prop :=
  ∀ c f, tb.lookup c = some f → ∃ C g, mg c = some (.ref C) ∧ Meth K C "__iter__" g ∧ IterG P w K mg base k g C f
section
variable {P : Program} {w : World} {K : PySem.W.Frag} {mg : Str → Option Value} {base : Heap} {j k : Nat} {tb : Itb} {f c : Str}
theorem itab_nil : ITab P w K mg base k [] := fun _ _ h => by cases h
end
/-- the items of the tuple that an instance walks -/
def itsO (tb : Itb) (s : Sto) (d : D) : Option (Option (List D)) := match d with
  | .ref n => match s[n]? with
    | some (.ins c fs) => some (match tb.lookup c with
      | some f => match fs.lookup f with | some (.tup xs) => some xs | _ => none
      | none => none)
    | _ => none
  | _ => none
def walkD (s : Sto) (d : D) : Rs (Nat × Stp) := match d with
  | .tup ds => .ok (ds.length, jTup ds) s
  | .ref n => match s[n]? with
    | some (.lst xs) => .ok (xs.length, jLst n) s
    | some (.frz xs) => .ok (xs.length, jLst n) s
    | _ => .no
  | _ => .no
def iOwn (tb : Itb) (m : EM D) : EM (Nat × Stp) := fun e s => (m e s).bind fun d s1 => match itsO tb s1 d with
  | some (some xs) => .ok (xs.length, jTup xs) s1
  | some none => .no
  | none => walkD s1 d
section
variable {X : Cx} {W : WX} {k : Nat} {tb : Itb} {tg e : Expr} {m : EM D}
theorem itsO_some {s : Sto} {d : D} {xs : List D} (h : itsO tb s d = some (some xs)) : ∃ n c fs f, d = .ref n ∧ s[n]? = some (.ins c fs) ∧ tb.lookup c = some f ∧ fs.lookup f = some (.tup xs) := by
  unfold itsO at h
  split at h
  · rename_i n
    split at h
    · rename_i c fs hs
      split at h
      · rename_i f hf
        split at h
        · rename_i ys hy
          cases h
          exact ⟨n, c, fs, f, rfl, hs, hf, hy⟩
        · cases h
      · cases h
    · cases h
  · cases h
/-- the walk's start, by values -/
theorem walk_start {pins : List (Addr × Obj)} {s : Shared} {σ : L2.St} {H : Hp} {ρ : Nat → Addr} {st : Sto} {d : D} {v : V} {u : Value} {R : It → Hp → Prop} {W' : WX} (I : Inv X pins σ H s) (sr : SR X.K X.mg ρ st H) (vr : VR X.K ρ st.length H d v) (ru : RelV v u)
    (po : Po X.K X.mg (RI X.K X.mg) W' σ ρ st.length H (walkD st d) R) : wpAny (model X.prog X.w) X.A (pyIter u) (PIE X pins σ tg R) X.xe s := by
  have lst : ∀ a, (∃ xs, SqL X.K H a xs) → R (Itl X.K a) H → wpAny (model X.prog X.w) X.A (pyIter (.ref a)) (PIE X pins σ tg R) X.xe s := fun a ⟨xs, hq⟩ q => by
    obtain ⟨its, rv, p, hz⟩ := I.list hq
    refine wpAny_pyIter_list p.isList ?_
    refine ⟨s.heap.objs.size, [s.heap.objs.size], _, _, H, rfl, I.kept (t' := s.toks) fun b o e => Heap.get?_push_of_some _ e, turn_list a _, ⟨_, Heap.get?_push_size _ rfl, rfl, rfl⟩, fun b hb => ?_, q⟩
    have e : b = s.heap.objs.size := by simpa using hb
    subst e
    exact I.fpOk (Nat.le_refl _) (I.hok.fresh (Nat.le_refl _))
  cases d with
  | tup ds =>
    rw [VR] at vr
    obtain ⟨a, vs, rfl, sq, r⟩ := vr
    obtain rfl : u = Value.ref a := ru
    obtain ⟨its, rv, p, hz⟩ := I.tuple sq
    refine wpAny_pyIter_tuple (show s.heap.IsTuple a its.toArray from p) ?_
    refine ⟨s.heap.objs.size, [s.heap.objs.size], _, _, H, rfl, I.kept (t' := s.toks) fun b o e => Heap.get?_push_of_some _ e, turn_tuple a _, ⟨_, Heap.get?_push_size _ rfl, rfl, rfl⟩, fun b hb => ?_, po ρ H _ Ext.refl sr (ri_tup sq r)⟩
    have e : b = s.heap.objs.size := by simpa using hb
    subst e
    exact I.fpOk (Nat.le_refl _) (I.hok.fresh (Nat.le_refl _))
  | ref n =>
    rw [VR] at vr
    obtain ⟨hn, rfl⟩ := vr
    obtain rfl : u = Value.ref (ρ n) := ru
    unfold walkD at po
    dsimp only at po
    cases e : st[n]? with
    | none => rw [e] at po; exact po.elim
    | some o =>
      rw [e] at po
      cases o with
      | lst xs =>
        obtain ⟨vs, sq, _⟩ := sr.lst (n := n) (xs := xs) (by unfold lstAt; rw [e])
        exact lst _ ⟨vs, sq⟩ (po ρ H _ Ext.refl sr (ri_lst hn))
      | frz xs =>
        obtain ⟨vs, sq, _⟩ := sr.lst (n := n) (xs := xs) (by unfold lstAt; rw [e])
        exact lst _ ⟨vs, sq⟩ (po ρ H _ Ext.refl sr (ri_lst hn))
      | _ => exact po.elim
  | _ => exact po.elim
end
end Z

set_option Elab.async false
set_option linter.all false
set_option maxRecDepth 100000
set_option maxHeartbeats 4000000
namespace Z
open PySem PySem.Spec PyProof.Rows L2
variable [Row]
section
variable {X : Cx} {W : WX} {k : Nat} {tb : Tb} {itb : Itb} {x c m : Str}
/-- list(o) -/
def fListO (tb : Tb) (itb : Itb) (B : MF) : MF := fun ds s => match ds with
  | [d] => match itsO itb s d with
    | some (some xs) => match insC s d with
      | some c => match tb.lookup c with
        | some F => (F [d] (s ++ [.lst []])).nox.bind fun k s2 => match k, s2[s.length]? with
          | .int i, some (.lst []) => if 0 ≤ i ∧ i ≤ sizeLine ∧ xs.length ≤ sizeLine then .ok (.ref s.length) (s2.set s.length (.lst xs)) else .no
          | _, _ => .no
        | none => .no
      | none => .no
    | some none => .no
    | none => B ds s
  | _ => B ds s
end
end Z

set_option Elab.async false
set_option linter.all false
set_option maxRecDepth 100000
set_option maxHeartbeats 4000000
namespace Z
open PySem PySem.Spec PyProof.Rows L2
variable [Row]
/-! ### + - | of an own instance -/
/-- the class fills no number slot of the operator -/
def noFillB (K : PySem.W.Frag) (C : Addr) (nm : String) : Bool :=
  ((PySem.W.clsIn K C).any fun cd => decide (cd.mro = [.ref C, .type "object"])) && (decide (PySem.W.findIn K (.ref C) (PySem.dunder nm) = some none) && decide (PySem.W.findIn K (.ref C) (dunderR nm) = some none))
section
variable {X : Cx} {W : WX} {k : Nat} {tb : Tb} {x c m : Str}
/-- the right side: an instance of one of the classes rs, or a text where st -/
def rightOk (rs : List Str) (st : Bool) (s : Sto) : D → Bool
  | .str _ => st
  | .ref n => match s[n]? with
    | some (.ins c _) => rs.contains c
    | _ => false
  | _ => false
def dOwnL (tb : Tb) (rs : List Str) (st : Bool) (B : D → D → Sto → Rs D) (x y : D) (s : Sto) : Rs D := match insC s x with
  | some c => match tb.lookup c with
    | some F => if rightOk rs st s y then F [x, y] s else .no
    | none => .no
  | none => B x y s
/-- the classes rs fill no slot of the operator -/
def RTab (K : PySem.W.Frag) (mg : Str → Option Value) (rs : List Str) (nm : String) : Prop := ∀ c ∈ rs, ∃ C, mg c = some (.ref C) ∧ noFillB K C nm = true
def LTab (K : PySem.W.Frag) (mg : Str → Option Value) (tb : Tb) : Prop := ∀ c F, tb.lookup c = some F → ∀ C, mg c = some (.ref C) → PySem.W.selfFirst K C = true
def dNo2 : D → D → Sto → Rs D := fun _ _ _ => .no
end
end Z

set_option Elab.async false
set_option linter.all false
set_option maxRecDepth 100000
set_option maxHeartbeats 4000000
namespace Z
open PySem PySem.Spec PyProof.Rows L2
variable [Row]
/-! ### == and != of own instances -/
section
variable {prog : Program} {w : World} {A : Around} {E : Value → Shared → Prop} {s : Shared} {K : PySem.W.Frag} {x C L f : Addr} {h₀ : Heap} {m : Str → Option Value} {ox : Obj} {od : Option Obj} {b tb : Value}
end
end Z

set_option Elab.async false
set_option linter.all false
set_option maxRecDepth 100000
set_option maxHeartbeats 4000000
namespace Z
open PySem PySem.Spec PyProof.Rows L2
variable [Row]
/-! ### what is known of the row's own classes -/
/-- the class facts of the row -/
structure ClsF (K : PySem.W.Frag) (mg : Str → Option Value) (cs : List Str) : Prop where
  at_ : ∀ c ∈ cs, mg c = some (.ref (He.ga K c))
  one : ∀ c ∈ cs, clsOne K cs c = true
theorem clsF_of {K : PySem.W.Frag} {mg : Str → Option Value} {hp : Heap} {cs : List Str} (X : K.In hp) (G : hp.Ns mainGlobals mg) (h : clsAll K cs = true) : ClsF K mg cs :=
  ⟨fun c hc => He.glo_ok X G (He.ba (List.all_eq_true.mp h c hc)).1, fun c hc => (He.ba (List.all_eq_true.mp h c hc)).2⟩
section
variable {K : PySem.W.Frag} {mg : Str → Option Value} {cs : List Str} {c d : Str}
theorem ClsF.cls (F : ClsF K mg cs) (h : c ∈ cs) : Cls K (He.ga K c) := He.cls_ok (He.ba (F.one c h)).1
theorem ClsF.rest (F : ClsF K mg cs) (h : c ∈ cs) : PySem.W.findIn K (.ref (He.ga K c)) "__class__" = some (some (.builtin "object.__class__")) ∧ PySem.W.specialIn K (.builtin "object.__class__") "__get__" = some (some (.builtin "getset_descriptor.__get__")) ∧ PySem.W.takesIn K (.builtin "object.__class__") = some true ∧ PySem.W.mroIn K (He.ga K c) (.type "object") = some true := by
  obtain ⟨_, h⟩ := He.ba (F.one c h)
  obtain ⟨h1, h⟩ := He.ba h
  obtain ⟨h2, h⟩ := He.ba h
  obtain ⟨h3, h⟩ := He.ba h
  obtain ⟨h4, h⟩ := He.ba h
  exact ⟨of_decide_eq_true h1, of_decide_eq_true h2, of_decide_eq_true h3, of_decide_eq_true h4⟩
/-- the type of a value: a built-in's name, or an own class -/
def clD (s : Sto) (d : D) : Option (String ⊕ Str) := match insC s d with
  | some c => some (.inr c)
  | none => (tyN s d).map .inl
def clV (K : PySem.W.Frag) : String ⊕ Str → Value
  | .inl a => .type a
  | .inr c => .ref (He.ga K c)
def clOk (cs : List Str) : String ⊕ Str → Bool
  | .inl a => decide (a ∈ tysB)
  | .inr c => decide (c ∈ cs)
end
section
variable {X : Cx} {W : WX} {pos : Pos} {e : Expr} {m : EM D} {cs : List Str}
/-! ### isinstance of any value, with a built-in class or an own one -/
def isiT (T : String) : String ⊕ Str → Option Bool
  | .inl a => kitB a T
  | .inr _ => if T ∈ tysB then some false else none
def mIsiA (cs : List Str) (T : String) (m : EM D) : EM D := fun e s => (m e s).bind fun d s1 => match clD s1 d with
  | some t => if clOk cs t then (match isiT T t with | some b => .ok (.bl b) s1 | none => .no) else .no
  | none => .no
def isiC (c : Str) : String ⊕ Str → Bool
  | .inl _ => false
  | .inr d => decide (d = c)
def mIsiC (cs : List Str) (c : Str) (m : EM D) : EM D := fun e s => (m e s).bind fun d s1 => match clD s1 d with
  | some t => if clOk cs t then .ok (.bl (isiC c t)) s1 else .no
  | none => .no
/-! ### own == -/
/-- the classes of the table have == alone -/
def ETab (K : PySem.W.Frag) (mg : Str → Option Value) (cs : List Str) (tb : Tb) : Prop := ∀ c F, tb.lookup c = some F → c ∈ cs ∧ PySem.W.findIn K (.ref (He.ga K c)) "__ne__" = some (some (.builtin "object.__ne__"))
def neS (b : Bool) (neg : Bool) : D := .bl (neg ^^ b)
end
end Z

set_option Elab.async false
set_option linter.all false
set_option maxRecDepth 100000
set_option maxHeartbeats 4000000
namespace Z
open PySem PySem.Spec PyProof.Rows L2
variable [Row]
open PySem.SeqAt
open AutoSeq1 (wpAny_loadPart')
open MeetsSeq MeetsSeq2 MeetsSeq3 SeqRoads2
/-! ### == of lists of own instances -/
def mLst (s : Sto) (n : Nat) : Option (List D) := match s[n]? with
  | some (.lst xs) => some xs
  | _ => none
/-- two items: the same place, or own instances -/
def eqEl (cs : List Str) (tb : Tb) (x y : D) (s : Sto) : Rs Bool := match x, y with
  | .ref n, .ref j => match s[n]?, s[j]? with
    | some (.ins c fs), some (.ins d gs) => if n = j then .ok true s else if c ∈ cs ∧ d ∈ cs then (match tb.lookup c with
      | some G => (G [.ref n, .ref j] s).bind fun d s1 => match d with | .bl b => .ok b s1 | _ => .no
      | none => .no) else .no
    | _, _ => .no
  | _, _ => .no
def eqLoop (cs : List Str) (tb : Tb) (a b : Nat) : Nat → Nat → Sto → Rs Bool
  | 0, _, _ => .no
  | f + 1, i, s => match mLst s a, mLst s b with
    | some xs, some ys => match xs[i]?, ys[i]? with
      | some x, some y => (eqEl cs tb x y s).bind fun r s1 => if r then eqLoop cs tb a b f (i + 1) s1 else match mLst s1 a, mLst s1 b with
        | some xs1, some ys1 => if i < xs1.length ∧ i < ys1.length then .ok false s1 else .no
        | _, _ => .no
      | _, _ => .ok (decide (xs.length = ys.length)) s
    | _, _ => .no
section
variable {X : Cx} {W : WX} {pos : Pos} {k : Nat} {cs : List Str} {tb : Tb}
def cmpCode (neg : Bool) : Int := if neg then 3 else 2
/-! ### == and != of any two values -/
def dEqO (cs : List Str) (tb : Tb) (neg : Bool) (x y : D) (s : Sto) : Rs D := match insC s x with
  | some c => match tb.lookup c, clD s y with
    | some G, some t => if clOk cs t then (G [x, y] s).bind fun d s1 => match d with | .bl b => .ok (.bl (neg ^^ b)) s1 | _ => .no else .no
    | _, _ => .no
  | none => match x, y with
    | .ref a, .ref b => match mLst s a, mLst s b with
      | some xs, some ys => if (shp s x).isSome && (shp s y).isSome then dEqB neg x y s else if a = b then .no else
          (if xs.length = ys.length then eqLoop cs tb a b (xs.length + 1) 0 s else .ok false s).bind fun q s1 => .ok (.bl (neg ^^ q)) s1
      | _, _ => dEqB neg x y s
    | _, _ => dEqB neg x y s
end
end Z

set_option Elab.async false
set_option linter.all false
set_option maxRecDepth 100000
set_option maxHeartbeats 4000000
namespace Z
open PySem PySem.Spec PyProof.Rows L2
variable [Row]
/-! ### list.extend by a list or a tuple -/
def rExtA (K : PySem.W.Frag) : V → List V → Hp → VK → Prop := fun x vs H Q => ∃ l b xs zs, x = .ref l ∧ vs = [.ref b] ∧ H l = some (.lst xs) ∧ (SqL K H b zs ∨ SqT K H b zs) ∧ xs.length + zs.length ≤ sizeLine ∧ Q .non (upd H l (.lst (xs ++ zs)))
theorem meets_extend (T : String) (hT : T = "list" ∨ T = "tuple") (l : Addr) (items : Array Value) (n : Nat) (b : Addr) (items2 : Array Value) (n2 : Nat) (dd : Option Addr) (sl : Array (Option Value)) (hs0 : ¬(!items.isEmpty && Builtin.List.listTooLong (items.size + items2.size)) = true) (hs1 : items.size ≤ sizeLine) (hs2 : items.size + items2.size ≤ sizeLine + 1) :
    Meets (Builtin.«list.extend» ⟨[.ref l, .ref b], []⟩) (fun _ R s => s.heap.get? l = some { cls := .type "list", dict := none, data := .seq items n, slots := #[] } ∧ s.heap.get? b = some { cls := .type T, dict := dd, data := .seq items2 n2, slots := sl } ∧ R (.ok (.ret Value.none)) { s with heap := s.heap.update l (Obj.mapSeq fun x => x ++ items2), toks := s.toks }) :=
  .of_wp fun prog w A R s h => by
    obtain ⟨hp, g, d, tk, os⟩ := s
    obtain ⟨hl, hb, h⟩ := h
    have f1 := AutoSeq1.idx_int
    have f2 := AutoSeq1.sub_tuple_tuple
    have f3 := AutoSeq1.sub_list_list
    have f4 := AutoSeq1.sub_tuple_list
    have f5 := AutoSeq1.sub_list_tuple
    have hz' : (items ++ items2).size ≤ sizeLine + 1 := by rw [Array.size_append]; exact hs2
    rcases hT with rfl | rfl <;> (wp_walk using (wpAny_updateSeq hl rfl (hz := hs1) (_hz' := hz')), AutoSeq1.wpAny_loadPart' hl, AutoSeq1.wpAny_loadPart' hb; exact ⟨_, rfl, h⟩)
section
variable {X : Cx} {W : WX}
theorem mt_extA : MtR X "list.extend" (rExtA X.K) := by
  intro pins s σ H x vs v us Q I rx rv h
  obtain ⟨l, b, xs, zs, rfl, rfl, hH, hB, hz, q⟩ := h
  cases rx
  obtain ⟨u, rfl, ru⟩ := rv.one
  cases ru
  obtain ⟨z, its, n, r, hl, e⟩ := I.lstM hH
  have key : ∀ (T : String) (hT : T = "list" ∨ T = "tuple") (its2 : List Value) (n2 : Nat) (dd : Option Addr) (sl : Array (Option Value)), Vals zs its2 → s.heap.get? b = some { cls := .type T, dict := dd, data := .seq its2.toArray n2, slots := sl } → wpAny (model X.prog X.w) X.A (call (.builtin "list.extend") [.ref l, .ref b]) (EP X pins σ Q) X.xe s := by
    intro T hT its2 n2 dd sl r2 e2
    have hl2 := r2.length
    have hsz : its.toArray.size + its2.toArray.size ≤ sizeLine := by rw [List.size_toArray, List.size_toArray]; omega
    have hlong : ¬ (!its.toArray.isEmpty && Builtin.List.listTooLong (its.toArray.size + its2.toArray.size)) = true := by
      rw [notLongL hsz, Bool.and_false]
      exact Bool.false_ne_true
    refine call_meets PySem.F.slot_list_extend ⟨_, e, rfl⟩ PySem.F.entry_list_extend (PySem.F.args_list_extend_2 _ _) (meets_extend T hT l its.toArray n b its2.toArray n2 dd sl hlong (by rw [List.size_toArray]; omega) (by omega)) ⟨e, e2, ?_⟩
    refine ⟨.non, _, I.lset (its' := its ++ its2) hH e (by simp) (r.append r2) ?_, rfl, q⟩
    rw [List.length_append]
    omega
  rcases hB with hB | hB
  · obtain ⟨its2, r2, p, hz2⟩ := I.list hB
    obtain ⟨⟨c, dd, dt, sl⟩, e2, hc, n2, hd⟩ := p.isList
    dsimp only at hc hd
    subst hc hd
    exact key "list" (.inl rfl) its2 n2 dd sl r2 e2
  · obtain ⟨its2, r2, ⟨⟨c, dd, dt, sl⟩, e2, hc, n2, hd⟩, hz2⟩ := I.tuple hB
    dsimp only at hc hd
    subst hc hd
    exact key "tuple" (.inr rfl) its2 n2 dd sl r2 e2
def lExtend (x : D) (ds : List D) (s : Sto) : Rs D := match x, ds with
  | .ref n, [d] => match s[n]?, seqD s d with
    | some (.lst xs), some ys => if xs.length + ys.length ≤ sizeLine then .ok .non (s.set n (.lst (xs ++ ys))) else .no
    | _, _ => .no
  | _, _ => .no
theorem pm_extend : PrM X W lExtend (rExtA X.K) := by
  intro ρ s H σ x ds vx vs Q sr rx rv po
  unfold lExtend at po
  split at po
  · rename_i n d
    split at po
    · rename_i xs ys h1 h2
      obtain ⟨hl, po⟩ := Po.ite po
      rw [VR] at rx
      obtain ⟨hn, rfl⟩ := rx
      obtain ⟨v, rfl, rv1⟩ := rv.one
      obtain ⟨ws, hw, rw1⟩ := sr.ob _ _ h1
      obtain ⟨b, us, rfl, sq, ru⟩ := vr_seq sr rv1 (xs := ys) (by unfold seqD at h2; cases d <;> first | exact h2 | cases h2)
      have e1 := rw1.length
      have e2 := ru.length
      refine ⟨ρ n, b, ws, us, rfl, rfl, hw, sq, by omega, ?_⟩
      have ext : Ext ρ s.length H ρ s.length (upd H (ρ n) (.lst (ws ++ us))) := Ext.write (sr.ob _ _ h1) rfl
      refine po ρ _ .non (by rw [List.length_set]; exact ext) (sr.write h1 rfl rfl ⟨_, upd_same, (rw1.append ru).mono ext⟩) ?_
      rw [VR]
    · exact po.elim
  · exact po.elim
/-! ### texts in their order -/
def dLtS (x y : D) (s : Sto) : Rs D := match x, y with
  | .str a, .str b => .ok (.bl (decide (a.cps.toList < b.cps.toList))) s
  | _, _ => dLt x y s
end
end Z

set_option Elab.async false
set_option linter.all false
set_option maxRecDepth 100000
set_option maxHeartbeats 4000000
namespace Z
open PySem PySem.Spec PyProof.Rows L2
/-! ### dicts: keys ints and texts -/
def getK (kvs : List (D × D)) (k : Key) : Option D := (kvs.find? fun p => decide (keyD p.1 = some k)).map (·.2)
def putKd (kvs : List (D × D)) (d : D) (k : Key) (v : D) : List (D × D) :=
  if (kvs.any fun p => decide (keyD p.1 = some k)) = true then kvs.map (fun p => if keyD p.1 = some k then (p.1, v) else p) else kvs ++ [(d, v)]
def mDN : EM D := fun _ s => .ok (.ref s.length) (s ++ [.dict false []])
def dctAt (s : Sto) (n : Nat) : Option (List (D × D)) := match s[n]? with
  | some (.dict false kvs) => some kvs
  | some (.lck false kvs) => some kvs
  | _ => none
def dGetD (x y : D) (s : Sto) : Rs D := match x, keyD y with
  | .ref n, some k => match dctAt s n with
    | some kvs => match getK kvs k with | some v => .ok v s | none => .no
    | none => .no
  | _, _ => .no
def dInD (neg : Bool) (y x : D) (s : Sto) : Rs D := match x, keyD y with
  | .ref n, some k => match dctAt s n with
    | some kvs => .ok (.bl (neg ^^ (getK kvs k).isSome)) s
    | none => .no
  | _, _ => .no
def dGet2 (x y z : D) (s : Sto) : Rs D := match x, keyD y with
  | .ref n, some k => match dctAt s n with
    | some kvs => .ok ((getK kvs k).getD z) s
    | none => .no
  | _, _ => .no
def m3 (f : D → D → D → Sto → Rs D) (ma mb mc : EM D) : EM D := fun env s => (ma env s).bind fun x s1 => (mb env s1).bind fun y s2 => (mc env s2).bind fun z s3 => f x y z s3
def xSetD (o i x : D) (s : Sto) : Option Sto := match o, keyD i with
  | .ref n, some k => match s[n]? with
    | some (.dict false kvs) => if kvs.length < sizeLine then some (s.set n (.dict false (putKd kvs i k x))) else none
    | _ => none
  | _, _ => none
/-! the walk over the keys, the pairs: the dict is locked -/
def jKey (n : Nat) : Stp := fun i s => match s[n]? with
  | some (.lck false kvs) => some ((kvs[i]?).map (·.1))
  | _ => none
def jItm (n : Nat) : Stp := fun i s => match s[n]? with
  | some (.lck false kvs) => some ((kvs[i]?).map fun p => .tup [p.1, p.2])
  | _ => none
def iKy (j : Nat → Stp) (m : EM D) : EM (Nat × Stp) := fun e s => (m e s).bind fun d s1 => match d with
  | .ref n => match s1[n]? with
    | some (.lck false kvs) => .ok (kvs.length, j n) s1
    | _ => .no
  | _ => .no
def unlS (n : Nat) (s : Sto) : Option Sto := match s[n]? with
  | some (.lck false kvs) => some (s.set n (.dict false kvs))
  | _ => none
def RS.unl (n : Nat) (r : RS) : RS := match r with
  | .nx e s => match unlS n s with | some s' => .nx e s' | none => .no
  | .rt d s => match unlS n s with | some s' => .rt d s' | none => .no
  | .bk e s => match unlS n s with | some s' => .bk e s' | none => .no
  | .ct e s => match unlS n s with | some s' => .ct e s' | none => .no
  | .ex c f v e s => .ex c f v e s
  | .no => .no
/-- a loop over a dict: it is locked meanwhile -/
def sLk (m : EM D) (b : SM) : SM := fun e s => match m e s with
  | .ok (.ref n) _ => match s[n]? with
    | some (.dict false kvs) => (b e (s.set n (.lck false kvs))).unl n
    | _ => .no
  | _ => .no
variable [Row]
section
variable {K : PySem.W.Frag} {mg : Str → Option Value} {ρ : Nat → Addr} {n : Nat} {H : Hp}
theorem keyD_vr {d : D} {k : Key} (h : keyD d = some k) {v : V} (r : VR K ρ n H d v) : v = kV k := by
  unfold keyD at h
  split at h
  · cases h
    exact r
  · cases h
    exact r
  · cases h
theorem vr_keyD {d : D} {k : Key} (h : keyD d = some k) : VR K ρ n H d (kV k) := by
  unfold keyD at h
  split at h
  · cases h
    rw [VR]
    rfl
  · cases h
    rw [VR]
    rfl
  · cases h
theorem KR.len {κ : Type} {key : D → Option κ} : ∀ {kvs : List (D × D)} {vs : List (κ × V)}, KR key K ρ n H kvs vs → vs.length = kvs.length
  | [], _, h => by
    have h : _ = ([] : List (κ × V)) := h
    rw [h] <;> rfl
  | _ :: _, _, ⟨k, v, r, e, _, _, t⟩ => by rw [e, List.length_cons, List.length_cons, KR.len t]
theorem KR.at {κ : Type} {key : D → Option κ} : ∀ {kvs : List (D × D)} {vs : List (κ × V)} {i : Nat} {p : D × D}, KR key K ρ n H kvs vs → kvs[i]? = some p → ∃ k v, vs[i]? = some (k, v) ∧ key p.1 = some k ∧ VR K ρ n H p.2 v
  | [], _, _, _, _, h => by simp at h
  | q :: _, _, 0, p, ⟨k, v, r, e, h1, h2, t⟩, h => by
    simp at h
    subst h e
    exact ⟨k, v, rfl, h1, h2⟩
  | q :: qs, _, i + 1, p, ⟨k, v, r, e, h1, h2, t⟩, h => by
    subst e
    simp at h
    obtain ⟨k', v', a, b, c⟩ := KR.at t h
    exact ⟨k', v', by simpa using a, b, c⟩
theorem KR.val {k : Key} : ∀ {kvs : List (D × D)} {vs : List (Key × V)}, KR keyD K ρ n H kvs vs → match getK kvs k with | some d => ∃ v, valV vs k = some v ∧ VR K ρ n H d v | none => valV vs k = none
  | [], _, h => by
    have h : _ = ([] : List (Key × V)) := h
    subst h
    rfl
  | q :: qs, _, ⟨j, v, r, e, h1, h2, t⟩ => by
    subst e
    unfold getK
    rw [List.find?_cons]
    by_cases hk : j = k
    · rw [show decide (keyD q.1 = some k) = true from by rw [h1, hk]; simp]
      exact ⟨v, valV_pos hk, h2⟩
    · rw [show decide (keyD q.1 = some k) = false from by rw [h1]; simp [hk]]
      rw [valV_neg (p := (j, v)) hk]
      exact KR.val t
theorem KR.any {k : Key} : ∀ {kvs : List (D × D)} {vs : List (Key × V)}, KR keyD K ρ n H kvs vs → (kvs.any fun p => decide (keyD p.1 = some k)) = vs.any fun kv => decide (kv.1 = k)
  | [], _, h => by
    have h : _ = ([] : List (Key × V)) := h
    subst h
    rfl
  | q :: qs, _, ⟨j, v, r, e, h1, h2, t⟩ => by
    subst e
    rw [List.any_cons, List.any_cons, KR.any t, h1]
    by_cases hk : j = k <;> simp [hk]
theorem KR.snoc {d x : D} {k : Key} {vx : V} (hk : keyD d = some k) (hx : VR K ρ n H x vx) : ∀ {kvs : List (D × D)} {vs : List (Key × V)}, KR keyD K ρ n H kvs vs → KR keyD K ρ n H (kvs ++ [(d, x)]) (vs ++ [(k, vx)])
  | [], _, h => by
    have h : _ = ([] : List (Key × V)) := h
    subst h
    exact ⟨k, vx, [], rfl, hk, hx, rfl⟩
  | q :: qs, _, ⟨j, v, r, e, h1, h2, t⟩ => by
    subst e
    exact ⟨j, v, _, rfl, h1, h2, KR.snoc hk hx t⟩
theorem KR.mapk {x : D} {k : Key} {vx : V} (hx : VR K ρ n H x vx) : ∀ {kvs : List (D × D)} {vs : List (Key × V)}, KR keyD K ρ n H kvs vs → KR keyD K ρ n H (kvs.map fun p => if keyD p.1 = some k then (p.1, x) else p) (vs.map fun kv => if kv.1 = k then (kv.1, vx) else kv)
  | [], _, h => by
    have h : _ = ([] : List (Key × V)) := h
    subst h
    rfl
  | q :: qs, _, ⟨j, v, r, e, h1, h2, t⟩ => by
    subst e
    rw [List.map_cons, List.map_cons]
    by_cases hk : j = k
    · rw [if_pos (show keyD q.1 = some k by rw [h1, hk]), if_pos hk]
      exact ⟨j, vx, _, rfl, h1, hx, KR.mapk hx t⟩
    · rw [if_neg (show ¬ keyD q.1 = some k by rw [h1]; simp [hk]), if_neg hk]
      exact ⟨j, v, _, rfl, h1, h2, KR.mapk hx t⟩
theorem KR.put {d x : D} {k : Key} {vx : V} (hk : keyD d = some k) (hx : VR K ρ n H x vx) {kvs : List (D × D)} {vs : List (Key × V)} (r : KR keyD K ρ n H kvs vs) : KR keyD K ρ n H (putKd kvs d k x) (putK vs k vx) := by
  unfold putKd putK
  rw [r.any]
  split
  · exact r.mapk hx
  · exact r.snoc hk hx
/-- a dict that is read -/
theorem SR.dct {s : Sto} (sr : SR K mg ρ s H) {m : Nat} {kvs : List (D × D)} (h : dctAt s m = some kvs) : ∃ vs, Rd H (ρ m) (.dK vs) ∧ KR keyD K ρ s.length H kvs vs := by
  unfold dctAt at h
  split at h
  · rename_i k e
    cases h
    obtain ⟨vs, h1, h2⟩ := sr.ob _ _ e
    exact ⟨vs, .inl h1, h2⟩
  · rename_i k e
    cases h
    obtain ⟨od, vs, h1, h2⟩ := sr.ob _ _ e
    exact ⟨vs, .inr ⟨od, h1⟩, h2⟩
  · cases h
end
section
variable {X : Cx} {W : WX} {pos apos cpos : Pos} {o e f i y : Expr} {mo me mf ma mb : EM D}
theorem je_dnew : JE X W (.Dict [] [] pos) mDN := PE_imp pe_dnewK fun σ H Q ⟨ρ, env, s, sr, er, po⟩ => fun p hp => by
  have st : ∀ b o, H b = some o → upd H p (.dK []) b = some o := fun b o e => by rw [upd_ne (ne_of_none e hp)]; exact e
  have w := sr.alloc (o := .dict false []) hp st ⟨[], upd_same, rfl⟩
  have len : (s ++ [SO.dict false []]).length = s.length + 1 := by rw [List.length_append] <;> rfl
  refine po _ _ _ (by rw [len]; exact Ext.alloc st) w ?_
  rw [VR, len]
  exact ⟨Nat.lt_succ_self _, by rw [ρup_same]⟩
theorem dget_of {ρ : Nat → Addr} {s : Sto} {H : Hp} (sr : SR X.K X.mg ρ s H) {n : Nat} {kvs : List (D × D)} {k : Key} (h : dctAt s n = some kvs) : match getK kvs k with | some d => ∃ v, DGet H (ρ n) (kV k) (some v) ∧ VR X.K ρ s.length H d v | none => DGet H (ρ n) (kV k) none := by
  obtain ⟨vs, h1, h2⟩ := sr.dct h
  have hv := h2.val (k := k)
  split
  · rename_i d hd
    rw [hd] at hv
    obtain ⟨v, e1, e2⟩ := hv
    exact ⟨v, .inl ⟨vs, k, h1, rfl, e1.symm⟩, e2⟩
  · rename_i hd
    rw [hd] at hv
    exact .inl ⟨vs, k, h1, rfl, hv.symm⟩
theorem je_dget2 (hu : X.A.units + 1 < cLine) (ho : JE X W o mo) (he : JE X W e me) (hf : JE X W f mf) (m : M2 X o "get" apos e f cpos) (hro : True := trivial) :
    JE X W (.Call (.Attribute o "get" apos) [e, f] [] cpos) (fun env s => (mo env s).bind fun x s1 => match x with | .ref n => (match dctAt s1 n with | some _ => (me env s1).bind fun y s2 => (mf env s2).bind fun z s3 => dGet2 x y z s3 | none => .no) | _ => .no) :=
  PE_imp (pe_dget2 hu ho he hf m) fun σ H Q ⟨ρ, env, s, sr, er, po⟩ => ⟨ρ, env, s, sr, er, (Po.bind po).imp fun v H1 ⟨ρ1, s1, d1, e1, sr1, r1, po1⟩ => by
    dsimp only at po1
    split at po1
    · rename_i n
      split at po1
      · rename_i kvs0 hd0
        have r1' := r1
        rw [VR] at r1
        obtain ⟨hn, rfl⟩ := r1
        obtain ⟨vs0, h0, _⟩ := sr1.dct hd0
        refine ⟨ρ1 n, rfl, .inl ⟨vs0, h0⟩, ρ1, env, s1, sr1, er.mono e1, (Po.bind po1).imp fun v2 H2 ⟨ρ2, s2, d2, e2, sr2, r2, po2⟩ => ⟨ρ2, env, s2, sr2, (er.mono e1).mono e2, (Po.bind po2).imp fun v3 H3 ⟨ρ3, s3, d3, e3, sr3, r3, po3⟩ => ?_⟩⟩
        unfold dGet2 at po3
        cases hk : keyD d2 with
        | none => rw [hk] at po3; exact po3.elim
        | some k =>
          rw [hk] at po3
          dsimp only at po3
          split at po3
          · rename_i kvs hd
            have hg := dget_of sr3 (k := k) hd
            have ea : ρ3 n = ρ1 n := by rw [e3.ag n (e2.lt hn), e2.ag n hn]
            rw [keyD_vr hk r2, ← ea]
            cases hv : getK kvs k with
            | none =>
              rw [hv] at hg po3
              exact ⟨none, hg, po3 ρ3 H3 v3 Ext.refl sr3 r3⟩
            | some d =>
              rw [hv] at hg po3
              obtain ⟨w, g, rw1⟩ := hg
              exact ⟨some w, g, po3 ρ3 H3 w Ext.refl sr3 rw1⟩
          · exact po3.elim
      · exact po1.elim
    · exact po1.elim⟩
theorem px_setD : PrSet X xSetD rSetD := by
  intro ρ s s' H o i x vo vi vx Q sr ro ri rx e q
  unfold xSetD at e
  split at e
  · rename_i n k hk
    split at e
    · rename_i kvs hs
      split at e
      · rename_i hl
        cases e
        rw [VR] at ro
        obtain ⟨hn, rfl⟩ := ro
        rw [keyD_vr hk ri]
        obtain ⟨vs, h1, h2⟩ := sr.ob _ _ hs
        have ext : Ext ρ s.length H ρ s.length (upd H (ρ n) (.dK (putK vs k vx))) := Ext.write (sr.ob _ _ hs) rfl
        refine ⟨ρ n, _, rfl, .inl ⟨vs, k, h1, rfl, by rw [h2.len]; exact hl, rfl⟩, ?_⟩
        exact q ρ _ (by rw [List.length_set]; exact ext) (sr.write hs rfl rfl ⟨_, upd_same, (h2.put hk rx).mono ext⟩)
      · cases e
    · cases e
  · cases e
end
end Z

set_option Elab.async false
set_option linter.all false
set_option maxRecDepth 100000
set_option maxHeartbeats 4000000
namespace Z
open PySem PySem.Spec PyProof.Rows L2
variable [Row]
section
variable {X : Cx} {W : WX} {pos apos cpos : Pos} {tg e : Expr} {m : EM D} {st : Stmt} {b : SM}
/-! ### locking -/
end
end Z

set_option Elab.async false
set_option linter.all false
set_option maxRecDepth 100000
set_option maxHeartbeats 4000000
namespace Z
open PySem PySem.Spec PyProof.Rows L2
/-! ### sets of keys -/
def mSet0 : EM D := fun _ s => .ok (.ref s.length) (s ++ [.set []])
def inKs (xs : List D) (k : Key) : Bool := xs.any fun y => decide (keyD y = some k)
def setAt (s : Sto) (n : Nat) : Option (List D) := match s[n]? with
  | some (.set xs) => some xs
  | _ => none
def mSAdd (mo : EM D) (ms : EM (List D)) : EM D := fun e s => (mo e s).bind fun d s1 => match d with
  | .ref n => match setAt s1 n with
    | some _ => (ms e s1).bind fun ds s2 => match ds, setAt s2 n with
      | [y], some xs => match keyD y with
        | some k => if xs.length + 1 < 4096 then .ok .non (s2.set n (.set (if inKs xs k then xs else xs ++ [y]))) else .no
        | none => .no
      | _, _ => .no
    | none => .no
  | _ => .no
/-- k in s, k not in s; else B -/
def dInSt (neg : Bool) (B : D → D → Sto → Rs D) (x y : D) (s : Sto) : Rs D := match y with
  | .ref n => match setAt s n with
    | some xs => match keyD x with
      | some k => .ok (.bl (neg ^^ inKs xs k)) s
      | none => .no
    | none => B x y s
  | _ => B x y s
variable [Row]
section
variable {X : Cx} {W : WX} {p pos apos cpos : Pos} {o e : Expr} {es : List Expr} {mo : EM D} {ms : EM (List D)}
def IsRow (X : Cx) : Prop := X.prog = Row.prog ∧ X.w = Row.w
end
end Z

set_option Elab.async false
set_option linter.all false
set_option maxRecDepth 100000
set_option maxHeartbeats 4000000
namespace Z
open PySem PySem.Spec PySem.Calls PyProof.Rows L2
variable [Row]
section
variable {X : Cx} {W : WX}
open PySem.W in
theorem sorted_any {prog : Program} {w : World} {A : Around} {E : Value → Shared → Prop} {s : Shared} {β : Type} {vs : List Value} {bs : List β} {enc : β → PyData} {R : Value → β → Prop} {x : Value} {Q : Value → Shared → Prop}
    (hc : ∀ Q' : List Value → Shared → Prop, (∀ h', (∀ b o, s.heap.get? b = some o → h'.get? b = some o) → Q' vs { s with heap := h' }) → wpAny (model prog w) A.in1 (collect x) Q' E s)
    (e : EachIs R vs bs) (er : EachIs (fun v b => ∃ as, Reads s.heap v (enc b) as) vs bs) (hal : AllAlike (bs.map enc)) (hk : Sortable (bs.map enc)) (hL : bs.length ≤ sizeLine)
    (hu : ∀ b, b ∈ bs → A.units + 2 + (enc b).depth < cLine)
    (h : ∀ (h1 : Heap) (out : List Value) (a : Addr) (h' : Heap) (ep : Nat), (∀ b o, s.heap.get? b = some o → h1.get? b = some o) → out.length = bs.length → EachIs R out (bs.mergeSort (dataLe false enc)) → (∀ b o, h1.get? b = some o → h'.get? b = some o) → h1.objs.size ≤ a → h'.get? a = some (seqObj "list" out.toArray ep) → Q (.ref a) { s with heap := h' }) :
    wpAny (model prog w) A (call (.builtin "sorted") [x]) Q E s := by
  refine call_function_entry kind_sorted plain_sorted entry_sorted (args_sorted1 _) ?_
  unfold Builtin.«sorted»
  refine wpAny_bind (m := checkCount "sorted" 1 1 _) (wpAny_pure ?_)
  refine wpAny_bind (hc _ fun h' kp => ?_)
  have hl := e.length
  refine wpAny_bind (wpAny_newList ?_ (by rw [hl]; exact hL))
  have kp2 : ∀ b o, h'.get? b = some o → (h'.push { cls := .type "list", data := .seq vs.toArray }).get? b = some o := fun b o q => Heap.get?_push_of_some _ q
  have er2 : EachIs (fun v b => ∃ as, Reads (sortingHeap (h'.push { cls := .type "list", data := .seq vs.toArray }) h'.objs.size vs) v (enc b) as) vs bs := er.mono fun _ _ ⟨as, r⟩ => ⟨as, PyProof.Rows.Reads.keeps (fun b o q => sortingHeap_old (Nat.ne_of_lt (Heap.lt_size (kp b o q))) (kp2 b o (kp b o q))) r⟩
  have ho : (h'.push ({ cls := .type "list", data := .seq vs.toArray } : Obj)).get? h'.objs.size = some (seqObj "list" vs.toArray 0) := Heap.get?_push_size _ rfl
  refine wpAny_bind (wpAny_holding (wpAny_call_entry slot_list_sort ⟨_, ho, rfl⟩ entry_list_sort (list_sort_vals (κ := dataKind (sortingHeap (h'.push { cls := .type "list", data := .seq vs.toArray }) h'.objs.size vs) (bs.map enc))
    (s := { s with heap := h'.push { cls := .type "list", data := .seq vs.toArray } }) ho
    (SortsAt.data (s := { s with heap := sortingHeap (h'.push { cls := .type "list", data := .seq vs.toArray }) h'.objs.size vs }) (each_map (R := fun v d => ∃ as, Reads (sortingHeap (h'.push { cls := .type "list", data := .seq vs.toArray }) h'.objs.size vs) v d as) enc er2) hal hk (bound_map hu)) (by rw [hl]; exact hL) ⟨.none, rfl, ?_⟩) (args_list_sort _)))
  refine wpAny_pure ⟨_, rfl, ?_⟩
  have hs := sortVals_data (h' := sortingHeap (h'.push { cls := .type "list", data := .seq vs.toArray }) h'.objs.size vs) (R := R) (enc := enc) false e er2 hal
  obtain ⟨ep, hat⟩ := sortedHeap_at (out := (sortVals (dataKind (sortingHeap (h'.push { cls := .type "list", data := .seq vs.toArray }) h'.objs.size vs) (bs.map enc)) false vs vs).toArray) ho
  refine h h' _ h'.objs.size _ ep kp (by rw [sortVals_length false rfl]; exact hl) hs (fun b o q => ?_) (Nat.le_refl _) hat
  have lt : b < h'.objs.size := Heap.lt_size q
  exact (sortedHeap_old (Nat.ne_of_lt lt) (by rw [size_push']; exact Nat.lt_succ_of_lt lt)).trans (kp2 b o q)
open PySem.W in
def rSrtA (X : Cx) : List V → Hp → VK → Prop := fun vs H Q => ∃ (a : Addr) (ps : List (D × V)) (enc : D → PyData), vs = [.ref a] ∧ (SqL X.K H a (ps.map (·.2)) ∨ SqT X.K H a (ps.map (·.2))) ∧ (∀ p ∈ ps, Dp X.K H p.2 (enc p.1)) ∧
  AllAlike (ps.map fun p => enc p.1) ∧ Sortable (ps.map fun p => enc p.1) ∧ (∀ p ∈ ps, X.A.units + 2 + (enc p.1).depth < cLine) ∧ ∀ q, H q = none → Q (.ref q) (upd H q (.lst ((ps.mergeSort (dataLe false fun p => enc p.1)).map (·.2))))
theorem call_srtA : CallR X (.builtin "sorted") (rSrtA X) := by
  intro pins s σ H vs us Q I r h
  obtain ⟨a, ps, enc, rfl, hs, hd, hal, hk, hu, q⟩ := h
  rw [Vals.ref1 r]
  have er : ∀ {qs : List (D × V)} {ws : List Value}, (∀ p ∈ qs, Dp X.K H p.2 (enc p.1)) → PySem.W.EachIs (fun u (p : D × V) => RelV p.2 u) ws qs → PySem.W.EachIs (fun v (p : D × V) => ∃ as, Reads s.heap v (enc p.1) as) ws qs := by
    intro qs
    induction qs with
    | nil =>
      intro ws _ h
      cases h
      exact .nil
    | cons p qs ih =>
      intro ws hp h
      cases h with
      | cons h1 h2 => exact .cons (Dp.reads I _ _ _ (hp p List.mem_cons_self) h1) (ih (fun z hz => hp z (List.mem_cons_of_mem _ hz)) h2)
  obtain ⟨T, hT, its, rv, o, ho, hc, n, hdd, hz⟩ : ∃ T, (T = "list" ∨ T = "tuple") ∧ ∃ (its : List Value), Vals (ps.map (·.2)) its ∧ ∃ o, s.heap.get? a = some o ∧ o.cls = .type T ∧ ∃ n, o.data = .seq its.toArray n ∧ (ps.map (·.2)).length ≤ sizeLine := by
    rcases hs with hs | hs
    · obtain ⟨its, rv, hl, hz⟩ := I.list hs
      obtain ⟨o, ho, hc, n, hd⟩ := hl.isList
      exact ⟨"list", .inl rfl, its, rv, o, ho, hc, n, hd, hz⟩
    · obtain ⟨its, rv, hl, hz⟩ := I.tuple hs
      obtain ⟨o, ho, hc, n, hd⟩ := hl
      exact ⟨"tuple", .inr rfl, its, rv, o, ho, hc, n, hd, hz⟩
  have e1 := vals_each rv
  have hz2 : its.toArray.size ≤ sizeLine := by
    have := rv.length
    rw [List.size_toArray, ← this]
    exact hz
  refine sorted_any (vs := its) (R := fun u (p : D × V) => RelV p.2 u) (enc := fun p => enc p.1) (bs := ps) (fun Q' hq => wpAny_collect_seq a hT ho hc hdd hq hz2) e1 (er hd e1) hal hk (by rw [List.length_map] at hz; exact hz) hu fun h1 out a2 h' ep kp1 ho2 eo kp ha he => ?_
  · have I1 := I.kept (t' := s.toks) kp1
    have hv := each_vals eo
    have hlen : ((ps.mergeSort (PySem.W.dataLe false fun p => enc p.1)).map (·.2)).length ≤ sizeLine := by rw [hv.length, ho2]; rw [List.length_map] at hz; exact hz
    exact ⟨.ref _, upd H a2 (.lst ((ps.mergeSort (PySem.W.dataLe false fun p => enc p.1)).map (·.2))), I1.laid (s := { s with heap := h1 }) (t' := s.toks) kp ha ⟨hlen, out, ep, hv, he⟩, rfl, q _ (I1.hok.fresh ha)⟩
/-- sorted of a list or a tuple -/
def fSortA (ds : List D) (s : Sto) : Rs D := match ds with
  | [d] => match seqD s d with
    | some xs => if canSort s xs = true then .ok (.ref s.length) (s ++ [.lst (sortD s xs)]) else .no
    | none => .no
  | _ => .no
theorem pn_sortA (hu : X.A.units + 66 < cLine) : PrN X W fSortA (rSrtA X) := by
  intro ρ s H σ xs vs Q sr r po
  unfold fSortA at po
  split at po
  · rename_i d
    obtain ⟨v, rfl, rv⟩ := r.one
    split at po
    · rename_i ys h1
      obtain ⟨hc, po⟩ := Po.ite po
      obtain ⟨a, ws, rfl, sq, rr⟩ := vr_seq sr rv (xs := ys) (by unfold seqD at h1; cases d <;> first | exact h1 | cases h1)
      obtain ⟨ps, e1, e2, e3⟩ := rr.pairs
      obtain ⟨hc, c3⟩ := Bool.and_eq_true_iff.mp hc
      obtain ⟨c1, c2⟩ := Bool.and_eq_true_iff.mp hc
      have mem1 : ∀ p ∈ ps, p.1 ∈ ys := fun p hp => by rw [← e1]; exact List.mem_map_of_mem hp
      have get : ∀ {P : PyData → Prop}, (∀ x ∈ ys, P (encD s x)) → ∀ d ∈ ps.map fun p => encD s p.1, P d := fun h d hd => by
        obtain ⟨p, hp, rfl⟩ := List.mem_map.mp hd
        exact h _ (mem1 p hp)
      refine ⟨a, ps, encD s, rfl, by rw [e2]; exact sq, fun p hp => pyd_dp sr 30 p.1 p.2 _ (shp_enc (List.all_eq_true.mp c1 p.1 (mem1 p hp))).1 (e3 p hp), ?_, ?_, fun p hp => ?_, fun q hq => ?_⟩
      · exact get (P := fun d => ∀ d', d' ∈ (ps.map fun p => encD s p.1) → PySem.W.alike d d' = true) fun x hx => get fun y hy => List.all_eq_true.mp (List.all_eq_true.mp c2 x hx) y hy
      · rcases Bool.or_eq_true_iff.mp c3 with c3 | c3
        · refine .inl (get fun x hx => ?_)
          have := List.all_eq_true.mp c3 x hx
          revert this
          cases encD s x with
          | tuple l => cases l with
            | nil => exact fun h => nomatch h
            | cons y r => exact fun _ => ⟨y, r, rfl⟩
          | _ => exact fun h => nomatch h
        · refine .inr (get fun x hx => ?_)
          have := List.all_eq_true.mp c3 x hx
          revert this
          cases encD s x with
          | tuple l => exact fun h => nomatch h
          | none => exact fun h => nomatch h
          | _ => exact fun _ => ⟨(fun h => nomatch h), fun l h => nomatch h⟩
      · have := SeqAt.depth_of_shaped (shp_enc (List.all_eq_true.mp c1 p.1 (mem1 p hp))).2
        omega
      · have em : (ps.mergeSort (PySem.W.dataLe false fun p => encD s p.1)).map (·.1) = sortD s ys := by
          unfold sortD
          rw [← e1]
          exact List.map_mergeSort fun a _ b _ => rfl
        have rs : VRs X.K ρ s.length H (sortD s ys) ((ps.mergeSort (PySem.W.dataLe false fun p => encD s p.1)).map (·.2)) := by
          rw [← em]
          exact VRs.of_pairs fun p hp => e3 p ((List.mergeSort_perm _ _).mem_iff.mp hp)
        obtain ⟨x1, sr1, v1⟩ := new_lst sr hq rs
        exact po _ _ _ x1 sr1 v1
    · exact po.elim
  · exact po.elim
end
end Z

set_option Elab.async false
set_option linter.all false
set_option maxRecDepth 100000
set_option maxHeartbeats 4000000
namespace Z
open PySem PySem.Spec PyProof.Rows L2
variable [Row]
section
variable {K : PySem.W.Frag} {mg : Str → Option Value} {cs : List Str} {tb : Tb} {m c : Str} {F : MF} {C g : Addr}
end
section
variable {X : Cx} {W : WX}
end
theorem hu1 {a c : Nat} (h : a + 100 < c) : a + 1 < c := by omega
end Z

set_option Elab.async false
set_option linter.all false
set_option maxRecDepth 100000
set_option maxHeartbeats 4000000
namespace Z
open PySem PySem.Spec PyProof.Rows L2
variable [Row]
section
variable {X : Cx} {W : WX} {pos : Pos}
def sP3 (i j l : Nat) (ms : EM (List D)) : SM := fun e s => (ms e s).st e fun ds s1 => match ds with
  | [x, y, z] => .nx (((e.set i (some x)).set j (some y)).set l (some z)) s1
  | _ => .no
theorem js_par3 {i j l : Nat} {x y z : Str} {ea eb ec : Expr} {ms : EM (List D)} {px py pz pt : Pos} {kt k2 pt2} (hc : X.calm = true) (hN : X.N.Nodup) (hi : X.N[i]? = some x) (hj : X.N[j]? = some y) (hl : X.N[l]? = some z) (hij : i ≠ j) (hil : i ≠ l) (hjl : j ≠ l)
    (hx : X.env.scope.names.lookup x = some .local) (hy : X.env.scope.names.lookup y = some .local) (hz : X.env.scope.names.lookup z = some .local) (ha : JA X W [ea, eb, ec] ms)
    (hw : swappedStores [.Tuple [.Name x px, .Name y py, .Name z pz] kt pt] (.Tuple [ea, eb, ec] k2 pt2) X.env = pure (some [x, y, z]))
    (hs : swapsWithSole [.Tuple [.Name x px, .Name y py, .Name z pz] kt pt] (.Tuple [ea, eb, ec] k2 pt2) pos.line X.env = pure false := by rfl) :
    JS X W (.Assign [.Tuple [.Name x px, .Name y py, .Name z pz] kt pt] (.Tuple [ea, eb, ec] k2 pt2) pos) (sP3 i j l ms) := PS_imp (ps_par3 hc hN hi hj hl hij hil hjl hx hy hz ha hw hs) fun σ H D ⟨ρ, env, s, sr, er, po⟩ =>
  ⟨ρ, env, s, sr, er, (PoS.st (R := VRs X.K) er po).imp fun v H1 ⟨ρ1, s1, d1, e1, sr1, r1, er1, po1⟩ => by
    split at po1
    · obtain ⟨v1, vr, rfl, r2, r3⟩ := r1.uncons
      obtain ⟨v2, vr2, rfl, r4, r5⟩ := r3.uncons
      obtain ⟨v3, rfl, r6⟩ := r5.one
      exact ⟨v1, v2, v3, rfl, po1 ρ1 H1 _ Ext.refl sr1 (((er1.set r2).set r4).set r6)⟩
    · exact po1.elim⟩
end
end Z

set_option Elab.async false
set_option linter.all false
set_option maxRecDepth 100000
set_option maxHeartbeats 4000000
namespace Z
open PySem PySem.Spec PyProof.Rows L2
/-! ### the later steps of a mirror, for simp -/
section
variable {P : D → Sto → Prop} {PL : List D → Sto → Prop} {PB : Bool → Sto → Prop} {PI : Nat × Stp → Sto → Prop} {E : Str → Str → D → Sto → Prop} {Q : En} {e : Ev} {s : Sto}
variable {a b c : EM D} {ms : EM (List D)} {i n : Nat} {d x y : D} {f nm : Str} {fN F : MF} {cs : List Str} {fs : List (Str × D)} {tb : Tb} {itb : Itb}
def optP {α : Type} (o : Option α) (P : α → Prop) : Prop := match o with
  | some a => P a
  | none => False
@[simp ↓] theorem optP_some {α : Type} {a : α} {P : α → Prop} : optP (some a) P = P a := nr rfl
@[simp ↓] theorem optP_none {α : Type} {P : α → Prop} : optP (none : Option α) P = False := nr rfl
def refP (d : D) (P : Nat → Prop) : Prop := match d with
  | .ref n => P n
  | _ => False
@[simp ↓] theorem refP_ref {P : Nat → Prop} : refP (.ref n) P = P n := nr rfl
def insP (o : Option SO) (P : Str → List (Str × D) → Prop) : Prop := match o with
  | some (.ins c fs) => P c fs
  | _ => False
@[simp ↓] theorem insP_some {c : Str} {P : Str → List (Str × D) → Prop} : insP (some (.ins c fs)) P = P c fs := nr rfl
@[simp ↓] theorem z_mFld : (mFld cs f a e s).wp P E = (a e s).wp (fun d s1 => (gFld cs f d s1).wp P E) E := by
  unfold mFld; rw [z_bind]
@[simp ↓] theorem z_gFld : (gFld cs f (.ref n) s).wp P E = insP s[n]? fun c fs => c ∈ cs ∧ optP (fs.lookup f) fun v => P v s := by
  unfold gFld insP
  dsimp only
  cases s[n]? with
  | none => rfl
  | some o =>
    cases o with
    | ins c fs =>
      dsimp only
      rw [z_iteN]
      cases fs.lookup f <;> rfl
    | _ => rfl
/-- o.f = v -/
def fldP (cs : List Str) (f : Str) (v d : D) (s : Sto) (P : Sto → Prop) : Prop := refP d fun n => insP s[n]? fun c fs => (c ∈ cs ∧ fs.length < 1000) ∧ P (s.set n (.ins c (putD f v fs)))
@[simp ↓] theorem z_sFldD : (sFldD cs f a b e s).wp Q = (b e s).wp (fun v s1 => (a e s1).wp (fun d s2 => fldP cs f v d s2 fun s3 => Q.nx e s3) fun c f v s => Q.ex c f v e s) (fun c f v s => Q.ex c f v e s) := by
  unfold sFldD
  rw [z_st]
  congr 1
  funext v s1
  rw [z_st]
  congr 1
  funext d s2
  unfold fldP refP insP
  cases d with
  | ref n =>
    dsimp only
    cases s2[n]? with
    | none => rfl
    | some o =>
      cases o with
      | ins c fs =>
        dsimp only
        by_cases q : c ∈ cs ∧ fs.length < 1000
        · rw [if_pos q]
          simp [q]
        · rw [if_neg q]
          simp only [z_rno, eq_iff_iff, false_iff]
          exact fun h => q h.1
      | _ => rfl
  | _ => rfl
@[simp ↓] theorem z_mkD {c : Str} {ds : List D} : (mkD c F ds s).wp P E = (F (.ref s.length :: ds) (s ++ [.ins c []])).wp (fun d s2 => d = .non ∧ P (.ref s.length) s2) E := by
  unfold mkD
  rw [z_bind]
  congr 1
  funext d s2
  cases d <;> simp
@[simp ↓] theorem z_starF {k : Nat} {ds : List D} : (starF k F ds s).wp P E = ((k ≤ ds.length ∧ ds.length ≤ sizeLine) ∧ (F (ds.take k ++ [.tup (ds.drop k)]) s).wp P E) := by
  unfold starF
  rw [z_iteN]
@[simp ↓] theorem z_aS : (aS a ms e s).wp PL E = (a e s).wp (fun x s1 => optP (seqD s1 x) fun xs => (ms e s1).wp (fun ys s2 => PL (xs ++ ys) s2) E) E := by
  unfold aS
  rw [z_bind]
  congr 1
  funext x s1
  cases seqD s1 x with
  | none => rfl
  | some xs => simp only [z_bind, z_ok, optP_some]
@[simp ↓] theorem z_aS1 : (aS1 a e s).wp PL E = (a e s).wp (fun x s1 => optP (seqD s1 x) fun xs => PL xs s1) E := by
  unfold aS1
  rw [z_bind]
  congr 1
  funext x s1
  cases seqD s1 x <;> rfl
@[simp ↓] theorem seqD_tup {xs : List D} : seqD s (.tup xs) = some xs := nr rfl
@[simp ↓] theorem seqD_ref : seqD s (.ref n) = lstAt s n := nr rfl
@[simp ↓] theorem z_mMeth : (mMeth tb nm a ms e s).wp P E = (a e s).wp (fun d s1 => refP d fun n => insP s1[n]? fun c fs => optP (tb.lookup c) fun F => (fs.lookup nm).isNone = true ∧ (ms e s1).wp (fun ds s2 => (F (.ref n :: ds) s2).wp P E) E) E := by
  unfold mMeth
  rw [z_bind]
  congr 1
  funext d s1
  unfold refP
  cases d with
  | ref n =>
    dsimp only
    unfold insP
    cases s1[n]? with
    | none => rfl
    | some o =>
      cases o with
      | ins c fs =>
        dsimp only
        cases tb.lookup c with
        | none => rfl
        | some F =>
          dsimp only [optP]
          rw [z_iteN, z_bind]
      | _ => rfl
  | _ => rfl
/-- by the class of d, if it is an instance -/
def clsP (o : Option Str) (f : Str → Prop) (b : Prop) : Prop := match o with
  | some c => f c
  | none => b
@[simp ↓] theorem clsP_some {c : Str} {f : Str → Prop} {b : Prop} : clsP (some c) f b = f c := nr rfl
@[simp ↓] theorem clsP_none {f : Str → Prop} {b : Prop} : clsP none f b = b := nr rfl
theorem insC_ins {c : Str} (h : s[n]? = some (.ins c fs)) : insC s (.ref n) = some c := by
  unfold insC
  dsimp only
  rw [h]
@[simp ↓] theorem insC_str {z : Str} : insC s (.str z) = none := nr rfl
@[simp ↓] theorem insC_tup {xs : List D} : insC s (.tup xs) = none := nr rfl
@[simp ↓] theorem insC_int {j : Int} : insC s (.int j) = none := nr rfl
@[simp ↓] theorem insC_bl {q : Bool} : insC s (.bl q) = none := nr rfl
@[simp ↓] theorem insC_non : insC s .non = none := nr rfl
@[simp ↓] theorem z_inO {neg : Bool} {B : D → D → Sto → Rs D} : (dInO neg tb B x y s).wp P E = clsP (insC s y) (fun c => optP (tb.lookup c) fun F => (F [y, x] s).wp (fun d s1 => blP d fun b => P (.bl (neg ^^ b)) s1) E) ((B x y s).wp P E) := by
  unfold dInO
  cases insC s y with
  | none => rfl
  | some c =>
    dsimp only [clsP]
    cases tb.lookup c with
    | none => rfl
    | some F =>
      dsimp only [optP]
      rw [z_bind]
      congr 1
      funext d s1
      cases d <;> rfl
@[simp ↓] theorem z_ixO {B : D → D → Sto → Rs D} : (dIxO tb B x y s).wp P E = clsP (insC s x) (fun c => optP (tb.lookup c) fun F => (F [x, y] s).wp P E) ((B x y s).wp P E) := by
  unfold dIxO
  cases insC s x with
  | none => rfl
  | some c =>
    dsimp only [clsP]
    cases tb.lookup c <;> rfl
@[simp ↓] theorem z_ownL {rs : List Str} {st : Bool} {B : D → D → Sto → Rs D} : (dOwnL tb rs st B x y s).wp P E = clsP (insC s x) (fun c => optP (tb.lookup c) fun F => rightOk rs st s y = true ∧ (F [x, y] s).wp P E) ((B x y s).wp P E) := by
  unfold dOwnL
  cases insC s x with
  | none => rfl
  | some c =>
    dsimp only [clsP]
    cases tb.lookup c with
    | none => rfl
    | some F =>
      dsimp only [optP]
      rw [z_iteN]
/-- what a walk over an own instance, a list or a tuple goes through -/
def walkP (o : Option (Option (List D))) (s : Sto) (d : D) (P : Nat × Stp → Prop) : Prop := match o with
  | some (some xs) => P (xs.length, jTup xs)
  | some none => False
  | none => match d with
    | .tup ds => P (ds.length, jTup ds)
    | .ref n => lstP (lstAt s n) fun xs => P (xs.length, jLst n)
    | _ => False
@[simp ↓] theorem z_iOwn : (iOwn itb a e s).wp PI E = (a e s).wp (fun d s1 => walkP (itsO itb s1 d) s1 d fun j => PI j s1) E := by
  unfold iOwn
  rw [z_bind]
  congr 1
  funext d s1
  unfold walkP
  split <;> simp_all
  unfold walkD
  cases d with
  | ref n =>
    dsimp only
    unfold lstAt
    split <;> simp_all [lstP]
  | _ => rfl
@[simp ↓] theorem walkP_ins {xs : List D} {PJ : Nat × Stp → Prop} : walkP (some (some xs)) s d PJ = PJ (xs.length, jTup xs) := nr rfl
theorem itsO_ins {c : Str} {xs : List D} (h : s[n]? = some (.ins c fs)) (h1 : itb.lookup c = some f) (h2 : fs.lookup f = some (.tup xs)) : itsO itb s (.ref n) = some (some xs) := by
  unfold itsO
  dsimp only
  rw [h]
  dsimp only
  rw [h1]
  dsimp only
  rw [h2]
@[simp ↓] theorem itsO_tup {xs : List D} : itsO itb s (.tup xs) = none := nr rfl
@[simp ↓] theorem walkP_tup {xs : List D} {PJ : Nat × Stp → Prop} : walkP none s (.tup xs) PJ = PJ (xs.length, jTup xs) := nr rfl
@[simp ↓] theorem walkP_ref {PJ : Nat × Stp → Prop} : walkP none s (.ref n) PJ = lstP (lstAt s n) fun xs => PJ (xs.length, jLst n) := nr rfl
@[simp ↓] theorem z_extend {k : Nat} : (lExtend (.ref n) [d] s).wp P E = lstP (mlAt s n) fun xs => optP (seqD s d) fun ys => xs.length + ys.length ≤ sizeLine ∧ P .non (s.set n (.lst (xs ++ ys))) := by
  unfold lExtend mlAt lstP
  dsimp only
  cases s[n]? with
  | none => rfl
  | some o =>
    cases o with
    | lst xs =>
      cases seqD s d with
      | none => rfl
      | some ys => exact z_iteN
    | _ => rfl
@[simp ↓] theorem z_ltS {u v : Str} : (dLtS (.str u) (.str v) s).wp P E = P (.bl (decide (u.cps.toList < v.cps.toList))) s := nr rfl
/-! dicts -/
@[simp ↓] theorem z_mDN : (mDN e s).wp P E = P (.ref s.length) (s ++ [.dict false []]) := nr rfl
@[simp ↓] theorem z_getD : (dGetD (.ref n) x s).wp P E = optP (keyD x) fun k => optP (dctAt s n) fun kvs => optP (getK kvs k) fun v => P v s := by
  unfold dGetD optP
  cases keyD x with
  | none => rfl
  | some k =>
    dsimp only
    cases dctAt s n with
    | none => rfl
    | some kvs =>
      dsimp only
      cases getK kvs k <;> rfl
@[simp ↓] theorem z_inD {neg : Bool} : (dInD neg y (.ref n) s).wp P E = optP (keyD y) fun k => optP (dctAt s n) fun kvs => P (.bl (neg ^^ (getK kvs k).isSome)) s := by
  unfold dInD optP
  cases keyD y with
  | none => rfl
  | some k =>
    dsimp only
    cases dctAt s n <;> rfl
@[simp ↓] theorem z_get2 : (dGet2 (.ref n) x y s).wp P E = optP (keyD x) fun k => optP (dctAt s n) fun kvs => P ((getK kvs k).getD y) s := by
  unfold dGet2 optP
  cases keyD x with
  | none => rfl
  | some k =>
    dsimp only
    cases dctAt s n <;> rfl
@[simp ↓] theorem z_m3 {f3 : D → D → D → Sto → Rs D} : (m3 f3 a b c e s).wp P E = (a e s).wp (fun x s1 => (b e s1).wp (fun y s2 => (c e s2).wp (fun z s3 => (f3 x y z s3).wp P E) E) E) E := by
  unfold m3; simp only [z_bind]
def dctP (o : Option SO) (P : List (D × D) → Prop) : Prop := match o with
  | some (.dict false kvs) => P kvs
  | _ => False
@[simp ↓] theorem dctP_some {kvs : List (D × D)} {P : List (D × D) → Prop} : dctP (some (.dict false kvs)) P = P kvs := nr rfl
@[simp ↓] theorem z_setD {v : D} {PS : Sto → Prop} : stoP (xSetD (.ref n) x v s) PS = optP (keyD x) fun k => dctP s[n]? fun kvs => kvs.length < sizeLine ∧ PS (s.set n (.dict false (putKd kvs x k v))) := by
  unfold xSetD optP
  cases keyD x with
  | none => rfl
  | some k =>
    dsimp only
    unfold dctP
    cases s[n]? with
    | none => rfl
    | some o =>
      cases o with
      | dict b kvs =>
        cases b with
        | true => rfl
        | false =>
          dsimp only
          by_cases q : kvs.length < sizeLine <;> simp [q, stoP]
      | _ => rfl
def lckP (o : Option SO) (P : List (D × D) → Prop) : Prop := match o with
  | some (.lck false kvs) => P kvs
  | _ => False
@[simp ↓] theorem lckP_some {kvs : List (D × D)} {P : List (D × D) → Prop} : lckP (some (.lck false kvs)) P = P kvs := nr rfl
@[simp ↓] theorem z_iKy {j : Nat → Stp} : (iKy j a e s).wp PI E = (a e s).wp (fun d s1 => refP d fun n => lckP s1[n]? fun kvs => PI (kvs.length, j n) s1) E := by
  unfold iKy
  rw [z_bind]
  congr 1
  funext d s1
  unfold refP
  cases d with
  | ref n =>
    dsimp only
    unfold lckP
    cases s1[n]? with
    | none => rfl
    | some o =>
      cases o with
      | lck b kvs => cases b <;> rfl
      | _ => rfl
  | _ => rfl
/-! sets -/
@[simp ↓] theorem z_mSet0 : (mSet0 e s).wp P E = P (.ref s.length) (s ++ [.set []]) := nr rfl
@[simp ↓] theorem z_mSAdd : (mSAdd a ms e s).wp P E = (a e s).wp (fun d s1 => refP d fun n => optP (setAt s1 n) fun _ => (ms e s1).wp (fun ds s2 => ∃ y xs k, ds = [y] ∧ setAt s2 n = some xs ∧ keyD y = some k ∧ xs.length + 1 < 4096 ∧ P .non (s2.set n (.set (if inKs xs k then xs else xs ++ [y])))) E) E := by
  unfold mSAdd
  rw [z_bind]
  congr 1
  funext d s1
  unfold refP
  cases d with
  | ref n =>
    dsimp only
    cases setAt s1 n with
    | none => rfl
    | some zs =>
      dsimp only [optP]
      rw [z_bind]
      congr 1
      funext ds s2
      split
      · rename_i y xs h
        rw [h]
        cases hk : keyD y with
        | none => simp [hk]
        | some k =>
          dsimp only
          rw [z_iteN, z_ok]
          simp [hk]
      · rename_i h
        rw [z_no]
        simp only [eq_iff_iff, false_iff]
        rintro ⟨y, xs, k, rfl, h2, _⟩
        exact h y xs rfl h2
  | _ => rfl
@[simp ↓] theorem z_sP3 {i j l : Nat} : (sP3 i j l ms e s).wp Q = (ms e s).wp (fun ds s1 => ∃ x y z, ds = [x, y, z] ∧ Q.nx (((e.set i (some x)).set j (some y)).set l (some z)) s1) (fun c f v s => Q.ex c f v e s) := by
  unfold sP3
  rw [z_st]
  congr 1
  funext ds s1
  split
  · rw [z_nx, eq_iff_iff]
    refine ⟨fun h => ⟨_, _, _, rfl, h⟩, ?_⟩
    rintro ⟨x, y, z, h1, h2⟩
    cases h1
    exact h2
  · rename_i h
    simp only [z_rno, eq_iff_iff, false_iff]
    rintro ⟨x, y, z, rfl, _⟩
    exact h x y z rfl
@[simp ↓] theorem z_sortT {xs : List D} : (fSortA [.tup xs] s).wp P E = (canSort s xs = true ∧ P (.ref s.length) (s ++ [.lst (sortD s xs)])) := by
  show (if _ then _ else _ : Rs D).wp P E = _
  rw [z_iteN, z_ok]
@[simp ↓] theorem z_sortL : (fSortA [.ref n] s).wp P E = lstP (lstAt s n) fun xs => canSort s xs = true ∧ P (.ref s.length) (s ++ [.lst (sortD s xs)]) := by
  unfold fSortA
  dsimp only [seqD_ref]
  cases h : lstAt s n with
  | none => simp [seqD, h, lstP]
  | some xs =>
    simp only [seqD, h, lstP]
    rw [z_iteN, z_ok]
end
end Z

set_option Elab.async false
set_option linter.all false
set_option maxRecDepth 100000
set_option maxHeartbeats 4000000
namespace Z
open PySem PySem.Spec PyProof.Rows L2
/-! ### loops, comprehensions: more rules -/
section
variable {P : D → Sto → Prop} {E : Str → Str → D → Sto → Prop} {Q : En} {e : Ev} {s s0 s2 t : Sto} {j : Stp} {g g1 : GN} {body : SM} {N : Nat} {ks : List Nat} {xs : List D} {tt t1 : EM Bool} {mm : EM D} {mi1 : EM (Nat × Stp)} {vs vs1 : List Nat} {l : Nat}
/-- a for over known items -/
theorem for_it (it : ItOk ks s0 j N xs) (I : Nat → Ev → Sto → Prop) (hI : ∀ i e s, I i e s → Eff ks s0 s) (st : ∀ i d e s, xs[i]? = some d → I i e s → ∃ e1, g d e = some e1 ∧ (body e1 s).wp { nx := I (i + 1), ct := I (i + 1), bk := Q.nx, rt := Q.rt, ex := Q.ex })
    (h0 : I 0 e s) (fin : ∀ e s, I xs.length e s → Q.nx e s) : (forL j g body N 0 e s).wp Q := by
  refine forL_wp (N := N) I (fun i e s hi h => ⟨fun hN => ?_, fun hN => ?_⟩) N 0 e s (Nat.zero_add _) h0
  · subst hN
    exact ⟨by rw [it.2 i s (hI _ _ _ h), List.getElem?_eq_none (by rw [← it.1]; exact Nat.le_refl _)], fin _ _ (by rw [← it.1]; exact h)⟩
  · have hx : xs[i]? = some (xs[i]'(by rw [← it.1]; exact hN)) := List.getElem?_eq_getElem _
    obtain ⟨e1, h1, h2⟩ := st i _ e s hx h
    exact ⟨_, e1, by rw [it.2 i s (hI _ _ _ h), hx], h1, h2⟩
theorem lcI_wp (I : Nat → List D → Sto → Prop) {e : Ev} (st : ∀ i acc s, i ≤ N → I i acc s → s[l]? = some (.lst acc) → LcStep j g tt mm l I N i acc e s) : ∀ (f i : Nat) (acc : List D) (s : Sto), i + f = N → I i acc s → s[l]? = some (.lst acc) →
    (lcI j g tt mm l f i e s).wp fun _ s' => ∃ ys, s'[l]? = some (.lst ys) ∧ I N ys s'
  | 0, i, acc, s, h, hi, hl => by
    have h1 := (st i acc s (by omega) hi hl).1 (by omega)
    unfold lcI
    rw [h1]
    have e1 : i = N := by omega
    subst e1
    exact ⟨acc, hl, hi⟩
  | f + 1, i, acc, s, h, hi, hl => by
    obtain ⟨d, e1, h1, h2, h3⟩ := (st i acc s (by omega) hi hl).2 (by omega)
    unfold lcI
    rw [h1]
    dsimp only
    rw [h2]
    dsimp only
    rw [z_bind, z_nox]
    refine wp_mono h3 (fun q s1 h4 => ?_) fun _ _ _ _ z => z.elim
    cases q with
    | true =>
      rw [if_pos rfl] at h4 ⊢
      rw [z_bind, z_nox]
      refine wp_mono h4 (fun y s2 h5 => ?_) fun _ _ _ _ z => z.elim
      obtain ⟨h6, h7, h8⟩ := h5
      rw [h6]
      dsimp only
      rw [if_pos h7]
      have hl2 : l < s2.length := (List.getElem?_eq_some_iff.mp h6).1
      exact lcI_wp I st f (i + 1) _ _ (by omega) h8 (by rw [List.getElem?_set_self hl2])
    | false =>
      simp only [Bool.false_eq_true, ↓reduceIte] at h4 ⊢
      exact lcI_wp I st f (i + 1) _ _ (by omega) h4.2 h4.1
@[simp ↓] theorem z_mL2 {mi : EM (Nat × Stp)} : (mL2 mi g tt mi1 g1 t1 mm vs vs1 e s).wp P E = (mi e s).wp (fun jt s1 => (lcL2 jt.2 g tt mi1 g1 t1 mm vs1 s1.length jt.1 0 (wipeD e vs) (s1 ++ [.lst []])).wp P E) E := by
  unfold mL2; rw [z_bind]
/-- a walk that keeps as long as nothing but the places l and ks changes -/
def JOk (l : Nat) (ks : List Nat) (s2 : Sto) (jt : Nat × Stp) (zs : List D) : Prop := jt.1 = zs.length ∧ ∀ i s3, (∀ n, n < s2.length → n ≠ l → n ∉ ks → s3[n]? = s2[n]?) → jt.2 i s3 = some zs[i]?
theorem jok_tup {zs : List D} {n : Nat} (h : n = zs.length := by rfl) : JOk l ks s2 (n, jTup zs) zs := ⟨h, fun i s3 _ => rfl⟩
theorem lc2_gen (it : ItOk ks s0 j N xs) (hb : ∀ k ∈ ks, Bag s0 k) (F : Nat → List D) (hl : ((List.range xs.length).flatMap F).length < sizeLine)
    (st : ∀ i d s, xs[i]? = some d → Eff ks s0 s → (∀ k ∈ ks, Bag s k) → s0.length < s.length → ∃ e1, g d e = some e1 ∧ (tt e1 s).wp fun q s1 => Eff ks s s1 ∧ (q = false → F i = []) ∧ (q = true → (mi1 e1 s1).wp fun jt s2 => Eff ks s1 s2 ∧ ∃ (zs : List D) (os : List (Option D)), zs.length = os.length ∧ F i = os.filterMap id ∧ JOk s0.length ks s2 jt zs ∧
      ∀ (k : Nat) (d2 : D) (o : Option D) (s3 : Sto), zs[k]? = some d2 → os[k]? = some o → Eff ks s0 s3 → (∀ k ∈ ks, Bag s3 k) → s0.length < s3.length → ∃ e2, g1 d2 (wipeD e1 vs1) = some e2 ∧ (t1 e2 s3).wp fun q s4 => Eff ks s3 s4 ∧ q = o.isSome ∧ (q = true → (mm e2 s4).wp fun y s5 => Eff ks s4 s5 ∧ o = some y))) :
    (lcL2 j g tt mi1 g1 t1 mm vs1 s0.length N 0 e (s0 ++ [.lst []])).wp fun d s' => d = .ref s0.length ∧ Eff ks s0 s' ∧ s0.length < s'.length ∧ mlAt s' s0.length = some ((List.range xs.length).flatMap F) := by
  have lks : s0.length ∉ ks := fun h => Nat.lt_irrefl _ (hb _ h).lt
  have main : ∀ (f i : Nat) (s : Sto), i + f = N → Eff ks s0 s → s0.length < s.length → s[s0.length]? = some (.lst ((List.range i).flatMap F)) →
      (lcL2 j g tt mi1 g1 t1 mm vs1 s0.length f i e s).wp fun d s' => d = .ref s0.length ∧ Eff ks s0 s' ∧ s0.length < s'.length ∧ mlAt s' s0.length = some ((List.range xs.length).flatMap F) := by
    intro f
    induction f with
    | zero =>
      intro i s hi ef hlt hs
      unfold lcL2
      have : i = xs.length := by rw [← it.1]; omega
      rw [it.2 i s ef, List.getElem?_eq_none (by omega)]
      subst this
      exact ⟨rfl, ef, hlt, mlAt_some hs⟩
    | succ f ih =>
      intro i s hi ef hlt hs
      have hix : i < xs.length := by rw [← it.1]; omega
      have hx : xs[i]? = some xs[i] := List.getElem?_eq_getElem hix
      have tk : (List.range (i + 1)).flatMap F = (List.range i).flatMap F ++ F i := by
        rw [List.range_succ, List.flatMap_append]
        simp
      have pre : ((List.range (i + 1)).flatMap F).length ≤ ((List.range xs.length).flatMap F).length := by
        have e : List.range (i + 1) = (List.range xs.length).take (i + 1) := by rw [List.take_range, Nat.min_eq_left (by omega)]
        rw [e]
        conv => rhs; rw [← List.take_append_drop (i + 1) (List.range xs.length), List.flatMap_append, List.length_append]
        omega
      unfold lcL2
      rw [it.2 i s ef, hx]
      dsimp only
      obtain ⟨e1, h1, h2⟩ := st i xs[i] s hx ef (fun k hk => ef.bag k hk (hb k hk)) hlt
      rw [h1]
      dsimp only
      rw [z_bind, z_nox]
      refine wp_ne h2 fun q s1 ⟨ef1, hf, h3⟩ => ?_
      have efa := ef.trans ef1
      have hs1 := ef1.get hs lks
      cases q with
      | false =>
        rw [if_neg Bool.false_ne_true]
        refine ih (i + 1) s1 (by omega) efa (Nat.lt_of_lt_of_le hlt ef1.le) ?_
        rw [tk, hf rfl, List.append_nil]
        exact hs1
      | true =>
        rw [if_pos rfl, z_bind, z_nox]
        refine wp_ne (h3 rfl) fun jt s2 ⟨ef2, zs, os, hzo, hF, jok, hin⟩ => ?_
        have efb := efa.trans ef2
        have hs2 := ef2.get hs1 lks
        have hlt2 : s0.length < s2.length := Nat.lt_of_lt_of_le hlt (Nat.le_trans ef1.le ef2.le)
        rw [z_bind]
        refine wp_ne (lcI_wp (N := zs.length) (e := wipeD e1 vs1) (fun k acc s3 => Eff ks s0 s3 ∧ s0.length < s3.length ∧ (∀ n, n < s2.length → n ≠ s0.length → n ∉ ks → s3[n]? = s2[n]?) ∧ s2.length ≤ s3.length ∧ acc = (List.range i).flatMap F ++ (os.take k).filterMap id) ?_ jt.1 0 ((List.range i).flatMap F) s2 (by rw [jok.1]; omega) ⟨efb, hlt2, fun _ _ _ _ => rfl, Nat.le_refl _, by simp⟩ hs2) ?_
        · rintro k acc s3 hk ⟨ef3, hlt3, keep, hle, rfl⟩ hs3
          refine ⟨fun hN => ?_, fun hN => ?_⟩
          · rw [jok.2 k s3 keep, List.getElem?_eq_none (by omega)]
          · have hz : zs[k]? = some zs[k] := List.getElem?_eq_getElem hN
            have hz2 : os[k]? = some (os[k]'(by omega)) := List.getElem?_eq_getElem _
            generalize os[k]'(by omega) = o at hz2
            obtain ⟨e2, h4, h5⟩ := hin k zs[k] o s3 hz hz2 ef3 (fun k hk => ef3.bag k hk (hb k hk)) hlt3
            refine ⟨zs[k], e2, by rw [jok.2 k s3 keep, hz], h4, wp_ne h5 fun q s4 ⟨ef4, hq, h6⟩ => ?_⟩
            have hs4 := ef4.get hs3 lks
            have keep4 : ∀ n, n < s2.length → n ≠ s0.length → n ∉ ks → s4[n]? = s2[n]? := fun n hn h1 h2 => (ef4.eq n (by omega) h2).trans (keep n hn h1 h2)
            cases q with
            | false =>
              rw [if_neg Bool.false_ne_true]
              have hn : o = none := by
                cases o with
                | none => rfl
                | some y => cases hq
              exact ⟨hs4, ef3.trans ef4, Nat.lt_of_lt_of_le hlt3 ef4.le, keep4, Nat.le_trans hle ef4.le, by rw [List.take_add_one, hz2, List.filterMap_append]; simp [hn]⟩
            | true =>
              rw [if_pos rfl]
              refine wp_ne (h6 rfl) fun y s5 ⟨ef5, hy⟩ => ?_
              have hs5 := ef5.get hs4 lks
              refine ⟨hs5, ?_, ((ef3.trans ef4).trans ef5).set (Nat.le_refl _), by rw [List.length_set]; have := ef4.le; have := ef5.le; omega, fun n hn h1 h2 => ?_, by rw [List.length_set]; have := ef4.le; have := ef5.le; omega, by rw [List.take_add_one, hz2, List.filterMap_append]; simp [hy]⟩
              · have e5 : (os.take (k + 1)).filterMap id = (os.take k).filterMap id ++ [y] := by rw [List.take_add_one, hz2, List.filterMap_append]; simp [hy]
                have e6 : os.filterMap id = (os.take (k + 1)).filterMap id ++ (os.drop (k + 1)).filterMap id := by rw [← List.filterMap_append, List.take_append_drop]
                rw [tk, hF, e6, e5] at pre
                simp only [List.length_append, List.length_singleton] at pre ⊢
                omega
              · rw [List.getElem?_set_ne (by omega), ef5.eq n (by have := ef4.le; omega) h2]
                exact keep4 n hn h1 h2
        · rintro _ s3 ⟨ys, hs3, ef3, hlt3, keep, hle, rfl⟩
          refine ih (i + 1) s3 (by omega) ef3 hlt3 ?_
          rw [tk, hF, hs3, List.take_of_length_le (l := os) (by omega)]
  exact main N 0 _ (by omega) Eff.push (by simp) (by simp)
/-! ### item by item -/
def AllR {α : Type} (R : D → α → Prop) (ds : List D) (as : List α) : Prop := ds.length = as.length ∧ ∀ (i : Nat) (d : D) (a : α), ds[i]? = some d → as[i]? = some a → R d a
theorem AllR.nil {α : Type} {R : D → α → Prop} : AllR R [] [] := ⟨rfl, fun i d a h => by simp at h⟩
theorem AllR.mono {α : Type} {R R' : D → α → Prop} {ds : List D} {as : List α} (h : AllR R ds as) (hR : ∀ d a, R d a → R' d a) : AllR R' ds as := ⟨h.1, fun i d a h1 h2 => hR _ _ (h.2 i d a h1 h2)⟩
theorem AllR.get {α : Type} {R : D → α → Prop} {ds : List D} {as : List α} (h : AllR R ds as) {i : Nat} {d : D} (hd : ds[i]? = some d) : ∃ a, as[i]? = some a ∧ R d a := by
  have hi : i < as.length := by rw [← h.1]; exact (List.getElem?_eq_some_iff.mp hd).1
  exact ⟨as[i], List.getElem?_eq_getElem hi, h.2 i d _ hd (List.getElem?_eq_getElem hi)⟩
theorem AllR.mem {α : Type} {R : D → α → Prop} {ds : List D} {as : List α} (h : AllR R ds as) {d : D} (hd : d ∈ ds) : ∃ a ∈ as, R d a := by
  obtain ⟨i, hi, rfl⟩ := List.getElem_of_mem hd
  obtain ⟨a, h1, h2⟩ := h.get (List.getElem?_eq_getElem hi)
  exact ⟨a, List.mem_of_getElem? h1, h2⟩
theorem AllR.app {α : Type} {R : D → α → Prop} {ds es : List D} {as bs : List α} (h : AllR R ds as) (h2 : AllR R es bs) : AllR R (ds ++ es) (as ++ bs) := by
  refine ⟨by simp [h.1, h2.1], fun i d a hd ha => ?_⟩
  by_cases hi : i < ds.length
  · rw [List.getElem?_append_left hi] at hd
    rw [List.getElem?_append_left (by rw [← h.1]; exact hi)] at ha
    exact h.2 i d a hd ha
  · rw [List.getElem?_append_right (by omega)] at hd
    rw [List.getElem?_append_right (by have := h.1; omega), ← h.1] at ha
    exact h2.2 _ d a hd ha
theorem AllR.one {α : Type} {R : D → α → Prop} {d : D} {a : α} (h : R d a) : AllR R [d] [a] := ⟨rfl, fun i d' a' h1 h2 => by
  cases i with
  | zero => cases h1; cases h2; exact h
  | succ i => simp at h1⟩
/-- a value of each item, told by what it stands for -/
theorem AllR.map {α : Type} {R : D → α → Prop} {ds : List D} {as : List α} (h : AllR R ds as) {f : D → D} {k : α → D} (hf : ∀ d a, R d a → f d = k a) : ds.map f = as.map k := by
  refine List.ext_getElem (by simp [h.1]) fun i h1 h2 => ?_
  rw [List.getElem_map, List.getElem_map]
  exact hf _ _ (h.2 i _ _ (List.getElem?_eq_getElem (by simpa using h1)) (List.getElem?_eq_getElem (by simpa using h2)))
theorem AllR.flat {α : Type} {as : List α} {k : α → List D} : as.flatMap k = (List.range as.length).flatMap fun i => ((as[i]?).map k).getD [] := by
  induction as with
  | nil => rfl
  | cons a as ih =>
    rw [List.flatMap_cons, List.length_cons, List.range_succ_eq_map, List.flatMap_cons, ih, List.flatMap_map]
    rfl
/-- two walks over what stands for something -/
theorem lc2RR {α β : Type} (R : D → α → Prop) (k : α → List D) {as : List α} (hR : AllR R xs as) (it : ItOk ks s0 j N xs) (hb : ∀ k ∈ ks, Bag s0 k) (hl : (as.flatMap k).length < sizeLine)
    (st : ∀ d a s, R d a → a ∈ as → Eff ks s0 s → (∀ k ∈ ks, Bag s k) → s0.length < s.length → ∃ e1, g d e = some e1 ∧ (tt e1 s).wp fun q s1 => Eff ks s s1 ∧ (q = false → k a = []) ∧ (q = true → (mi1 e1 s1).wp fun jt s2 => Eff ks s1 s2 ∧ ∃ (zs : List D) (bs : List β) (R2 : D → β → Prop) (h : β → Option D), AllR R2 zs bs ∧ k a = bs.filterMap h ∧ JOk s0.length ks s2 jt zs ∧
      ∀ d2 b s3, R2 d2 b → b ∈ bs → Eff ks s0 s3 → (∀ k ∈ ks, Bag s3 k) → s0.length < s3.length → ∃ e2, g1 d2 (wipeD e1 vs1) = some e2 ∧ (t1 e2 s3).wp fun q s4 => Eff ks s3 s4 ∧ q = (h b).isSome ∧ (q = true → (mm e2 s4).wp fun y s5 => Eff ks s4 s5 ∧ h b = some y))) :
    (lcL2 j g tt mi1 g1 t1 mm vs1 s0.length N 0 e (s0 ++ [.lst []])).wp fun d s' => d = .ref s0.length ∧ Eff ks s0 s' ∧ s0.length < s'.length ∧ mlAt s' s0.length = some (as.flatMap k) := by
  have hF : (List.range xs.length).flatMap (fun i => ((as[i]?).map k).getD []) = as.flatMap k := by rw [hR.1, ← AllR.flat]
  have := lc2_gen (e := e) (g := g) (tt := tt) (mi1 := mi1) (g1 := g1) (t1 := t1) (mm := mm) (vs1 := vs1) it hb (fun i => ((as[i]?).map k).getD []) (by rw [hF]; exact hl) fun i d s hx ef hbs hlt => by
    obtain ⟨a, ha, hr⟩ := hR.get hx
    rw [ha]
    obtain ⟨e1, h1, h2⟩ := st d a s hr (List.mem_of_getElem? ha) ef hbs hlt
    refine ⟨e1, h1, wp_ne h2 fun q s1 ⟨h3, h4, h5⟩ => ⟨h3, h4, fun hq => wp_ne (h5 hq) fun jt s2 ⟨h6, zs, bs, R2, h, h7, h8, h9, h10⟩ => ⟨h6, zs, bs.map h, by rw [List.length_map, h7.1], ?_, h9, fun k2 d2 o s3 hz ho ef3 hb3 hlt3 => ?_⟩⟩⟩
    · show k a = _
      rw [h8, List.filterMap_map]
      rfl
    · rw [List.getElem?_map] at ho
      obtain ⟨b, hb1, rfl⟩ := Option.map_eq_some_iff.mp ho
      exact h10 d2 b s3 (h7.2 k2 d2 b hz hb1) (List.mem_of_getElem? hb1) ef3 hb3 hlt3
  rw [hF] at this
  exact this
end
end Z

set_option Elab.async false
set_option linter.all false
set_option maxRecDepth 100000
set_option maxHeartbeats 4000000
namespace Z
open PySem PySem.Spec PyProof.Rows L2 TL
open PySem.PyData (strOk)
/-! ### names, kinds, bodies -/
theorem IsName.ok {x : Str} (h : IsName x) : strOk x = true := by
  unfold PyData.strOk
  rw [Array.all_eq_true']
  intro c hc
  have := h.low c (by simpa using hc)
  unfold isLow at this
  simp
  omega
theorem IsName.l8 {x : Str} (h : IsName x) : x.length ≤ 8 := by rw [len_tl]; exact h.len
theorem size_line : sizeLine = 16777216 := by decide
theorem kit_str : kitB "str" "str" = some true := by rfl
theorem isi_str {P : D → Sto → Prop} {E : Str → Str → D → Sto → Prop} {s : Sto} {e : Ev} {i : Nat} {x : Str} (h : e[i]? = some (some (.str x))) (hP : P (.bl true) s) : (mIsi "str" (mV i) e s).wp P E := by
  rw [z_isi, z_mV, h, slotP_some]
  exact ⟨"str", true, rfl, kit_str, hP⟩
theorem mapM_bl : ∀ bs : List Bool, (bs.map D.bl).mapM blD = some bs
  | [] => rfl
  | b :: bs => by
    rw [List.map_cons, List.mapM_cons, mapM_bl bs]
    rfl
theorem map_tt {xs : List D} : xs.map (fun _ => D.bl true) = (List.replicate xs.length true).map D.bl := by simp [List.map_const', List.map_replicate]
def tIsName : SM := (sC (sI (bOr (bNot (toT (mIsi "str" (mV 0)))) (bNot (toB (mCh dLe dLe (mC (.int 1)) (mN fLen (aC (mV 0) aN)) (mC (.int 8)))))) (sR (mC (.bl false))) sN) (sR (mN (fAllAny true) (aC (mL (iSt (mV 0)) (gN 1) tY (m2 (dInB false) (mV 1) (mC (.str "abcdefghijklmnopqrstuvwxyz"))) [1]) aN))))
def IsNameOk (F : MF) : Prop := ∀ {s : Sto} {x : Str}, IsName x → (F [.str x] s).wp fun d s' => d = .bl true ∧ Eff [] s s'
theorem is_name_gen : IsNameOk (fnM 1 2 tIsName) := by
  intro s x h
  refine wp_of fun P hP => ?_
  unfold tIsName
  rw [z_fnM (by rfl)]
  have h8 := h.l8
  have h1 : 1 ≤ x.length := by rw [len_tl]; exact h.pos
  have hl : x.length ≤ sizeLine := by rw [size_line]; omega
  simp
  refine isi_str rfl ?_
  simp [trD, hl]
  have e1 : (1 : Int) ≤ x.length := by omega
  have e2 : (x.length : Int) ≤ 8 := by omega
  simp [e1, e2]
  refine wp_ne (lc_map (ks := []) (xs := strDs x) (fun d => .bl true) it_str (by simp) (by unfold strDs; rw [List.length_map, size_line]; have := len_tl x; unfold tl at this; omega) fun d s1 hd ef _ => ?_) ?_
  · obtain ⟨c, hc, rfl⟩ := List.mem_map.mp hd
    refine ⟨_, rfl, ?_⟩
    have hlow := h.low c hc
    have hin : c ∈ tl abc := by
      rw [abc_tl]
      unfold isLow at hlow
      exact List.mem_map.mpr ⟨c - 97, by simp; omega, by omega⟩
    simp
    show (dInB false (.str (one c)) (.str abc) s1).wp _ _
    rw [z_inS]
    simp [hin, Eff.refl]
  rintro d s1 ⟨rfl, ef, hlt, hm⟩
  rw [z_all]
  rw [map_tt] at hm
  refine ⟨_, _, lstAt_ml hm, mapM_bl _, ?_⟩
  rw [if_pos rfl]
  exact hP _ _ ⟨by simp, ef⟩
def tLook (F : MF) : SM := (sI (bNot (toT (mN F (aC (mV 0) aN)))) sNo sN)
def LookOk (p : D → Prop) (F : MF) : Prop := ∀ {s : Sto} {d : D}, p d → (F [d] s).wp fun d' s' => d' = .non ∧ Eff [] s s'
def nameD (d : D) : Prop := ∃ x, d = .str x ∧ IsName x
def kinds : List Str := ["weak", "common", "strong"]
def kindD (d : D) : Prop := ∃ k, d = .str k ∧ k ∈ kinds
theorem kinds_ok {k : Str} (h : k ∈ kinds) : strOk k = true := by
  unfold kinds at h
  simp only [List.mem_cons, List.not_mem_nil, or_false] at h
  rcases h with rfl | rfl | rfl <;> decide +kernel
def tIsKind (c : D) : SM := (sR (mAnd (mIsi "str" (mV 0)) (m2 (dInB false) (mV 0) (mC c))))
theorem is_kind_gen {s : Sto} {d : D} (h : kindD d) : (fnM 1 1 (tIsKind (.tup [.str "weak", .str "common", .str "strong"])) [d] s).wp fun d' s' => d' = .bl true ∧ Eff [] s s' := by
  obtain ⟨k, rfl, hk⟩ := h
  unfold tIsKind
  rw [z_fnM (by rfl)]
  simp
  refine isi_str rfl ?_
  simp
  have e : (D.tup [.str "weak", .str "common", .str "strong"]) = .tup (kinds.map D.str) := rfl
  rw [e, z_inT_yes (by rw [plain]; exact kinds_ok hk) (plains_strs fun x hx => kinds_ok hx) (List.mem_map_of_mem hk)]
  simp [Eff.refl]
def bodyD (d : D) : Prop := ∃ i : Int, d = .int i ∧ 0 ≤ i ∧ i ≤ 999999
def tLookBody : SM := (sI (bOr (bNot (toT (mIsi "int" (mV 0)))) (bOr (toT (mIsi "bool" (mV 0))) (bNot (toB (mCh dLe dLe (mC (.int 0)) (mV 0) (mC (.int 999999))))))) sNo sN)
def tTwice : SM := (sC (sA 1 (mN fLst aN)) (sC (sF (iSq (mV 0)) (gN 2) (sC (sI (toB (m2 (dInB false) (mV 2) (mV 1))) (sR (mV 2)) sN) (sE (mBM "list" (mtL lAppend) (mV 1) (aC (mV 2) aN))))) (sR (mC .non))))
def TwiceOk (F : MF) : Prop := ∀ {s : Sto} {n : Nat} {ms : List Str}, lstAt s n = some (ms.map D.str) → ms.Nodup → (∀ x ∈ ms, strOk x = true) → ms.length ≤ 1000 → (F [.ref n] s).wp fun d s' => d = .non ∧ Eff [] s s'
theorem twice_gen : TwiceOk (fnM 1 3 tTwice) := by
  intro s n ms hx hd hok hl
  refine wp_of fun P hP => ?_
  unfold tTwice
  rw [z_fnM (by rfl)]
  have hn := lstAt_lt hx
  simp [lstAt_app hn, hx]
  refine for_it (ks := []) (s0 := s) (xs := ms.map D.str) (it_lst hx (by simp)) (fun i e s1 => Eff [] s s1 ∧ mlAt s1 s.length = some ((ms.take i).map D.str) ∧ ∃ o, e = [some (.ref n), some (.ref s.length), o]) (fun _ _ _ h => h.1) ?_ ⟨Eff.push, by simp, none, rfl⟩ ?_
  · rintro i d e s1 hd1 ⟨ef, hm, o, rfl⟩
    obtain ⟨x, hx1, rfl⟩ : ∃ x, ms[i]? = some x ∧ d = .str x := by
      rw [List.getElem?_map] at hd1
      obtain ⟨x, h1, h2⟩ := Option.map_eq_some_iff.mp hd1
      exact ⟨x, h1, h2.symm⟩
    have hi : i < ms.length := (List.getElem?_eq_some_iff.mp hx1).1
    have hxe : ms[i] = x := (List.getElem?_eq_some_iff.mp hx1).2
    refine ⟨_, rfl, ?_⟩
    have hs := plains_strs (n := 20) (ms := ms.take i) fun x hx => hok x (List.mem_of_mem_take hx)
    have ni2 : ¬ (D.str x) ∈ (ms.take i).map D.str := fun hmem => by
      obtain ⟨y, hy, e⟩ := List.mem_map.mp hmem
      cases e
      obtain ⟨j, hj2, e⟩ := List.getElem_of_mem hy
      rw [List.length_take] at hj2
      rw [List.getElem_take] at e
      exact (List.pairwise_iff_getElem.mp hd) j i (by omega) hi (by omega) (e.trans hxe.symm)
    simp
    rw [z_inL_no (by rw [plain]; exact hok _ (List.mem_of_getElem? hx1)) (lstAt_ml hm) hs ni2]
    have hlt : s.length < s1.length := lstAt_lt (lstAt_ml hm)
    simp [hm, hlt]
    refine ⟨isTy_ml hm, by rw [size_line]; omega, ef.set (Nat.le_refl _), ?_⟩
    rw [List.take_add_one, hd1]
    simp
  · rintro e s1 ⟨ef, hm, o, rfl⟩
    simp
    exact hP _ _ ⟨rfl, ef⟩
end Z

set_option Elab.async false
set_option linter.all false
set_option maxRecDepth 100000
set_option maxHeartbeats 4000000
namespace Z
open PySem PySem.Spec PyProof.Rows L2 TL
open PySem.PyData (strOk)
/-! ### members, archives, stores: what stands for them -/
abbrev DefA := Str × Str × Int
structure MemA where
  name : Str
  defs : List DefA
  wants : List Str
structure ArcA where
  name : Str
  mems : List MemA
def defD (p : DefA) : D := .tup [.str p.1, .str p.2.1, .int p.2.2]
def IsMem (s : Sto) (d : D) (m : MemA) : Prop := ∃ n, d = .ref n ∧ s[n]? = some (.ins "Member" [("name", .str m.name), ("defines", .tup (m.defs.map defD)), ("wants", .tup (m.wants.map D.str))])
def IsArc (s : Sto) (d : D) (a : ArcA) : Prop := ∃ n ds, d = .ref n ∧ s[n]? = some (.ins "Archive" [("name", .str a.name), ("members", .tup ds)]) ∧ AllR (IsMem s) ds a.mems
def IsSto (s : Sto) (d : D) (as : List ArcA) : Prop := ∃ n ds, d = .ref n ∧ s[n]? = some (.ins "Store" [("archives", .tup ds)]) ∧ AllR (IsArc s) ds as
def Bags (s : Sto) (ks : List Nat) : Prop := ∀ k ∈ ks, Bag s k
theorem bags_nil {s : Sto} : Bags s [] := fun _ h => by simp at h
theorem Bags.eff {s t : Sto} {ks : List Nat} (h : Bags s ks) (e : Eff ks s t) : Bags t ks := fun k hk => e.bag k hk (h k hk)
/-- an instance is no bag -/
theorem ins_no {s : Sto} {ks : List Nat} {n : Nat} {c : Str} {fs : List (Str × D)} (hb : Bags s ks) (h : s[n]? = some (.ins c fs)) : n ∉ ks := fun hk => by
  obtain ⟨a, b, e⟩ := hb n hk
  rw [h] at e
  cases e
theorem IsMem.eff {s t : Sto} {ks : List Nat} {d : D} {m : MemA} (h : IsMem s d m) (e : Eff ks s t) (hb : Bags s ks) : IsMem t d m := by
  obtain ⟨n, h1, h2⟩ := h
  exact ⟨n, h1, e.get h2 (ins_no hb h2)⟩
theorem IsArc.eff {s t : Sto} {ks : List Nat} {d : D} {m : ArcA} (h : IsArc s d m) (e : Eff ks s t) (hb : Bags s ks) : IsArc t d m := by
  obtain ⟨n, ds, h1, h2, h3⟩ := h
  exact ⟨n, ds, h1, e.get h2 (ins_no hb h2), h3.mono fun _ _ h => h.eff e hb⟩
theorem IsSto.eff {s t : Sto} {ks : List Nat} {d : D} {m : List ArcA} (h : IsSto s d m) (e : Eff ks s t) (hb : Bags s ks) : IsSto t d m := by
  obtain ⟨n, ds, h1, h2, h3⟩ := h
  exact ⟨n, ds, h1, e.get h2 (ins_no hb h2), h3.mono fun _ _ h => h.eff e hb⟩
theorem IsMem.eff0 {s t : Sto} {d : D} {m : MemA} (h : IsMem s d m) (e : Eff [] s t) : IsMem t d m := h.eff e bags_nil
theorem IsArc.eff0 {s t : Sto} {d : D} {m : ArcA} (h : IsArc s d m) (e : Eff [] s t) : IsArc t d m := h.eff e bags_nil
theorem IsSto.eff0 {s t : Sto} {d : D} {m : List ArcA} (h : IsSto s d m) (e : Eff [] s t) : IsSto t d m := h.eff e bags_nil
/-! attributes -/
section
variable {P : D → Sto → Prop} {E : Str → Str → D → Sto → Prop} {s : Sto} {d : D} {cs : List Str}
theorem IsMem.ins {m : MemA} (h : IsMem s d m) : insC s d = some ("Member" : Str) := by
  obtain ⟨n, rfl, h⟩ := h
  exact insC_ins h
theorem IsArc.ins {m : ArcA} (h : IsArc s d m) : insC s d = some ("Archive" : Str) := by
  obtain ⟨n, ds, rfl, h, _⟩ := h
  exact insC_ins h
theorem IsSto.ins {m : List ArcA} (h : IsSto s d m) : insC s d = some ("Store" : Str) := by
  obtain ⟨n, ds, rfl, h, _⟩ := h
  exact insC_ins h
end
/-! ### sorted definitions, wants -/
def encP (p : DefA) : PyData := .tuple [.str p.1, .str p.2.1, .int p.2.2]
def leP (a b : DefA) : Bool := PySem.W.dataLe false encP a b
def sortP (ps : List DefA) : List DefA := ps.mergeSort leP
theorem sortP_perm (ps : List DefA) : (sortP ps).Perm ps := List.mergeSort_perm _ _
theorem enc_defD {p : DefA} : enc (defD p) = encP p := by
  unfold defD encP
  rw [enc, encs, encs, encs, encs, enc, enc, enc]
def okP (p : DefA) : Prop := strOk p.1 = true ∧ strOk p.2.1 = true
theorem plain_defD {n : Nat} {p : DefA} (h : okP p) : plain (n + 1) (defD p) = true := by
  unfold defD
  rw [plain, plains_iff]
  intro x hx
  simp only [List.mem_cons, List.not_mem_nil, or_false] at hx
  rcases hx with rfl | rfl | rfl
  · rw [plain]; exact h.1
  · rw [plain]; exact h.2
  · rw [plain]
theorem encD_def {s : Sto} {p : DefA} (h : okP p) : encD s (defD p) = encP p := by
  unfold encD
  rw [pyd_le (pyd_plain s 20 (defD p) (plain_defD h)) (by omega), enc_defD]
  rfl
theorem sortD_defs {s : Sto} {ps : List DefA} (h : ∀ p ∈ ps, okP p) : canSort s (ps.map defD) = true ∧ sortD s (ps.map defD) = (sortP ps).map defD := by
  constructor
  · unfold canSort
    simp only [List.all_map, Bool.and_eq_true, Bool.or_eq_true, List.all_eq_true, Function.comp_apply]
    refine ⟨⟨fun x hx => ?_, fun x hx y hy => ?_⟩, .inl fun x hx => ?_⟩
    · rw [shp_plain (plain_defD (h x hx))]
      rfl
    · rw [encD_def (h x hx), encD_def (h y hy)]
      simp [PySem.W.alike, PySem.W.alikeAll, encP]
    · rw [encD_def (h x hx)]
      rfl
  · unfold sortD sortP
    refine (List.map_mergeSort fun a ha b hb => ?_).symm
    rw [leP, PySem.W.dataLe_eq, PySem.W.dataLe_eq]
    simp only [encD_def (h a ha), encD_def (h b hb)]
theorem sortD_strs {s : Sto} {ms : List Str} (h : ∀ x ∈ ms, strOk x = true) : canSort s (ms.map D.str) = true ∧ sortD s (ms.map D.str) = (sortS ms).map D.str := by
  constructor
  · unfold canSort
    simp only [List.all_map, Bool.and_eq_true, Bool.or_eq_true, List.all_eq_true, Function.comp_apply]
    refine ⟨⟨fun x hx => ?_, fun x hx y hy => ?_⟩, .inr fun x hx => ?_⟩
    · rw [shp_plain (by rw [plain]; exact h x hx)]
      rfl
    · rw [encD_str, encD_str]
      simp [PySem.W.alike]
    · rw [encD_str]
      rfl
  · unfold sortD sortS
    refine (List.map_mergeSort fun a _ b _ => ?_).symm
    rw [PySem.W.dataLe_eq]
    have := congrFun (congrFun (PySem.W.dataLe_str (fun x : Str => x)) a) b
    rw [PySem.W.dataLe_eq] at this
    simp only [encD_str, cond_false] at this ⊢
    rw [this]
    rfl
/-! ### Member(name, defines = .., wants = ..) -/
structure GoodM (nm : Str) (ps : List DefA) (ws : List Str) : Prop where
  nm : IsName nm
  defs : ∀ p ∈ ps, IsName p.1 ∧ p.2.1 ∈ kinds ∧ 0 ≤ p.2.2 ∧ p.2.2 ≤ 999999
  wants : ∀ w ∈ ws, IsName w
  nd : (ps.map (·.1) ++ ws).Nodup
  l1 : ps.length ≤ 6
  l2 : ws.length ≤ 6
def tMember (lname lkind lbody twice : MF) (cs : List Str) : SM := (sC (sE (mN lname (aC (mV 1) aN))) (sC (sF (iSq (mV 2)) (gT [(gN 6), (gN 7), (gN 8)]) (sC (sE (mN lname (aC (mV 6) aN))) (sC (sE (mN lkind (aC (mV 7) aN))) (sE (mN lbody (aC (mV 8) aN)))))) (sC (sF (iSq (mV 3)) (gN 4) (sE (mN lname (aC (mV 4) aN)))) (sC (sA 5 (mN twice (aC (m2 dAdd (mL (iSq (mV 2)) (gN 9) tY (m2 dIx (mV 9) (mC (.int 0))) [9]) (mN fList (aC (mV 3) aN))) aN))) (sC (sI (toB (m2 dNotN2 (mV 5) (mC .non))) sNo sN) (sC (sI (bOr (toB (m2 dGt (mN fLen (aC (mV 2) aN)) (mC (.int 6)))) (toB (m2 dGt (mN fLen (aC (mV 3) aN)) (mC (.int 6))))) sNo sN) (sC (sFldD cs "name" (mV 0) (mV 1)) (sC (sFldD cs "defines" (mV 0) (mN fTuple (aC (mN fSortA (aC (mV 2) aN)) aN))) (sFldD cs "wants" (mV 0) (mN fTuple (aC (mN fSortA (aC (mV 3) aN)) aN)))))))))))
/-- a list or a tuple of items that stays -/
def SeqOf (s : Sto) (d : D) (xs : List D) : Prop := d = .tup xs ∨ ∃ n, d = .ref n ∧ lstAt s n = some xs
theorem SeqOf.eff0 {s t : Sto} {d : D} {xs : List D} (h : SeqOf s d xs) (e : Eff [] s t) : SeqOf t d xs := by
  rcases h with h | ⟨n, h1, h2⟩
  · exact .inl h
  · exact .inr ⟨n, h1, e.lst h2 (by simp)⟩
theorem z_iSqS {PI : Nat × Stp → Sto → Prop} {E : Str → Str → D → Sto → Prop} {s : Sto} {e : Ev} {i : Nat} {d : D} {xs : List D} (he : e[i]? = some (some d)) (h : SeqOf s d xs) (hP : ∀ j, ItOk [] s j xs.length xs → PI (xs.length, j) s) : (iSq (mV i) e s).wp PI E := by
  rw [z_iSq, z_mV, he, slotP_some]
  rcases h with rfl | ⟨n, rfl, h2⟩
  · exact hP _ (it_tup rfl)
  · show lstP _ _
    rw [h2, lstP_some]
    exact hP _ (it_lst h2 (by simp) rfl)
end Z

set_option Elab.async false
set_option linter.all false
set_option maxRecDepth 100000
set_option maxHeartbeats 4000000
namespace Z
open PySem PySem.Spec PyProof.Rows L2 TL
open PySem.PyData (strOk)
theorem SeqOf.len {s : Sto} {d : D} {xs : List D} (h : SeqOf s d xs) {P : D → Sto → Prop} {E : Str → Str → D → Sto → Prop} : (fLen [d] s).wp P E = P (.int xs.length) s := by
  rcases h with rfl | ⟨n, rfl, h2⟩
  · rw [z_lenT]
  · rw [z_lenL, h2, lstP_some]
theorem SeqOf.list {s : Sto} {d : D} {xs : List D} (h : SeqOf s d xs) {P : D → Sto → Prop} {E : Str → Str → D → Sto → Prop} : (fList [d] s).wp P E = (xs.length ≤ sizeLine ∧ P (.ref s.length) (s ++ [.lst xs])) := by
  rcases h with rfl | ⟨n, rfl, h2⟩
  · rw [z_listT]
  · rw [z_listL, h2, lstP_some]
/-! ### comprehensions over what stands for something -/
section
variable {E : Str → Str → D → Sto → Prop} {e : Ev} {s s0 : Sto} {j : Stp} {g : GN} {N : Nat} {ks : List Nat} {xs : List D} {tt : EM Bool} {mm : EM D}
theorem lc_mapR {α : Type} (R : D → α → Prop) (k : α → D) {as : List α} (hR : AllR R xs as) (it : ItOk ks s0 j N xs) (hb : Bags s0 ks) (hl : as.length < sizeLine)
    (body : ∀ d a s, R d a → a ∈ as → Eff ks s0 s → Bags s ks → ∃ e1, g d e = some e1 ∧ (mm e1 s).wp fun y s2 => Eff ks s s2 ∧ y = k a) :
    (lcL j g tY mm s0.length N 0 e (s0 ++ [.lst []])).wp fun d s' => d = .ref s0.length ∧ Eff ks s0 s' ∧ s0.length < s'.length ∧ mlAt s' s0.length = some (as.map k) := by
  refine wp_ne (lc_all it hb (by rw [hR.1]; exact hl) (fun i d y => ∃ a, as[i]? = some a ∧ y = k a) fun i d s hx ef hbs => ?_) ?_
  · obtain ⟨a, ha, hr⟩ := hR.get hx
    obtain ⟨e1, h1, h2⟩ := body d a s hr (List.mem_of_getElem? ha) ef hbs
    exact ⟨e1, h1, wp_ne h2 fun y s2 ⟨h3, h4⟩ => ⟨h3, a, ha, h4⟩⟩
  · rintro d s' ⟨rfl, ef, hlt, ys, h1, h2, h3⟩
    refine ⟨rfl, ef, hlt, ?_⟩
    rw [h2]
    congr 1
    refine List.ext_getElem (by rw [List.length_map, h1, hR.1]) fun i hi hi2 => ?_
    obtain ⟨a, h4, h5⟩ := h3 i (xs[i]'(by omega)) ys[i] (List.getElem?_eq_getElem (by omega)) (List.getElem?_eq_getElem hi)
    rw [List.getElem_map, h5]
    congr 1
    exact ((List.getElem?_eq_some_iff.mp h4).2).symm
/-- with a test: what is kept stands for what is kept -/
theorem lc_filtR {α : Type} (R : D → α → Prop) (R2 : D → α → Prop) (p : α → Bool) {as : List α} (hR : AllR R xs as) (it : ItOk ks s0 j N xs) (hb : Bags s0 ks) (hl : as.length < sizeLine)
    (body : ∀ d a s, R d a → a ∈ as → Eff ks s0 s → Bags s ks → ∃ e1, g d e = some e1 ∧ (tt e1 s).wp fun q s1 => Eff ks s s1 ∧ q = p a ∧ (q = true → (mm e1 s1).wp fun y s2 => Eff ks s1 s2 ∧ R2 y a)) :
    (lcL j g tt mm s0.length N 0 e (s0 ++ [.lst []])).wp fun d s' => d = .ref s0.length ∧ Eff ks s0 s' ∧ s0.length < s'.length ∧ ∃ ys, mlAt s' s0.length = some ys ∧ AllR R2 ys (as.filter p) := by
  refine wp_ne (lc_gen it hb (by rw [hR.1]; exact hl) (fun i d o _ => ∃ a, as[i]? = some a ∧ (if p a then ∃ y, o = some y ∧ R2 y a else o = none)) (fun _ _ _ _ _ h _ _ => h) fun i d s hx ef hbs _ => ?_) ?_
  · obtain ⟨a, ha, hr⟩ := hR.get hx
    obtain ⟨e1, h1, h2⟩ := body d a s hr (List.mem_of_getElem? ha) ef hbs
    refine ⟨e1, h1, wp_ne h2 fun q s1 ⟨h3, h4, h5⟩ => ⟨h3, ?_⟩⟩
    subst h4
    cases hp : p a with
    | true =>
      rw [if_pos rfl]
      exact wp_ne (h5 hp) fun y s2 ⟨h6, h7⟩ => ⟨h6, a, ha, by rw [hp, if_pos rfl]; exact ⟨y, rfl, h7⟩⟩
    | false =>
      rw [if_neg Bool.false_ne_true]
      exact ⟨a, ha, by rw [hp, if_neg Bool.false_ne_true]⟩
  · rintro d s' ⟨rfl, ef, hlt, zs, hz, hm, hR2⟩
    refine ⟨rfl, ef, hlt, _, hm, ?_⟩
    have key : ∀ (as : List α) (zs : List (Option D)), zs.length = as.length → (∀ (i : Nat) (a : α) (o : Option D), as[i]? = some a → zs[i]? = some o → (if p a then ∃ y, o = some y ∧ R2 y a else o = none)) → AllR R2 (zs.filterMap id) (as.filter p) := by
      intro as
      induction as with
      | nil =>
        intro zs h1 _
        have : zs = [] := List.eq_nil_of_length_eq_zero h1
        subst this
        exact AllR.nil
      | cons a as ih =>
        intro zs h1 h2
        cases zs with
        | nil => cases h1
        | cons z zs =>
          have h3 := h2 0 a z rfl rfl
          have h4 := ih zs (by simpa using h1) fun i b o hb ho => h2 (i + 1) b o (by simpa using hb) (by simpa using ho)
          cases hp : p a with
          | true =>
            rw [hp, if_pos rfl] at h3
            obtain ⟨y, rfl, hy⟩ := h3
            rw [List.filter_cons_of_pos hp]
            exact (AllR.one hy).app h4
          | false =>
            rw [hp, if_neg Bool.false_ne_true] at h3
            subst h3
            rw [List.filter_cons_of_neg (by rw [hp]; exact Bool.false_ne_true)]
            exact h4
    refine key as zs (by rw [hz, hR.1]) fun i a o ha ho => ?_
    have hi : i < xs.length := by rw [hR.1]; exact (List.getElem?_eq_some_iff.mp ha).1
    obtain ⟨a', h1, h2⟩ := hR2 i (xs[i]) o (List.getElem?_eq_getElem hi) ho
    rw [ha] at h1
    cases h1
    exact h2
end
end Z

set_option Elab.async false
set_option linter.all false
set_option maxRecDepth 100000
set_option maxHeartbeats 4000000
namespace Z
open PySem PySem.Spec PyProof.Rows L2 TL
open PySem.PyData (strOk)
/-! ### Archive(name, *members) -/
structure GoodA (nm : Str) (ms : List MemA) : Prop where
  nm : IsName nm
  names : ∀ m ∈ ms, IsName m.name
  nd : (ms.map (·.name)).Nodup
  len : ms.length ≤ 8
def tArchive (lname twice : MF) (cs csM : List Str) : SM := (sC (sE (mN lname (aC (mV 1) aN))) (sC (sA 3 (mN twice (aC (mL (iSq (mV 2)) (gN 4) tY (mFld csM "name" (mV 4)) [4]) aN))) (sC (sI (toB (m2 dNotN2 (mV 3) (mC .non))) sNo sN) (sC (sI (toB (m2 dGt (mN fLen (aC (mV 2) aN)) (mC (.int 8)))) sNo sN) (sC (sFldD cs "name" (mV 0) (mV 1)) (sFldD cs "members" (mV 0) (mV 2)))))))
/-! ### archive + member -/
def tAdd (init : MF) (cs : List Str) : SM := (sR (mN (mkD "Archive" init) (aC (mFld cs "name" (mV 0)) (aS (mFld cs "members" (mV 0)) (aC (mV 1) aN)))))
end Z

set_option Elab.async false
set_option linter.all false
set_option maxRecDepth 100000
set_option maxHeartbeats 4000000
namespace Z
open PySem PySem.Spec PyProof.Rows L2 TL
open PySem.PyData (strOk)
theorem IsArc.its {s : Sto} {d : D} {a : ArcA} {itb : Itb} (h : IsArc s d a) (hi : itb.lookup ("Archive" : Str) = some ("members" : Str)) : ∃ ds, itsO itb s d = some (some ds) ∧ AllR (IsMem s) ds a.mems := by
  obtain ⟨n, ds, rfl, h, h2⟩ := h
  exact ⟨ds, itsO_ins h hi rfl, h2⟩
theorem IsSto.its {s : Sto} {d : D} {a : List ArcA} {itb : Itb} (h : IsSto s d a) (hi : itb.lookup ("Store" : Str) = some ("archives" : Str)) : ∃ ds, itsO itb s d = some (some ds) ∧ AllR (IsArc s) ds a := by
  obtain ⟨n, ds, rfl, h, h2⟩ := h
  exact ⟨ds, itsO_ins h hi rfl, h2⟩
/-! ### Store(*archives) -/
abbrev KeyA := Str × Int
def kP (p : DefA) : KeyA := (p.1, p.2.2)
def kM (m : MemA) : List KeyA := m.defs.map kP
def kA (a : ArcA) : List KeyA := a.mems.flatMap kM
def kS (as : List ArcA) : List KeyA := as.flatMap kA
def pairD (k : KeyA) : D := .tup [.str k.1, .int k.2]
structure GoodS (as : List ArcA) : Prop where
  names : ∀ a ∈ as, IsName a.name
  nd : (as.map (·.name)).Nodup
  ok : ∀ k ∈ kS as, strOk k.1 = true
  kd : (kS as).Nodup
  kl : (kS as).length ≤ 10000
  len : as.length ≤ 6
def tStore (twice : MF) (cs csA csM : List Str) (itb : Itb) : SM := (sC (sA 2 (mN twice (aC (mL (iSq (mV 1)) (gN 4) tY (mFld csA "name" (mV 4)) [4]) aN))) (sC (sI (toB (m2 dNotN2 (mV 2) (mC .non))) sNo sN) (sC (sA 3 (mN fLst aN)) (sC (sF (iSq (mV 1)) (gN 4) (sF (iOwn itb (mV 4)) (gN 5) (sF (iSq (mFld csM "defines" (mV 5))) (gT [(gN 6), (gN 7), (gN 8)]) (sC (sI (toB (m2 (dInB false) (mN fTup (aC (mV 6) (aC (mV 8) aN))) (mV 3))) sNo sN) (sE (mBM "list" (mtL lAppend) (mV 3) (aC (mN fTup (aC (mV 6) (aC (mV 8) aN))) aN))))))) (sC (sI (toB (m2 dGt (mN fLen (aC (mV 1) aN)) (mC (.int 6)))) sNo sN) (sFldD cs "archives" (mV 0) (mV 1)))))))
theorem take_split1 {α : Type} {l : List α} {i : Nat} {a : α} (h : l[i]? = some a) : l = l.take i ++ a :: l.drop (i + 1) := by
  have hi := (List.getElem?_eq_some_iff.mp h).1
  have e := (List.getElem?_eq_some_iff.mp h).2
  conv => lhs; rw [← List.take_append_drop i l]
  rw [← e, List.getElem_cons_drop]
theorem take_snoc {α : Type} {l : List α} {i : Nat} {a : α} (h : l[i]? = some a) : l.take (i + 1) = l.take i ++ [a] := by
  rw [List.take_add_one, h]
  rfl
end Z

set_option Elab.async false
set_option linter.all false
set_option maxRecDepth 100000
set_option maxHeartbeats 4000000
namespace Z
open PySem PySem.Spec PyProof.Rows L2 TL
open PySem.PyData (strOk)
/-! ### in, [] -/
def tCont (cs csI : List Str) (f : Str) : SM := (sR (mAnd (mIsi "str" (mV 1)) (m2 (dInB false) (mV 1) (mL (iSq (mFld cs f (mV 0))) (gN 2) tY (mFld csI "name" (mV 2)) [2]))))
theorem mem_strs {x : Str} {ms : List Str} : D.str x ∈ ms.map D.str ↔ x ∈ ms := by
  rw [List.mem_map]
  constructor
  · rintro ⟨y, hy, e⟩
    cases e
    exact hy
  · exact fun h => ⟨x, h, rfl⟩
theorem z_inStr {P : D → Sto → Prop} {E : Str → Str → D → Sto → Prop} {s : Sto} {n : Nat} {x : Str} {ms : List Str} {neg : Bool} (hx : strOk x = true) (hl : lstAt s n = some (ms.map D.str)) (hm : ∀ y ∈ ms, strOk y = true) : (dInB neg (.str x) (.ref n) s).wp P E = P (.bl (neg ^^ decide (x ∈ ms))) s := by
  classical
  rw [z_inL (by rw [plain]; exact hx) hl (plains_strs hm)]
  have e : decide (D.str x ∈ ms.map D.str) = decide (x ∈ ms) := by
    by_cases h : x ∈ ms
    · rw [decide_eq_true h, decide_eq_true (mem_strs.mpr h)]
    · rw [decide_eq_false h, decide_eq_false fun q => h (mem_strs.mp q)]
  rw [e]
/-- archive[name] -/
def tGetA (tb : Tb) (cs csI : List Str) : SM := (sC (sI (toB (m2 (dInO true tb dNo2) (mV 1) (mV 0))) sNo sN) (sR (m2 dIx (mL (iSq (mFld cs "members" (mV 0))) (gN 2) (toB (m2 dEq (mFld csI "name" (mV 2)) (mV 1))) (mV 2) [2]) (mC (.int 0)))))
/-! ### store / archive: put in -/
def orA (as : List ArcA) (a : ArcA) : List ArcA := if a.name ∈ as.map (·.name) then as.map (fun o => if o.name = a.name then a else o) else as ++ [a]
def tOr (init : MF) (tb : Tb) (cs csA : List Str) : SM := (sC (sI (toB (m2 (dInO true tb dNo2) (mFld csA "name" (mV 1)) (mV 0))) (sR (mN (mkD "Store" init) (aS (mFld cs "archives" (mV 0)) (aC (mV 1) aN)))) sN) (sC (sA 2 (mL (iSq (mFld cs "archives" (mV 0))) (gN 3) tY (mIf (toB (m2 dEq (mFld csA "name" (mV 3)) (mFld csA "name" (mV 1)))) (mV 1) (mV 3)) [3])) (sR (mN (mkD "Store" init) (aS1 (mV 2))))))
/-- what Store(..) is known to do -/
def StoreOk (init : MF) : Prop := ∀ {s : Sto} {ds : List D} {as : List ArcA}, GoodS as → AllR (IsArc s) ds as → (mkD "Store" init ds s).wp fun d s' => IsSto s' d as ∧ Eff [] s s'
end Z

set_option Elab.async false
set_option linter.all false
set_option maxRecDepth 100000
set_option maxHeartbeats 4000000
namespace Z
open PySem PySem.Spec PyProof.Rows L2 TL
open PySem.PyData (strOk)
/-- a for whose items the invariant tells -/
theorem for_j {j : Stp} {g : GN} {body : SM} {Q : En} {N : Nat} {xs : List D} {e : Ev} {s : Sto} (hN : N = xs.length) (I : Nat → Ev → Sto → Prop) (hI : ∀ i e s, I i e s → j i s = some xs[i]?) (st : ∀ i d e s, xs[i]? = some d → I i e s → ∃ e1, g d e = some e1 ∧ (body e1 s).wp { nx := I (i + 1), ct := I (i + 1), bk := Q.nx, rt := Q.rt, ex := Q.ex })
    (h0 : I 0 e s) (fin : ∀ e s, I xs.length e s → Q.nx e s) : (forL j g body N 0 e s).wp Q := by
  refine forL_wp (N := N) I (fun i e s hi h => ⟨fun hN2 => ?_, fun hN2 => ?_⟩) N 0 e s (Nat.zero_add _) h0
  · subst hN2
    exact ⟨by rw [hI _ _ _ h, List.getElem?_eq_none (by omega)], fin _ _ (by rw [← hN]; exact h)⟩
  · have hx : xs[i]? = some (xs[i]'(by omega)) := List.getElem?_eq_getElem _
    obtain ⟨e1, h1, h2⟩ := st i _ e s hx h
    exact ⟨_, e1, by rw [hI _ _ _ h, hx], h1, h2⟩
theorem jlst_at {s : Sto} {p i : Nat} {xs : List D} (h : lstAt s p = some xs) : jLst p i s = some xs[i]? := by rw [jLst_eq, h]; rfl
theorem AllR.of_map {α : Type} {f : α → D} {as : List α} : AllR (fun d a => d = f a) (as.map f) as := ⟨List.length_map _, fun i d a h1 h2 => by
  rw [List.getElem?_map, h2] at h1
  exact (Option.some.inj h1).symm⟩
theorem AllR.eq_map {α : Type} {f : α → D} {ds : List D} {as : List α} (h : AllR (fun d a => d = f a) ds as) : ds = as.map f := by
  refine List.ext_getElem (by simp [h.1]) fun i h1 h2 => ?_
  rw [List.getElem_map]
  exact h.2 i _ _ (List.getElem?_eq_getElem h1) (List.getElem?_eq_getElem (by simpa using h2))
theorem setAt_some {s : Sto} {n : Nat} {xs : List D} (h : s[n]? = some (.set xs)) : setAt s n = some xs := by unfold setAt; rw [h]
theorem setAt_get {s : Sto} {n : Nat} {xs : List D} (h : setAt s n = some xs) : s[n]? = some (.set xs) := by
  unfold setAt at h
  split at h
  · rename_i ys e
    cases h
    exact e
  · cases h
theorem Eff.st {ks : List Nat} {s t : Sto} (h : Eff ks s t) {i : Nat} {xs : List D} (e : setAt s i = some xs) (hi : i ∉ ks) : setAt t i = some xs := setAt_some (h.get (setAt_get e) hi)
/-! ### live members -/
def dnames (m : MemA) : List Str := m.defs.map (·.1)
def isLive (seen : List Str) (m : MemA) : Bool := (dnames m).any fun x => !decide (x ∈ seen)
def liveA (ms : List MemA) : List MemA := (List.range ms.length).filterMap fun i => (ms[i]?).bind fun m => if isLive ((ms.take i).flatMap dnames) m then some m else none
def tLive (csA csM csN : List Str) : SM := (sC (sA 1 (mN fLst aN)) (sC (sA 2 mSet0) (sC (sF (iSq (mFld csA "members" (mV 0))) (gN 3) (sC (sA 4 (mL (iSq (mFld csM "defines" (mV 3))) (gN 6) (toB (m2 (dInSt true (dInB true)) (m2 dIx (mV 6) (mC (.int 0))) (mV 2))) (m2 dIx (mV 6) (mC (.int 0))) [6])) (sC (sF (iSq (mV 4)) (gN 5) (sE (mSAdd (mV 2) (aC (mV 5) aN)))) (sI (toB (m2 dNe (mV 4) (mN fLst aN))) (sE (mBM "list" (mtL lAppend) (mV 1) (aC (mFld csN "name" (mV 3)) aN))) sN)))) (sR (mV 1)))))
/-- the set's keys are the texts -/
def SetIs (s : Sto) (l : Nat) (seen : List Str) : Prop := ∃ xs, setAt s l = some xs ∧ xs.length ≤ seen.length ∧ ∀ x : Str, inKs xs (.inr x) = decide (x ∈ seen)
theorem SetIs.mono {s t : Sto} {l : Nat} {seen seen' : List Str} (h : SetIs s l seen) (ht : t[l]? = s[l]?) (h1 : seen.length ≤ seen'.length) (h2 : ∀ x, x ∈ seen ↔ x ∈ seen') : SetIs t l seen' := by
  obtain ⟨xs, h3, h4, h5⟩ := h
  refine ⟨xs, setAt_some (by rw [ht]; exact setAt_get h3), by omega, fun x => ?_⟩
  rw [h5]
  exact decide_eq_decide.mpr (h2 x)
end Z

set_option Elab.async false
set_option linter.all false
set_option maxRecDepth 100000
set_option maxHeartbeats 4000000
namespace Z
open PySem PySem.Spec PyProof.Rows L2 TL
open PySem.PyData (strOk)
/-! ### stores that are free -/
def dnA (a : ArcA) : List Str := a.mems.flatMap dnames
def lwA (a : ArcA) : List Str := (liveA a.mems).flatMap (·.wants)
structure OkA (a : ArcA) : Prop where
  nm : IsName a.name
  mem : ∀ m ∈ a.mems, IsName m.name
  nd : (a.mems.map (·.name)).Nodup
  defs : ∀ m ∈ a.mems, ∀ p ∈ m.defs, strOk p.1 = true
  wants : ∀ m ∈ a.mems, ∀ w ∈ m.wants, strOk w = true
  l1 : (a.mems.flatMap dnames).length ≤ 2000
  l2 : a.mems.length ≤ 1000
  l3 : ((liveA a.mems).flatMap (·.wants)).length ≤ 2000
def tDefN (itb : Itb) (csM : List Str) : SM := (sR (mL2 (iOwn itb (mV 0)) (gN 1) tY (iSq (mFld csM "defines" (mV 1))) (gN 2) tY (m2 dIx (mV 2) (mC (.int 0))) [1, 2] [2]))
def wantsOf (ms : List MemA) (d : D) : List D := match d with
  | .str x => ((ms.find? fun m => decide (m.name = x)).map fun m => m.wants.map D.str).getD []
  | _ => []
def tLiveW (tbL tbG : Tb) (csM : List Str) : SM := (sR (mL2 (iSq (mMeth tbL "live" (mV 0) aN)) (gN 1) tY (iSq (mFld csM "wants" (m2 (dIxO tbG dNo2) (mV 0) (mV 1)))) (gN 2) tY (mV 2) [1, 2] [2]))
/-- what archive.live(), archive[name] are known to do -/
def LiveOk (F : MF) : Prop := ∀ {s : Sto} {d : D} {a : ArcA}, IsArc s d a → OkA a → (F [d] s).wp fun d' s' => Eff [] s s' ∧ ∃ n, d' = .ref n ∧ mlAt s' n = some ((liveA a.mems).map fun m => .str m.name)
def GetOk (F : MF) : Prop := ∀ {s : Sto} {d : D} {a : ArcA} {m : MemA}, IsArc s d a → OkA a → m ∈ a.mems → (F [d, .str m.name] s).wp fun d' s' => IsMem s' d' m ∧ Eff [] s s'
/-! are_free, is_free -/
def freeB (a b : ArcA) : Bool := !((dnA a ++ lwA a).any fun x => decide (x ∈ dnA b)) && !((lwA b).any fun x => decide (x ∈ dnA a))
def NamesOfOk (F : MF) (k : ArcA → List Str) : Prop := ∀ {s : Sto} {d : D} {a : ArcA}, IsArc s d a → OkA a → (F [d] s).wp fun d' s' => Eff [] s s' ∧ ∃ n, d' = .ref n ∧ mlAt s' n = some ((k a).map D.str)
def tAreFree (dn lw : MF) : SM := (sC (sG (gT [(gN 2), (gN 3)]) (mN fTup (aC (mN dn (aC (mV 0) aN)) (aC (mN dn (aC (mV 1) aN)) aN)))) (sC (sI (toT (mN (fAllAny false) (aC (mL (iSq (m2 dAdd (mV 2) (mN lw (aC (mV 0) aN)))) (gN 4) tY (m2 (dInB false) (mV 4) (mV 3)) [4]) aN))) (sR (mC (.bl false))) sN) (sR (mNot (mN (fAllAny false) (aC (mL (iSq (mN lw (aC (mV 1) aN))) (gN 4) tY (m2 (dInB false) (mV 4) (mV 2)) [4]) aN))))))
def ltN (a b : ArcA) : Bool := decide (a.name.cps.toList < b.name.cps.toList)
def freeRow (as : List ArcA) (a : ArcA) : List Bool := (as.filter (ltN a)).map (freeB a)
def isFreeB (as : List ArcA) : Bool := (as.flatMap (freeRow as)).all id
def tIsFree (itb : Itb) (cs : List Str) (af : MF) : SM := (sR (mN (fAllAny true) (aC (mL2 (iOwn itb (mV 0)) (gN 1) tY (iOwn itb (mV 0)) (gN 2) (toB (m2 dLtS (mFld cs "name" (mV 1)) (mFld cs "name" (mV 2)))) (mN af (aC (mV 1) (aC (mV 2) aN))) [1, 2] [2]) aN)))
def AreFreeOk (F : MF) : Prop := ∀ {s : Sto} {d1 d2 : D} {a b : ArcA}, IsArc s d1 a → IsArc s d2 b → OkA a → OkA b → (F [d1, d2] s).wp fun d' s' => Eff [] s s' ∧ d' = .bl (freeB a b)
end Z

set_option Elab.async false
set_option linter.all false
set_option maxRecDepth 100000
set_option maxHeartbeats 4000000
namespace Z
open PySem PySem.Spec PyProof.Rows L2 TL
open PySem.PyData (strOk)
/-! ### more of lists, dicts -/
section
variable {P : D → Sto → Prop} {E : Str → Str → D → Sto → Prop} {s : Sto} {n : Nat} {xs : List D}
theorem sq1 {i n : Nat} (hi : i < n) : seqIndex? (i : Int) n = some i := by
  unfold seqIndex?
  have h0 : ¬ ((i : Int) < 0) := by omega
  simp [h0, hi]
theorem lp1 {xs : List D} {i : Nat} {x : D} (hx : xs[i]? = some x) (hl : (i : Int) < 2 ^ 63) : lPopAt xs [.int i] = some (xs.eraseIdx i, x) := by
  have hi := (List.getElem?_eq_some_iff.mp hx).1
  unfold lPopAt
  dsimp only
  rw [if_pos ⟨Int.le_trans (by decide) (Int.natCast_nonneg i), hl⟩, sq1 hi, Option.bind_some, hx, Option.map_some]
theorem small63 {i n : Nat} (h : i < n) (hn : n < 1000000) : (i : Int) < 2 ^ 63 := by omega
theorem z_mtL {f : List D → List D → Option (List D × D)} {ds ys : List D} {d : D} (h : mlAt s n = some xs) (e : f xs ds = some (ys, d)) : (mtL f (.ref n) ds s).wp P E = P d (s.set n (.lst ys)) := by
  unfold mtL
  simp only [mlAt_get h, e]
  rw [z_ok]
theorem z_popN {i : Nat} {x : D} (h : mlAt s n = some xs) (hx : xs[i]? = some x) (hl : xs.length < 1000000) : (mtL lPopAt (.ref n) [.int i] s).wp P E = P x (s.set n (.lst (xs.eraseIdx i))) :=
  z_mtL h (lp1 hx (small63 (List.getElem?_eq_some_iff.mp hx).1 hl))
@[simp ↓] theorem z_fIntB {q : Bool} : (fInt [.bl q] s).wp P E = P (.int (if q then 1 else 0)) s := by
  cases q <;> rfl
end
/-! ### dicts -/
theorem dctAt_dict {s : Sto} {n : Nat} {kvs : List (D × D)} (h : s[n]? = some (.dict false kvs)) : dctAt s n = some kvs := by unfold dctAt; rw [h]
/-- the value of a name: names differ -/
theorem getK_at {kvs : List (D × D)} {i : Nat} {x : Str} {v : D} {ns : List Str} (h : kvs.map (·.1) = ns.map D.str) (nd : ns.Nodup) (hi : kvs[i]? = some (.str x, v)) : getK kvs (.inr x) = some v := by
  induction kvs generalizing ns i with
  | nil => simp at hi
  | cons p kvs ih =>
    cases ns with
    | nil => simp at h
    | cons y ns =>
      rw [List.map_cons, List.map_cons, List.cons.injEq] at h
      rw [List.nodup_cons] at nd
      unfold getK at ih ⊢
      cases i with
      | zero =>
        have : p = (.str x, v) := by simpa using hi
        subst this
        rw [List.find?_cons_of_pos (by simp [keyD])]
        rfl
      | succ i =>
        have hi2 : kvs[i]? = some (.str x, v) := by simpa using hi
        have hx : x ∈ ns := by
          have : D.str x ∈ ns.map D.str := by
            rw [← h.2]
            exact List.mem_map.mpr ⟨_, List.mem_of_getElem? hi2, rfl⟩
          exact mem_strs.mp this
        rw [List.find?_cons_of_neg (by
          rw [h.1]
          simp only [keyD, Option.some.injEq, Sum.inr.injEq, decide_eq_true_eq]
          rintro rfl
          exact nd.1 hx)]
        exact ih h.2 nd.2 hi2
end Z

set_option Elab.async false
set_option linter.all false
set_option maxRecDepth 100000
set_option maxHeartbeats 4000000
namespace Z
open PySem PySem.Spec PyProof.Rows L2
/-! ### a walk over what may be a text, a list, a tuple or an own instance -/
def iAny (tb : Itb) (m : EM D) : EM (Nat × Stp) := fun e s => (m e s).bind fun d s1 => match d with
  | .str x => .ok (x.cps.size, jStr x) s1
  | d => match itsO tb s1 d with
    | some (some xs) => .ok (xs.length, jTup xs) s1
    | some none => .no
    | none => walkD s1 d
section
variable {P : D → Sto → Prop} {PI : Nat × Stp → Sto → Prop} {E : Str → Str → D → Sto → Prop} {e : Ev} {s : Sto} {a : EM D} {itb : Itb}
def anyP (itb : Itb) (s : Sto) (d : D) (P : Nat × Stp → Prop) : Prop := match d with
  | .str x => P (x.cps.size, jStr x)
  | d => walkP (itsO itb s d) s d P
@[simp ↓] theorem z_iAny : (iAny itb a e s).wp PI E = (a e s).wp (fun d s1 => anyP itb s1 d fun j => PI j s1) E := by
  unfold iAny
  rw [z_bind]
  congr 1
  funext d s1
  unfold anyP
  split
  · rfl
  · generalize itsO itb s1 _ = o
    unfold walkP
    cases o with
    | some o =>
      cases o <;> rfl
    | none =>
      unfold walkD
      cases d with
      | ref n =>
        dsimp only
        unfold lstAt
        cases s1[n]? with
        | none => rfl
        | some o => cases o <;> rfl
      | _ => rfl
@[simp ↓] theorem anyP_str {x : Str} {PJ : Nat × Stp → Prop} : anyP itb s (.str x) PJ = PJ (x.cps.size, jStr x) := nr rfl
@[simp ↓] theorem anyP_tup {xs : List D} {PJ : Nat × Stp → Prop} : anyP itb s (.tup xs) PJ = PJ (xs.length, jTup xs) := nr rfl
@[simp ↓] theorem anyP_ref {n : Nat} {PJ : Nat × Stp → Prop} : anyP itb s (.ref n) PJ = walkP (itsO itb s (.ref n)) s (.ref n) PJ := nr rfl
end
variable [Row]
section
variable {X : Cx} {W : WX} {k : Nat} {tb : Itb} {tg e : Expr} {m : EM D}
theorem own_start (T : ITab X.prog X.w X.K X.mg X.base k tb) (hr : Rm k X.A) {pins : List (Addr × Obj)} {s1 : Shared} {σ : L2.St} {H1 : Hp} {ρ1 : Nat → Addr} {st1 : Sto} {d1 : D} {v : V} {u : Value} {R : It → Hp → Prop} {W' : WX} (I1 : Inv X pins σ H1 s1) (sr1 : SR X.K X.mg ρ1 st1 H1) (vr1 : VR X.K ρ1 st1.length H1 d1 v) (r1 : RelV v u)
    (po1 : Po X.K X.mg (RI X.K X.mg) W' σ ρ1 st1.length H1 (match itsO tb st1 d1 with | some (some xs) => .ok (xs.length, jTup xs) st1 | some none => .no | none => walkD st1 d1) R) : wpAny (model X.prog X.w) X.A (pyIter u) (PIE X pins σ tg R) X.xe s1 := by
  split at po1
  · rename_i xs hx
    obtain ⟨n, c, fs, f, rfl, hs, hf, hl⟩ := itsO_some hx
    rw [VR] at vr1
    obtain ⟨hn, rfl⟩ := vr1
    obtain rfl : u = Value.ref (ρ1 n) := r1
    obtain ⟨C, dx, vs, g1, g2, g3⟩ := sr1.ob n _ hs
    obtain ⟨C', g, k1, k2, k3⟩ := T c f hf
    rw [g1] at k1
    cases k1
    obtain ⟨t, ht, vt⟩ := g3.lookup hl
    rw [VR] at vt
    obtain ⟨a, zs, rfl, sq, rr⟩ := vt
    obtain ⟨ox, od, J, _⟩ := inst_look I1 g2
    obtain ⟨m0, hFr⟩ := I1.fr
    refine PySem.W.owit_iter hFr I1.ok.mod.kin J k2.at_ k2.fn (wpAny_call (codeAny_mono (k3 X.A X.stack s1 H1 (ρ1 n) dx a vs zs hr I1.env0 g2 ht sq) fun r s2 ⟨it, e2, ce, hit, hsz⟩ => ?_))
    subst e2
    obtain ⟨v2, H2, I2, rv, eH⟩ := I1.after ce
    subst eH
    show PySem.W.OwitIt _ _ _ _ _ _
    unfold PySem.W.OwitIt
    refine wpAny_specialOf hit.typeIs PySem.F.slot_tuple_iterator_next.lookup ?_
    refine ⟨it, [it], _, _, H2, rfl, I2, turn_tuple a it, hit, fun b hb => ?_, po1 ρ1 H2 _ Ext.refl sr1 (ri_tup sq rr)⟩
    have e : b = it := by simpa using hb
    subst e
    exact I1.fpOk hsz (I1.hok.fresh hsz)
  · exact po1.elim
  · exact walk_start I1 sr1 vr1 r1 po1
theorem ji_any (T : ITab X.prog X.w X.K X.mg X.base k tb) (hr : Rm k X.A) (he : JE X W e m) : JI X W tg e (iAny tb m) := by
  refine ⟨fun pins s σ H R I ⟨ρ, env, st, sr, er, po⟩ => ?_⟩
  refine thn (he.run pins s σ H _ I ⟨ρ, env, st, sr, er, Po.bind po⟩) fun u s1 ⟨v, H1, I1, r1, ρ1, st1, d1, e1, sr1, vr1, po1⟩ => ?_
  cases d1 with
  | str x =>
    obtain rfl : v = .str x := vr1
    obtain ⟨t, rfl⟩ := r1
    have q := po1 ρ1 H1 _ Ext.refl sr1 ri_str
    cases ha : x.cps.all (· < 128)
    · exact wpAny_pyIter_wide ha (pi_one (tk := s1.toks) I1 _ (turn_str _ x t "str_iterator" (.inr rfl)) ⟨_, Heap.get?_push_size _ rfl, rfl, rfl⟩ q)
    · exact wpAny_pyIter_ascii ha (pi_one (tk := s1.toks) I1 _ (turn_str _ x t "str_ascii_iterator" (.inl rfl)) ⟨_, Heap.get?_push_size _ rfl, rfl, rfl⟩ q)
  | _ => exact own_start T hr I1 sr1 vr1 r1 po1
end
end Z

set_option Elab.async false
set_option linter.all false
set_option maxRecDepth 100000
set_option maxHeartbeats 4000000
namespace Z
open PySem PySem.Spec PyProof.Rows L2
/-- a statement that walks a dict: it is locked meanwhile, if it is not so yet -/
def sLkA (m : EM D) (b : SM) : SM := fun e s => match m e s with
  | .ok (.ref n) _ => match s[n]? with
    | some (.lck false _) => b e s
    | _ => sLk m b e s
  | _ => .no
section
variable {Q : En} {e : Ev} {s : Sto} {i n : Nat} {B : SM} {kvs : List (D × D)}
end
variable [Row]
section
variable {X : Cx} {W : WX} {st : Stmt} {m : EM D} {b : SM}
end
end Z

set_option Elab.async false
set_option linter.all false
set_option maxRecDepth 100000
set_option maxHeartbeats 4000000
namespace Z
open PySem PySem.Spec PySem.Calls PyProof.Rows L2
open PySem.PyData (strOk)
variable [Row]
/-! ### sorted(a set of texts) -/
section
omit [Row]
variable {prog : Program} {w : World} {A : Around} {E : Value → Shared → Prop} {s : Shared}
open PySem.W in
/-- sorted(x): what collects x tells the values and what they stand for -/
theorem sorted_col {β : Type} {enc : β → PyData} {R : Value → β → Prop} {x : Value} {Q : Value → Shared → Prop} {C : List Value → Shared → Prop} (hc : wpAny (model prog w) A.in1 (collect x) C E s)
    (hC : ∀ vs s1, C vs s1 → ∃ bs : List β, EachIs R vs bs ∧ EachIs (fun v b => ∃ q, Reads s1.heap v (enc b) q) vs bs ∧ AllAlike (bs.map enc) ∧ Sortable (bs.map enc) ∧ bs.length ≤ sizeLine ∧ (∀ b, b ∈ bs → A.units + 2 + (enc b).depth < cLine) ∧
      ∀ (out : List Value) (a : Addr) (h' : Heap) (ep : Nat), out.length = bs.length → EachIs R out (bs.mergeSort (dataLe false enc)) → (∀ b o, s1.heap.get? b = some o → h'.get? b = some o) → s1.heap.objs.size ≤ a → h'.get? a = some (seqObj "list" out.toArray ep) → Q (.ref a) { s1 with heap := h' }) :
    wpAny (model prog w) A (call (.builtin "sorted") [x]) Q E s := by
  refine call_function_entry kind_sorted plain_sorted entry_sorted (args_sorted1 _) ?_
  unfold Builtin.«sorted»
  refine wpAny_bind (m := checkCount "sorted" 1 1 _) (wpAny_pure (wpAny_bind (wpAny_mono hc (fun vs s1 hp => ?_) fun _ _ z => z)))
  obtain ⟨bs, e, er, hal, hk, hL, hu, fin⟩ := hC vs s1 hp
  have hl := e.length
  have kp : ∀ b o, s1.heap.get? b = some o → (s1.heap.push { cls := .type "list", data := .seq vs.toArray }).get? b = some o := fun b o q => Heap.get?_push_of_some _ q
  refine wpAny_bind (wpAny_newList ?_ (by rw [hl]; exact hL))
  have er2 : EachIs (fun v b => ∃ q, Reads (sortingHeap (s1.heap.push { cls := .type "list", data := .seq vs.toArray }) s1.heap.objs.size vs) v (enc b) q) vs bs := er.mono fun _ _ ⟨q, r⟩ => ⟨q, PyProof.Rows.Reads.keeps (fun b o z => sortingHeap_old (Nat.ne_of_lt (Heap.lt_size z)) (kp b o z)) r⟩
  have ho : (s1.heap.push ({ cls := .type "list", data := .seq vs.toArray } : Obj)).get? s1.heap.objs.size = some (seqObj "list" vs.toArray 0) := Heap.get?_push_size _ rfl
  refine wpAny_bind (wpAny_holding (wpAny_call_entry slot_list_sort ⟨_, ho, rfl⟩ entry_list_sort (list_sort_vals (κ := dataKind (sortingHeap (s1.heap.push { cls := .type "list", data := .seq vs.toArray }) s1.heap.objs.size vs) (bs.map enc))
    (s := { s1 with heap := s1.heap.push { cls := .type "list", data := .seq vs.toArray } }) ho
    (SortsAt.data (s := { s1 with heap := sortingHeap (s1.heap.push { cls := .type "list", data := .seq vs.toArray }) s1.heap.objs.size vs }) (each_map (R := fun v d => ∃ q, Reads (sortingHeap (s1.heap.push { cls := .type "list", data := .seq vs.toArray }) s1.heap.objs.size vs) v d q) enc er2) hal hk (bound_map hu)) (by rw [hl]; exact hL) ⟨.none, rfl, ?_⟩) (args_list_sort _)))
  refine wpAny_pure ⟨_, rfl, ?_⟩
  obtain ⟨ep, hat⟩ := sortedHeap_at (out := (sortVals (dataKind (sortingHeap (s1.heap.push { cls := .type "list", data := .seq vs.toArray }) s1.heap.objs.size vs) (bs.map enc)) false vs vs).toArray) ho
  refine fin _ s1.heap.objs.size _ ep (by rw [sortVals_length false rfl]; exact hl) (sortVals_data (h' := sortingHeap (s1.heap.push { cls := .type "list", data := .seq vs.toArray }) s1.heap.objs.size vs) (R := R) (enc := enc) false e er2 hal) (fun b o q => ?_) (Nat.le_refl _) hat
  have lt : b < s1.heap.objs.size := Heap.lt_size q
  exact (sortedHeap_old (Nat.ne_of_lt lt) (by rw [size_push']; exact Nat.lt_succ_of_lt lt)).trans (kp b o q)
end
section
variable {X : Cx} {W : WX}
def fSortZ (B : MF) : MF := fun ds s => match ds with
  | [.ref n] => match setAt s n with
    | some xs => match xs.mapM strD with
      | some zs => if zs.all strOk = true then .ok (.ref s.length) (s ++ [.lst ((sortS zs).map D.str)]) else .no
      | none => .no
    | none => B ds s
  | _ => B ds s
omit [Row] in
theorem sortS_perm' (zs : List Str) : (sortS zs).Perm zs := List.mergeSort_perm _ _
omit [Row] in
theorem sortS_uniq {xs ys : List Str} (p : xs.Perm ys) : sortS xs = sortS ys := by
  refine ((sortS_perm' xs).trans (p.trans (sortS_perm' ys).symm)).eq_of_pairwise (le := fun a b => leS a b = true) (fun a b _ _ h1 h2 => ?_) (List.pairwise_mergeSort leS_trans leS_total _) (List.pairwise_mergeSort leS_trans leS_total _)
  unfold leS at h1 h2
  exact TL.ext_tl (List.le_antisymm (of_decide_eq_true h1) (of_decide_eq_true h2))
end
end Z

set_option Elab.async false
set_option linter.all false
set_option maxRecDepth 100000
set_option maxHeartbeats 4000000
namespace Z
open PySem PySem.Spec PySem.Calls PyProof.Rows L2
variable [Row]
/-! ### set(xs), xs a list of keys -/
section
omit [Row]
variable {P : Program} {w : World} {A : Around} {E : Value → Shared → Prop} {s : Shared} {a : Addr} {T : Key → Bool} {N : Nat}
set_option maxHeartbeats 8000000 in
end
/-- each key once, where it first stands -/
def onceD (xs : List D) : List D := xs.foldl (fun acc d => match keyD d with
  | some k => if inKs acc k then acc else acc ++ [d]
  | none => acc) []
def fSetL (ds : List D) (s : Sto) : Rs D := match ds with
  | [.ref n] => match lstAt s n with
    | some xs => match keysD xs with
      | some _ => if xs.length + 1 < 4096 then .ok (.ref s.length) (s ++ [.set (onceD xs)]) else .no
      | none => .no
    | none => .no
  | _ => .no
section
variable {X : Cx} {W : WX}
end
end Z

set_option Elab.async false
set_option linter.all false
set_option maxRecDepth 100000
set_option maxHeartbeats 4000000
namespace Z
open PySem PySem.Spec PyProof.Rows L2
variable [Row]
/-! ### xs[::-1] -/
def mRev (m : EM D) : EM D := fun e s => (m e s).bind fun d s1 => match d with
  | .ref n => match lstAt s1 n with
    | some xs => .ok (.ref s1.length) (s1 ++ [.lst xs.reverse])
    | none => .no
  | _ => .no
/-! ### what these do -/
section
omit [Row]
variable {P : D → Sto → Prop} {E : Str → Str → D → Sto → Prop} {e : Ev} {s : Sto} {m : EM D} {n : Nat}
@[simp ↓] theorem z_mRev : (mRev m e s).wp P E = (m e s).wp (fun d s1 => refP d fun n => lstP (lstAt s1 n) fun xs => P (.ref s1.length) (s1 ++ [.lst xs.reverse])) E := by
  unfold mRev
  rw [z_bind]
  congr 1
  funext d s1
  unfold refP
  cases d with
  | ref n =>
    dsimp only
    unfold lstP
    cases lstAt s1 n <;> rfl
  | _ => rfl
/-- what is once in a list of texts -/
def onceS (xs : List Str) : List Str := xs.foldl (fun acc x => if x ∈ acc then acc else acc ++ [x]) []
theorem onceS_mem : ∀ (xs : List Str) (x : Str), x ∈ onceS xs ↔ x ∈ xs := by
  have key : ∀ (xs acc : List Str) (x : Str), x ∈ xs.foldl (fun acc x => if x ∈ acc then acc else acc ++ [x]) acc ↔ x ∈ acc ∨ x ∈ xs := by
    intro xs
    induction xs with
    | nil => intro acc x; simp
    | cons y ys ih =>
      intro acc x
      rw [List.foldl_cons, ih]
      by_cases q : y ∈ acc
      · rw [if_pos q, List.mem_cons]
        exact ⟨fun h => h.elim .inl fun h => .inr (.inr h), fun h => h.elim .inl fun h => h.elim (fun e => .inl (e ▸ q)) .inr⟩
      · rw [if_neg q, List.mem_append, List.mem_singleton, List.mem_cons, or_assoc]
  intro xs x
  rw [onceS, key]
  simp
theorem onceS_nodup : ∀ xs : List Str, (onceS xs).Nodup := by
  have key : ∀ (xs acc : List Str), acc.Nodup → (xs.foldl (fun acc x => if x ∈ acc then acc else acc ++ [x]) acc).Nodup := by
    intro xs
    induction xs with
    | nil => intro acc h; exact h
    | cons y ys ih =>
      intro acc h
      rw [List.foldl_cons]
      refine ih _ ?_
      by_cases q : y ∈ acc
      · rw [if_pos q]; exact h
      · rw [if_neg q, List.nodup_append]
        exact ⟨h, by simp, fun a ha b hb e => q (by rw [List.mem_singleton.mp hb] at e; rw [← e]; exact ha)⟩
  exact fun xs => key xs [] List.nodup_nil
/-- the texts of two lists with the same texts, each once, in order -/
theorem sortS_same {xs ys : List Str} (h1 : xs.Nodup) (h2 : ys.Nodup) (h : ∀ x, x ∈ xs ↔ x ∈ ys) : sortS xs = sortS ys := sortS_uniq ((List.perm_ext_iff_of_nodup h1 h2).mpr h)
end
end Z

set_option Elab.async false
set_option linter.all false
set_option maxRecDepth 100000
set_option maxHeartbeats 4000000
namespace Z
open PySem PySem.Spec PyProof.Rows L2
/-! ### a value that is no instance, compared with an own instance: the instance's == answers -/
section
variable {P : Program} {w : World} {A : Around} {E : Value → Shared → Prop} {s : Shared} {a C : Addr} {ox : Obj} {od : Option Obj} {Q : Value → Shared → Prop}
variable {K : PySem.W.Frag} {f : Addr}
end
end Z
namespace Z
open PySem PySem.Spec PyProof.Rows L2
variable [Row]
/-! ### o in xs, o an own instance, the items of the list xs none -/
def itOk (s : Sto) : D → Bool
  | .ref k => (mLst s k).isSome
  | _ => true
def inOwnL (c : Str) (G : MF) (n l : Nat) : Nat → Nat → Sto → Rs Bool
  | 0, _, _ => .no
  | f + 1, i, s => match mLst s l with
    | some xs => match xs[i]? with
      | some d => if itOk s d = true ∧ insC s (.ref n) = some c then (G [.ref n, d] s).bind fun r s1 => match r with
        | .bl q => if q then .ok true s1 else inOwnL c G n l f (i + 1) s1
        | _ => .no
        else .no
      | none => .ok false s
    | none => .no
def dInI (tb : Tb) (neg : Bool) (B : D → D → Sto → Rs D) (x y : D) (s : Sto) : Rs D := match insC s x, x, y with
  | some c, .ref n, .ref l => match tb.lookup c, mLst s l with
    | some G, some xs => (inOwnL c G n l (xs.length + 1) 0 s).bind fun q s1 => .ok (.bl (neg ^^ q)) s1
    | _, _ => .no
  | some _, _, _ => .no
  | none, _, _ => B x y s
def STab (K : PySem.W.Frag) (tb : Tb) : Prop := ∀ c F, tb.lookup c = some F → ∀ T ∈ tysB, PySem.W.subIn K (.ref (He.ga K c)) (.type T) = some false
section
variable {X : Cx} {W : WX} {k : Nat} {tb : Tb} {cs : List Str}
open PySem.MeetsSeq in
open PySem.MeetsSeq in
theorem ITab.mono {P : Program} {w : World} {K : PySem.W.Frag} {mg : Str → Option Value} {base : Heap} {i j : Nat} {tb : Itb} (T : ITab P w K mg base i tb) (h : i ≤ j) : ITab P w K mg base j tb := fun c f hc => by
  obtain ⟨C, g, h1, h2, h3⟩ := T c f hc
  exact ⟨C, g, h1, h2, fun A outer st H a dx t vs xs hr => h3 A outer st H a dx t vs xs (hr.mono h)⟩
end
end Z

set_option Elab.async false
set_option linter.all false
set_option maxRecDepth 100000
set_option maxHeartbeats 4000000
namespace Z
open PySem PySem.Spec PyProof.Rows L2
/-! ### list(a text) -/
def fListZ (B : MF) : MF := fun ds s => match ds with
  | [.str x] => if x.cps.size ≤ sizeLine then .ok (.ref s.length) (s ++ [.lst (strDs x)]) else .no
  | _ => B ds s
theorem z_listZ {B : MF} {x : Str} {P : D → Sto → Prop} {E : Str → Str → D → Sto → Prop} {s : Sto} (h : x.cps.size ≤ sizeLine) : (fListZ B [.str x] s).wp P E = P (.ref s.length) (s ++ [.lst (strDs x)]) := by
  unfold fListZ
  dsimp only
  rw [if_pos h, z_ok]
@[simp ↓] theorem z_listZr {B : MF} {n : Nat} {P : D → Sto → Prop} {E : Str → Str → D → Sto → Prop} {s : Sto} : (fListZ B [.ref n] s).wp P E = (B [.ref n] s).wp P E := nr rfl
@[simp ↓] theorem z_listZt {B : MF} {xs : List D} {P : D → Sto → Prop} {E : Str → Str → D → Sto → Prop} {s : Sto} : (fListZ B [.tup xs] s).wp P E = (B [.tup xs] s).wp P E := nr rfl
variable [Row]
theorem calld_listZ {X : Cx} {W : WX} {B : MF} (hc : X.calm = true) (hB : CallD X W (.type "list") B) : CallD X W (.type "list") (fListZ B) := by
  intro pins s σ H ρ st ds vs us Q I sr vr r po
  unfold fListZ at po
  split at po
  · rename_i x
    obtain ⟨hl, po⟩ := Po.ite po
    obtain ⟨v, rfl, rv⟩ := vr.one
    rw [VR] at rv
    subst rv
    cases r with
    | cons ru rt =>
      cases rt
      obtain ⟨t, rfl⟩ := ru
      refine call_list_str (I.ok.hd hc) x t (hn := hl) fun h' tk acc c' hk hS hacc => ?_
      have hn : H s.heap.objs.size = none := I.hok.fresh (Nat.le_refl _)
      have hv : Vals (x.cps.toList.map fun c => V.str ⟨#[c]⟩) acc.toList := by
        have key : ∀ (cs : List Nat) (us : List Value), us.length = cs.length → (∀ (j : Nat) (u : Value), us[j]? = some u → ∃ c t, cs[j]? = some c ∧ u = .str ⟨#[c]⟩ t) → Vals (cs.map fun c => V.str ⟨#[c]⟩) us := by
          intro cs
          induction cs with
          | nil =>
            intro us h1 _
            rw [List.eq_nil_of_length_eq_zero h1]
            exact .nil
          | cons c cs ih =>
            intro us h1 h2
            cases us with
            | nil => cases h1
            | cons u us =>
              obtain ⟨c', t', e1, e2⟩ := h2 0 u rfl
              cases e1
              exact .cons ⟨t', e2⟩ (ih us (by simpa using h1) fun j v hv => h2 (j + 1) v hv)
        refine key _ _ (by rw [Array.length_toList, hacc.1, Array.length_toList]) fun j u hu => ?_
        obtain ⟨c, t', e1, e2⟩ := hacc.2 j u (by simpa using hu)
        exact ⟨c, t', by simpa using e1, e2⟩
      have hl2 : (x.cps.toList.map fun c => V.str ⟨#[c]⟩).length ≤ sizeLine := by rw [List.length_map, Array.length_toList]; exact hl
      have J := I.laid (t' := tk) (a := s.heap.objs.size) (o := .lst (x.cps.toList.map fun c => V.str ⟨#[c]⟩)) hk (Nat.le_refl _) ⟨hl2, acc.toList, c', hv, hS⟩
      have rs : VRs X.K ρ st.length H (strDs x) (x.cps.toList.map fun c => V.str ⟨#[c]⟩) := by
        unfold strDs
        generalize x.cps.toList = l
        induction l with
        | nil => exact VRs.nil
        | cons y l ih => exact VRs.cons (by rw [VR]) ih
      obtain ⟨x1, sr1, v1⟩ := new_lst sr hn rs
      exact ⟨.ref _, _, J, rfl, po _ _ _ x1 sr1 v1⟩
  · exact hB pins s σ H ρ st _ vs us Q I sr vr r po
end Z

set_option Elab.async false
set_option linter.all false
set_option maxRecDepth 100000
set_option maxHeartbeats 4000000
namespace Z
open PySem PySem.Spec PyProof.Rows L2 TL
open PySem.PyData (strOk)
/-! ### draws of the first kind of law: names -/
theorem rng_at {lo : Int} {n i : Nat} {s : Sto} : jRng lo n i s = some (rngD lo n)[i]? := (it_rng (ks := []) (s0 := s)).2 i s Eff.refl
theorem push2 {ks : List Nat} {s : Sto} {a b : SO} : Eff ks s (s ++ [a, b]) := by
  have := (Eff.push (ks := ks) (s := s) (o := a)).trans (Eff.push (o := b))
  simpa using this
theorem ml_push2 {s : Sto} {xs ys : List D} : mlAt (s ++ [SO.lst xs, SO.lst ys]) s.length = some xs ∧ mlAt (s ++ [SO.lst xs, SO.lst ys]) (s.length + 1) = some ys :=
  ⟨mlAt_some (by rw [List.getElem?_append_right (Nat.le_refl _)]; simp), mlAt_some (by rw [List.getElem?_append_right (by omega)]; simp)⟩
theorem eraseIdx_map {α β : Type} {f : α → β} : ∀ {l : List α} {i : Nat}, (l.map f).eraseIdx i = (l.eraseIdx i).map f
  | [], _ => by simp
  | a :: l, 0 => rfl
  | a :: l, i + 1 => by
    show f a :: (l.map f).eraseIdx i = f a :: (l.eraseIdx i).map f
    rw [eraseIdx_map]
/-- one is taken out of what is left -/
theorem pop_perm {α : Type} {u l : List α} {q : Nat} {x : α} (h : l[q]? = some x) : (u ++ [x] ++ l.eraseIdx q).Perm (u ++ l) := by
  have e := take_split1 h
  rw [List.eraseIdx_eq_take_drop_succ, List.append_assoc]
  refine List.Perm.append_left _ ?_
  conv => rhs; rw [e]
  show (x :: (l.take q ++ l.drop (q + 1))).Perm _
  exact (List.perm_middle).symm
def tNamesA (take of_ : MF) : SM := (sC (sP 3 4 (aC (mN (fListZ fList) (aC (mC (.str "abcdefghijklmnopqrstuvwxyz")) aN)) (aC (mN fLst aN) aN))) (sC (sP 5 6 (aC (mC (.str "")) (aC (m2 dEq (mN take (aC (mV 0) (aC (mC (.int 2)) aN))) (mC (.int 0))) aN))) (sC (sF (iR1 (aC (mN take (aC (mV 0) (aC (mC (.int 8)) aN))) aN)) (gN 2) (sA 5 (m2 dAdd (mV 5) (mN of_ (aC (mV 0) (aC (mN fLst (aC (mC (.str "a")) (aC (mC (.str "z")) (aC (mC (.str "q")) (aC (mC (.str "m")) aN))))) aN)))))) (sC (sF (iR1 (aC (mV 1) aN)) (gN 2) (sC (sA 7 (mBM "list" (mtL lPopAt) (mV 3) (aC (mN take (aC (mV 0) (aC (mN fLen (aC (mV 3) aN)) aN))) aN))) (sE (mBM "list" (mtL lAppend) (mV 4) (aC (mIf (toT (mV 6)) (m2 dAdd (mV 7) (mV 5)) (m2 dAdd (mV 5) (mV 7))) aN))))) (sR (mV 4))))))
def stemS (st : List Nat) : Str := ⟨st.toArray⟩
theorem stem_snoc {st : List Nat} {c : Nat} : stemS st ++ one c = stemS (st ++ [c]) := ext_tl (by rw [tl_append, tl_one]; rfl)
theorem stem_len {st : List Nat} : (stemS st).length = st.length := rfl
def nmOf (ahead : Bool) (st : List Nat) (c : Nat) : Str := if ahead then one c ++ stemS st else stemS st ++ one c
theorem nmOf_inj {b : Bool} {st : List Nat} {c d : Nat} (h : nmOf b st c = nmOf b st d) : c = d := by
  have e := congrArg tl h
  unfold nmOf at e
  have h7 : tl (stemS st) = st := rfl
  cases b <;> simp [tl_append, tl_one, h7] at e <;> exact e
theorem nmOf_name {b : Bool} {st : List Nat} {c : Nat} (h1 : ∀ x ∈ st, isLow x) (h2 : st.length ≤ 7) (hc : isLow c) : IsName (nmOf b st c) := by
  have h7 : tl (stemS st) = st := rfl
  have e : tl (nmOf b st c) = if b then c :: st else st ++ [c] := by cases b <;> simp [nmOf, tl_append, tl_one, h7]
  refine ⟨by rw [e]; cases b <;> simp, by rw [e]; cases b <;> simp <;> omega, fun x hx => ?_⟩
  rw [e] at hx
  cases b <;> simp at hx
  · rcases hx with hx | rfl
    · exact h1 x hx
    · exact hc
  · rcases hx with rfl | hx
    · exact hc
    · exact h1 x hx
theorem abc_ds : strDs abc = ((tl abc).map one).map D.str := by rw [List.map_map]; rfl
theorem abc_nd : (tl abc).Nodup := by rw [abc_tl]; exact (List.pairwise_map).mpr (List.nodup_range.imp fun h e => h (by omega))
theorem abc_low : ∀ c ∈ tl abc, isLow c := by
  rw [abc_tl]
  intro c hc
  obtain ⟨i, hi, rfl⟩ := List.mem_map.mp hc
  have := List.mem_range.mp hi
  unfold isLow
  omega
structure NInv (s : Sto) (k n : Nat) (st : List Nat) (ah : Bool) (i : Nat) (e : Ev) (s2 : Sto) : Prop where
  ef : Eff [k] s s2
  hz : s.length + 2 ≤ s2.length
  ex : ∃ (used left : List Nat) (o2 o7 : Option D), mlAt s2 s.length = some ((left.map one).map D.str) ∧ mlAt s2 (s.length + 1) = some ((used.map (nmOf ah st)).map D.str) ∧ (used ++ left).Perm (tl abc) ∧ used.length = i ∧ e = [some (.ref k), some (.int n), o2, some (.ref s.length), some (.ref (s.length + 1)), some (.str (stemS st)), some (.bl ah), o7]
theorem names_genA {take of_ : MF} (T : TakeOk take) (O : OfOk of_) : NamesOk (fnM 2 8 (tNamesA take of_)) := by
  intro s k n hb hn
  refine wp_of fun P hP => ?_
  have ea : (("abcdefghijklmnopqrstuvwxyz" : String) : Str) = abc := rfl
  unfold tNamesA
  rw [z_fnM (by rfl), ea]
  have hk := hb.lt
  rw [z_sCn]
  simp [-List.map_map]
  rw [z_listZ (by exact abc_le)]
  simp [-List.map_map]
  have ef0 : Eff [k] s (s ++ [SO.lst (strDs abc), SO.lst []]) := push2
  obtain ⟨h3, h4⟩ := ml_push2 (s := s) (xs := strDs abc) (ys := [])
  have hz0 : (s ++ [SO.lst (strDs abc), SO.lst []]).length = s.length + 2 := by simp [-List.map_map]
  generalize s ++ [SO.lst (strDs abc), SO.lst []] = s0 at ef0 h3 h4 hz0 ⊢
  rw [abc_ds] at h3
  have hb0 := ef0.bag k (by simp [-List.map_map]) hb
  show nxt _ _ _ _
  rw [z_nxC]
  simp [-List.map_map]
  refine wp_ne (T hb0 (by omega) (by omega)) ?_
  rintro _ s1 ⟨a, rfl, ha, ef1⟩
  rw [z_eqI]
  have h3 := ef1.ml h3 (by simp [-List.map_map]; omega)
  have h4 := ef1.ml h4 (by simp [-List.map_map]; omega)
  have e1 := ef0.trans ef1
  have hb1 := ef1.bag k (by simp [-List.map_map]) hb0
  have hz1 := ef1.le
  simp [-List.map_map]
  generalize hah : decide (a = 0) = ah
  show nxt _ _ _ _
  rw [z_nxC]
  simp [-List.map_map]
  refine wp_ne (T hb1 (by omega) (by omega)) ?_
  rintro _ s2 ⟨N, rfl, hN, ef2⟩
  have h3 := ef2.ml h3 (by simp [-List.map_map]; omega)
  have h4 := ef2.ml h4 (by simp [-List.map_map]; omega)
  have e2 := e1.trans ef2
  have hz2 := ef2.le
  simp [-List.map_map]
  refine ⟨by omega, ?_⟩
  refine for_j (xs := rngD 0 N) (by rw [rngD_len]) (fun i e s3 => Eff [k] s s3 ∧ s2.length ≤ s3.length ∧ mlAt s3 s.length = some (((tl abc).map one).map D.str) ∧ mlAt s3 (s.length + 1) = some [] ∧ ∃ (st : List Nat) (o2 : Option D), (∀ x ∈ st, isLow x) ∧ st.length = i ∧ e = [some (.ref k), some (.int n), o2, some (.ref s.length), some (.ref (s.length + 1)), some (.str (stemS st)), some (.bl ah), none]) (fun i e s3 _ => rng_at) ?_ ⟨e2, Nat.le_refl _, h3, h4, [], none, by simp [-List.map_map], rfl, rfl⟩ ?_
  · rintro i d e s3 hd ⟨ef3, hz3, h3, h4, st, o2, hst, hlen, rfl⟩
    obtain ⟨hi, rfl⟩ := rngD_get hd
    refine ⟨_, rfl, ?_⟩
    simp [-List.map_map]
    have hb3 := ef3.bag k (by simp [-List.map_map]) hb
    refine ⟨by rw [size_line]; omega, ?_⟩
    refine wp_ne (O (s := s3 ++ [SO.lst [D.str "a", D.str "z", D.str "q", D.str "m"]]) (k := k) (x := .ref s3.length) (Eff.push (ks := [k]) |>.bag k (by simp [-List.map_map]) hb3) lstAt_push (by simp [-List.map_map]; have := hb3.lt; omega) (by simp [-List.map_map]) (by simp [-List.map_map])) ?_
    rintro d s4 ⟨hd, ef4⟩
    obtain ⟨c, hc, rfl⟩ : ∃ c, isLow c ∧ d = .str (one c) := by
      simp [-List.map_map] at hd
      rcases hd with rfl | rfl | rfl | rfl
      · exact ⟨97, by unfold isLow; omega, rfl⟩
      · exact ⟨122, by unfold isLow; omega, rfl⟩
      · exact ⟨113, by unfold isLow; omega, rfl⟩
      · exact ⟨109, by unfold isLow; omega, rfl⟩
    have ef34 := (Eff.push (ks := [k]) (s := s3) (o := SO.lst [D.str "a", D.str "z", D.str "q", D.str "m"])).trans ef4
    have l1 : (one c).length = 1 := rfl
    rw [z_addS, stem_len, l1]
    have : i < 8 := by omega
    refine ⟨by rw [size_line]; omega, ef3.trans ef34, by have := ef34.le; omega, ef34.ml h3 (by simp [-List.map_map]; omega), ef34.ml h4 (by simp [-List.map_map]; omega), st ++ [c], fun x hx => ?_, by simp [-List.map_map, hlen], by rw [stem_snoc]⟩
    rcases List.mem_append.mp hx with hx | hx
    · exact hst x hx
    · rw [List.mem_singleton.mp hx]; exact hc
  · rintro e s3 ⟨ef3, hz3, h3, h4, st, o2, hst, hlen, rfl⟩
    rw [rngD_len] at hlen
    dsimp only
    rw [z_nxC]
    simp [-List.map_map]
    refine ⟨by omega, ?_⟩
    refine for_j (xs := rngD 0 n) (by rw [rngD_len]) (NInv s k n st ah) (fun i e s3 _ => rng_at) ?_ ⟨ef3, by omega, [], tl abc, _, none, h3, h4, by simp [-List.map_map], rfl, rfl⟩ ?_
    · rintro i d e s4 hd ⟨ef4, hz4, used, left, o2, o7, h3, h4, pm, hu, rfl⟩
      obtain ⟨hi, rfl⟩ := rngD_get hd
      have hll : used.length + left.length = 26 := by
        have := pm.length_eq
        rw [List.length_append, abc_tl, List.length_map, List.length_range] at this
        exact this
      refine ⟨_, rfl, ?_⟩
      rw [z_sCn]
      simp [-List.map_map, lstAt_ml h3, isTy_ml h3]
      refine wp_ne (T (ef4.bag k (by simp [-List.map_map]) hb) (by omega) (by omega)) ?_
      rintro _ s5 ⟨q, rfl, hq, ef5⟩
      have h3 := ef5.ml h3 (by simp [-List.map_map]; omega)
      have h4 := ef5.ml h4 (by simp [-List.map_map]; omega)
      have e5 := ef4.trans ef5
      have hz5 := ef5.le
      obtain ⟨c, hc⟩ : ∃ c, left[q]? = some c := ⟨left[q]'(by omega), List.getElem?_eq_getElem _⟩
      rw [z_popN h3 (x := .str (one c)) (by simp [-List.map_map, hc]) (by simp [-List.map_map]; omega)]
      have e6 := e5.set (n := s.length) (o := .lst (((left.map one).map D.str).eraseIdx q)) (Nat.le_refl _)
      have h3' : mlAt (s5.set s.length (.lst (((left.map one).map D.str).eraseIdx q))) s.length = some (((left.eraseIdx q).map one).map D.str) := by
        rw [mlAt_set_self (by omega), eraseIdx_map, eraseIdx_map]
      have h4' : mlAt (s5.set s.length (.lst (((left.map one).map D.str).eraseIdx q))) (s.length + 1) = some ((used.map (nmOf ah st)).map D.str) := by
        rw [mlAt_set_ne (by omega)]; exact h4
      have hz6 : (s5.set s.length (.lst (((left.map one).map D.str).eraseIdx q))).length = s5.length := List.length_set
      generalize s5.set s.length (.lst (((left.map one).map D.str).eraseIdx q)) = s6 at e6 h3' h4' hz6 ⊢
      show nxt _ _ _ _
      rw [z_nxt]
      simp [-List.map_map, isTy_ml h4', h4']
      have l1 : (one c).length = 1 := rfl
      have step : ∀ x, x = nmOf ah st c → used.length < sizeLine ∧ NInv s k n st ah (i + 1) [some (.ref k), some (.int n), some (.int i), some (.ref s.length), some (.ref (s.length + 1)), some (.str (stemS st)), some (.bl ah), some (.str (one c))] (s6.set (s.length + 1) (.lst ((used.map (nmOf ah st)).map D.str ++ [.str x]))) := by
        rintro x rfl
        refine ⟨by rw [size_line]; omega, e6.set (by omega), by rw [List.length_set]; omega, used ++ [c], left.eraseIdx q, _, _, ?_, ?_, (pop_perm hc).trans pm, by simp [-List.map_map, hu], rfl⟩
        · rw [mlAt_set_ne (by omega)]; exact h3'
        · rw [mlAt_set_self (by omega)]; simp [-List.map_map]
      cases ah with
      | true =>
        simp [-List.map_map, stem_len, l1]
        exact ⟨by rw [size_line]; omega, step _ rfl⟩
      | false =>
        simp [-List.map_map, stem_len, l1]
        exact ⟨by rw [size_line]; omega, step _ rfl⟩
    · rintro e s4 ⟨ef4, hz4, used, left, o2, o7, h3, h4, pm, hu, rfl⟩
      rw [rngD_len] at hu
      dsimp only
      rw [z_nxt]
      simp [-List.map_map]
      have nd := pm.nodup_iff.mpr abc_nd
      refine hP _ _ ⟨_, used.map (nmOf ah st), rfl, by omega, h4, by rw [List.length_map, hu], ?_, fun x hx => ?_, ef4⟩
      · exact List.pairwise_map.mpr ((List.nodup_append.mp nd).1.imp fun h e => h (nmOf_inj e))
      · obtain ⟨c, hc, rfl⟩ := List.mem_map.mp hx
        exact nmOf_name hst (by omega) (abc_low c (pm.mem_iff.mp (List.mem_append_left _ hc)))
end Z

set_option Elab.async false
set_option linter.all false
set_option maxRecDepth 100000
set_option maxHeartbeats 4000000
namespace Z
open PySem PySem.Spec PyProof.Rows L2 TL
open PySem.PyData (strOk)
/-! ### draws of the first kind of law: members, bodies ascending -/
/-- only the bag k and the list b are changed -/
structure EffB (k b : Nat) (s t : Sto) : Prop where
  le : s.length ≤ t.length
  eq : ∀ i, i < s.length → i ≠ k → i ≠ b → t[i]? = s[i]?
  bag : Bag s k → Bag t k
theorem EffB.refl {k b : Nat} {s : Sto} : EffB k b s s := ⟨Nat.le_refl _, fun _ _ _ _ => rfl, fun h => h⟩
theorem EffB.trans {k b : Nat} {s t u : Sto} (h : EffB k b s t) (h2 : EffB k b t u) : EffB k b s u :=
  ⟨Nat.le_trans h.le h2.le, fun i hi h3 h4 => (h2.eq i (Nat.lt_of_lt_of_le hi h.le) h3 h4).trans (h.eq i hi h3 h4), fun hb => h2.bag (h.bag hb)⟩
theorem EffB.of {k b : Nat} {s t : Sto} (h : Eff [k] s t) : EffB k b s t := ⟨h.le, fun i hi h1 _ => h.eq i hi (by simpa using h1), h.bag k (by simp)⟩
theorem EffB.get {k b : Nat} {s t : Sto} (h : EffB k b s t) {i : Nat} {o : SO} (e : s[i]? = some o) (h1 : i ≠ k) (h2 : i ≠ b) : t[i]? = some o := by
  rw [h.eq i (List.getElem?_eq_some_iff.mp e).1 h1 h2]
  exact e
theorem EffB.ml {k b : Nat} {s t : Sto} (h : EffB k b s t) {i : Nat} {xs : List D} (e : mlAt s i = some xs) (h1 : i ≠ k) (h2 : i ≠ b) : mlAt t i = some xs := mlAt_some (h.get (mlAt_get e) h1 h2)
theorem EffB.set {k b : Nat} {s t : Sto} (h : EffB k b s t) {n : Nat} {o : SO} (hn : s.length ≤ n) (hk : k < s.length) : EffB k b s (t.set n o) :=
  ⟨by simpa using h.le, fun i hi h1 h2 => by rw [List.getElem?_set_ne (by omega)]; exact h.eq i hi h1 h2, fun hb => by
    obtain ⟨x, y, e⟩ := h.bag hb
    exact ⟨x, y, by rw [List.getElem?_set_ne (by omega)]; exact e⟩⟩
theorem EffB.out {k b : Nat} {s0 s t : Sto} (h0 : Eff [k] s0 s) (h : EffB k b s t) (hb : s0.length ≤ b) : Eff [k] s0 t :=
  ⟨Nat.le_trans h0.le h.le, fun i hi hk => by
    have hk : i ≠ k := by simpa using hk
    exact (h.eq i (Nat.lt_of_lt_of_le hi h0.le) hk (by omega)).trans (h0.eq i hi (by simpa using hk)), fun j hj hb => by
    rw [List.mem_singleton] at hj
    subst hj
    exact h.bag (h0.bag _ (by simp) hb)⟩
def tMemberA (take of_ : MF) : SM := (sC (sP3 5 6 7 (aC (mN (fListZ fList) (aC (mV 1) aN)) (aC (mN fLst aN) (aC (mN fLst aN) aN)))) (sC (sF (iR1 (aC (mN take (aC (mV 0) (aC (m2 dAdd (mN fMin2 (aC (mV 3) (aC (mN fLen (aC (mV 5) aN)) aN))) (mC (.int 1))) aN))) aN)) (gN 4) (sC (sA 8 (mBM "list" (mtL lPopAt) (mV 5) (aC (mN take (aC (mV 0) (aC (mN fLen (aC (mV 5) aN)) aN))) aN))) (sC (sE (mBM "list" (mtL lAppend) (mV 2) (aC (m2 dAdd (m2 dAdd (m2 dIx (mV 2) (m1 dNeg (mC (.int 1)))) (mC (.int 1))) (mN take (aC (mV 0) (aC (mC (.int 3)) aN)))) aN))) (sE (mBM "list" (mtL lAppend) (mV 6) (aC (mN fTup (aC (mV 8) (aC (mN of_ (aC (mV 0) (aC (mN fLst (aC (mC (.str "strong")) (aC (mC (.str "strong")) (aC (mC (.str "weak")) (aC (mC (.str "common")) aN))))) aN))) (aC (m2 dIx (mV 2) (m1 dNeg (mC (.int 1)))) aN)))) aN)))))) (sC (sF (iR1 (aC (mN take (aC (mV 0) (aC (m2 dAdd (mN fMin2 (aC (mC (.int 2)) (aC (mN fLen (aC (mV 5) aN)) aN))) (mC (.int 1))) aN))) aN)) (gN 4) (sE (mBM "list" (mtL lAppend) (mV 7) (aC (mBM "list" (mtL lPopAt) (mV 5) (aC (mN take (aC (mV 0) (aC (mN fLen (aC (mV 5) aN)) aN))) aN)) aN)))) (sR (mN fTup (aC (mN fTuple (aC (mV 6) aN)) (aC (mN fTuple (aC (mV 7) aN)) aN)))))))
structure RowW (names : List Str) (B B' : Int) (gs : List DefA) (ws : List Str) : Prop where
  nd : (gs.map (·.1) ++ ws).Nodup
  sub : ∀ x ∈ gs.map (·.1) ++ ws, x ∈ names
  kd : ∀ p ∈ gs, p.2.1 ∈ kinds
  inc : (gs.map (·.2.2)).Pairwise (· < ·)
  bd : ∀ p ∈ gs, B < p.2.2 ∧ p.2.2 ≤ B'
  le : B ≤ B' ∧ B' ≤ B + 3 * gs.length
  l1 : gs.length ≤ 3
  l2 : ws.length ≤ 2
/-- what has been drawn so far: definitions gs, wants ws, left is left -/
structure MbI (s : Sto) (k n b : Nat) (names : List Str) (B : Int) (pl : Nat) (gs : List DefA) (ws left : List Str) (s2 : Sto) : Prop where
  ef : EffB k b s s2
  hz : s.length + 3 ≤ s2.length
  m5 : mlAt s2 s.length = some (left.map D.str)
  m6 : mlAt s2 (s.length + 1) = some (gs.map defD)
  m7 : mlAt s2 (s.length + 2) = some (ws.map D.str)
  pm : (gs.map (·.1) ++ ws ++ left).Perm names
  kd : ∀ p ∈ gs, p.2.1 ∈ kinds
  inc : (gs.map (·.2.2)).Pairwise (· < ·)
  bx : ∃ B' pre, mlAt s2 b = some (pre ++ [.int B']) ∧ pre.length ≤ pl + gs.length ∧ (∀ p ∈ gs, B < p.2.2 ∧ p.2.2 ≤ B') ∧ B ≤ B' ∧ B' ≤ B + 3 * gs.length
structure MbL1 (s : Sto) (k n b : Nat) (names : List Str) (B : Int) (pl : Nat) (i : Nat) (e : Ev) (s2 : Sto) : Prop where
  ex : ∃ (gs : List DefA) (left : List Str) (o4 o8 : Option D), MbI s k n b names B pl gs [] left s2 ∧ gs.length = i ∧ e = [some (.ref k), some (.ref n), some (.ref b), some (.int 3), o4, some (.ref s.length), some (.ref (s.length + 1)), some (.ref (s.length + 1 + 1)), o8]
structure MbL2 (s : Sto) (k n b : Nat) (names : List Str) (B : Int) (pl : Nat) (gs : List DefA) (o8 : Option D) (i : Nat) (e : Ev) (s2 : Sto) : Prop where
  ex : ∃ (ws left : List Str) (o4 : Option D), MbI s k n b names B pl gs ws left s2 ∧ ws.length = i ∧ e = [some (.ref k), some (.ref n), some (.ref b), some (.int 3), o4, some (.ref s.length), some (.ref (s.length + 1)), some (.ref (s.length + 1 + 1)), o8]
def tMemberB (take of_ : MF) : SM := (sC (sP3 5 6 7 (aC (mN fList (aC (mV 1) aN)) (aC (mN fLst aN) (aC (mN fLst aN) aN)))) (sC (sF (iR1 (aC (mN take (aC (mV 0) (aC (m2 dAdd (mN fMin2 (aC (mV 3) (aC (mN fLen (aC (mV 5) aN)) aN))) (mC (.int 1))) aN))) aN)) (gN 4) (sC (sA 8 (mBM "list" (mtL lPopAt) (mV 5) (aC (mN take (aC (mV 0) (aC (mN fLen (aC (mV 5) aN)) aN))) aN))) (sC (sE (mBM "list" (mtL lAppend) (mV 2) (aC (m2 dAdd (m2 dAdd (m2 dIx (mV 2) (m1 dNeg (mC (.int 1)))) (mC (.int 1))) (mN take (aC (mV 0) (aC (mC (.int 3)) aN)))) aN))) (sE (mBM "list" (mtL lAppend) (mV 6) (aC (mN fTup (aC (mV 8) (aC (mN of_ (aC (mV 0) (aC (mN fLst (aC (mC (.str "strong")) (aC (mC (.str "strong")) (aC (mC (.str "weak")) (aC (mC (.str "common")) aN))))) aN))) (aC (m2 dIx (mV 2) (m1 dNeg (mC (.int 1)))) aN)))) aN)))))) (sC (sF (iR1 (aC (mN take (aC (mV 0) (aC (m2 dAdd (mN fMin2 (aC (mC (.int 2)) (aC (mN fLen (aC (mV 5) aN)) aN))) (mC (.int 1))) aN))) aN)) (gN 4) (sE (mBM "list" (mtL lAppend) (mV 7) (aC (mBM "list" (mtL lPopAt) (mV 5) (aC (mN take (aC (mV 0) (aC (mN fLen (aC (mV 5) aN)) aN))) aN)) aN)))) (sR (mN fTup (aC (mN fTuple (aC (mV 6) aN)) (aC (mN fTuple (aC (mV 7) aN)) aN)))))))
end Z

set_option Elab.async false
set_option linter.all false
set_option maxRecDepth 100000
set_option maxHeartbeats 4000000
namespace Z
open PySem PySem.Spec PyProof.Rows L2 TL
open PySem.PyData (strOk)
/-! ### draws of the first kind of law: stores as rows -/
structure RowB where
  mem : Str
  gs : List DefA
  ws : List Str
abbrev ArcB := Str × List RowB
def rowB (r : RowB) : D := .tup [.str r.mem, .tup (r.gs.map defD), .tup (r.ws.map D.str)]
def arcB (p : ArcB) : D := .tup [.str p.1, .tup (p.2.map rowB)]
def bodR (r : RowB) : List Int := r.gs.map (·.2.2)
def bodP (ps : List ArcB) : List Int := ps.flatMap fun p => p.2.flatMap bodR
def rowsP (ps : List ArcB) : List RowB := ps.flatMap (·.2)
structure RowG1 (names : List Str) (r : RowB) : Prop where
  nm : IsName r.mem
  nd : (r.gs.map (·.1) ++ r.ws).Nodup
  sub : ∀ x ∈ r.gs.map (·.1) ++ r.ws, x ∈ names
  kd : ∀ p ∈ r.gs, p.2.1 ∈ kinds
  l1 : r.gs.length ≤ 3
  l2 : r.ws.length ≤ 2
structure ArcG1 (names : List Str) (p : ArcB) : Prop where
  nm : IsName p.1
  row : ∀ r ∈ p.2, RowG1 names r
  nd : (p.2.map (·.mem)).Nodup
  len : p.2.length ≤ 7
/-- bodies ascending between two -/
structure BodW (lo hi : Int) (bs : List Int) : Prop where
  inc : bs.Pairwise (· < ·)
  bd : ∀ x ∈ bs, lo < x ∧ x ≤ hi
theorem BodW.app {a b c : Int} {xs ys : List Int} (h : BodW a b xs) (h2 : BodW b c ys) (hab : a ≤ b) (hbc : b ≤ c) : BodW a c (xs ++ ys) := by
  refine ⟨List.pairwise_append.mpr ⟨h.inc, h2.inc, fun x hx y hy => ?_⟩, fun x hx => ?_⟩
  · have := h.bd x hx
    have := h2.bd y hy
    omega
  · rcases List.mem_append.mp hx with hx | hx
    · have := h.bd x hx
      omega
    · have := h2.bd x hx
      omega
theorem BodW.nil {a b : Int} : BodW a b [] := ⟨List.Pairwise.nil, fun x h => by simp at h⟩
theorem RowW.body {names : List Str} {B B' : Int} {gs : List DefA} {ws : List Str} (h : RowW names B B' gs ws) : BodW B B' (gs.map (·.2.2)) := ⟨h.inc, fun x hx => by
  obtain ⟨p, hp, rfl⟩ := List.mem_map.mp hx
  exact h.bd p hp⟩
structure PlainW (names : List Str) (ps : List ArcB) : Prop where
  arc : ∀ p ∈ ps, ArcG1 names p
  nd : (ps.map (·.1)).Nodup
  bod : ∃ lo hi : Int, BodW lo hi (bodP ps) ∧ 0 ≤ lo ∧ hi < 100000
def tPlainA (take names member : MF) : SM := (sC (sP 5 6 (aC (mN fLst aN) (aC (mN fLst (aC (mN take (aC (mV 0) (aC (mC (.int 1000)) aN))) aN)) aN))) (sC (sF (iSq (mN names (aC (mV 0) (aC (mV 2) aN)))) (gN 4) (sC (sA 7 (mN fLst aN)) (sC (sF (iSq (mN names (aC (mV 0) (aC (mN take (aC (mV 0) (aC (m2 dAdd (mV 3) (mC (.int 1))) aN))) aN)))) (gN 8) (sC (sG (gT [(gN 9), (gN 10)]) (mN member (aC (mV 0) (aC (mV 1) (aC (mV 6) (aC (mC (.int 3)) aN)))))) (sE (mBM "list" (mtL lAppend) (mV 7) (aC (mN fTup (aC (mV 8) (aC (mV 9) (aC (mV 10) aN)))) aN))))) (sE (mBM "list" (mtL lAppend) (mV 5) (aC (mN fTup (aC (mV 4) (aC (mN fTuple (aC (mV 7) aN)) aN))) aN)))))) (sR (mV 5))))
/-- what member does -/
def MemberOk (F : MF) : Prop := ∀ {s : Sto} {k n b : Nat} {names : List Str} {pre : List D} {B : Int}, Bag s k → mlAt s n = some (names.map D.str) → n ≠ k → b ≠ k → n ≠ b → names.Nodup → names.length ≤ 1000 → mlAt s b = some (pre ++ [.int B]) → pre.length ≤ 100000 →
    (F [.ref k, .ref n, .ref b, .int 3] s).wp fun d s' => EffB k b s s' ∧ ∃ gs ws B' pre', d = .tup [.tup (gs.map defD), .tup (ws.map D.str)] ∧ RowW names B B' gs ws ∧ mlAt s' b = some (pre' ++ [.int B']) ∧ pre'.length ≤ pre.length + 3
/-- the rows of one archive so far: rs; the bodies in b, the names of members in L2 -/
structure RwI (names mems : List Str) (sB s0 : Sto) (k b l7 L2 : Nat) (B0 : Int) (pl i : Nat) (rs : List RowB) (s2 : Sto) : Prop where
  ef : EffB k b sB s2
  hz : s0.length ≤ s2.length
  fr : ∀ i, i < s0.length → i ≠ k → i ≠ b → i ≠ l7 → s2[i]? = s0[i]?
  m7 : mlAt s2 l7 = some (rs.map rowB)
  mL : mlAt s2 L2 = some (mems.map D.str)
  hi : rs.length = i
  hm : rs.map (·.mem) = mems.take i
  row : ∀ r ∈ rs, RowG1 names r
  bx : ∃ B pre, mlAt s2 b = some (pre ++ [.int B]) ∧ pre.length ≤ pl + 3 * i ∧ BodW B0 B (rs.flatMap bodR) ∧ B0 ≤ B ∧ B ≤ B0 + 9 * i
structure RwE (names mems : List Str) (sB s0 : Sto) (k n b l7 L2 : Nat) (B0 : Int) (pl : Nat) (env : Option D → Option D → Option D → Ev) (i : Nat) (e : Ev) (s2 : Sto) : Prop where
  ex : ∃ rs o8 o9 o10, RwI names mems sB s0 k b l7 L2 B0 pl i rs s2 ∧ e = env o8 o9 o10
/-- the archives so far -/
structure PlI (names tags : List Str) (s : Sto) (k n b L : Nat) (B0 : Int) (i : Nat) (ps : List ArcB) (s2 : Sto) : Prop where
  ef : Eff [k] s s2
  hz : b < s2.length
  m5 : mlAt s2 s.length = some (ps.map arcB)
  mL : mlAt s2 L = some (tags.map D.str)
  hi : ps.length = i
  hm : ps.map (·.1) = tags.take i
  arc : ∀ p ∈ ps, ArcG1 names p
  bx : ∃ B pre, mlAt s2 b = some (pre ++ [.int B]) ∧ pre.length ≤ 21 * i ∧ BodW B0 B (bodP ps) ∧ B0 ≤ B ∧ B ≤ B0 + 63 * i
structure PlE (q : Nat) (names tags : List Str) (s : Sto) (k n b L : Nat) (B0 : Int) (m : Int) (i : Nat) (e : Ev) (s2 : Sto) : Prop where
  ex : ∃ ps o4 o7 o8 o9 o10, PlI names tags s k n b L B0 i ps s2 ∧ e = [some (.ref k), some (.ref n), some (.int m), some (.int q), o4, some (.ref s.length), some (.ref b), o7, o8, o9, o10]
end Z

set_option Elab.async false
set_option linter.all false
set_option maxRecDepth 100000
set_option maxHeartbeats 4000000
namespace Z
open PySem PySem.Spec PyProof.Rows L2 TL
open PySem.PyData (strOk)
/-! ### one archive more -/
def tOtherA (take of_ nms member : MF) : SM := (sC (sA 3 (mN fLst (aC (m2 dAdd (mC (.int 200000)) (mN take (aC (mV 0) (aC (mC (.int 1000)) aN)))) aN))) (sC (sA 4 (mN fLst aN)) (sC (sF (iSq (mN nms (aC (mV 0) (aC (mN take (aC (mV 0) (aC (mC (.int 3)) aN))) aN)))) (gN 5) (sC (sG (gT [(gN 7), (gN 8)]) (mN member (aC (mV 0) (aC (mV 1) (aC (mV 3) (aC (mC (.int 3)) aN)))))) (sE (mBM "list" (mtL lAppend) (mV 4) (aC (mN fTup (aC (mV 5) (aC (mV 7) (aC (mV 8) aN)))) aN))))) (sC (sA 6 (mN of_ (aC (mV 0) (aC (m2 dAdd (mL (iSq (mV 2)) (gN 9) tY (m2 dIx (mV 9) (mC (.int 0))) [9]) (mN fLst (aC (m2 dIx (mN nms (aC (mV 0) (aC (mC (.int 1)) aN))) (mC (.int 0))) aN))) aN)))) (sR (mN fTup (aC (mV 6) (aC (mN fTuple (aC (mV 4) aN)) aN))))))))
end Z

set_option Elab.async false
set_option linter.all false
set_option maxRecDepth 100000
set_option maxHeartbeats 4000000
namespace Z
open PySem PySem.Spec PyProof.Rows L2 TL
open PySem.PyData (strOk)
/-! ### stores made of drawn rows -/
def memB (r : RowB) : MemA := ⟨r.mem, sortP r.gs, sortS r.ws⟩
def arcW (p : ArcB) : ArcA := ⟨p.1, p.2.map memB⟩
/-- what a store is made of -/
structure StoW (names : List Str) (ps : List ArcB) : Prop where
  arc : ∀ p ∈ ps, ArcG1 names p
  nd : (ps.map (·.1)).Nodup
  bod : (bodP ps).Nodup
  bd : ∀ x ∈ bodP ps, 0 ≤ x ∧ x ≤ 999999
  len : ps.length ≤ 6
theorem BodW.nodup {a b : Int} {xs : List Int} (h : BodW a b xs) : xs.Nodup := h.inc.imp fun h e => by omega
theorem flat_sub {α β : Type} {f : α → List β} {ps qs : List α} (h : ps.Sublist qs) : (ps.flatMap f).Sublist (qs.flatMap f) := by
  induction h with
  | slnil => exact List.Sublist.refl _
  | cons a _ ih => rw [List.flatMap_cons]; exact ih.trans (List.sublist_append_right _ _)
  | cons_cons a _ ih => rw [List.flatMap_cons, List.flatMap_cons]; exact (List.Sublist.refl _).append ih
theorem flat_perm {α β : Type} {f : α → List β} {ps qs : List α} (h : ps.Perm qs) : (ps.flatMap f).Perm (qs.flatMap f) := by
  induction h with
  | nil => exact List.Perm.refl _
  | cons a _ ih => rw [List.flatMap_cons, List.flatMap_cons]; exact List.Perm.append_left _ ih
  | swap a b l =>
    simp only [List.flatMap_cons, ← List.append_assoc]
    exact List.Perm.append_right _ List.perm_append_comm
  | trans _ _ i1 i2 => exact i1.trans i2
theorem bodP_sub {ps qs : List ArcB} (h : ps.Sublist qs) : (bodP ps).Sublist (bodP qs) := flat_sub h
theorem StoW.sub {names : List Str} {ps qs : List ArcB} (h : StoW names qs) (hs : ps.Sublist qs) : StoW names ps :=
  ⟨fun p hp => h.arc p (hs.subset hp), h.nd.sublist (hs.map _), h.bod.sublist (bodP_sub hs), fun x hx => h.bd x ((bodP_sub hs).subset hx), Nat.le_trans hs.length_le h.len⟩
theorem StoW.perm {names : List Str} {ps qs : List ArcB} (h : StoW names qs) (hp : ps.Perm qs) : StoW names ps := by
  have hb : (bodP ps).Perm (bodP qs) := flat_perm hp
  exact ⟨fun p hq => h.arc p (hp.mem_iff.mp hq), (hp.map _).nodup_iff.mpr h.nd, hb.nodup_iff.mpr h.bod, fun x hx => h.bd x (hb.mem_iff.mp hx), by rw [hp.length_eq]; exact h.len⟩
/-! ### _law_archive, _law_store -/
def ArcOk (F : MF) : Prop := ∀ {s : Sto} {nm : Str} {ds : List D} {ms : List MemA}, GoodA nm ms → AllR (IsMem s) ds ms → (mkD "Archive" F (.str nm :: ds) s).wp fun d s' => IsArc s' d ⟨nm, ms⟩ ∧ Eff [] s s'
def AddOk (F : MF) : Prop := ∀ {s : Sto} {da dm : D} {a : ArcA} {m : MemA}, GoodA a.name (a.mems ++ [m]) → IsArc s da a → IsMem s dm m → (F [da, dm] s).wp fun d s' => IsArc s' d ⟨a.name, a.mems ++ [m]⟩ ∧ Eff [] s s'
def MembOk (F : MF) : Prop := ∀ {s : Sto} {nm : Str} {dd dw : D} {ps : List DefA} {ws : List Str}, GoodM nm ps ws → SeqOf s dd (ps.map defD) → SeqOf s dw (ws.map D.str) → (mkD "Member" F [.str nm, dd, dw] s).wp fun d s' => IsMem s' d ⟨nm, sortP ps, sortS ws⟩ ∧ Eff [] s s'
def OrOk (F : MF) : Prop := ∀ {s : Sto} {d da : D} {as : List ArcA} {a : ArcA}, IsSto s d as → IsArc s da a → GoodS as → IsName a.name → GoodS (orA as a) → (F [d, da] s).wp fun d' s' => IsSto s' d' (orA as a) ∧ Eff [] s s'
theorem rightOk_ref {rs : List Str} {st : Bool} {s : Sto} {n : Nat} {c : Str} {fs : List (Str × D)} (h : s[n]? = some (.ins c fs)) (hc : rs.contains c = true) : rightOk rs st s (.ref n) = true := by
  unfold rightOk
  dsimp only
  rw [h]
  exact hc
theorem IsMem.right {s : Sto} {d : D} {m : MemA} (h : IsMem s d m) : rightOk ["Member"] false s d = true := by
  obtain ⟨n, rfl, h⟩ := h
  exact rightOk_ref h (by decide)
theorem IsArc.right {s : Sto} {d : D} {a : ArcA} (h : IsArc s d a) : rightOk ["Archive"] false s d = true := by
  obtain ⟨n, ds, rfl, h, _⟩ := h
  exact rightOk_ref h (by decide)
def tLArc (initA km : MF) (tb : Tb) : SM := (sC (sA 2 (mN (mkD "Archive" initA) (aC (mV 0) aN))) (sC (sF (iSq (mV 1)) (gT [gN 3, gN 4, gN 5]) (sA 2 (m2 (dOwnL tb ["Member"] false dNo2) (mV 2) (mNk 1 2 (mkD "Member" km) (aC (mV 3) aN) (aC (mV 4) (aC (mV 5) aN)))))) (sR (mV 2))))
structure LAI (s : Sto) (nm : Str) (d1 : D) (rs : List RowB) (j : Nat) (e : Ev) (s2 : Sto) : Prop where
  ef : Eff [] s s2
  ex : ∃ da o3 o4 o5, IsArc s2 da ⟨nm, (rs.take j).map memB⟩ ∧ e = [some (.str nm), some d1, some da, o3, o4, o5]
def LArcOk (F : MF) : Prop := ∀ {s : Sto} {names : List Str} {p : ArcB}, ArcG1 names p → (∀ x ∈ names, IsName x) → (∀ x ∈ p.2.flatMap bodR, 0 ≤ x ∧ x ≤ 999999) → (F [.str p.1, .tup (p.2.map rowB)] s).wp fun d s' => IsArc s' d (arcW p) ∧ Eff [] s s'
def tLSto (initS larc : MF) (tb : Tb) : SM := (sC (sA 1 (mN (mkD "Store" initS) aN)) (sC (sF (iSq (mV 0)) (gT [gN 2, gN 3]) (sA 1 (m2 (dOwnL tb ["Archive"] false dNo2) (mV 1) (mN larc (aC (mV 2) (aC (mV 3) aN)))))) (sR (mV 1))))
structure LSI (s : Sto) (d0 : D) (ps : List ArcB) (j : Nat) (e : Ev) (s2 : Sto) : Prop where
  ef : Eff [] s s2
  ex : ∃ d o2 o3, IsSto s2 d ((ps.take j).map arcW) ∧ e = [some d0, some d, o2, o3]
theorem bodP_mem {ps : List ArcB} {p : ArcB} (h : p ∈ ps) : ∀ x ∈ p.2.flatMap bodR, x ∈ bodP ps := fun x hx => List.mem_flatMap.mpr ⟨p, h, hx⟩
end Z

set_option Elab.async false
set_option linter.all false
set_option maxRecDepth 100000
set_option maxHeartbeats 4000000
namespace Z
open PySem PySem.Spec PyProof.Rows L2 TL
open PySem.PyData (strOk)
instance : DecidableEq MemA := fun a b => if h : a.name = b.name ∧ a.defs = b.defs ∧ a.wants = b.wants then .isTrue (by
  obtain ⟨a1, a2, a3⟩ := a
  obtain ⟨b1, b2, b3⟩ := b
  obtain ⟨h1, h2, h3⟩ := h
  exact (show a1 = b1 from h1) ▸ (show a2 = b2 from h2) ▸ (show a3 = b3 from h3) ▸ rfl) else .isFalse fun e => h (by rw [e]; exact ⟨rfl, rfl, rfl⟩)
instance : DecidableEq ArcA := fun a b => if h : a.name = b.name ∧ a.mems = b.mems then .isTrue (by
  obtain ⟨a1, a2⟩ := a
  obtain ⟨b1, b2⟩ := b
  obtain ⟨h1, h2⟩ := h
  exact (show a1 = b1 from h1) ▸ (show a2 = b2 from h2) ▸ rfl) else .isFalse fun e => h (by rw [e]; exact ⟨rfl, rfl⟩)
/-! ### == of lists of own instances -/
structure EqR {α : Type} [DecidableEq α] (c : Str) (G : MF) (R : Sto → D → α → Prop) (ok : α → Prop) : Prop where
  ins : ∀ {s : Sto} {d : D} {a : α}, R s d a → ∃ n fs, d = .ref n ∧ s[n]? = some (.ins c fs)
  mono : ∀ {s t : Sto} {d : D} {a : α}, R s d a → Eff [] s t → R t d a
  func : ∀ {s : Sto} {d : D} {a b : α}, R s d a → R s d b → a = b
  eq : ∀ {s : Sto} {x y : D} {a b : α}, R s x a → R s y b → ok a → ok b → (G [x, y] s).wp fun d s' => d = .bl (decide (a = b)) ∧ Eff [] s s'
section
variable {α : Type} [DecidableEq α] {cs : List Str} {tb : Tb} {c : Str} {G : MF} {R : Sto → D → α → Prop} {ok : α → Prop}
end
end Z

set_option Elab.async false
set_option linter.all false
set_option maxRecDepth 100000
set_option maxHeartbeats 4000000
namespace Z
open PySem PySem.Spec PyProof.Rows L2 TL
open PySem.PyData (strOk)
/-! ### == of members, archives, stores -/
def okM (m : MemA) : Prop := strOk m.name = true ∧ (∀ p ∈ m.defs, okP p) ∧ ∀ w ∈ m.wants, strOk w = true
def okArc (a : ArcA) : Prop := strOk a.name = true ∧ a.mems.length ≤ 1000 ∧ ∀ m ∈ a.mems, okM m
theorem defD_inj {p q : DefA} (h : defD p = defD q) : p = q := by
  obtain ⟨a, b, c⟩ := p
  obtain ⟨a2, b2, c2⟩ := q
  unfold defD at h
  injection h with h
  simp only [List.cons.injEq, D.str.injEq, D.int.injEq, and_true] at h
  obtain ⟨rfl, rfl, rfl⟩ := h
  rfl
theorem map_inj' {α β : Type} {f : α → β} (hf : ∀ a b, f a = f b → a = b) : ∀ {xs ys : List α}, xs.map f = ys.map f → xs = ys
  | [], [], _ => rfl
  | [], _ :: _, h => by simp at h
  | _ :: _, [], h => by simp at h
  | x :: xs, y :: ys, h => by
    rw [List.map_cons, List.map_cons, List.cons.injEq] at h
    rw [hf x y h.1, map_inj' hf h.2]
theorem AllR.func {α : Type} {R : D → α → Prop} (hf : ∀ d a b, R d a → R d b → a = b) {ds : List D} {as bs : List α} (h : AllR R ds as) (h2 : AllR R ds bs) : as = bs := by
  refine List.ext_getElem (by rw [← h.1, h2.1]) fun i h3 h4 => ?_
  have h5 : i < ds.length := by rw [h.1]; exact h3
  exact hf ds[i] _ _ (h.2 i _ _ (List.getElem?_eq_getElem h5) (List.getElem?_eq_getElem h3)) (h2.2 i _ _ (List.getElem?_eq_getElem h5) (List.getElem?_eq_getElem h4))
theorem IsMem.func {s : Sto} {d : D} {a b : MemA} (h : IsMem s d a) (h2 : IsMem s d b) : a = b := by
  obtain ⟨n, rfl, h⟩ := h
  obtain ⟨m, e, h2⟩ := h2
  cases e
  rw [h] at h2
  obtain ⟨a1, a2, a3⟩ := a
  obtain ⟨b1, b2, b3⟩ := b
  injection h2 with h2
  injection h2 with _ h2
  simp only [List.cons.injEq, Prod.mk.injEq, true_and, and_true, D.str.injEq, D.tup.injEq] at h2
  obtain ⟨rfl, e2, e3⟩ := h2
  rw [map_inj' (fun _ _ => defD_inj) e2, map_inj' (fun _ _ h => by injection h) e3]
theorem IsArc.func {s : Sto} {d : D} {a b : ArcA} (h : IsArc s d a) (h2 : IsArc s d b) : a = b := by
  obtain ⟨n, ds, rfl, h, k⟩ := h
  obtain ⟨m, es, e, h2, k2⟩ := h2
  cases e
  rw [h] at h2
  obtain ⟨a1, a2⟩ := a
  obtain ⟨b1, b2⟩ := b
  injection h2 with h2
  injection h2 with _ h2
  simp only [List.cons.injEq, Prod.mk.injEq, true_and, and_true, D.str.injEq, D.tup.injEq] at h2
  obtain ⟨rfl, rfl⟩ := h2
  have e := AllR.func (R := IsMem s) (fun _ _ _ h h' => IsMem.func h h') k k2
  rw [show a2 = b2 from e]
/-- the parts of a member -/
def partsD (m : MemA) : D := .tup [.str m.name, .tup (m.defs.map defD), .tup (m.wants.map D.str)]
def tParts (cs : List Str) : SM := (sR (mN fTup (aC (mFld cs "name" (mV 0)) (aC (mFld cs "defines" (mV 0)) (aC (mFld cs "wants" (mV 0)) aN)))))
def tEqM (cls : List Str) (tb : Tb) : SM := (sR (mAnd (mIsiC cls "Member" (mV 1)) (m2 dEq (mMeth tb "parts" (mV 0) aN) (mMeth tb "parts" (mV 1) aN))))
def tLen (cs : List Str) (f : Str) : SM := (sR (mN fLen (aC (mFld cs f (mV 0)) aN)))
def tEqA (cls cs : List Str) (tbE tbL : Tb) (itb : Itb) : SM := (sR (mAnd (mIsiC cls "Archive" (mV 1)) (mAnd (m2 dEq (mFld cs "name" (mV 0)) (mFld cs "name" (mV 1))) (m2 (dEqO cls tbE false) (mN (fListO tbL itb fList) (aC (mV 0) aN)) (mN (fListO tbL itb fList) (aC (mV 1) aN))))))
def tEqS (cls : List Str) (tbE tbL : Tb) (itb : Itb) : SM := (sR (mAnd (mIsiC cls "Store" (mV 1)) (m2 (dEqO cls tbE false) (mN (fListO tbL itb fList) (aC (mV 0) aN)) (mN (fListO tbL itb fList) (aC (mV 1) aN)))))
def EqSOk (F : MF) : Prop := ∀ {s : Sto} {x y : D} {as bs : List ArcA}, IsSto s x as → IsSto s y bs → as.length ≤ 1000 → bs.length ≤ 1000 → (∀ a ∈ as, okArc a) → (∀ a ∈ bs, okArc a) → (F [x, y] s).wp fun d s' => d = .bl (decide (as = bs)) ∧ Eff [] s s'
end Z

set_option Elab.async false
set_option linter.all false
set_option maxRecDepth 100000
set_option maxHeartbeats 4000000
namespace Z
open PySem PySem.Spec PyProof.Rows L2 TL
open PySem.PyData (strOk)
/-! ### the names in a store, each once, ascending -/
def nmsM (m : MemA) : List Str := m.defs.map (·.1) ++ m.wants
def nmsA (a : ArcA) : List Str := a.mems.flatMap nmsM
def nmsS (as : List ArcA) : List Str := as.flatMap nmsA
structure NI (s : Sto) (seen : List Str) (s2 : Sto) : Prop where
  ef : Eff [] s s2
  hz : s.length < s2.length
  st : setAt s2 s.length = some ((onceS seen).map D.str)
theorem NI.eff {s t u : Sto} {seen : List Str} (h : NI s seen t) (e : Eff [] t u) : NI s seen u := ⟨h.ef.trans e, Nat.lt_of_lt_of_le h.hz e.le, e.st h.st (by simp)⟩
def tNamesIn (itb : Itb) (csM : List Str) : SM := (sC (sA 1 mSet0) (sC (sF (iSq (mV 0)) (gN 2) (sF (iOwn itb (mV 2)) (gN 3) (sF (iSq (m2 dAdd (mL (iSq (mFld csM "defines" (mV 3))) (gN 5) tY (m2 dIx (mV 5) (mC (.int 0))) [5]) (mN fList (aC (mFld csM "wants" (mV 3)) aN)))) (gN 4) (sE (mSAdd (mV 1) (aC (mV 4) aN)))))) (sR (mN (fSortZ fSortA) (aC (mV 1) aN)))))
end Z

set_option Elab.async false
set_option linter.all false
set_option maxRecDepth 100000
set_option maxHeartbeats 4000000
namespace Z
open PySem PySem.Spec PyProof.Rows L2 TL
open PySem.PyData (strOk)
def tGetS (tb : Tb) (cs csI : List Str) : SM := (sC (sI (toB (m2 (dInO true tb dNo2) (mV 1) (mV 0))) sNo sN) (sR (m2 dIx (mL (iSq (mFld cs "archives" (mV 0))) (gN 2) (toB (m2 dEq (mFld csI "name" (mV 2)) (mV 1))) (mV 2) [2]) (mC (.int 0)))))
end Z

set_option Elab.async false
set_option linter.all false
set_option maxRecDepth 100000
set_option maxHeartbeats 4000000
namespace Z
open PySem PySem.Spec PyProof.Rows L2 TL
open PySem.PyData (strOk)
/-! ### what a drawn store is good for -/
def nmsR (r : RowB) : List Str := r.gs.map (·.1) ++ r.ws
def nmsB (ps : List ArcB) : List Str := ps.flatMap fun p => p.2.flatMap nmsR
theorem sum_le {α β : Type} {f : α → List β} {b : Nat} : ∀ {l : List α}, (∀ a ∈ l, (f a).length ≤ b) → (l.flatMap f).length ≤ b * l.length
  | [], _ => by simp
  | a :: l, h => by
    have h1 := h a List.mem_cons_self
    have h2 := sum_le (f := f) fun x hx => h x (List.mem_cons_of_mem a hx)
    rw [List.flatMap_cons, List.length_append, List.length_cons, Nat.mul_add]
    omega
theorem RowG1.nl {names : List Str} {r : RowB} (h : RowG1 names r) : (nmsR r).length ≤ 5 := by
  unfold nmsR
  rw [List.length_append, List.length_map]
  have := h.l1
  have := h.l2
  omega
theorem ArcG1.nl {names : List Str} {p : ArcB} (h : ArcG1 names p) : (p.2.flatMap nmsR).length ≤ 35 := by
  have := sum_le (f := nmsR) (b := 5) (l := p.2) fun r hr => (h.row r hr).nl
  have := h.len
  omega
theorem StoW.nl {names : List Str} {ps : List ArcB} (h : StoW names ps) : (nmsB ps).length ≤ 210 := by
  have := sum_le (f := fun p : ArcB => p.2.flatMap nmsR) (b := 35) (l := ps) fun p hp => (h.arc p hp).nl
  have := h.len
  unfold nmsB
  omega
theorem StoW.nmsB {names : List Str} {ps : List ArcB} (h : StoW names ps) : ∀ x ∈ nmsB ps, x ∈ names := fun x hx => by
  obtain ⟨p, hp, hx⟩ := List.mem_flatMap.mp hx
  obtain ⟨r, hr, hx⟩ := List.mem_flatMap.mp hx
  exact ((h.arc p hp).row r hr).sub x hx
/-! plain rows -/
end Z

set_option Elab.async false
set_option linter.all false
set_option maxRecDepth 100000
set_option maxHeartbeats 4000000
namespace Z
open PySem PySem.Spec PyProof.Rows L2 TL
open PySem.PyData (strOk)
/-! ### lists of new instances -/
def Keep (s t : Sto) : Prop := ∀ (i : Nat) (c : Str) (fs : List (Str × D)), s[i]? = some (.ins c fs) → t[i]? = some (.ins c fs)
theorem Keep.of {s t : Sto} (h : Eff [] s t) : Keep s t := fun i c fs e => h.get e (by simp)
theorem Keep.trans {s t u : Sto} (h : Keep s t) (h2 : Keep t u) : Keep s u := fun i c fs e => h2 i c fs (h i c fs e)
theorem Keep.set {s : Sto} {n : Nat} {o o' : SO} (h : s[n]? = some o) (ho : ∀ c fs, o ≠ .ins c fs) : Keep s (s.set n o') := fun i c fs hi => by
  have : n ≠ i := by
    rintro rfl
    rw [h] at hi
    exact ho c fs (Option.some.inj hi)
  rw [List.getElem?_set_ne this]
  exact hi
theorem IsMem.keep {s t : Sto} {d : D} {m : MemA} (h : IsMem s d m) (k : Keep s t) : IsMem t d m := by
  obtain ⟨n, h1, h2⟩ := h
  exact ⟨n, h1, k _ _ _ h2⟩
theorem IsArc.keep {s t : Sto} {d : D} {m : ArcA} (h : IsArc s d m) (k : Keep s t) : IsArc t d m := by
  obtain ⟨n, ds, h1, h2, h3⟩ := h
  exact ⟨n, ds, h1, k _ _ _ h2, h3.mono fun _ _ h => h.keep k⟩
theorem IsSto.keep {s t : Sto} {d : D} {m : List ArcA} (h : IsSto s d m) (k : Keep s t) : IsSto t d m := by
  obtain ⟨n, ds, h1, h2, h3⟩ := h
  exact ⟨n, ds, h1, k _ _ _ h2, h3.mono fun _ _ h => h.keep k⟩
end Z

set_option Elab.async false
set_option linter.all false
set_option maxRecDepth 100000
set_option maxHeartbeats 4000000
namespace Z
open PySem PySem.Spec PyProof.Rows L2 TL
open PySem.PyData (strOk)
/-! ### repr of a list of names -/
mutual
def onlyT : D → Bool
  | .str _ => true
  | .tup xs => onlyTs xs
  | _ => false
def onlyTs : List D → Bool
  | [] => true
  | x :: xs => onlyT x && onlyTs xs
end
mutual
theorem only_show : ∀ d : D, onlyT d = true → (enc d).showable = true ∧ (enc d).intsShort 13 = true
  | .str x, _ => by simp [enc, PyData.showable, PyData.intsShort]
  | .tup xs, h => by
    rw [onlyT] at h
    have := onlys_show xs h
    rw [enc, PyData.showable, PyData.intsShort]
    exact this
  | .non, h => absurd h (by simp [onlyT])
  | .bl _, h => absurd h (by simp [onlyT])
  | .int _, h => absurd h (by simp [onlyT])
  | .ref _, h => absurd h (by simp [onlyT])
theorem onlys_show : ∀ xs : List D, onlyTs xs = true → PyData.showableAll (encs xs) = true ∧ PyData.intsShortAll 13 (encs xs) = true
  | [], _ => by simp [encs, PyData.showableAll, PyData.intsShortAll]
  | x :: xs, h => by
    rw [onlyTs, Bool.and_eq_true] at h
    obtain ⟨h1, h2⟩ := only_show x h.1
    obtain ⟨h3, h4⟩ := onlys_show xs h.2
    rw [encs, PyData.showableAll, PyData.intsShortAll, h1, h2, h3, h4]
    exact ⟨rfl, rfl⟩
end
theorem w_str (x : Str) : (enc (.str x)).weight = x.length := by rw [enc, PyData.weight]; rfl
def reprS (xs : List Str) : Str := (PyData.list (encs (xs.map D.str))).shown
end Z

set_option Elab.async false
set_option linter.all false
set_option maxRecDepth 100000
set_option maxHeartbeats 4000000
namespace Z
open PySem PySem.Spec PyProof.Rows L2 TL
open PySem.PyData (strOk)
/-! ### what _law_told tells: lists in tuples in a list -/
def toldM (m : MemA) : PyData := .tuple [.str m.name, .list (encs (m.defs.map defD)), .list (encs (m.wants.map D.str))]
def toldA (a : ArcA) : PyData := .tuple [.str a.name, .list (a.mems.map toldM)]
def toldS (as : List ArcA) : PyData := .list (as.map toldA)
/-! what stands for it in the store -/
def TM (L : Nat) (s : Sto) (d : D) (m : MemA) : Prop := ∃ a b, L < a ∧ L < b ∧ d = .tup [.str m.name, .ref a, .ref b] ∧ mlAt s a = some (m.defs.map defD) ∧ mlAt s b = some (m.wants.map D.str)
def TA (n : Nat) (s : Sto) (d : D) (a : ArcA) : Prop := ∃ L ds, n < L ∧ d = .tup [.str a.name, .ref L] ∧ mlAt s L = some ds ∧ AllR (TM L s) ds a.mems
/-- what lies behind n stays -/
def Stay (n : Nat) (s t : Sto) : Prop := s.length ≤ t.length ∧ ∀ i, i < s.length → n < i → t[i]? = s[i]?
theorem Stay.ml {n : Nat} {s t : Sto} (h : Stay n s t) {i : Nat} {xs : List D} (hi : n < i) (hx : mlAt s i = some xs) : mlAt t i = some xs :=
  mlAt_some (by rw [h.2 i (lstAt_lt (lstAt_ml hx)) hi]; exact mlAt_get hx)
theorem Stay.of {n : Nat} {s t : Sto} (h : Eff [] s t) : Stay n s t := ⟨h.le, fun i hi _ => h.eq i hi (by simp)⟩
theorem Stay.trans {n : Nat} {s t u : Sto} (h : Stay n s t) (h2 : Stay n t u) : Stay n s u := ⟨Nat.le_trans h.1 h2.1, fun i hi hn => by rw [h2.2 i (Nat.lt_of_lt_of_le hi h.1) hn, h.2 i hi hn]⟩
theorem Stay.set {n : Nat} {s : Sto} {o : SO} : Stay n s (s.set n o) := ⟨by simp, fun i _ hn => List.getElem?_set_ne (by omega)⟩
theorem Stay.le {n m : Nat} {s t : Sto} (h : Stay n s t) (hm : n ≤ m) : Stay m s t := ⟨h.1, fun i hi hn => h.2 i hi (by omega)⟩
theorem TM.stay {L : Nat} {s t : Sto} {d : D} {m : MemA} (h : TM L s d m) (e : Stay L s t) : TM L t d m := by
  obtain ⟨a, b, h1, h2, rfl, h3, h4⟩ := h
  exact ⟨a, b, h1, h2, rfl, e.ml h1 h3, e.ml h2 h4⟩
theorem TA.stay {n : Nat} {s t : Sto} {d : D} {a : ArcA} (h : TA n s d a) (e : Stay n s t) : TA n t d a := by
  obtain ⟨L, ds, h1, rfl, h2, h3⟩ := h
  exact ⟨L, ds, h1, rfl, e.ml h1 h2, h3.mono fun _ _ h => h.stay (e.le (Nat.le_of_lt h1))⟩
theorem AllR.snoc {α : Type} {R : D → α → Prop} {ds : List D} {as : List α} {d : D} {a : α} (h : AllR R ds as) (hd : R d a) : AllR R (ds ++ [d]) (as ++ [a]) :=
  ⟨by rw [List.length_append, List.length_append, h.1]; rfl, fun q e b hq hb => by
    have hl := h.1
    by_cases hqi : q < ds.length
    · rw [List.getElem?_append_left hqi] at hq
      rw [List.getElem?_append_left (by omega)] at hb
      exact h.2 q e b hq hb
    · have : q = ds.length := by
        have := (List.getElem?_eq_some_iff.mp hq).1
        rw [List.length_append, List.length_singleton] at this
        omega
      subst this
      rw [List.getElem?_append_right (Nat.le_refl _), Nat.sub_self] at hq
      rw [List.getElem?_append_right (by omega), ← hl, Nat.sub_self] at hb
      cases hq
      cases hb
      exact hd⟩
def tTold : SM := (sC (sA 1 (mN fLst aN)) (sC (sF (iSq (mV 0)) (gT [(gN 2), (gN 3)]) (sE (mBM "list" (mtL lAppend) (mV 1) (aC (mN fTup (aC (mV 2) (aC (mL (iSq (mV 3)) (gN 4) tY (mN fTup (aC (m2 dIx (mV 4) (mC (.int 0))) (aC (mN fSortA (aC (m2 dIx (mV 4) (mC (.int 1))) aN)) (aC (mN fSortA (aC (m2 dIx (mV 4) (mC (.int 2))) aN)) aN)))) [4]) aN))) aN)))) (sR (mV 1))))
structure TI (s : Sto) (as : List ArcA) (s2 : Sto) : Prop where
  ef : Eff [] s s2
  hz : s.length < s2.length
  st : ∃ ds, mlAt s2 s.length = some ds ∧ AllR (TA s.length s2) ds as
end Z

set_option Elab.async false
set_option linter.all false
set_option maxRecDepth 100000
set_option maxHeartbeats 4000000
namespace Z
open PySem PySem.Spec PyProof.Rows L2 TL
open PySem.PyData (strOk)
/-! ### a store is not in a list of others -/
/-! ### two bools -/
/-! ### the rows after / -/
def putB (ps : List ArcB) (p : ArcB) : List ArcB := if p.1 ∈ ps.map (·.1) then ps.map (fun o => if o.1 = p.1 then p else o) else ps ++ [p]
theorem putB_names {ps : List ArcB} {p : ArcB} : (putB ps p).map (·.1) = if p.1 ∈ ps.map (·.1) then ps.map (·.1) else ps.map (·.1) ++ [p.1] := by
  unfold putB
  by_cases e : p.1 ∈ ps.map (·.1)
  · rw [if_pos e, if_pos e, List.map_map]
    refine List.map_congr_left fun o _ => ?_
    show (if o.1 = p.1 then p else o).1 = o.1
    by_cases q : o.1 = p.1
    · rw [if_pos q, q]
    · rw [if_neg q]
  · rw [if_neg e, if_neg e, List.map_append]
    rfl
theorem putB_mem {ps : List ArcB} {p q : ArcB} (h : q ∈ putB ps p) : q = p ∨ q ∈ ps := by
  unfold putB at h
  split at h
  · obtain ⟨o, ho, rfl⟩ := List.mem_map.mp h
    split
    · exact .inl rfl
    · exact .inr ho
  · rcases List.mem_append.mp h with h | h
    · exact .inr h
    · exact .inl (List.mem_singleton.mp h)
/-- the bodies that are left, and those of the new one -/
theorem putB_bod : ∀ {ps : List ArcB} {p : ArcB}, (ps.map (·.1)).Nodup → (bodP ps ++ p.2.flatMap bodR).Nodup → (bodP (putB ps p)).Nodup
  | ps, p, nd, h => by
    by_cases e : p.1 ∈ ps.map (·.1)
    · have e2 : putB ps p = ps.map (fun o => if o.1 = p.1 then p else o) := by unfold putB; rw [if_pos e]
      rw [e2]
      clear e2
      induction ps with
      | nil => simp at e
      | cons o ps ih =>
        rw [List.map_cons, List.nodup_cons] at nd
        by_cases q : o.1 = p.1
        · have rest : ps.map (fun o => if o.1 = p.1 then p else o) = ps := by
            conv => rhs; rw [← List.map_id ps]
            refine List.map_congr_left fun x hx => ?_
            rw [if_neg fun h => nd.1 (by rw [q, ← h]; exact List.mem_map_of_mem hx)]
            rfl
          rw [List.map_cons, if_pos q, rest]
          unfold bodP at h ⊢
          rw [List.flatMap_cons] at h ⊢
          rw [List.append_assoc] at h
          have h2 := (List.nodup_append.mp h).2.1
          exact (List.perm_append_comm.nodup_iff).mp h2
        · have e3 : p.1 ∈ ps.map (·.1) := by
            rw [List.map_cons] at e
            rcases List.mem_cons.mp e with h | h
            · exact absurd h.symm q
            · exact h
          unfold bodP at h
          rw [List.flatMap_cons, List.append_assoc] at h
          obtain ⟨h1, h2, h3⟩ := List.nodup_append.mp h
          have h4 := ih nd.2 h2 e3
          rw [List.map_cons, if_neg q]
          unfold bodP at h4 ⊢
          rw [List.flatMap_cons]
          refine List.nodup_append.mpr ⟨h1, h4, fun x hx y hy exy => ?_⟩
          subst exy
          obtain ⟨z, hz, hxz⟩ := List.mem_flatMap.mp hy
          obtain ⟨w, hw, rfl⟩ := List.mem_map.mp hz
          refine h3 x hx x ?_ rfl
          by_cases c : w.1 = p.1
          · rw [if_pos c] at hxz
            exact List.mem_append_right _ hxz
          · rw [if_neg c] at hxz
            exact List.mem_append_left _ (List.mem_flatMap.mpr ⟨w, hw, hxz⟩)
    · unfold putB
      rw [if_neg e]
      unfold bodP at h ⊢
      rw [List.flatMap_append]
      simpa using h
theorem StoW.put {names : List Str} {ps : List ArcB} {p : ArcB} (h : PlainW names ps) (hl : ps.length ≤ 5) (hp : ArcG1 names p) (hb : BodW 199999 300000 (p.2.flatMap bodR)) : StoW names (putB ps p) := by
  obtain ⟨lo, hi, hw, h0, h1⟩ := h.bod
  have nd : (bodP ps ++ p.2.flatMap bodR).Nodup := List.nodup_append.mpr ⟨hw.nodup, hb.nodup, fun x hx y hy e => by
    have := hw.bd x hx
    have := hb.bd y hy
    omega⟩
  refine ⟨fun q hq => ?_, ?_, putB_bod h.nd nd, fun x hx => ?_, ?_⟩
  · rcases putB_mem hq with rfl | hq
    · exact hp
    · exact h.arc q hq
  · rw [putB_names]
    split
    · exact h.nd
    · rename_i e
      exact List.nodup_append.mpr ⟨h.nd, by simp, fun x hx y hy exy => e (by rw [List.mem_singleton.mp hy] at exy; rw [← exy]; exact hx)⟩
  · obtain ⟨q, hq, hx2⟩ := List.mem_flatMap.mp hx
    rcases putB_mem hq with e | hq
    · subst e
      have := hb.bd x hx2
      omega
    · have := hw.bd x (bodP_mem hq x hx2)
      omega
  · have := congrArg List.length (putB_names (ps := ps) (p := p))
    rw [List.length_map] at this
    rw [this]
    split <;> simp <;> omega
end Z

set_option Elab.async false
set_option linter.all false
set_option maxRecDepth 100000
set_option maxHeartbeats 4000000
namespace Z
open PySem PySem.Spec PyProof.Rows L2
variable [Row]
/-! ### own errors over any built-in class, one field -/
structure XBase where
  B : String
  newId : String
  initId : String
  bm : List Value
  F : ExcBaseFacts B newId initId bm
  SF : StoreFacts B bm "object.__setattr__" "object"
def xValue : XBase := ⟨_, _, _, _, F.excBase_ValueError, F.store_ValueError⟩
def xLookup : XBase := ⟨_, _, _, _, F.excBase_LookupError, F.store_LookupError⟩
def xType : XBase := ⟨_, _, _, _, F.excBase_TypeError, F.store_TypeError⟩
def xOverflow : XBase := ⟨_, _, _, _, F.excBase_OverflowError, F.store_OverflowError⟩
def xRuntime : XBase := ⟨_, _, _, _, F.excBase_RuntimeError, F.store_RuntimeError⟩
/-- what the written part says of the class at C, its __init__ at g, its field f -/
structure XCl (b : XBase) (K : PySem.W.Frag) (C g : Addr) (f : Str) : Prop where
  ini : PySem.W.excInitIn K C b.bm b.newId = true
  ovr : PySem.W.excOver K C b.bm = true
  dct : PySem.W.hasDictIn K C = true
  tak : PySem.W.takerIn K C f = some none
  sa : PySem.W.findIn K (.ref C) "__setattr__" = some (some (.builtin "object.__setattr__"))
  ii : PySem.W.findIn K (.ref C) "__init__" = some (some (.ref g))
  ti : PySem.W.typeIn K (.ref g) = some (.type "function")
  sub : PySem.W.subIn K (.ref C) (.type "BaseException") = some true
  ty : PySem.W.typeIn K (.ref C) = some (.type "type")
  kp : PySem.W.keepIn K (.ref C) = true
def xclB (b : XBase) (K : PySem.W.Frag) (C g : Addr) (f : Str) : Bool :=
  PySem.W.excInitIn K C b.bm b.newId && (PySem.W.excOver K C b.bm && (PySem.W.hasDictIn K C && (decide (PySem.W.takerIn K C f = some none) && (decide (PySem.W.findIn K (.ref C) "__setattr__" = some (some (.builtin "object.__setattr__"))) &&
    (decide (PySem.W.findIn K (.ref C) "__init__" = some (some (.ref g))) && (decide (PySem.W.typeIn K (.ref g) = some (.type "function")) && (decide (PySem.W.subIn K (.ref C) (.type "BaseException") = some true) && (decide (PySem.W.typeIn K (.ref C) = some (.type "type")) && PySem.W.keepIn K (.ref C)))))))))
section
variable {b : XBase} {K : PySem.W.Frag} {C g : Addr} {f : Str}
/-- what its __init__ does -/
def xSp (C : Addr) (f : Str) : Sp := fun vs H Q _ => ∃ a v, vs = [.ref a, v] ∧ H a = some (exo a C none) ∧ ∀ n, H n = none → n ≠ a → Q .non (upd (upd H n (exd n [(f, v)])) a (exo a C (some n)))
end
end Z

set_option Elab.async false
set_option linter.all false
set_option maxRecDepth 100000
set_option maxHeartbeats 4000000
namespace Z
open PySem PySem.Spec PyProof.Rows L2
variable [Row]
/-! ### try, several clauses with a name -/
abbrev ClA := Value × (Addr → Value → Option Addr → TS)
/-- the name of the clauses goes when the suite ends -/
def offE (i : Nat) (D : Ends) : Ends := { nx := fun σ H => D.nx (σ.set i none) H, rt := D.rt, bk := fun σ H => D.bk (σ.set i none) H, ct := fun σ H => D.ct (σ.set i none) H }
def wAsM (K : PySem.W.Frag) (i : Nat) (Wo : WX) (D : Ends) : List ClA → WX
  | [] => Wo
  | q :: r => fun cls d σ H => ∃ hit, PySem.W.exmOne K cls q.1 = some hit ∧ (hit = true → ∀ a, H a = none → q.2 a cls d (offE i D) (σ.set i (some (.ref a))) H) ∧ (hit = false → wAsM K i Wo D r cls d σ H)
inductive HdA (X : Cx) (n : Str) : List ExceptHandler → List ClA → Prop
  | nil : HdA X n [] []
  | cons {x : Str} {q : ClA} {st : Stmt} {sts : List Stmt} {p1 p2 : Pos} {hds : List ExceptHandler} {r : List ClA} (hc : Names X x q.1)
      (su : ∀ (a : Addr) (oe : Obj) (cls : Value) (d : Option Addr) (pn : List (Addr × Obj)), Zc cls d oe → (∃ vs, oe.data = .fields vs) → PSs (X.suite a ((a, oe) :: pn)) (st :: sts) (q.2 a cls d)) (t : HdA X n hds r) :
      HdA X n (.ExceptHandler (some (.Name x p1)) (some n) (st :: sts) p2 :: hds) (q :: r)
section
variable {X : Cx} {n : Str} {i : Nat}
/-- the exception at a in hand over the ground B; sI without it -/
structure Hand (X : Cx) (pins : List (Addr × Obj)) (σ : L2.St) (H : Hp) (sI : Shared) (B : Heap) (a : Addr) (cls : Value) (d : Option Addr) (h : Heap) (s : Shared) : Prop where
  inv : Inv X pins σ H sI
  nb : ∀ b o, sI.heap.get? b = some o → b ∉ frs X.stack → B.get? b = some o
  up : sI.heap.UpToSlots h
  os : s.os = sI.os
  ag : AllBare s.gens
  na : H a = none
  fl : HandSPX.FlyingZ B (X.env :: X.outer) a (Zc cls d) h
variable {pins : List (Addr × Obj)} {σ : L2.St} {H : Hp} {sI s : Shared} {B h : Heap} {a : Addr} {cls : Value} {d : Option Addr}
theorem Hand.state (q : Hand X pins σ H sI B a cls d h s) : Inv X pins σ H { s with heap := h } := q.inv.landed q.nb q.fl.1 q.up q.os q.ag
theorem Hand.next {h2 : Heap} (q : Hand X pins σ H sI B a cls d h s) (fl : HandSPX.FlyingZ B (X.env :: X.outer) a (Zc cls d) h2) (up : h.UpToSlots h2) : Hand X pins σ H sI B a cls d h2 s :=
  ⟨q.inv, q.nb, q.up.trans up, q.os, q.ag, q.na, fl⟩
/-- the suite's state -/
theorem Hand.suite (hf : X.env.frame = some X.env.locals) (q : Hand X pins σ H sI B a cls d h s) : ∃ oe, h.get? a = some oe ∧ Zc cls d oe ∧ (∃ vs, oe.data = .fields vs) ∧ Inv (X.suite a ((a, oe) :: (X.pn ++ pins))) [] σ H { s with heap := h } := by
  obtain ⟨oe, vs, g1, g2, g3⟩ := q.fl.there
  have out : a ∉ frs (X.env :: X.outer) := fun hm => by
    obtain ⟨_, o, e, nf⟩ := q.fl.2.2.1.mem hm
    rw [g1] at e
    cases e
    exact nf _ g3
  refine ⟨oe, g1, g2, ⟨vs, g3⟩, q.state.suite g1 g3 q.na (fun z => out ?_) fun hm => out ?_⟩
  · exact List.mem_filterMap.mpr ⟨X.env, List.mem_cons_self, by rw [hf, z]⟩
  · obtain ⟨e, he, z⟩ := List.mem_filterMap.mp hm
    exact List.mem_filterMap.mpr ⟨e, List.mem_cons_of_mem _ he, z⟩
/-- the clauses, one after the other -/
theorem Hand.clauses (hs : X.stack = X.env :: X.outer) (hf : X.env.frame = some X.env.locals) (hN : X.N.Nodup) (hi : X.N[i]? = some n) (hln : X.env.kindOf n = some .local) {Wo : WX} (tk : Takes X Wo) {D : Ends} {hds : List ExceptHandler} {l : List ClA} (hk : HdA X n hds l) :
    ∀ {h : Heap}, Hand X pins σ H sI B a cls d h s → wAsM X.K i Wo D l cls d σ H → wpAny (model X.prog X.w) X.A (handleBy (.ref a) X.env hds) (SP X pins D) X.xe { s with heap := h } := by
  induction hk with
  | nil =>
    intro h q w
    obtain ⟨-, -, -, oe, vs, T, oT, ts, g1, -, g3, g4, -⟩ := id q.fl
    refine wpAny_handleBy_nil ?_
    unfold PySem.passOn
    refine wpAny_bind (wpAny_field g1 g3 g4 ?_)
    rw [if_neg (show ¬ ((Value.ref T == Value.none) = true) from by simp)]
    have on : wpAny (model X.prog X.w) X.A (setFlight (.ref a) X.env.frame) (fun _ s4 => wpAny (model X.prog X.w) X.A (throw (.ref a) : Sem Flow) (SP X pins D) X.xe s4) X.xe { s with heap := h } := by
      rw [hf]
      exact HandSPX.setFlight_upZ q.fl fun h4 hh up4 => wpAny_throw (tk _ _ ⟨a, B, sI, pins, σ, H, cls, d, rfl, q.inv, q.nb, q.up.trans up4, .inr (.inr (by rw [hs]; exact hh)), q.na, q.os, q.ag, w⟩)
    first
      | exact wpAny_bind (wpAny_pure (wpAny_bind on))
      | exact wpAny_bind on
  | @cons x c st sts p1 p2 hds' r hc su _ ih =>
    intro h q w
    obtain ⟨hit, hm, yes, no⟩ := w
    obtain ⟨oe, g1, g2, g3, S⟩ := q.suite hf
    have lt : PySem.W.Looks (model X.prog X.w) h (typeOf (.ref a)) cls := fun A Q E s k z => wpAny_typeOf_ref (k _ _ g1) (by rw [g2.1]; exact z)
    have lm := PySem.W.exm_one (M := model X.prog X.w) q.state.kIn lt hm
    refine wpAny_handleBy_cons (codeAny_handlers_test ?_) (by intro z; cases z)
    have named : ∀ {Q : Value → Shared → Prop} {E : Value → Shared → Prop}, Q c.1 { s with heap := h } → wpAny (model X.prog X.w) (X.A.mark (some (.ref a))) (eval (.Name x p1) X.env) Q E { s with heap := h } := fun {Q E} z => by
      obtain ⟨hg, hdb, m1 | ⟨m1, m2, m3⟩⟩ := hc
      · exact ld_glob (X := X.suite a ((a, oe) :: (X.pn ++ pins))) S hg m1 z hdb
      · exact ld_blt (X := X.suite a ((a, oe) :: (X.pn ++ pins))) S hg m1 m2 z m3 hdb
    refine named (lm.here ?_)
    cases hit with
    | false => exact ih q (no rfl)
    | true =>
      refine codeAny_handlers_suite_as (HandSPX.lands_againZ q.fl fun h4 fl4 up4 => ?_)
      have q4 := q.next fl4 up4
      obtain ⟨o4, _, k2, k3, S4⟩ := q4.suite hf
      refine store_ok (X := X.suite a ((a, o4) :: (X.pn ++ pins))) (v := .ref a) S4 hN hi (.inl hln) rfl (fun s5 S5 => ?_) (.inr hln)
      refine wpAny_mono ((su a o4 cls d (X.pn ++ pins) k2 k3).run [] s5 _ H _ S5 (yes rfl a q.na)) (fun f s6 z => ?_) fun _ _ z => z.elim
      have gone : ∀ {σ6 : L2.St} {H6 : Hp} {Q : Shared → Prop}, Inv (X.suite a ((a, o4) :: (X.pn ++ pins))) [] σ6 H6 s6 → (∀ s7, Inv X pins (σ6.set i none) H6 s7 → Q s7) →
          wpAny (model X.prog X.w) X.A (do bindName X.env n .none; unbindBehindTheSuite X.env n p2) (fun _ s7 => Q s7) X.xe s6 := fun S6 z => gone_ok (S6.unsuite q.inv.ok) hN hi hln z
      cases f with
      | ret u =>
        obtain ⟨v6, σ6, H6, S6, r6, z⟩ := z
        exact gone S6 fun s7 J7 => ⟨_, _, _, J7, r6, z⟩
      | _ =>
        obtain ⟨σ6, H6, S6, z⟩ := z
        exact gone S6 fun s7 J7 => ⟨_, _, J7, z⟩
end
end Z

set_option Elab.async false
set_option linter.all false
set_option maxRecDepth 100000
set_option maxHeartbeats 4000000
namespace Z
open PySem PySem.Spec PyProof.Rows L2
variable [Row]
/-! ### raise C(e) -/
def sRaise (c f : Str) (ms : EM (List D)) : SM := fun e s => (ms e s).st e fun ds s1 => match ds with
  | [d] => .ex c f d e s1
  | _ => .no
/-- an own error that can be made -/
def RzOk (P : Program) (w : World) (K : PySem.W.Frag) (mg : Str → Option Value) (base : Heap) (k : Nat) (c f : Str) : Prop :=
  ∃ (b : XBase) (C g : Addr) (fd : FuncData) (ps : List Str), mg c = some (.ref C) ∧ XCl b K C g f ∧ FnOk P w K mg base (L2.CX P w) k g fd ps (xSp C f) ∧ Binds K fd ps []
section
variable {X : Cx} {W : WX} {k : Nat} {c f : Str} {e : Expr} {ms : EM (List D)} {p pos p2 : Pos}
end
/-! ### try -/
abbrev Hdl := Str × (Str → D → SM)
def runH (cs : List Str) (i : Nat) (c f : Str) (d : D) (e : Ev) (s : Sto) : List Hdl → RS
  | [] => .ex c f d e s
  | h :: r => if c ∈ cs ∧ h.1 ∈ cs ∧ i < e.length then (if c = h.1 then (match h.2 f d (e.set i none) s with
      | .nx e2 s2 => .nx (e2.set i none) s2
      | .rt d2 s2 => .rt d2 s2
      | .bk e2 s2 => .bk (e2.set i none) s2
      | .ct e2 s2 => .ct (e2.set i none) s2
      | _ => .no) else runH cs i c f d e s r) else .no
def sTry (cs : List Str) (i : Nat) (b : SM) (hs : List Hdl) : SM := fun e s => match b e s with
  | .ex c f d e1 s1 => runH cs i c f d e1 s1 hs
  | r => r
/-- no error of cs is another's kind -/
def XmT (K : PySem.W.Frag) (mg : Str → Option Value) (cs : List Str) : Prop := ∀ c ∈ cs, ∀ c' ∈ cs, ∀ C C', mg c = some (.ref C) → mg c' = some (.ref C') → PySem.W.exmOne K (.ref C) (.ref C') = some (decide (c = c'))
/-- what a suite is told: the error's class, its field's value dv -/
def SuC (K : PySem.W.Frag) (mg : Str → Option Value) (c : Str) (i : Nat) (a : Addr) (cls : Value) (d : Option Addr) (σ : L2.St) (H : Hp) (k : (Nat → Addr) → Ev → Sto → Str → D → Prop) : Prop :=
  ∃ ρ env s C f dd v dv, SR K mg ρ s H ∧ EnvR K ρ s.length H env σ ∧ σ[i]? = some (some (.ref a)) ∧ mg c = some (.ref C) ∧ cls = .ref C ∧ d = some dd ∧ H dd = some (.xd [(f, v)]) ∧ VR K ρ s.length H dv v ∧ k ρ env s f dv
def suT (K : PySem.W.Frag) (mg : Str → Option Value) (c : Str) (i : Nat) (m : Str → D → SM) (a : Addr) (cls : Value) (d : Option Addr) : TS := fun D σ H => SuC K mg c i a cls d σ H fun ρ env s f dv => PoS K mg (fun _ _ _ _ => False) D ρ s.length H (m f dv env s)
def SuOk (X : Cx) (c : Str) (i : Nat) (sts : List Stmt) (m : Str → D → SM) : Prop := ∀ (a : Addr) (oe : Obj) (cls : Value) (d : Option Addr) (pn : List (Addr × Obj)), Zc cls d oe → (∃ vs, oe.data = .fields vs) → PSs (X.suite a ((a, oe) :: pn)) sts (suT X.K X.mg c i m a cls d)
inductive HdJ (X : Cx) (n : Str) (i : Nat) : List ExceptHandler → List Hdl → Prop
  | nil : HdJ X n i [] []
  | cons {h : Hdl} {st : Stmt} {sts : List Stmt} {p1 p2 : Pos} {hds : List ExceptHandler} {r : List Hdl} (hg : Gl X h.1) (hdb : (h.1 == ("__debug__" : Str)) = false) (hm : ∃ C, X.mg h.1 = some (.ref C))
      (su : SuOk X h.1 i (st :: sts) h.2) (t : HdJ X n i hds r) :
      HdJ X n i (.ExceptHandler (some (.Name h.1 p1)) (some n) (st :: sts) p2 :: hds) (h :: r)
theorem EnvR.setN {K : PySem.W.Frag} {ρ : Nat → Addr} {n : Nat} {H : Hp} {env : Ev} {σ : L2.St} (h : EnvR K ρ n H env σ) {i : Nat} {o : Option V} : EnvR K ρ n H (env.set i none) (σ.set i o) := by
  obtain ⟨h1, h2⟩ := h
  refine ⟨by simp [h1], fun j d hj => ?_⟩
  by_cases e : i = j
  · subst e
    by_cases hl : i < env.length
    · rw [List.getElem?_set_self hl] at hj
      cases hj
    · rw [List.getElem?_eq_none (by simpa using hl)] at hj
      cases hj
  · rw [List.getElem?_set_ne e] at hj
    obtain ⟨v, h3, h4⟩ := h2 j d hj
    exact ⟨v, by rw [List.getElem?_set_ne e]; exact h3, h4⟩
def clOf (K : PySem.W.Frag) (mg : Str → Option Value) (i : Nat) (h : Hdl) : ClA := ((mg h.1).getD .none, suT K mg h.1 i h.2)
section
variable {X : Cx} {W : WX} {n : Str} {i : Nat} {cs : List Str}
theorem HdJ.run (X1 : XmT X.K X.mg cs) {hds : List ExceptHandler} {hs : List Hdl} (h : HdJ X n i hds hs) {Dn : Ends} {ρ : Nat → Addr} {σ : L2.St} {H : Hp} {c f : Str} {d : D} {e : Ev} {s : Sto} {C dx : Addr} {v : V}
    (sr : SR X.K X.mg ρ s H) (er : EnvR X.K ρ s.length H e σ) (hc : X.mg c = some (.ref C)) (rv : VR X.K ρ s.length H d v) (hx : H dx = some (.xd [(f, v)])) :
    PoS X.K X.mg W Dn ρ s.length H (runH cs i c f d e s hs) → wAsM X.K i W Dn (hs.map (clOf X.K X.mg i)) (.ref C) (some dx) σ H := by
  induction h with
  | nil => exact fun po => po ρ H σ C dx v Ext.refl sr er hc rv hx
  | @cons h st sts p1 p2 hds r hg hdb hm su t ih =>
    intro po
    obtain ⟨C', hm⟩ := hm
    unfold runH at po
    by_cases q : c ∈ cs ∧ h.1 ∈ cs ∧ i < e.length
    · rw [if_pos q] at po
      refine ⟨decide (c = h.1), by unfold clOf; rw [hm]; exact X1 c q.1 h.1 q.2.1 C C' hc hm, fun hit a ha => ?_, fun hit => ?_⟩
      · have e1 := of_decide_eq_true hit
        rw [if_pos e1] at po
        refine ⟨ρ, e.set i none, s, C, f, dx, v, d, sr, er.setN, ?_, e1 ▸ hc, rfl, rfl, hx, rv, ?_⟩
        · rw [List.getElem?_set_self (by rw [← er.1]; exact q.2.2)]
        · show PoS X.K X.mg (fun _ _ _ _ => False) (offE i Dn) ρ s.length H (h.2 f d (e.set i none) s)
          generalize h.2 f d (e.set i none) s = r2 at po ⊢
          cases r2 with
          | nx e2 s2 => exact fun ρ2 H2 σ2 x1 x2 x3 => po ρ2 H2 _ x1 x2 x3.setN
          | rt d2 s2 => exact po
          | bk e2 s2 => exact fun ρ2 H2 σ2 x1 x2 x3 => po ρ2 H2 _ x1 x2 x3.setN
          | ct e2 s2 => exact fun ρ2 H2 σ2 x1 x2 x3 => po ρ2 H2 _ x1 x2 x3.setN
          | ex _ _ _ _ _ => exact po.elim
          | no => exact po.elim
      · rw [if_neg (of_decide_eq_false hit)] at po
        exact ih po
    · rw [if_neg q] at po
      exact po.elim
end
end Z

set_option Elab.async false
set_option linter.all false
set_option maxRecDepth 100000
set_option maxHeartbeats 4000000
namespace Z
open PySem PySem.Spec PyProof.Rows L2
variable [Row]
/-! ### what an except suite says -/
/-- isinstance and fields of an error of the class at C -/
structure XIs (K : PySem.W.Frag) (C : Addr) : Prop where
  cl : (PySem.W.clsIn K C).isSome = true
  ga : PySem.W.findIn K (.ref C) "__getattribute__" = some (some (.builtin "BaseException.__getattribute__"))
  gg : PySem.W.findIn K (.ref C) "__getattr__" = some none
  sub : PySem.W.subIn K (.ref C) (.type "BaseException") = some true
  dct : PySem.W.hasDictIn K C = true
  co : PySem.W.findIn K (.ref C) "__class__" = some (some (.builtin "object.__class__"))
  sp : PySem.W.specialIn K (.builtin "object.__class__") "__get__" = some (some (.builtin "getset_descriptor.__get__"))
  tk : PySem.W.takesIn K (.builtin "object.__class__") = some true
  mo : PySem.W.mroIn K C (.type "object") = some true
def xisB (K : PySem.W.Frag) (C : Addr) : Bool :=
  (PySem.W.clsIn K C).isSome && (decide (PySem.W.findIn K (.ref C) "__getattribute__" = some (some (.builtin "BaseException.__getattribute__"))) && (decide (PySem.W.findIn K (.ref C) "__getattr__" = some none) && (decide (PySem.W.subIn K (.ref C) (.type "BaseException") = some true) &&
    (PySem.W.hasDictIn K C && (decide (PySem.W.findIn K (.ref C) "__class__" = some (some (.builtin "object.__class__"))) && (decide (PySem.W.specialIn K (.builtin "object.__class__") "__get__" = some (some (.builtin "getset_descriptor.__get__"))) &&
      (decide (PySem.W.takesIn K (.builtin "object.__class__") = some true) && decide (PySem.W.mroIn K C (.type "object") = some true))))))))
/-- grown -/
def Gr (H H' : Hp) : Prop := ∀ b o, H b = some o → H' b = some o
theorem Gr.refl {H : Hp} : Gr H H := fun _ _ h => h
theorem Gr.trans {H H1 H2 : Hp} (a : Gr H H1) (b : Gr H1 H2) : Gr H H2 := fun i o h => b i o (a i o h)
/-- a part whose value is told by the error's field -/
def XP (X : Cx) (c : Str) (i : Nat) (e : Expr) (p : Str → D → Sto → Option D) : Prop := ∀ (a : Addr) (oe : Obj) (cls : Value) (d : Option Addr) (pn : List (Addr × Obj)), Zc cls d oe → (∃ vs, oe.data = .fields vs) →
  PE (X.suite a ((a, oe) :: pn)) e (fun σ H Q => SuC X.K X.mg c i a cls d σ H fun ρ _ s f dv => ∃ d', p f dv s = some d' ∧ ∀ H', Gr H H' → ∀ v', VR X.K ρ s.length H' d' v' → Q v' H')
def XPs (X : Cx) (c : Str) (i : Nat) (es : List Expr) (p : Str → D → Sto → Option (List D)) : Prop := ∀ (a : Addr) (oe : Obj) (cls : Value) (d : Option Addr) (pn : List (Addr × Obj)), Zc cls d oe → (∃ vs, oe.data = .fields vs) →
  PA (X.suite a ((a, oe) :: pn)) es (fun σ H Q => SuC X.K X.mg c i a cls d σ H fun ρ _ s f dv => ∃ ds, p f dv s = some ds ∧ ∀ H', Gr H H' → ∀ vs, VRs X.K ρ s.length H' ds vs → Q vs H')
/-- a test whose answer is known -/
def XT (X : Cx) (c : Str) (i : Nat) (e : Expr) (q : Bool) : Prop := ∀ (a : Addr) (oe : Obj) (cls : Value) (d : Option Addr) (pn : List (Addr × Obj)), Zc cls d oe → (∃ vs, oe.data = .fields vs) →
  PT (X.suite a ((a, oe) :: pn)) e (fun σ H Q => SuC X.K X.mg c i a cls d σ H fun _ _ _ _ _ => ∀ H', Gr H H' → Q q H')
def XW (X : Cx) (c : Str) (i : Nat) (e : Expr) (q : Bool) : Prop := ∀ (a : Addr) (oe : Obj) (cls : Value) (d : Option Addr) (pn : List (Addr × Obj)), Zc cls d oe → (∃ vs, oe.data = .fields vs) →
  PW (X.suite a ((a, oe) :: pn)) e (fun σ H Q => SuC X.K X.mg c i a cls d σ H fun _ _ _ _ _ => ∀ H', Gr H H' → Q q H')
def XE2 (X : Cx) (c : Str) (i : Nat) (e : Expr) (m : Str → D → EM D) : Prop := ∀ (a : Addr) (oe : Obj) (cls : Value) (d : Option Addr) (pn : List (Addr × Obj)), Zc cls d oe → (∃ vs, oe.data = .fields vs) →
  PE (X.suite a ((a, oe) :: pn)) e (fun σ H Q => SuC X.K X.mg c i a cls d σ H fun ρ env s f dv => Po X.K X.mg (VR X.K) (fun _ _ _ _ => False) σ ρ s.length H (m f dv env s) Q)
section
variable {X : Cx} {c : Str} {i : Nat} {e : Expr} {es : List Expr} {p : Str → D → Sto → Option D} {ps : Str → D → Sto → Option (List D)} {pos : Pos}
theorem SuC.imp {K : PySem.W.Frag} {mg : Str → Option Value} {a : Addr} {cls : Value} {d : Option Addr} {σ : L2.St} {H : Hp} {k k' : (Nat → Addr) → Ev → Sto → Str → D → Prop} (h : SuC K mg c i a cls d σ H k) (f : ∀ ρ env s f dv, SR K mg ρ s H → k ρ env s f dv → k' ρ env s f dv) : SuC K mg c i a cls d σ H k' := by
  obtain ⟨ρ, env, s, C, fl, dd, v, dv, h1, h2, h3, h4, h5, h6, h7, h8, h9⟩ := h
  exact ⟨ρ, env, s, C, fl, dd, v, dv, h1, h2, h3, h4, h5, h6, h7, h8, f _ _ _ _ _ h1 h9⟩
/-- isinstance(e, T) -/
def rIsX (K : PySem.W.Frag) (C a dd : Addr) : List V → Hp → VK → Prop := fun xs H Q => (∃ fs, H dd = some (.xd fs)) ∧ ∃ (t : V) (tv : Value) (q : Bool), xs = [.ref a, t] ∧ (∀ u, RelV t u → u = tv) ∧ PySem.W.kitOne K (.ref C) tv = some q ∧ Q (.bl q) H
/-- isinstance(e, (T, ..)) -/
def rIsT (K : PySem.W.Frag) (C a dd : Addr) : List V → Hp → VK → Prop := fun xs H Q => (∃ fs, H dd = some (.xd fs)) ∧ ∃ (m : Addr) (ts : List V) (tvs : List Value) (q : Bool), xs = [.ref a, .ref m] ∧ H m = some (.tup ts) ∧ (∀ us, Vals ts us → us = tvs) ∧ PySem.W.kitAny K (.ref C) tvs = some q ∧ Q (.bl q) H
/-- names of classes -/
def XNs (X : Cx) (es : List Expr) (ts : List V) (tvs : List Value) : Prop := (∀ (a : Addr) (oe : Obj) (pn : List (Addr × Obj)), PA (X.suite a ((a, oe) :: pn)) es (fun _ H Q => Q ts H)) ∧ ∀ us, Vals ts us → us = tvs
end
end Z

set_option Elab.async false
set_option linter.all false
set_option maxRecDepth 100000
set_option maxHeartbeats 4000000
namespace Z
open PySem PySem.Spec PyProof.Rows L2
section
variable [Row] {X : Cx} {W : WX}
/-! ### xs.pop() -/
def lPop (xs ds : List D) : Option (List D × D) := match ds with
  | [] => (xs[xs.length - 1]?).map fun d => (xs.dropLast, d)
  | _ => none
theorem VRs.dropLast {K : PySem.W.Frag} {ρ : Nat → Addr} {n : Nat} {H : Hp} {ds : List D} {vs : List V} (r : VRs K ρ n H ds vs) : VRs K ρ n H ds.dropLast vs.dropLast := by
  have e : ∀ {α : Type} (l : List α), l.dropLast = l.eraseIdx (l.length - 1) := fun l => by rw [List.eraseIdx_length_sub_one]
  rw [e ds, e vs, r.length]
  exact r.eraseIdx _
end
/-! ### suites, told shortly -/
abbrev xSt (x : Str) : Str → D → Sto → Option D := fun _ _ _ => some (.str x)
abbrev xBl (q : Bool) : Str → D → Sto → Option D := fun _ _ _ => some (.bl q)
abbrev xFl (f : Str) : Str → D → Sto → Option D := fun g dv _ => if g = f then some dv else none
abbrev xRp (p : Str → D → Sto → Option D) : Str → D → Sto → Option D := fun f dv s => (p f dv s).bind fun d => (shp s d).bind fun y => if y.showable = true ∧ y.shown.length ≤ sizeLine then some (.str y.shown) else none
abbrev xsN : Str → D → Sto → Option (List D) := fun _ _ _ => some []
abbrev xsC (p : Str → D → Sto → Option D) (ps : Str → D → Sto → Option (List D)) : Str → D → Sto → Option (List D) := fun f dv s => (p f dv s).bind fun d => (ps f dv s).map fun ds => d :: ds
abbrev xPt (p : Str → D → Sto → Option D) : Str → D → EM D := fun f dv _ s => match p f dv s with | some d => .ok d s | none => .no
abbrev xTu (ps : Str → D → Sto → Option (List D)) : Str → D → EM D := fun f dv _ s => match ps f dv s with | some ds => fTup ds s | none => .no
abbrev xLs (ps : Str → D → Sto → Option (List D)) : Str → D → EM D := fun f dv _ s => match ps f dv s with | some ds => fLst ds s | none => .no
/-! ### wp -/
section
variable {c f : Str} {ms : EM (List D)} {e : Ev} {s : Sto} {Q : En} {b : SM} {cs : List Str} {i : Nat} {hs : List Hdl} {d : D}
end
end Z

set_option Elab.async false
set_option linter.all false
set_option maxRecDepth 100000
set_option maxHeartbeats 4000000
namespace Z
open PySem PySem.Spec PyProof.Rows L2 TL
open PySem.PyData (strOk)
/-! ### objects of any kind, looked at -/
def ObjD (s : Sto) : D → Prop
  | .str x => strOk x = true ∧ x.length ≤ 16
  | .int i => -(10 ^ 20) < i ∧ i < 10 ^ 20
  | .non => True
  | .bl _ => True
  | .tup ds => ds = [] ∨ ds = [.str (Str.ofString "a")]
  | .ref n => mlAt s n = some []
theorem ObjD.eff {s t : Sto} {ks : List Nat} {d : D} (h : ObjD s d) (e : Eff ks s t) (hb : Bags s ks) : ObjD t d := by
  cases d with
  | ref n =>
    refine e.ml h fun hk => ?_
    obtain ⟨a, b, e2⟩ := hb n hk
    have h : mlAt s n = some [] := h
    rw [mlAt_get h] at e2
    cases e2
  | _ => exact h
theorem ObjD.eff0 {s t : Sto} {d : D} (h : ObjD s d) (e : Eff [] s t) : ObjD t d := h.eff e bags_nil
def isStr : D → Bool
  | .str _ => true
  | _ => false
def isBl : D → Bool
  | .bl _ => true
  | _ => false
def isInt : D → Bool
  | .int _ => true
  | _ => false
theorem kits : (kitB "NoneType" "str" = some false ∧ kitB "bool" "str" = some false ∧ kitB "int" "str" = some false ∧ kitB "str" "str" = some true ∧ kitB "tuple" "str" = some false ∧ kitB "list" "str" = some false) ∧
    (kitB "NoneType" "bool" = some false ∧ kitB "bool" "bool" = some true ∧ kitB "int" "bool" = some false ∧ kitB "str" "bool" = some false ∧ kitB "tuple" "bool" = some false ∧ kitB "list" "bool" = some false) ∧
    (kitB "NoneType" "int" = some false ∧ kitB "bool" "int" = some true ∧ kitB "int" "int" = some true ∧ kitB "str" "int" = some false ∧ kitB "tuple" "int" = some false ∧ kitB "list" "int" = some false) := by decide +kernel
theorem ty_ref {s : Sto} {n : Nat} {xs : List D} (h : mlAt s n = some xs) : tyN s (.ref n) = some "list" := by
  unfold tyN
  dsimp only
  rw [mlAt_get h]
section
variable {P : D → Sto → Prop} {E : Str → Str → D → Sto → Prop} {s : Sto} {e : Ev} {i : Nat} {d : D}
theorem isi_obj (hd : ObjD s d) (h : e[i]? = some (some d)) (hP : P (.bl (isStr d)) s) : (mIsi "str" (mV i) e s).wp P E := by
  rw [z_isi, z_mV, h, slotP_some]
  obtain ⟨⟨k1, k2, k3, k4, k5, k6⟩, -, -⟩ := kits
  cases d with
  | non => exact ⟨_, _, rfl, k1, hP⟩
  | bl _ => exact ⟨_, _, rfl, k2, hP⟩
  | int _ => exact ⟨_, _, rfl, k3, hP⟩
  | str _ => exact ⟨_, _, rfl, k4, hP⟩
  | tup _ => exact ⟨_, _, rfl, k5, hP⟩
  | ref n => exact ⟨_, _, ty_ref hd, k6, hP⟩
end
/-- a name -/
def nmB (x : Str) : Bool := decide (1 ≤ x.length ∧ x.length ≤ 8) && (tl x).all fun c => decide (c ∈ tl abc)
def isNm : D → Bool
  | .str x => nmB x
  | _ => false
theorem nmB_iff {x : Str} : nmB x = true ↔ IsName x := by
  unfold nmB
  rw [Bool.and_eq_true, decide_eq_true_eq, List.all_eq_true, len_tl]
  constructor
  · rintro ⟨⟨h1, h2⟩, h3⟩
    refine ⟨h1, h2, fun c hc => ?_⟩
    have := of_decide_eq_true (h3 c hc)
    rw [abc_tl] at this
    obtain ⟨j, hj, rfl⟩ := List.mem_map.mp this
    have := List.mem_range.mp hj
    unfold isLow
    omega
  · intro h
    refine ⟨⟨h.pos, h.len⟩, fun c hc => decide_eq_true ?_⟩
    have hlow := h.low c hc
    rw [abc_tl]
    unfold isLow at hlow
    exact List.mem_map.mpr ⟨c - 97, by simp; omega, by omega⟩
def tIsNameX (itb : Itb) (letters : EM D) : SM := (sC (sI (bOr (bNot (toT (mIsi "str" (mV 0)))) (bNot (toB (mCh dLe dLe (mC (.int 1)) (mN fLen (aC (mV 0) aN)) (mC (.int 8)))))) (sR (mC (.bl false))) sN) (sR (mN (fAllAny true) (aC (mL (iAny itb (mV 0)) (gN 1) tY (m2 (dInB false) (mV 1) letters) [1]) aN))))
def LettersOk (m : EM D) : Prop := ∀ {e : Ev} {s : Sto} {c : Nat} {P : D → Sto → Prop} {E : Str → Str → D → Sto → Prop}, strOk (one c) = true → (∀ s', Eff [] s s' → P (.bl (decide (c ∈ tl abc))) s') → (m e s).wp (fun y s1 => (dInB false (.str (one c)) y s1).wp P E) E
theorem letters_str : LettersOk (mC (.str abc)) := fun {e s c P E} _ h => by
  simp
  rw [z_inS, Bool.false_xor]
  exact h _ Eff.refl
theorem ch_ok {x : Str} {c : Nat} (h : strOk x = true) (hc : c ∈ tl x) : strOk (one c) = true := by
  unfold PySem.PyData.strOk at h ⊢
  rw [Array.all_eq_true'] at h
  have := h c (by unfold tl at hc; simpa using hc)
  simpa [one] using this
theorem is_nameX {itb : Itb} {letters : EM D} (hL : LettersOk letters) {s : Sto} {d : D} (h : ObjD s d) : (fnM 1 2 (tIsNameX itb letters) [d] s).wp fun d' s' => d' = .bl (isNm d) ∧ Eff [] s s' := by
  refine wp_of fun P hP => ?_
  unfold tIsNameX
  rw [z_fnM (by rfl)]
  simp
  refine isi_obj h rfl ?_
  cases d with
  | str x =>
    obtain ⟨hx, hl⟩ := h
    have hl2 : x.length ≤ sizeLine := by rw [size_line]; omega
    simp [isStr, trD, hl2]
    by_cases c1 : (1 : Int) ≤ x.length
    · rw [if_pos c1]
      by_cases c2 : (x.length : Int) ≤ 8
      · rw [if_pos c2]
        refine wp_ne (lc_mapR (ks := []) (fun d c => d = .str (one c)) (fun c => .bl (decide (c ∈ tl abc))) (as := tl x) (AllR.of_map (f := fun c => D.str (one c))) it_str bags_nil (by have := len_tl x; rw [size_line]; omega) fun d c s1 hd hc ef _ => ?_) ?_
        · subst hd
          refine ⟨_, rfl, ?_⟩
          simp
          exact hL (ch_ok hx hc) fun s' ef' => ⟨ef', by simp⟩
        rintro d s1 ⟨rfl, ef, hlt, hm⟩
        rw [z_all]
        refine ⟨_, (tl x).map fun c => decide (c ∈ tl abc), lstAt_ml hm, by rw [← mapM_bl, List.map_map]; rfl, ?_⟩
        rw [if_pos rfl]
        refine hP _ _ ⟨?_, ef⟩
        show D.bl _ = D.bl (nmB x)
        unfold nmB
        rw [decide_eq_true (show 1 ≤ x.length ∧ x.length ≤ 8 by omega), Bool.true_and, List.all_map]
        rfl
      · rw [if_neg c2]
        refine hP _ _ ⟨?_, Eff.refl⟩
        show D.bl false = D.bl (nmB x)
        unfold nmB
        rw [decide_eq_false (show ¬ (1 ≤ x.length ∧ x.length ≤ 8) by omega), Bool.false_and]
    · rw [if_neg c1]
      refine hP _ _ ⟨?_, Eff.refl⟩
      show D.bl false = D.bl (nmB x)
      unfold nmB
      rw [decide_eq_false (show ¬ (1 ≤ x.length ∧ x.length ≤ 8) by omega), Bool.false_and]
  | _ => simp [isStr, trD]; exact hP _ _ ⟨rfl, Eff.refl⟩
end Z

set_option Elab.async false
set_option linter.all false
set_option maxRecDepth 100000
set_option maxHeartbeats 4000000
namespace Z
open PySem PySem.Spec PyProof.Rows L2 TL
open PySem.PyData (strOk)
/-! ### the looks, with what they raise -/
def isKd : D → Bool
  | .str x => decide (x ∈ kinds)
  | _ => false
def isBd : D → Bool
  | .int i => decide (0 ≤ i ∧ i ≤ 999999)
  | _ => false
/-- what a look does: the object passes p, or the error c with it -/
def LookX (p : D → Bool) (c f : Str) (F : MF) : Prop := ∀ {s : Sto} {d : D}, ObjD s d → (F [d] s).wp (fun d' s' => p d = true ∧ d' = .non ∧ Eff [] s s') (fun c' f' v s' => c' = c ∧ f' = f ∧ v = d ∧ p d = false ∧ Eff [] s s')
def tLookX (F : MF) (c f : Str) : SM := (sI (bNot (toT (mN F (aC (mV 0) aN)))) (sRaise c f (aC (mV 0) aN)) sN)
def tLookBodyX : SM := (sI (bOr (bNot (toT (mIsi "int" (mV 0)))) (bOr (toT (mIsi "bool" (mV 0))) (bNot (toB (mCh dLe dLe (mC (.int 0)) (mV 0) (mC (.int 999999))))))) (sRaise "BadBody" "body" (aC (mV 0) aN)) sN)
/-! ### the first that comes a second time -/
def again1 : List Str → List Str → Option Str
  | _, [] => none
  | seen, x :: xs => if x ∈ seen then some x else again1 (seen ++ [x]) xs
def optS : Option Str → D
  | none => .non
  | some x => .str x
theorem again1_take {ms : List Str} : ∀ {i : Nat}, i ≤ ms.length → (∀ j, j < i → ∀ x, ms[j]? = some x → x ∉ ms.take j) → again1 [] ms = again1 (ms.take i) (ms.drop i)
  | 0, _, _ => by simp
  | i + 1, h, hn => by
    rw [again1_take (i := i) (by omega) fun j hj => hn j (by omega)]
    have hx : ms[i]? = some (ms[i]'(by omega)) := List.getElem?_eq_getElem _
    rw [List.drop_eq_getElem_cons (by omega), again1, if_neg (hn i (by omega) _ hx), take_snoc hx]
theorem twice_x {s : Sto} {n : Nat} {ms : List Str} (hx : lstAt s n = some (ms.map D.str)) (hok : ∀ x ∈ ms, strOk x = true) (hl : ms.length ≤ 1000) : (fnM 1 3 tTwice [.ref n] s).wp fun d s' => d = optS (again1 [] ms) ∧ Eff [] s s' := by
  refine wp_of fun P hP => ?_
  unfold tTwice
  rw [z_fnM (by rfl)]
  have hn := lstAt_lt hx
  simp [lstAt_app hn, hx]
  refine for_it (ks := []) (s0 := s) (xs := ms.map D.str) (it_lst hx (by simp)) (fun i e s1 => Eff [] s s1 ∧ (∀ j, j < i → ∀ x, ms[j]? = some x → x ∉ ms.take j) ∧ mlAt s1 s.length = some ((ms.take i).map D.str) ∧ ∃ o, e = [some (.ref n), some (.ref s.length), o]) (fun _ _ _ h => h.1) ?_ ⟨Eff.push, fun j hj => absurd hj (Nat.not_lt_zero _), by simp, none, rfl⟩ ?_
  · rintro i d e s1 hd1 ⟨ef, hno, hm, o, rfl⟩
    obtain ⟨x, hx1, rfl⟩ : ∃ x, ms[i]? = some x ∧ d = .str x := by
      rw [List.getElem?_map] at hd1
      obtain ⟨x, h1, h2⟩ := Option.map_eq_some_iff.mp hd1
      exact ⟨x, h1, h2.symm⟩
    have hi : i < ms.length := (List.getElem?_eq_some_iff.mp hx1).1
    refine ⟨_, rfl, ?_⟩
    have hs : ∀ y ∈ ms.take i, strOk y = true := fun y hy => hok y (List.mem_of_mem_take hy)
    simp
    rw [z_inStr (hok _ (List.mem_of_getElem? hx1)) (lstAt_ml hm) hs, Bool.false_xor]
    by_cases q : x ∈ ms.take i
    · rw [decide_eq_true q]
      simp
      refine hP _ _ ⟨?_, ef⟩
      rw [again1_take (Nat.le_of_lt hi) hno, List.drop_eq_getElem_cons hi, again1]
      have e : ms[i] = x := (List.getElem?_eq_some_iff.mp hx1).2
      rw [e, if_pos q]
      rfl
    · rw [decide_eq_false q]
      have hlt : s.length < s1.length := lstAt_lt (lstAt_ml hm)
      simp [hm, hlt]
      refine ⟨isTy_ml hm, by rw [size_line]; omega, ef.set (Nat.le_refl _), fun j hj y hy => ?_, ?_⟩
      · by_cases e : j < i
        · exact hno j e y hy
        · have : j = i := by omega
          subst this
          rw [hx1] at hy
          cases hy
          exact q
      · rw [List.take_add_one, hd1]
        simp
  · rintro e s1 ⟨ef, hno, hm, o, rfl⟩
    simp
    refine hP _ _ ⟨?_, ef⟩
    rw [List.length_map] at hno
    rw [again1_take (Nat.le_refl _) hno, List.drop_length]
    rfl
end Z

set_option Elab.async false
set_option linter.all false
set_option maxRecDepth 100000
set_option maxHeartbeats 4000000
namespace Z
open PySem PySem.Spec PyProof.Rows L2 TL
open PySem.PyData (strOk)
/-! ### Member(..) of any objects -/
abbrev ErrX := Str × Str × Str × D
abbrev TripD := D × D × D
def tripD (p : TripD) : D := .tup [p.1, p.2.1, p.2.2]
def strOf : D → Str
  | .str x => x
  | _ => ""
def badN (d : D) : Option ErrX := if isNm d then none else some ("BadName", "name", "name", d)
def badK (d : D) : Option ErrX := if isKd d then none else some ("BadKind", "kind", "kind", d)
def badB (d : D) : Option ErrX := if isBd d then none else some ("BadBody", "body", "body", d)
def badP (p : TripD) : Option ErrX := (badN p.1).or ((badK p.2.1).or (badB p.2.2))
def namesOf (ps : List TripD) (ws : List D) : List Str := (ps.map fun p => strOf p.1) ++ ws.map strOf
def dueT (ps : List TripD) (ws : List D) : Option ErrX := match again1 [] (namesOf ps ws) with
  | some x => some ("Twice", "name", "twice", .str x)
  | none => if 6 < ps.length ∨ 6 < ws.length then some ("TooMany", "limit", "many", .int 6) else none
def dueE (nm : D) (ps : List TripD) (ws : List D) : Option ErrX := (badN nm).or ((ps.findSome? badP).or ((ws.findSome? badN).or (dueT ps ws)))
def MErr (s : Sto) (o : Option ErrX) : Str → Str → D → Sto → Prop := fun c f v s' => Eff [] s s' ∧ ∃ l, o = some (c, f, l, v)
structure NoB {α : Type} (f : α → Option ErrX) (l : List α) : Prop where
  h : l.findSome? f = none
structure ObjP (s : Sto) (p : TripD) : Prop where
  a : ObjD s p.1
  b : ObjD s p.2.1
  c : ObjD s p.2.2
def tMemberX (lname lkind lbody twice : MF) (cs : List Str) : SM := (sC (sE (mN lname (aC (mV 1) aN))) (sC (sF (iSq (mV 2)) (gT [(gN 6), (gN 7), (gN 8)]) (sC (sE (mN lname (aC (mV 6) aN))) (sC (sE (mN lkind (aC (mV 7) aN))) (sE (mN lbody (aC (mV 8) aN)))))) (sC (sF (iSq (mV 3)) (gN 4) (sE (mN lname (aC (mV 4) aN)))) (sC (sA 5 (mN twice (aC (m2 dAdd (mL (iSq (mV 2)) (gN 9) tY (m2 dIx (mV 9) (mC (.int 0))) [9]) (mN fList (aC (mV 3) aN))) aN))) (sC (sI (toB (m2 dNotN2 (mV 5) (mC .non))) (sRaise "Twice" "name" (aC (mV 5) aN)) sN) (sC (sI (bOr (toB (m2 dGt (mN fLen (aC (mV 2) aN)) (mC (.int 6)))) (toB (m2 dGt (mN fLen (aC (mV 3) aN)) (mC (.int 6))))) (sRaise "TooMany" "limit" (aC (mC (.int 6)) aN)) sN) (sC (sFldD cs "name" (mV 0) (mV 1)) (sC (sFldD cs "defines" (mV 0) (mN fTuple (aC (mN fSortA (aC (mV 2) aN)) aN))) (sFldD cs "wants" (mV 0) (mN fTuple (aC (mN fSortA (aC (mV 3) aN)) aN)))))))))))
def TwiceX (F : MF) : Prop := ∀ {s : Sto} {n : Nat} {ms : List Str}, lstAt s n = some (ms.map D.str) → (∀ x ∈ ms, strOk x = true) → ms.length ≤ 1000 → (F [.ref n] s).wp fun d s' => d = optS (again1 [] ms) ∧ Eff [] s s'
def intOf : D → Int
  | .int i => i
  | _ => 0
theorem again_none0 : ∀ {xs seen : List Str}, again1 seen xs = none → seen.Nodup → (seen ++ xs).Nodup
  | [], seen, _, h => by simpa using h
  | x :: xs, seen, h, hn => by
    unfold again1 at h
    by_cases q : x ∈ seen
    · rw [if_pos q] at h
      cases h
    · rw [if_neg q] at h
      have := again_none0 h (List.nodup_append.mpr ⟨hn, by simp, fun a ha b hb e => q (by rw [List.mem_singleton.mp hb] at e; rw [← e]; exact ha)⟩)
      simpa using this
theorem again_none {xs : List Str} (h : again1 [] xs = none) : xs.Nodup := by simpa using again_none0 h List.nodup_nil
end Z

set_option Elab.async false
set_option linter.all false
set_option maxRecDepth 100000
set_option maxHeartbeats 4000000
namespace Z
open PySem PySem.Spec PyProof.Rows L2
variable [Row]
/-! ### a lambda is made: the tables grow -/
section
variable {K : PySem.W.Frag} {mg : Str → Option Value} {ρ : Nat → Addr} {H H1 : Hp} {s : Sto}
end
/-! ### x(lambda: body), in a place without guards -/
open LamX
section
variable {X : Cx} {pins : List (Addr × Obj)} {σ : L2.St} {H : Hp} {s : Shared}
/-- the lambda at f, as it is made -/
abbrev lamO (X : Cx) (ar : Arguments) (body : Expr) (sc : Scope) (md ct : Value) (co : Addr) : Obj := PySem.W.kla_obj "<lambda>" (X.env.qual ++ "<lambda>") ar body sc (cloFrom X.env.cells sc.names []) md co ct
/-- the context of the def that got it -/
abbrev gotX (X : Cx) (Ng : List Str) (x : Str) (sg : Scope) (g : Addr) (cd : Value) (s : Shared) (H : Hp) : Cx := cxOf C8.CX0 X.prog X.w X.K X.mg X.base Ng x sg g cd X.A X.stack s H C8.E0
end
end Z

set_option Elab.async false
set_option linter.all false
set_option maxRecDepth 100000
set_option maxHeartbeats 4000000
namespace Z
open PySem PySem.Spec PyProof.Rows L2 LamX
variable [Row]
/-! ### g(lambda: E), where g is try: [return] a() / except C as e: .. / return None -/
def mLamC (cs : List Str) (i n : Nat) (hs : List Hdl) (rt : Bool) (m : EM D) : EM D := fun e s => match m e s with
  | .ok d s' => .ok (if rt then d else .non) s'
  | .ex c f d s' => (match runH cs i c f d (List.replicate n none) s' hs with
    | .rt d2 s2 => .ok d2 s2
    | .nx _ s2 => .ok .non s2
    | _ => .no)
  | .no => .no
theorem Takes.len {X : Cx} {W : WX} (tk : Takes X W) : Takes X (fun cls d σ H => σ.length = X.N.length → W cls d σ H) := fun u s' ⟨a, B, sI, pins, σ, H, cls, d, e, I, nb, up, sky, na, os, ag, w⟩ =>
  tk u s' ⟨a, B, sI, pins, σ, H, cls, d, e, I, nb, up, sky, na, os, ag, w I.len⟩
abbrev endQ (Q : VK) : Ends := { nx := fun _ H' => Q .non H', rt := Q }
def TTL (K : PySem.W.Frag) (mg : Str → Option Value) (i n : Nat) (hs : List Hdl) (rt : Bool) : (XK → Hp → VK → Prop) → Hp → VK → Prop := fun tl H Q =>
  tl (fun cls d H' => ∀ σ', σ'.length = n → wAsM K i (fun _ _ _ _ => False) (endQ Q) (hs.map (clOf K mg i)) cls d σ' H') H (fun v H' => Q (if rt then v else .non) H')
section
variable {X : Cx} {W : WX} {cs : List Str} {i : Nat} {hs : List Hdl}
end
/-! ### what g does -/
section
variable {X : Cx} {Ng : List Str} {x a q : Str} {sg : Scope} {g : Addr} {cdg : Value} {i n : Nat} {hs : List Hdl} {nE : Str} {h₀ : ExceptHandler} {hds : List ExceptHandler} {rest : List Stmt} {p1 p2 p3 p4 p5 p6 : Pos}
end
end Z

set_option Elab.async false
set_option linter.all false
set_option maxRecDepth 100000
set_option maxHeartbeats 4000000
namespace Z
open PySem PySem.Spec PyProof.Rows L2 LamX
/-! ### the law's own call, with tables of code objects -/
section
variable [Row]
variable {P : Program} {w : World} {K : PySem.W.Frag} {mg mb : Str → Option Value} {k : Nat} {fa a : Addr} {s₁ : Shared} {vs : List Value} {ns : List Int} {F : List D → Sto → Rs D} {cs : List (Addr × Addr)}
abbrev tabO : Obj := { cls := .none, data := .fields #[] }
end
end Z

set_option Elab.async false
set_option linter.all false
set_option maxRecDepth 100000
set_option maxHeartbeats 4000000
namespace Z
open PySem PySem.Spec PyProof.Rows L2 LamX
/-! ### the head's facts where lambdas are made: code objects and their tables -/
def tabAt (K : PySem.W.Frag) (p : Str × Option Str) : Addr × Addr := match codeV K (He.fAd K p) with
  | .ref c => (match K.lookup c with
    | some ⟨_, _, .fields vs, _⟩ => (match vs.getD 11 .none with
      | .ref P => (c, P)
      | _ => (0, 0))
    | _ => (0, 0))
  | _ => (0, 0)
def hdB (vs : Array Value) (q : Addr × Addr) : Bool :=
  decide (vs[11]? = some (.ref q.2)) && (decide (vs.getD 11 .none = .ref q.2) && ((match vs.getD 18 .none with | .str _ _ => true | _ => false) && ((match vs.getD 7 .none with | .int _ _ => true | _ => false) &&
    ((match vs.getD 9 .none with | .bool _ => true | _ => false) && ((match vs.getD 10 .none with | .int _ _ => true | _ => false) && !decide (q.1 = q.2))))))
def codeHdB (K : PySem.W.Frag) (q : Addr × Addr) : Bool := match K.lookup q.1 with
  | some ⟨.type t, _, .fields vs, _⟩ => decide (t = "code") && hdB vs q
  | _ => false
def isTabB (K : PySem.W.Frag) (b : Addr) : Bool := match K.lookup b with
  | some ⟨.none, none, .fields vs, sl⟩ => decide (vs.size = 0) && decide (sl.size = 0)
  | _ => false
/-- without some objects -/
def cut (K : PySem.W.Frag) (ts : List Addr) : PySem.W.Frag := K.filter fun e => !ts.contains e.1
abbrev LL : Type := List ((Str × Option Str) × Str)
def tabsOf (K : PySem.W.Frag) (ls : LL) : List (Addr × Addr) := ls.map fun l => tabAt K l.1
def tabsQ (K : PySem.W.Frag) (ls : LL) : List (Addr × Str) := ls.map fun l => ((tabAt K l.1).2, l.2)
def cutT (K : PySem.W.Frag) (ls : LL) : PySem.W.Frag := cut K ((tabsOf K ls).map (·.2))
def tabsOkB (K : PySem.W.Frag) (ls : LL) : Bool := (ls.all fun l => codeHdB K (tabAt K l.1) && (isTabB K (tabAt K l.1).2 && decide (codeV (cutT K ls) (He.fAd (cutT K ls) l.1) = .ref (tabAt K l.1).1))) &&
  ls.all fun l => ls.all fun m => !decide ((tabAt K l.1).2 = (tabAt K m.1).2) || decide (l.2 = m.2)
def obsT (ls : LL) (chk : PySem.W.Frag → Bool) (fn : List He.DefD) (K : PySem.W.Frag) : AlZ := (tabsOkB K ls && (obsZ chk fn (cutT K ls)).1, (obsZ chk fn (cutT K ls)).2)
def obsTG (n : Nat) (ls : LL) (chk : PySem.W.Frag → Bool) (fn : List He.DefD) (g : Addr → Option Obj) : AlZ := obsT ls chk fn (He.frG g (He.asD g n))
def hookT (n : Nat) (ls : LL) (chk : PySem.W.Frag → Bool) (fn : List He.DefD) : PySem.W.Hook where
  α := AlZ
  obs := fun s => obsTG n ls chk fn s.heap.get?
  val := fun _ => valZ fn
  says := fun _ h => ∃ K : PySem.W.Frag, K.In h ∧ obsT ls chk fn K = valZ fn
  of := fun _ _ e => ⟨_, He.frG_in, e⟩
  keeps := fun _ _ _ ⟨K, hK, c⟩ k => ⟨K, PySem.W.Frag.In.keeps hK k, c⟩
/-- what the making of the lambda q in the def at p asks -/
def LamF [Row] (base : Heap) (mg : Str → Option Value) (K : PySem.W.Frag) (p : Str × Option Str) (q : Str) : Prop :=
  ∃ c P, codeV K (He.fAd K p) = .ref c ∧ TabB base mg c P ∧ (P, q) ∈ Row.tabs ∧ ∀ t ∈ Row.tabs, t.1 = P → t.2 = q
/-- a row's own run, with tables -/
abbrev rowT (P : Program) (w : World) (ts : List (Addr × Str)) : Row := ⟨P, w, ts⟩
end Z

set_option Elab.async false
set_option linter.all false
set_option maxRecDepth 100000
set_option maxHeartbeats 4000000
namespace Z
open PySem PySem.Spec PyProof.Rows L2 LamX
section
variable [Row] {X : Cx} {W : WX} {cs : List Str} {i n : Nat} {hs : List Hdl} {rt : Bool}
end
/-! ### wp -/
section
variable {cs : List Str} {i n : Nat} {hs : List Hdl} {rt : Bool} {m : EM D} {e : Ev} {s : Sto} {P : D → Sto → Prop} {E : Str → Str → D → Sto → Prop}
end
end Z

set_option Elab.async false
set_option linter.all false
set_option maxRecDepth 100000
set_option maxHeartbeats 4000000
namespace Z
open PySem PySem.Spec PyProof.Rows L2
/-! ### defaults; keywords in any order -/
variable [Row]
/-- the things at the places p -/
def pick {α : Type} (p : List Nat) (xs : List α) : List α := p.filterMap fun i => xs[i]?
section
variable {P : Program} {w : World} {K : PySem.W.Frag} {mg : Str → Option Value} {base : Heap} {k : Nat} {f : Addr} {fd : FuncData} {x qual : Str} {params : Arguments} {body : List Stmt} {scope : Scope} {dvs : List V} {kws : List (Str × V)} {N ps : List Str} {m : SM}
/-- what the default v tells as d, in any heap -/
def DfV (K : PySem.W.Frag) (d : D) (v : V) : Prop := ∀ (ρ : Nat → Addr) (n : Nat) (H : Hp), VR K ρ n H d v
def DfVs (K : PySem.W.Frag) (ds : List D) (vs : List V) : Prop := ∀ (ρ : Nat → Addr) (n : Nat) (H : Hp), VRs K ρ n H ds vs
end
/-- the address of a keyword-only default -/
def kwAt (f : Str × Option Str) (x : Str) (K : PySem.W.Frag) : Addr := match K.lookup (He.fAd K f) with
  | some ⟨_, _, .func fd, _⟩ => (match fd.kwdefaults with
    | .ref D => (match PySem.W.nsIn K D x with
      | some (some (.ref a)) => a
      | _ => 0)
    | _ => 0)
  | _ => 0
/-- an empty tuple stands at a -/
def tupNB (K : PySem.W.Frag) (a : Addr) : Bool := match K.lookup a with
  | some ⟨.type c, _, .seq its _, _⟩ => decide (c = "tuple") && decide (its.size = 0)
  | _ => false
end Z

set_option Elab.async false
set_option linter.all false
set_option maxRecDepth 100000
set_option maxHeartbeats 4000000
namespace Z
open PySem PySem.Spec PyProof.Rows L2
end Z

set_option Elab.async false
set_option linter.all false
set_option maxRecDepth 100000
set_option maxHeartbeats 4000000
namespace Z
open PySem PySem.Spec PyProof.Rows L2 TL
open PySem.PyData (strOk)
/-! ### Archive(name, *members): makes it, or raises what is due -/
def dueAr (nm : D) (ms : List MemA) : Option ErrX := (badN nm).or (match again1 [] (ms.map (·.name)) with
  | some x => some ("Twice", "name", "twice", .str x)
  | none => if 8 < ms.length then some ("TooMany", "limit", "many", .int 8) else none)
def tArchiveX (lname twice : MF) (cs csM : List Str) : SM := (sC (sE (mN lname (aC (mV 1) aN))) (sC (sA 3 (mN twice (aC (mL (iSq (mV 2)) (gN 4) tY (mFld csM "name" (mV 4)) [4]) aN))) (sC (sI (toB (m2 dNotN2 (mV 3) (mC .non))) (sRaise "Twice" "name" (aC (mV 3) aN)) sN) (sC (sI (toB (m2 dGt (mN fLen (aC (mV 2) aN)) (mC (.int 8)))) (sRaise "TooMany" "limit" (aC (mC (.int 8)) aN)) sN) (sC (sFldD cs "name" (mV 0) (mV 1)) (sFldD cs "members" (mV 0) (mV 2)))))))
/-! ### Store(*archives) -/
/-- the first key that comes a second time -/
def againK : List KeyA → List KeyA → Option KeyA
  | _, [] => none
  | seen, x :: xs => if x ∈ seen then some x else againK (seen ++ [x]) xs
def dueSt (as : List ArcA) : Option ErrX := match again1 [] (as.map (·.name)) with
  | some x => some ("Twice", "name", "twice", .str x)
  | none => (match againK [] (kS as) with
    | some k => some ("BadBody", "body", "body", .int k.2)
    | none => if 6 < as.length then some ("TooMany", "limit", "many", .int 6) else none)
def tStoreX (twice : MF) (cs csA csM : List Str) (itb : Itb) : SM := (sC (sA 2 (mN twice (aC (mL (iSq (mV 1)) (gN 4) tY (mFld csA "name" (mV 4)) [4]) aN))) (sC (sI (toB (m2 dNotN2 (mV 2) (mC .non))) (sRaise "Twice" "name" (aC (mV 2) aN)) sN) (sC (sA 3 (mN fLst aN)) (sC (sF (iSq (mV 1)) (gN 4) (sF (iOwn itb (mV 4)) (gN 5) (sF (iSq (mFld csM "defines" (mV 5))) (gT [(gN 6), (gN 7), (gN 8)]) (sC (sI (toB (m2 (dInB false) (mN fTup (aC (mV 6) (aC (mV 8) aN))) (mV 3))) (sRaise "BadBody" "body" (aC (mV 8) aN)) sN) (sE (mBM "list" (mtL lAppend) (mV 3) (aC (mN fTup (aC (mV 6) (aC (mV 8) aN))) aN))))))) (sC (sI (toB (m2 dGt (mN fLen (aC (mV 1) aN)) (mC (.int 6)))) (sRaise "TooMany" "limit" (aC (mC (.int 6)) aN)) sN) (sFldD cs "archives" (mV 0) (mV 1)))))))
end Z

set_option Elab.async false
set_option linter.all false
set_option maxRecDepth 100000
set_option maxHeartbeats 4000000
namespace Z
open PySem PySem.Spec PyProof.Rows L2 TL
open PySem.PyData (strOk)
/-! ### store | archive: puts it in, or raises what is due -/
/-! ### the frame of a law -/
theorem Eff.drop {s t u : Sto} {k : Nat} (h : Eff [] s t) (h2 : Eff [k] t u) (hk : s.length ≤ k) : Eff [] s u :=
  ⟨Nat.le_trans h.le h2.le, fun i hi _ => (h2.eq i (Nat.lt_of_lt_of_le hi h.le) (by simp; omega)).trans (h.eq i hi (by simp)), fun k hk => by simp at hk⟩
/-- so many, or two -/
def tFew : SM := (sR (mIf (toB (m2 dNe (mV 0) (mN fLst aN))) (mV 1) (mN fMin2 (aC (mV 1) (aC (mC (.int 2)) aN)))))
theorem few_gen {s : Sto} {ns : List Int} {m : Nat} (hns : lstAt s 0 = some (ns.map D.int)) : (fnM 2 2 tFew [.ref 0, .int m] s).wp fun d s' => ∃ N : Nat, d = .int N ∧ N ≤ m ∧ Eff [] s s' := by
  refine wp_of fun P hP => ?_
  unfold tFew
  rw [z_fnM (by rfl)]
  simp
  have hl := lstAt_lt hns
  have h1 : lstAt (s ++ [SO.lst []]) 0 = some (ns.map D.int) := by rw [lstAt_app hl]; exact hns
  classical
  rw [z_neL (xs := ns.map D.int) (ys := []) h1 lstAt_push (plains_iff.mpr fun d hd => by obtain ⟨i, -, rfl⟩ := List.mem_map.mp hd; rfl) rfl, blP_bl]
  by_cases h0 : ns.map D.int = []
  · rw [decide_eq_true h0]
    simp
    by_cases q : (2 : Int) < m
    · rw [if_pos q]
      exact hP _ _ ⟨2, rfl, by omega, Eff.push⟩
    · rw [if_neg q]
      exact hP _ _ ⟨m, rfl, by omega, Eff.push⟩
  · rw [decide_eq_false h0]
    exact hP _ _ ⟨m, rfl, by omega, Eff.push⟩
def tLawF (M : Int) (turn fin : SM) : SM := (sC (sF (iR1 (aC (mN fMax2 (aC (mC (.int 1)) (aC (mN fMin2 (aC (mC (.int M)) (aC (mN fLen (aC (mV 0) aN)) aN))) aN))) aN)) (gN 1) turn) fin)
structure LawFI (n : Nat) (s0 : Sto) (i : Nat) (e : Ev) (s : Sto) : Prop where
  ef : Eff [] s0 s
  ex : ∃ o r, e = some (.ref 0) :: o :: r ∧ r.length = n
theorem law_frame {M : Int} {n : Nat} {turn fin : SM} {ns : List Int} (hM : 1 ≤ M ∧ M ≤ 1000)
    (ht : ∀ (a : Nat) (r : Ev) (s : Sto), r.length = n → lstAt s 0 = some (ns.map D.int) → (turn (some (.ref 0) :: some (.int a) :: r) s).wp { nx := fun e s' => Eff [] s s' ∧ ∃ o r', e = some (.ref 0) :: o :: r' ∧ r'.length = n, rt := fun _ _ => False })
    (hf : ∀ (o : Option D) (r : Ev) (s : Sto), r.length = n → Eff [] [SO.frz (ns.map D.int)] s → (fin (some (.ref 0) :: o :: r) s).wp { nx := fun _ _ => False, rt := fun d _ => d = .bl true }) :
    ∃ s', fnM 1 (n + 2) (tLawF M turn fin) [.ref 0] [.frz (ns.map D.int)] = .ok (.bl true) s' := by
  refine ok_of_wp ?_
  refine wp_of fun P hP => ?_
  have hns : lstAt [SO.frz (ns.map D.int)] 0 = some (ns.map D.int) := lstAt_frz rfl
  rw [z_fnM (by rfl)]
  have e0 : [D.ref 0].map some ++ List.replicate (n + 2 - [D.ref 0].length) none = some (.ref 0) :: none :: List.replicate n none := by
    show some (D.ref 0) :: List.replicate (n + 1) none = _
    rw [List.replicate_succ]
  rw [e0]
  unfold tLawF
  rw [z_sCn]
  simp [hns]
  obtain ⟨N, hN, hN2⟩ : ∃ N : Nat, (if (1 : Int) < (if (ns.length : Int) < M then (ns.length : Int) else M) then (if (ns.length : Int) < M then (ns.length : Int) else M) else 1) = N ∧ (N : Int) ≤ M := by
    by_cases h5 : (ns.length : Int) < M
    · rw [if_pos h5]
      by_cases h1 : (1 : Int) < ns.length
      · rw [if_pos h1]; exact ⟨ns.length, rfl, by omega⟩
      · rw [if_neg h1]; exact ⟨1, rfl, by omega⟩
    · rw [if_neg h5]
      by_cases h1 : (1 : Int) < M
      · rw [if_pos h1]; exact ⟨M.toNat, by omega, by omega⟩
      · rw [if_neg h1]; exact ⟨1, rfl, by omega⟩
  rw [hN]
  refine ⟨by omega, ?_⟩
  rw [Int.toNat_natCast]
  refine for_it (ks := []) (s0 := [SO.frz (ns.map D.int)]) (xs := rngD 0 N) it_rng (LawFI n [SO.frz (ns.map D.int)]) (fun _ _ _ h => h.ef) ?_ ⟨Eff.refl, _, _, rfl, List.length_replicate⟩ ?_
  · rintro i d e s hdi ⟨ef, o, r, rfl, hr⟩
    obtain ⟨hi, rfl⟩ := rngD_get hdi
    rw [Int.zero_add]
    refine ⟨_, rfl, ?_⟩
    refine RS.wp_mono (ht i r s hr (ef.lst hns (by simp))) ?_ (fun _ _ h => h.elim) (fun _ _ h => h.elim) (fun _ _ h => h.elim) (fun _ _ _ _ _ h => h.elim)
    rintro e s2 ⟨ef2, h2⟩
    exact ⟨ef.trans ef2, h2⟩
  · rintro e s ⟨ef, o, r, rfl, hr⟩
    show nxt _ _ _ _
    rw [z_nxt]
    exact RS.wp_mono (hf o r s hr ef) (fun _ _ h => h.elim) (fun d s h => hP _ _ h) (fun _ _ h => h.elim) (fun _ _ h => h.elim) (fun _ _ _ _ _ h => h.elim)
/-- so many turns -/
structure TurnsI (n : Nat) (k : Nat) (s0 : Sto) (fix : Ev) (i : Nat) (e : Ev) (s : Sto) : Prop where
  ef : Eff [k] s0 s
  ex : ∃ r, e = fix ++ r ∧ r.length = n
/-! ### errors told -/
/-- how the error is told: with its field -/
def resX : Option ErrX → D
  | none => .non
  | some (_, _, l, v) => .tup [.str l, v]
end Z

set_option Elab.async false
set_option linter.all false
set_option maxRecDepth 100000
set_option maxHeartbeats 4000000
namespace Z
open PySem PySem.Spec PyProof.Rows L2 TL
open PySem.PyData (strOk)
/-! ### right members: nothing is due -/
theorem again_nd : ∀ {xs seen : List Str}, (seen ++ xs).Nodup → again1 seen xs = none
  | [], _, _ => rfl
  | x :: xs, seen, h => by
    have hx : x ∉ seen := fun q => (List.nodup_append.mp h).2.2 _ q _ List.mem_cons_self rfl
    rw [again1, if_neg hx]
    exact again_nd (by simpa using h)
def trip0 (p : DefA) : TripD := (.str p.1, .str p.2.1, .int p.2.2)
theorem nm_is {x : Str} (h : IsName x) : isNm (.str x) = true := nmB_iff.mpr h
theorem obj_name {s : Sto} {x : Str} (h : IsName x) : ObjD s (.str x) := ⟨h.ok, by have := h.len; have := len_tl x; omega⟩
end Z

set_option Elab.async false
set_option linter.all false
set_option maxRecDepth 100000
set_option maxHeartbeats 4000000
namespace Z
open PySem PySem.Spec PyProof.Rows L2 TL
open PySem.PyData (strOk)
/-! ### a list of new instances, while bags are drawn from -/
theorem Keep.ofB {ks : List Nat} {s t : Sto} (h : Eff ks s t) (hb : Bags s ks) : Keep s t := fun i c fs e => h.get e (ins_no hb e)
/-! ### repr of what is told -/
def oddInts : List Int := [-1, 1000000, 10 ^ 19, 6]
def OddI (d : D) : Prop := ∀ i, d = .int i → i.natAbs < 10 ^ 12 ∨ i ∈ oddInts
def labels : List Str := ["name", "kind", "body", "twice", "many"]
def encO : D → PyData
  | .non => .none
  | .bl b => .bool b
  | .int i => .int i
  | .str x => .str x
  | .tup ds => .tuple (encs ds)
  | .ref _ => .list []
def toldR : Option ErrX → PyData
  | none => .none
  | some (_, _, l, v) => .tuple [.str l, encO v]
end Z

set_option Elab.async false
set_option linter.all false
set_option maxRecDepth 100000
set_option maxHeartbeats 4000000
namespace Z
open PySem PySem.Spec PyProof.Rows L2
section
variable [Row] {X : Cx} {W : WX}
/-! ### x.upper() -/
def fUpper (x : D) (ds : List D) (s : Sto) : Rs D := match x, ds with
  | .str a, [] => if a.length ≤ 5592405 then .ok (.str (Txt.upper a)) s else .no
  | _, _ => .no
end
section
variable {P : D → Sto → Prop} {E : Str → Str → D → Sto → Prop} {s : Sto}
@[simp ↓] theorem z_upper {a : Str} : (fUpper (.str a) [] s).wp P E = (a.length ≤ 5592405 ∧ P (.str (Txt.upper a)) s) := by
  show (if a.length ≤ 5592405 then Rs.ok (D.str (Txt.upper a)) s else Rs.no).wp P E = _
  rw [z_iteN, z_ok]
end
end Z

set_option Elab.async false
set_option linter.all false
set_option maxRecDepth 100000
set_option maxHeartbeats 4000000
namespace Z
open PySem PySem.Spec PyProof.Rows L2 TL
open PySem.PyData (strOk)
/-! ### what is no text -/
def NoStr (s : Sto) (d : D) : Prop := ∃ t, tyN s d = some t ∧ kitB t "str" = some false
theorem NoStr.non {s : Sto} : NoStr s .non := ⟨_, rfl, kits.1.1⟩
theorem NoStr.bl {s : Sto} {b : Bool} : NoStr s (.bl b) := ⟨_, rfl, kits.1.2.1⟩
theorem NoStr.int {s : Sto} {i : Int} : NoStr s (.int i) := ⟨_, rfl, kits.1.2.2.1⟩
theorem NoStr.tup {s : Sto} {ds : List D} : NoStr s (.tup ds) := ⟨_, rfl, kits.1.2.2.2.2.1⟩
theorem NoStr.lst {s : Sto} {n : Nat} {xs : List D} (h : mlAt s n = some xs) : NoStr s (.ref n) := ⟨_, ty_ref h, kits.1.2.2.2.2.2⟩
/-! ### archive[name], store[name]: gives it, or raises -/
def tGetX (tb : Tb) (cs csI : List Str) (f er fl : Str) : SM := (sC (sI (toB (m2 (dInO true tb dNo2) (mV 1) (mV 0))) (sRaise er fl (aC (mV 1) aN)) sN) (sR (m2 dIx (mL (iSq (mFld cs f (mV 0))) (gN 2) (toB (m2 dEq (mFld csI "name" (mV 2)) (mV 1))) (mV 2) [2]) (mC (.int 0)))))
/-! ### archive - name -/
def tSub (init : MF) (tb : Tb) (cs csM csN : List Str) : SM := (sC (sA 2 (m2 (dIxO tb dNo2) (mV 0) (mV 1))) (sC (sA 3 (mL (iSq (mFld cs "members" (mV 0))) (gN 4) (toB (m2 dNe (mFld csM "name" (mV 4)) (mFld csN "name" (mV 2)))) (mV 4) [4])) (sR (mN (mkD "Archive" init) (aC (mFld cs "name" (mV 0)) (aS (mV 3) aN))))))
end Z

set_option Elab.async false
set_option linter.all false
set_option maxRecDepth 100000
set_option maxHeartbeats 4000000
namespace Z
open PySem PySem.Spec PyProof.Rows L2 TL
open PySem.PyData (strOk)
/-! ### right archives, stores: nothing is due -/
/-! ### is_name, asked of texts alone -/
def tIsNameS (letters : EM D) : SM := (sC (sI (bOr (bNot (toT (mIsi "str" (mV 0)))) (bNot (toB (mCh dLe dLe (mC (.int 1)) (mN fLen (aC (mV 0) aN)) (mC (.int 8)))))) (sR (mC (.bl false))) sN) (sR (mN (fAllAny true) (aC (mL (iSt (mV 0)) (gN 1) tY (m2 (dInB false) (mV 1) letters) [1]) aN))))
end Z

set_option Elab.async false
set_option linter.all false
set_option maxRecDepth 100000
set_option maxHeartbeats 4000000
namespace Z
open PySem PySem.Spec PyProof.Rows L2 LamX GenW
/-! ### next((elt for tg in iter if ..), None): the machine -/
/-- the generator's frame -/
abbrev gxE (X : Cx) (scope : Scope) (C : Addr) (code : Value) : Env := genEnv scope (cloFrom X.env.cells scope.names []) C code builtinsNs X.env
/-- its context, entered at s, the iterator's objects at fp -/
def gxCx (X : Cx) (s : Shared) (H : Hp) (scope : Scope) (C : Addr) (code : Value) (fp : List Addr) : Cx :=
  { X with A := (X.A.in1.in1).deeper (gxE X scope C code), s_0 := s, H_0 := H, env := gxE X scope C code, outer := X.stack, stack := gxE X scope C code :: X.stack, ex := fp, fn := fun _ => false, pn := [], xe := fun _ _ => False }
section
variable {X : Cx} {pins : List (Addr × Obj)} {σ : L2.St} {H : Hp} {s : Shared}
end
end Z

set_option Elab.async false
set_option linter.all false
set_option maxRecDepth 100000
set_option maxHeartbeats 4000000
namespace Z
open PySem PySem.Spec PyProof.Rows L2 LamX GenW
/-! ### the generator runs up to its first item -/
/-- the end: nothing was handed out -/
abbrev EFst (F : Shared → Prop) : GenEnd := fun _ _ r s₁ => ((r = .ok (.ret .none) ∨ r = .ok .next) ∧ F s₁) ∨ ∃ e, r = .error e ∧ False
/-- the first item -/
abbrev YFst (Y : Value → Shared → Prop) : Protocol := fun _ _ v s _ => Y v s
section
variable {X : Cx} {σ : L2.St} {s_0 : Shared} {H_0 : Hp} {elt tg iter : Expr} {ifs : List Expr} {scope : Scope} {pos : Pos} {C it : Addr} {code : Value} {fp : List Addr} {tn : Nat → Heap → Prop} {J : It} {vs : List Nat} {g : TG} {tt : TT} {te : TE} {W : Nat → Nat → Hp → Prop} {Q : VK} {F : Shared → Prop} {Y : Value → Shared → Prop}
end
section
variable {X : Cx}
/-- next((elt for tg in iter if ..), None) -/
def tNx (T : List (Addr × Str)) (wi : L2.TI) (g : TG) (tt : TT) (te : TE) (vs : List Nat) : TE := fun σ H Q => wi σ H fun J H1 => Tabs T H1 ∧ ∀ H2, ExtN H1 H2 → Tabs T H2 → ∃ W : Nat → Nat → Hp → Prop, (∃ m, W 0 m H2) ∧ ∀ i m H, W i m H →
  (J.stop i H ∧ Q .non H) ∨ (J.go i H ∧ ∃ Nx : Hp → Prop, (∀ H', Nx H' → ∃ m', m' < m ∧ W (i + 1) m' H') ∧ ∀ x H', J.yld i H x H' → g x (wipe σ vs) H' fun σ2 H2 => wipe σ2 vs = wipe σ vs ∧ tt σ2 H2 fun b H3 =>
    if b = true then te σ2 H3 Q else Nx H3)
end
end Z

set_option Elab.async false
set_option linter.all false
set_option maxRecDepth 100000
set_option maxHeartbeats 4000000
namespace Z
open PySem PySem.Spec PyProof.Rows L2 LamX GenW
/-! ### next((elt for tg in iter if ..), None) in the mirror -/
def nxL (j : Stp) (g : GN) (t : EM Bool) (m : EM D) : Nat → Nat → Ev → Sto → Rs D
  | 0, i, e, s => match j i s with
    | some none => .ok .non s
    | _ => .no
  | f + 1, i, e, s => match j i s with
    | none => .no
    | some none => .ok .non s
    | some (some d) => match g d e with
      | none => .no
      | some e1 => (t e1 s).nox.bind fun q s1 => if q then (m e1 s1).nox else nxL j g t m f (i + 1) e s1
def mNx (mi : EM (Nat × Stp)) (g : GN) (t : EM Bool) (m : EM D) (vs : List Nat) : EM D := fun e s => (mi e s).bind fun jt s1 => nxL jt.2 g t m jt.1 0 (wipeD e vs) s1
section
variable [Row] {X : Cx} {W : WX} {gpos pos p cp : Pos} {cj : Nat} {elt tg iter : Expr} {ifs : List Expr} {scope : Scope} {own : List (Str × Nat)} {mi : EM (Nat × Stp)} {g : GN} {is : List Nat} {t : EM Bool} {m : EM D}
end
/-! ### wp -/
section
variable {mi : EM (Nat × Stp)} {g : GN} {t : EM Bool} {m : EM D} {vs : List Nat} {e : Ev} {s : Sto} {P : D → Sto → Prop} {E : Str → Str → D → Sto → Prop}
@[simp ↓] theorem z_mNx : (mNx mi g t m vs e s).wp P E = (mi e s).wp (fun jt s1 => (nxL jt.2 g t m jt.1 0 (wipeD e vs) s1).wp P E) E := by
  unfold mNx; rw [z_bind]
variable {ks : List Nat} {s0 : Sto} {j : Stp} {N : Nat} {xs : List D}
end
end Z

set_option Elab.async false
set_option linter.all false
set_option maxRecDepth 100000
set_option maxHeartbeats 4000000
namespace Z
open PySem PySem.Spec PyProof.Rows L2
/-! ### is, is not of bools; a dict display of constants -/
def dIsB (neg : Bool) (x y : D) (s : Sto) : Rs D := match x, y with
  | .bl a, .bl b => .ok (.bl (neg ^^ decide (a = b))) s
  | _, _ => .no
def kD : Key → D
  | .inl i => .int i
  | .inr x => .str x
def mDisp (kvs : List (Key × D)) : EM D := fun _ s => .ok (.ref s.length) (s ++ [.dict false (kvs.map fun p => (kD p.1, p.2))])
section
variable [Row] {X : Cx} {W : WX}
/-- constants that are no objects -/
def cV : D → V
  | .bl b => .bl b
  | .int i => .int i
  | .str x => .str x
  | _ => .non
def cB : D → Bool
  | .bl _ => true
  | .int _ => true
  | .str _ => true
  | .non => true
  | _ => false
end
section
variable {kvs : List (Key × D)} {e : Ev} {s : Sto} {P : D → Sto → Prop} {E : Str → Str → D → Sto → Prop}
@[simp ↓] theorem z_mDisp : (mDisp kvs e s).wp P E = P (.ref s.length) (s ++ [.dict false (kvs.map fun p => (kD p.1, p.2))]) := nr rfl
@[simp ↓] theorem z_isB {neg a b : Bool} : (dIsB neg (.bl a) (.bl b) s).wp P E = P (.bl (neg ^^ decide (a = b))) s := nr rfl
end
end Z

set_option Elab.async false
set_option linter.all false
set_option maxRecDepth 100000
set_option maxHeartbeats 4000000
namespace Z
open PySem PySem.Spec PyProof.Rows L2 TL
open PySem.PyData (strOk)
/-! ### the first item that passes, told by what the items stand for; kind_of, body_of, in, first -/
section
variable {g : GN} {t : EM Bool} {m : EM D} {e : Ev} {ks : List Nat} {s0 : Sto} {j : Stp} {N : Nat} {xs : List D}
end
section
variable {cs : List Str} {s : Sto} {d : D} {m : MemA} {x : Str}
def tOfM (cs : List Str) (i : Nat) : SM := (sR (mNx (iSq (mFld cs "defines" (mV 0))) (gT [(gN 2), (gN 3), (gN 4)]) (toB (m2 dEq (mV 2) (mV 1))) (mV i) [2, 3, 4]))
/-- what a member tells of the name x -/
def ofD (m : MemA) (x : Str) (f : DefA → D) : D := ((m.defs.find? fun p => decide (p.1 = x)).map f).getD .non
/-- x in a member -/
def tContM (cs : List Str) : SM := (sR (mAnd (mIsi "str" (mV 1)) (m2 (dInB false) (mV 1) (mL (iSq (mFld cs "defines" (mV 0))) (gN 2) tY (m2 dIx (mV 2) (mC (.int 0))) [2]))))
/-- the first member that defines x -/
def tFirst (cs : List Str) (tb : Tb) : SM := (sR (mNx (iSq (mFld cs "members" (mV 0))) (gN 2) (toB (m2 (dInO false tb dNo2) (mV 1) (mV 2))) (mV 2) [2]))
end
end Z

set_option Elab.async false
set_option linter.all false
set_option maxRecDepth 100000
set_option maxHeartbeats 4000000
namespace Z
open PySem PySem.Spec PyProof.Rows L2 TL
open PySem.PyData (strOk)
/-! ### while; longer stores; a list turned -/
theorem whL_wp {t : EM Bool} {body : SM} {Q : En} (I : Nat → Ev → Sto → Prop)
    (st : ∀ m e s, I m e s → (t e s).wp (fun q s1 => if q = true then ∃ m', m = m' + 1 ∧ (body e s1).wp { nx := I m', ct := I m', bk := Q.nx, rt := Q.rt, ex := Q.ex } else Q.nx e s1) fun c f v s => Q.ex c f v e s) :
    ∀ (f m : Nat) (e : Ev) (s : Sto), m < f → I m e s → (whL t body f e s).wp Q
  | 0, m, _, _, h, _ => absurd h (Nat.not_lt_zero m)
  | f + 1, m, e, s, h, hI => by
    unfold whL
    rw [z_st]
    refine wp_mono (st m e s hI) (fun q s1 h1 => ?_) fun _ _ _ _ z => z
    cases q with
    | false => exact h1
    | true =>
      rw [if_pos rfl] at h1 ⊢
      obtain ⟨m', rfl, h2⟩ := h1
      have ih := whL_wp I st f m'
      revert h2
      cases body e s1 with
      | nx e2 s2 => exact fun z => ih e2 s2 (by omega) z
      | ct e2 s2 => exact fun z => ih e2 s2 (by omega) z
      | bk e2 s2 => exact id
      | rt d s2 => exact id
      | ex c f v e s => exact id
      | no => exact id
theorem sW_wp {t : EM Bool} {body : SM} {Q : En} {f m : Nat} {e : Ev} {s : Sto} (I : Nat → Ev → Sto → Prop)
    (st : ∀ m e s, I m e s → (t e s).wp (fun q s1 => if q = true then ∃ m', m = m' + 1 ∧ (body e s1).wp { nx := I m', ct := I m', bk := Q.nx, rt := Q.rt, ex := Q.ex } else Q.nx e s1) fun c f v s => Q.ex c f v e s) (h : m < f) (hI : I m e s) : (sW f t body e s).wp Q := whL_wp I st f m e s h hI
theorem app_at {s t : Sto} {i j : Nat} (h : i = s.length + j) : (s ++ t)[i]? = t[j]? := by
  subst h
  rw [List.getElem?_append_right (by omega), Nat.add_sub_cancel_left]
theorem Eff.app {ks : List Nat} : ∀ {t s : Sto}, Eff ks s (s ++ t)
  | [], s => by rw [List.append_nil]; exact Eff.refl
  | a :: t, s => by
    rw [show s ++ a :: t = (s ++ [a]) ++ t by simp]
    exact Eff.push.trans Eff.app
def tTurned (take : MF) : SM := (sC (sP 2 3 (aC (mN fList (aC (mV 1) aN)) (aC (mN fLst aN) aN))) (sC (sW 1000 (toB (m2 dNe (mV 2) (mN fLst aN))) (sE (mBM "list" (mtL lAppend) (mV 3) (aC (mBM "list" (mtL lPopAt) (mV 2) (aC (mN take (aC (mV 0) (aC (mN fLen (aC (mV 2) aN)) aN))) aN)) aN)))) (sR (mV 3))))
structure TuI (S : Sto) (k la lb : Nat) (xs : List D) (m : Nat) (s : Sto) : Prop where
  ef : Eff [k] S s
  ab : la ≠ lb ∧ S.length ≤ la ∧ S.length ≤ lb ∧ la ≠ k ∧ lb ≠ k
  ex : ∃ left out, mlAt s la = some left ∧ mlAt s lb = some out ∧ left.length = m ∧ (out ++ left).Perm xs
end Z

set_option Elab.async false
set_option linter.all false
set_option maxRecDepth 100000
set_option maxHeartbeats 4000000
namespace Z
open PySem PySem.Spec PyProof.Rows L2 TL
open PySem.PyData (strOk)
/-! ### live: the list is a new one -/
end Z

set_option Elab.async false
set_option linter.all false
set_option maxRecDepth 100000
set_option maxHeartbeats 4000000
namespace Z
open PySem PySem.Spec PyProof.Rows L2
variable [Row]
/-! ### properties of own classes, read -/
/-- the classes of the table have m as a property, whose getter is at level k -/
def PTab (P : Program) (w : World) (K : PySem.W.Frag) (mg : Str → Option Value) (base : Heap) (k : Nat) (tb : Tb) (m : Str) : Prop :=
  ∀ c F, tb.lookup c = some F → ∃ C p g, mg c = some (.ref C) ∧ Cls K C ∧ PropOf K C m p g ∧ FS P w K mg base k g F
section
variable {P : Program} {w : World} {K : PySem.W.Frag} {mg : Str → Option Value} {base : Heap} {j k : Nat} {tb : Tb} {m c : Str} {F : MF}
end
/-- the check of the head -/
def propB (K : PySem.W.Frag) (C : Addr) (m : Str) (g : Addr) : Bool := match PySem.W.findIn K (.ref C) m with
  | some (some (.ref p)) => decide (PySem.W.specialIn K (.ref p) "__get__" = some (some (.builtin "property.__get__"))) && (decide (PySem.W.takesIn K (.ref p) = some true) && match PySem.W.recIn K p "property" with
    | some (.ref g' :: _) => decide (g' = g)
    | _ => false)
  | _ => false
def mProp (tb : Tb) (mo : EM D) : EM D := fun e s => (mo e s).bind fun d s1 => match d with
  | .ref n => match s1[n]? with
    | some (.ins c _) => match tb.lookup c with
      | some F => (F [.ref n] s1).nox
      | none => .no
    | _ => .no
  | _ => .no
section
variable {X : Cx} {W : WX} {k : Nat} {tb : Tb} {f : Str} {pos : Pos} {e : Expr} {me : EM D}
end
section
omit [Row]
variable {P : D → Sto → Prop} {E : Str → Str → D → Sto → Prop} {e : Ev} {s : Sto} {tb : Tb} {a : EM D}
@[simp ↓] theorem z_mProp : (mProp tb a e s).wp P E = (a e s).wp (fun d s1 => refP d fun n => insP s1[n]? fun c _ => optP (tb.lookup c) fun F => (F [.ref n] s1).wp P) E := by
  unfold mProp
  rw [z_bind]
  congr 1
  funext d s1
  unfold refP
  cases d with
  | ref n =>
    dsimp only
    unfold insP
    cases s1[n]? with
    | none => rfl
    | some o =>
      cases o with
      | ins c fs =>
        dsimp only
        cases tb.lookup c with
        | none => rfl
        | some F => exact z_nox
      | _ => rfl
  | _ => rfl
end
end Z

set_option Elab.async false
set_option linter.all false
set_option maxRecDepth 100000
set_option maxHeartbeats 4000000
namespace Z
open PySem PySem.Spec PyProof.Rows L2
/-! ### d.setdefault(k, v), a dict that is no display -/
def dSetd (x y z : D) (s : Sto) : Rs D := match x, keyD y with
  | .ref n, some k => match s[n]? with
    | some (.dict false kvs) => if kvs.length < sizeLine then match getK kvs k with
        | some v => .ok v s
        | none => .ok z (s.set n (.dict false (putKd kvs y k z)))
      else .no
    | _ => .no
  | _, _ => .no
/-- the dict is evaluated first, and must be one then -/
def mSetd (mo me mf : EM D) : EM D := fun env s => (mo env s).bind fun x s1 => match x with
  | .ref n => match dctAt s1 n with
    | some _ => (me env s1).bind fun y s2 => (mf env s2).bind fun z s3 => dSetd x y z s3
    | none => .no
  | _ => .no
variable [Row]
section
variable {X : Cx} {W : WX} {apos cpos : Pos} {o e f : Expr} {mo me mf : EM D}
end
section
omit [Row]
variable {P : D → Sto → Prop} {E : Str → Str → D → Sto → Prop} {e : Ev} {s : Sto} {a b c : EM D} {n : Nat} {x y z : D}
@[simp ↓] theorem z_dSetd : (dSetd (.ref n) y z s).wp P E = optP (keyD y) fun k => dctP s[n]? fun kvs => kvs.length < sizeLine ∧ (match getK kvs k with
    | some v => P v s
    | none => P z (s.set n (.dict false (putKd kvs y k z)))) := by
  unfold dSetd optP dctP
  cases keyD y with
  | none => rfl
  | some k =>
    dsimp only
    cases s[n]? with
    | none => rfl
    | some o =>
      cases o with
      | dict t kvs =>
        cases t with
        | true => rfl
        | false =>
          dsimp only
          rw [z_iteN]
          cases getK kvs k <;> rfl
      | _ => rfl
@[simp ↓] theorem z_mSetd : (mSetd a b c e s).wp P E = (a e s).wp (fun d s1 => refP d fun n => optP (dctAt s1 n) fun _ => (b e s1).wp (fun y s2 => (c e s2).wp (fun z s3 => (dSetd (.ref n) y z s3).wp P E) E) E) E := by
  unfold mSetd
  rw [z_bind]
  congr 1
  funext d s1
  unfold refP
  cases d with
  | ref n =>
    dsimp only
    cases dctAt s1 n with
    | none => rfl
    | some kvs => simp only [z_bind, optP_some]
  | _ => rfl
end
end Z

set_option Elab.async false
set_option linter.all false
set_option maxRecDepth 100000
set_option maxHeartbeats 4000000
namespace Z
open PySem PySem.Spec PyProof.Rows L2
/-! ### dicts whose keys are tuples of ints and texts -/
def getT (kvs : List (D × D)) (k : List Key) : Option D := (kvs.find? fun p => decide (tkeyD p.1 = some k)).map (·.2)
def putTd (kvs : List (D × D)) (d : D) (k : List Key) (v : D) : List (D × D) :=
  if (kvs.any fun p => decide (tkeyD p.1 = some k)) = true then kvs.map (fun p => if tkeyD p.1 = some k then (p.1, v) else p) else kvs ++ [(d, v)]
def mDT : EM D := fun _ s => .ok (.ref s.length) (s ++ [.dict true []])
def tctAt (s : Sto) (n : Nat) : Option (List (D × D)) := match s[n]? with
  | some (.dict true kvs) => some kvs
  | _ => none
def dGetT (x y : D) (s : Sto) : Rs D := match x, tkeyD y with
  | .ref n, some k => match tctAt s n with
    | some kvs => match getT kvs k with | some v => .ok v s | none => .no
    | none => .no
  | _, _ => .no
def dInT (neg : Bool) (y x : D) (s : Sto) : Rs D := match x, tkeyD y with
  | .ref n, some k => match tctAt s n with
    | some kvs => .ok (.bl (neg ^^ (getT kvs k).isSome)) s
    | none => .no
  | _, _ => .no
/-- m[(..)] = v, the key a display -/
def sSetT (mv mo : EM D) (ms : EM (List D)) : SM := fun e s => (mv e s).st e fun v s1 => (mo e s1).st e fun x s2 => (ms e s2).st e fun ds s3 => match x, keysD ds with
  | .ref n, some k => match s3[n]? with
    | some (.dict true kvs) => if kvs.length < sizeLine ∧ ds.length ≤ sizeLine then .nx e (s3.set n (.dict true (putTd kvs (.tup ds) k v))) else .no
    | _ => .no
  | _, _ => .no
variable [Row]
section
variable {K : PySem.W.Frag} {mg : Str → Option Value} {ρ : Nat → Addr} {n : Nat} {H : Hp}
end
section
variable {X : Cx} {W : WX} {pos apos cpos pos' : Pos} {o e f i y value : Expr} {es : List Expr} {mo me mv : EM D} {ms : EM (List D)} {nl : Nat} {tpos : Pos}
end
/-! steps -/
section
omit [Row]
variable {P : D → Sto → Prop} {E : Str → Str → D → Sto → Prop} {Q : En} {e : Ev} {s : Sto} {a b c : EM D} {ms : EM (List D)} {n : Nat} {x y z : D}
@[simp ↓] theorem z_mDT : (mDT e s).wp P E = P (.ref s.length) (s ++ [.dict true []]) := nr rfl
@[simp ↓] theorem z_getT : (dGetT (.ref n) x s).wp P E = optP (tkeyD x) fun k => optP (tctAt s n) fun kvs => optP (getT kvs k) fun v => P v s := by
  unfold dGetT optP
  cases tkeyD x with
  | none => rfl
  | some k =>
    dsimp only
    cases tctAt s n with
    | none => rfl
    | some kvs =>
      dsimp only
      cases getT kvs k <;> rfl
@[simp ↓] theorem z_inT2 {neg : Bool} : (dInT neg y (.ref n) s).wp P E = optP (tkeyD y) fun k => optP (tctAt s n) fun kvs => P (.bl (neg ^^ (getT kvs k).isSome)) s := by
  unfold dInT optP
  cases tkeyD y with
  | none => rfl
  | some k =>
    dsimp only
    cases tctAt s n <;> rfl
def tctP (o : Option SO) (P : List (D × D) → Prop) : Prop := match o with
  | some (.dict true kvs) => P kvs
  | _ => False
@[simp ↓] theorem tctP_some {kvs : List (D × D)} {P : List (D × D) → Prop} : tctP (some (.dict true kvs)) P = P kvs := nr rfl
@[simp ↓] theorem z_sSetT : (sSetT a b ms e s).wp Q = (a e s).wp (fun v s1 => (b e s1).wp (fun x s2 => (ms e s2).wp (fun ds s3 => refP x fun n => optP (keysD ds) fun k => tctP s3[n]? fun kvs => (kvs.length < sizeLine ∧ ds.length ≤ sizeLine) ∧ Q.nx e (s3.set n (.dict true (putTd kvs (.tup ds) k v)))) fun c f v s => Q.ex c f v e s) fun c f v s => Q.ex c f v e s) fun c f v s => Q.ex c f v e s := by
  unfold sSetT
  rw [z_st]
  congr 1
  funext v s1
  rw [z_st]
  congr 1
  funext x s2
  rw [z_st]
  congr 1
  funext ds s3
  unfold refP
  cases x with
  | ref n =>
    dsimp only
    cases hk : keysD ds with
    | none => rfl
    | some k =>
      dsimp only [optP]
      unfold tctP
      cases s3[n]? with
      | none => rfl
      | some o =>
        cases o with
        | dict t kvs =>
          cases t with
          | false => rfl
          | true =>
            dsimp only
            by_cases q : kvs.length < sizeLine ∧ ds.length ≤ sizeLine
            · rw [if_pos q]
              simp [q]
            · rw [if_neg q]
              simp only [z_rno, eq_iff_iff, false_iff]
              exact fun h => q h.1
        | _ => rfl
  | _ => rfl
end
end Z

set_option Elab.async false
set_option linter.all false
set_option maxRecDepth 100000
set_option maxHeartbeats 4000000
namespace Z
open PySem PySem.Spec PyProof.Rows L2
/-! ### {k: v for .. in .. if ..} -/
def dcL (j : Stp) (g : GN) (t : EM Bool) (mk mv : EM D) (l : Nat) : Nat → Nat → Ev → Sto → Rs D
  | 0, i, e, s => match j i s with
    | some none => .ok (.ref l) s
    | _ => .no
  | f + 1, i, e, s => match j i s with
    | none => .no
    | some none => .ok (.ref l) s
    | some (some d) => match g d e with
      | none => .no
      | some e1 => (t e1 s).nox.bind fun q s1 => if q then (mk e1 s1).nox.bind fun y s2 => (mv e1 s2).nox.bind fun z s3 => match s3[l]? with
          | some (.dict false kvs) => match keyD y with
            | some k => if kvs.length < sizeLine then dcL j g t mk mv l f (i + 1) e (s3.set l (.dict false (putKd kvs y k z))) else .no
            | none => .no
          | _ => .no
        else dcL j g t mk mv l f (i + 1) e s1
def mDc (mi : EM (Nat × Stp)) (g : GN) (t : EM Bool) (mk mv : EM D) (vs : List Nat) : EM D := fun e s => (mi e s).bind fun jt s1 => dcL jt.2 g t mk mv s1.length jt.1 0 (wipeD e vs) (s1 ++ [.dict false []])
variable [Row]
theorem new_dct {K : PySem.W.Frag} {mg : Str → Option Value} {ρ : Nat → Addr} {s : Sto} {H : Hp} {q : Addr} (sr : SR K mg ρ s H) (hq : H q = none) :
    Ext ρ s.length H (ρup ρ s.length q) (s ++ [SO.dict false []]).length (upd H q (.dK [])) ∧ SR K mg (ρup ρ s.length q) (s ++ [.dict false []]) (upd H q (.dK [])) ∧ VR K (ρup ρ s.length q) (s ++ [SO.dict false []]).length (upd H q (.dK [])) (.ref s.length) (.ref q) := by
  have st : ∀ b o, H b = some o → upd H q (.dK []) b = some o := fun b o e => by rw [upd_ne (ne_of_none e hq)]; exact e
  rw [List.length_append]
  refine ⟨Ext.alloc st, sr.alloc hq st ⟨[], upd_same, rfl⟩, ?_⟩
  rw [VR]
  exact ⟨by simp, by rw [ρup_same]⟩
section
variable {X : Cx} {W : WX} {pos : Pos} {kx vx tg iter : Expr} {ifs : List Expr} {scope : Scope} {own : List (Str × Nat)} {mi : EM (Nat × Stp)} {g : GN} {is : List Nat} {t : EM Bool} {mk mv : EM D}
end
end Z

set_option Elab.async false
set_option linter.all false
set_option maxRecDepth 100000
set_option maxHeartbeats 4000000
namespace Z
open PySem PySem.Spec PyProof.Rows L2
/-! ### tuples whose objects have no dict: at a place of the store -/
def unP (s : Sto) (d : D) : D := match d with
  | .ref n => match s[n]? with
    | some (.ptp xs) => .tup xs
    | _ => .ref n
  | d => d
/-- read as a tuple -/
def mUn (m : EM D) : EM D := fun e s => (m e s).bind fun d s1 => .ok (unP s1 d) s1
/-- a display, tuple(a list): a place -/
def mPt (ms : EM (List D)) : EM D := fun e s => (ms e s).bind fun ds s1 => if ds.length ≤ sizeLine then .ok (.ref s1.length) (s1 ++ [.ptp ds]) else .no
def fPtuple : MF := fun ds s => match ds with
  | [.ref n] => match lstAt s n with
    | some xs => .ok (.ref s.length) (s ++ [.ptp xs])
    | none => .no
  | _ => .no
variable [Row]
section
variable {K : PySem.W.Frag} {mg : Str → Option Value} {ρ : Nat → Addr} {H : Hp}
end
section
variable {X : Cx} {W : WX} {pos : Pos} {e : Expr} {es : List Expr} {m : EM D} {ms : EM (List D)}
def tPtup (t : L2.TA) : TE := fun σ H Q => t σ H fun xs H1 => xs.length ≤ sizeLine ∧ ∀ p o, H1 p = none → o.dict = none → Q (.ref p) (upd H1 p (.frz o (.tup xs)))
end
/-! ### dict(such a tuple of pairs) -/
def pr2D : D → Option (D × D)
  | .tup [k, v] => if (keyD k).isSome then some (k, v) else none
  | _ => none
def mergeD (kvs : List (D × D)) : List (D × D) → List (D × D)
  | [] => kvs
  | p :: ps => match keyD p.1 with
    | some k => mergeD (putKd kvs p.1 k p.2) ps
    | none => mergeD kvs ps
def fDictP : MF := fun ds s => match ds with
  | [.ref n] => match s[n]? with
    | some (.ptp xs) => match xs.mapM pr2D with
      | some ps => .ok (.ref s.length) (s ++ [.dict false (mergeD [] ps)])
      | none => .no
    | _ => .no
  | _ => .no
section
variable {K : PySem.W.Frag} {mg : Str → Option Value} {ρ : Nat → Addr} {n : Nat} {H : Hp}
theorem KR.merge : ∀ {ps : List (D × D)} {us : List (Key × V)} {kvs : List (D × D)} {vs : List (Key × V)}, KR keyD K ρ n H ps us → KR keyD K ρ n H kvs vs → KR keyD K ρ n H (mergeD kvs ps) (mergeK vs us)
  | [], us, _, _, h, r => by
    have h : _ = ([] : List (Key × V)) := h
    subst h
    exact r
  | p :: ps, us0, kvs, vs, h, r => by
    obtain ⟨k, v, us, e, h1, h2, t⟩ := h
    subst e
    rw [mergeD, h1]
    show KR keyD K ρ n H (mergeD (putKd kvs p.1 k p.2) ps) (mergeK (putK vs k v) us)
    exact KR.merge t (r.put h1 h2)
end
section
variable {X : Cx} {W : WX}
theorem PlT.plain {pins : List (Addr × Obj)} {σ : L2.St} {H : Hp} {s : Shared} {a : Addr} {vs : List V} (I : Inv X pins σ H s) (h : PlT X.K H a vs) : ∃ its : List Value, Vals vs its ∧ PlainSeq "tuple" s.heap a its.toArray ∧ vs.length ≤ sizeLine := by
  rcases h with ⟨o, h, q⟩ | ⟨o, its, m, lk, hc, hn, hd, hz, hv⟩
  · obtain ⟨h1, hz, its, rv, o', h2, hc, m, hd⟩ := I.hok a _ h
    rw [h1] at h2
    cases h2
    exact ⟨its, rv, ⟨o, m, h1, hc, q, hd⟩, hz⟩
  · exact ⟨its.toList, hv, ⟨o, m, I.kIn a o lk, hc, hn, by simpa using hd⟩, by rw [hv.length]; simpa using hz⟩
end
section
omit [Row]
variable {P : D → Sto → Prop} {E : Str → Str → D → Sto → Prop} {e : Ev} {s : Sto} {m : EM D} {ms : EM (List D)} {n : Nat}
@[simp ↓] theorem z_mUn : (mUn m e s).wp P E = (m e s).wp (fun d s1 => P (unP s1 d) s1) E := by
  unfold mUn
  rw [z_bind]
  rfl
@[simp ↓] theorem z_mPt : (mPt ms e s).wp P E = (ms e s).wp (fun ds s1 => ds.length ≤ sizeLine ∧ P (.ref s1.length) (s1 ++ [.ptp ds])) E := by
  unfold mPt
  rw [z_bind]
  congr 1
  funext ds s1
  rw [z_iteN, z_ok]
@[simp ↓] theorem z_ptuple : (fPtuple [.ref n] s).wp P E = lstP (lstAt s n) fun xs => P (.ref s.length) (s ++ [.ptp xs]) := by
  unfold fPtuple lstP
  dsimp only
  cases lstAt s n <;> rfl
end
end Z

set_option Elab.async false
set_option linter.all false
set_option maxRecDepth 100000
set_option maxHeartbeats 4000000
namespace Z
open PySem PySem.Spec PyProof.Rows L2
/-! ### what is never reached; d.get(k, x) -/
def mNo : EM D := fun _ _ => .no
def mGet2 (mo me mf : EM D) : EM D := fun env s => (mo env s).bind fun x s1 => match x with
  | .ref n => (match dctAt s1 n with
    | some _ => (me env s1).bind fun y s2 => (mf env s2).bind fun z s3 => dGet2 x y z s3
    | none => .no)
  | _ => .no
variable [Row]
section
variable {X : Cx} {W : WX} {apos cpos : Pos} {o e f : Expr} {mo me mf : EM D}
theorem je_get2 (hu : X.A.units + 1 < cLine) (ho : JE X W o mo) (he : JE X W e me) (hf : JE X W f mf) (m : M2 X o "get" apos e f cpos) : JE X W (.Call (.Attribute o "get" apos) [e, f] [] cpos) (mGet2 mo me mf) := je_dget2 hu ho he hf m
end
section
omit [Row]
variable {P : D → Sto → Prop} {E : Str → Str → D → Sto → Prop} {e : Ev} {s : Sto} {a b c : EM D}
@[simp ↓] theorem z_mNo : (mNo e s).wp P E = False := nr rfl
@[simp ↓] theorem z_mGet2 : (mGet2 a b c e s).wp P E = (a e s).wp (fun d s1 => refP d fun n => optP (dctAt s1 n) fun _ => (b e s1).wp (fun y s2 => (c e s2).wp (fun z s3 => (dGet2 (.ref n) y z s3).wp P E) E) E) E := by
  unfold mGet2
  rw [z_bind]
  congr 1
  funext d s1
  unfold refP
  cases d with
  | ref n =>
    dsimp only
    cases dctAt s1 n with
    | none => rfl
    | some kvs => simp only [z_bind, optP_some]
  | _ => rfl
end
end Z

set_option Elab.async false
set_option linter.all false
set_option maxRecDepth 100000
set_option maxHeartbeats 4000000
namespace Z
open PySem PySem.Spec PyProof.Rows L2 TL
open PySem.PyData (strOk)
/-! ### links: what a link holds, plainly -/
/-- what a name is bound to: a body, or the program's own -/
abbrev Bd := Option Int
def bdD : Bd → D
  | none => .str "own"
  | some i => .int i
abbrev DefB := Str × Bd
def fdD (p : DefB) : D := .tup [.str p.1, bdD p.2]
abbrev Row3 := Str × Str × Str
structure LA where
  rows : List Row3
  found : List (Str × List DefB)
  wby : List (Str × Option (Str × Str))
def wbD : Option (Str × Str) → D
  | none => .non
  | some p => .tup [.str p.1, .str p.2]
def lrow (r : Row3) : D := .tup [.str r.1, .str r.2.1, .str r.2.2]
def lgot (r : Row3) : D × D := (.tup [.str r.1, .str r.2.1], .str r.2.2)
def rkey (r : Row3) : Str × Str := (r.1, r.2.1)
def openL (a : LA) : List Str := sortS ((a.wby.map (·.1)).filter fun x => !decide (x ∈ a.found.map (·.1)))
def dns (m : MemA) : List Str := m.defs.map (·.1)
def fitsB (a : LA) (an : Str) (m : MemA) : Bool := !decide ((an, m.name) ∈ a.rows.map rkey) && (openL a).any fun x => decide (x ∈ dns m)
def nextM (a : LA) (r : ArcA) : Option MemA := r.mems.find? (fitsB a r.name)
def causeL (a : LA) (m : MemA) : Str := ((openL a).filter fun x => decide (x ∈ dns m)).headD ""
def putF (f : List (Str × List DefB)) (x : Str) (v : DefB) : List (Str × List DefB) :=
  if x ∈ f.map (·.1) then f.map (fun q => if q.1 = x then (q.1, q.2 ++ [v]) else q) else f ++ [(x, [v])]
def putW (w : List (Str × Option (Str × Str))) (x : Str) (v : Option (Str × Str)) : List (Str × Option (Str × Str)) :=
  if x ∈ w.map (·.1) then w else w ++ [(x, v)]
def takeL (a : LA) (an : Str) (m : MemA) : LA :=
  ⟨a.rows ++ [(an, m.name, causeL a m)], m.defs.foldl (fun f d => putF f d.1 (d.2.1, some d.2.2)) a.found, m.wants.foldl (fun w x => putW w x (some (an, m.name))) a.wby⟩
/-! ### what stands for it -/
structure LkP where
  w : Nat
  r : Nat
  g : Nat
  f : Nat
  y : Nat
def lkFs (base : D) (p : LkP) : List (Str × D) := [("words", .ref p.w), ("base", base), ("rows", .ref p.r), ("got", .ref p.g), ("found", .ref p.f), ("wanted_by", .ref p.y)]
def fndD (f : List (Str × List DefB)) (ls : List Nat) : List (D × D) := (f.zip ls).map fun q => (.str q.1.1, .ref q.2)
structure IsLk (s0 s : Sto) (l : Nat) (base : D) (p : LkP) (ls : List Nat) (rows gots : List Row3) (fd : List (Str × List DefB)) (wb : List (Str × Option (Str × Str))) : Prop where
  ef : Eff [] s0 s
  ins : s[l]? = some (.ins "Link" (lkFs base p))
  rows : mlAt s p.r = some (rows.map lrow)
  got : s[p.g]? = some (.dict true (gots.map lgot))
  fnd : s[p.f]? = some (.dict false (fndD fd ls))
  len : ls.length = fd.length
  lst : ∀ (i : Nat) (q : Str × List DefB) (n : Nat), fd[i]? = some q → ls[i]? = some n → mlAt s n = some (q.2.map fdD)
  nd : ls.Nodup
  nr : p.r ∉ ls
  wby : s[p.y]? = some (.dict false (wb.map fun q => (.str q.1, wbD q.2)))
  fy : p.f ≠ p.y
  lo : s0.length ≤ l ∧ s0.length ≤ p.r ∧ s0.length ≤ p.g ∧ s0.length ≤ p.f ∧ s0.length ≤ p.y
  los : ∀ n ∈ ls, s0.length ≤ n
abbrev IsLa (s0 s : Sto) (l : Nat) (base : D) (p : LkP) (ls : List Nat) (a : LA) : Prop := IsLk s0 s l base p ls a.rows a.rows a.found a.wby
/-- sizes and names; c0: what the program has -/
structure LaOk (c0 : Nat) (a : LA) : Prop where
  c : c0 ≤ 1000 ∧ a.rows.length ≤ 1000
  fn : (a.found.map (·.1)).Nodup
  wn : (a.wby.map (·.1)).Nodup
  wok : ∀ x ∈ a.wby.map (·.1), strOk x = true
  gk : (a.rows.map rkey).Nodup
  fl : a.found.length ≤ c0 + 10 * a.rows.length
  wl : a.wby.length ≤ c0 + 10 * a.rows.length
  ll : ∀ q ∈ a.found, q.2.length ≤ c0 + 10 * a.rows.length
section
variable {s0 s t : Sto} {l : Nat} {base : D} {p : LkP} {ls : List Nat} {a : LA} {c0 : Nat}
theorem IsLk.eff {rows gots : List Row3} {fd : List (Str × List DefB)} {wb : List (Str × Option (Str × Str))} (h : IsLk s0 s l base p ls rows gots fd wb) (e : Eff [] s t) : IsLk s0 t l base p ls rows gots fd wb :=
  ⟨h.ef.trans e, e.get h.ins (by simp), e.ml h.rows (by simp), e.get h.got (by simp), e.get h.fnd (by simp), h.len, fun i q n h1 h2 => e.ml (h.lst i q n h1 h2) (by simp), h.nd, h.nr, e.get h.wby (by simp), h.fy, h.lo, h.los⟩
theorem IsLk.lt {rows gots : List Row3} {fd : List (Str × List DefB)} {wb : List (Str × Option (Str × Str))} (h : IsLk s0 s l base p ls rows gots fd wb) : l < s.length := (List.getElem?_eq_some_iff.mp h.ins).1
theorem fndD_keys : ∀ {f : List (Str × List DefB)} {ls : List Nat}, ls.length = f.length → (fndD f ls).map (·.1) = (f.map (·.1)).map D.str
  | [], ls, h => by
    have : ls = [] := List.eq_nil_of_length_eq_zero h
    subst this
    rfl
  | q :: f, n :: ls, h => by
    have := fndD_keys (f := f) (ls := ls) (by simpa using h)
    unfold fndD at this ⊢
    simpa using this
/-! ### open_names -/
def tOpen (cs : List Str) : SM := (sLkA (mFld cs "wanted_by" (mV 0)) (sR (mN fSortA (aC (mL (iKy jKey (mFld cs "wanted_by" (mV 0))) (gN 1) (toB (m2 (dInD true) (mV 1) (mFld cs "found" (mV 0)))) (mV 1) [1]) aN))))
end
end Z

set_option Elab.async false
set_option linter.all false
set_option maxRecDepth 100000
set_option maxHeartbeats 4000000
namespace Z
open PySem PySem.Spec PyProof.Rows L2 TL
open PySem.PyData (strOk)
/-! ### fits, next_member -/
/-- a member whose parts can be looked at -/
structure MemK (m : MemA) : Prop where
  ok : okM m
  dl : m.defs.length ≤ 10
  wl : m.wants.length ≤ 10
def InMem (B : D → D → Sto → Rs D) : Prop := ∀ {s : Sto} {dm : D} {m : MemA} {x : Str}, IsMem s dm m → MemK m → strOk x = true → (B (.str x) dm s).wp fun d s' => d = .bl (decide (x ∈ dns m)) ∧ Eff [] s s'
section
variable {s0 s t : Sto} {l : Nat} {base : D} {p : LkP} {ls : List Nat} {a : LA} {c0 : Nat} {tbO : Tb} {FO : MF} {cs : List Str} {B : D → D → Sto → Rs D}
def OpenOk (F : MF) : Prop := ∀ {s0 s : Sto} {l : Nat} {base : D} {p : LkP} {ls : List Nat} {a : LA} {c0 : Nat}, IsLa s0 s l base p ls a → LaOk c0 a → (F [.ref l] s).wp fun d s' => Eff [] s s' ∧ ∃ k, d = .ref k ∧ s.length ≤ k ∧ mlAt s' k = some ((openL a).map D.str)
def tFits (cs csM : List Str) (tbO : Tb) (B : D → D → Sto → Rs D) : SM := (sR (mAnd (m2 (dInT true) (mN fTup (aC (mV 1) (aC (mFld csM "name" (mV 2)) aN))) (mFld cs "got" (mV 0))) (mN (fAllAny false) (aC (mL (iSq (mMeth tbO "open_names" (mV 0) aN)) (gN 3) tY (m2 B (mV 3) (mV 2)) [3]) aN))))
def FitsOk (F : MF) : Prop := ∀ {s0 s : Sto} {l : Nat} {base : D} {p : LkP} {ls : List Nat} {a : LA} {c0 : Nat} {an : Str} {dm : D} {m : MemA}, IsLa s0 s l base p ls a → LaOk c0 a → IsMem s dm m → MemK m → (F [.ref l, .str an, dm] s).wp fun d s' => d = .bl (fitsB a an m) ∧ Eff [] s s'
def tNext (itb : Itb) (csA : List Str) (tbF : Tb) : SM := (sR (mNx (iOwn itb (mV 1)) (gN 2) (toT (mMeth tbF "fits" (mV 0) (aC (mFld csA "name" (mV 1)) (aC (mV 2) aN)))) (mV 2) [2]))
def NextOk (F : MF) : Prop := ∀ {s0 s : Sto} {l : Nat} {base : D} {p : LkP} {ls : List Nat} {a : LA} {c0 : Nat} {da : D} {r : ArcA}, IsLa s0 s l base p ls a → LaOk c0 a → IsArc s0 da r → (∀ m ∈ r.mems, MemK m) → (F [.ref l, da] s).wp fun d s' => Eff [] s s' ∧ (match nextM a r with | none => d = .non | some m => IsMem s0 d m)
end
end Z

set_option Elab.async false
set_option linter.all false
set_option maxRecDepth 100000
set_option maxHeartbeats 4000000
namespace Z
open PySem PySem.Spec PyProof.Rows L2 TL
open PySem.PyData (strOk)
/-! ### take -/
section
variable {s0 s t : Sto} {l : Nat} {base : D} {p : LkP} {ls : List Nat} {a : LA} {c0 : Nat} {rows gots : List Row3} {fd : List (Str × List DefB)} {wb : List (Str × Option (Str × Str))} {x : Str} {v : DefB}
theorem ne_kind {s : Sto} {i j : Nat} {o o' : SO} (h : s[i]? = some o) (h2 : s[j]? = some o') (hne : o ≠ o') : i ≠ j := fun e => by
  subst e
  rw [h] at h2
  exact hne (Option.some.inj h2)
theorem putF_keys : (putF fd x v).map (·.1) = if x ∈ fd.map (·.1) then fd.map (·.1) else fd.map (·.1) ++ [x] := by
  unfold putF
  split
  · rw [List.map_map]
    refine List.map_congr_left fun q _ => ?_
    dsimp only [Function.comp]
    split <;> rfl
  · rw [List.map_append]
    rfl
theorem mem_at {fd : List (Str × List DefB)} {x : Str} (h : x ∈ fd.map (·.1)) : ∃ (i : Nat) (q : Str × List DefB), fd[i]? = some q ∧ q.1 = x := by
  obtain ⟨q, hq, e⟩ := List.mem_map.mp h
  obtain ⟨i, hi, rfl⟩ := List.getElem_of_mem hq
  exact ⟨i, _, List.getElem?_eq_getElem hi, e⟩
theorem fndD_at {i n : Nat} {q : Str × List DefB} (hi : fd[i]? = some q) (hn : ls[i]? = some n) : (fndD fd ls)[i]? = some (.str q.1, .ref n) := by
  unfold fndD
  rw [List.getElem?_map, (List.getElem?_zip_eq_some (z := (q, n))).mpr ⟨hi, hn⟩]
  rfl
end
end Z

set_option Elab.async false
set_option linter.all false
set_option maxRecDepth 100000
set_option maxHeartbeats 4000000
namespace Z
open PySem PySem.Spec PyProof.Rows L2 TL
open PySem.PyData (strOk)
section
variable {s0 s t : Sto} {l : Nat} {base : D} {p : LkP} {ls : List Nat} {a : LA} {c0 : Nat} {rows gots : List Row3} {fd : List (Str × List DefB)} {wb : List (Str × Option (Str × Str))} {x : Str} {v : DefB}
theorem putW_keys {u : Option (Str × Str)} : (putW wb x u).map (·.1) = if x ∈ wb.map (·.1) then wb.map (·.1) else wb.map (·.1) ++ [x] := by
  unfold putW
  split
  · rfl
  · rw [List.map_append]; rfl
/-! ### what stays of LaOk -/
theorem fold_keys : ∀ (ds : List DefA) (fd : List (Str × List DefB)), (fd.map (·.1)).Nodup → ((ds.foldl (fun f d => putF f d.1 (d.2.1, some d.2.2)) fd).map (·.1)).Nodup ∧ (ds.foldl (fun f d => putF f d.1 (d.2.1, some d.2.2)) fd).length ≤ fd.length + ds.length ∧ ∀ B, (∀ q ∈ fd, q.2.length ≤ B) → 0 < B + ds.length → ∀ q ∈ ds.foldl (fun f d => putF f d.1 (d.2.1, some d.2.2)) fd, q.2.length ≤ B + ds.length
  | [], fd, h => ⟨h, Nat.le_refl _, fun B hB _ => hB⟩
  | d :: ds, fd, h => by
    have h1 : ((putF fd d.1 (d.2.1, some d.2.2)).map (·.1)).Nodup := by
      rw [putF_keys]
      split
      · exact h
      · rename_i hn
        rw [List.nodup_append]
        exact ⟨h, by simp, fun a ha b hb e => by simp at hb; subst hb; subst e; exact hn ha⟩
    have h2 : (putF fd d.1 (d.2.1, some d.2.2)).length ≤ fd.length + 1 := by
      unfold putF
      split <;> simp
    obtain ⟨k1, k2, k3⟩ := fold_keys ds _ h1
    refine ⟨k1, by simp only [List.foldl_cons, List.length_cons] at *; omega, fun B hB hpos q hq => ?_⟩
    have hB1 : ∀ q ∈ putF fd d.1 (d.2.1, some d.2.2), q.2.length ≤ B + 1 := fun q hq => by
      unfold putF at hq
      split at hq
      · obtain ⟨r, hr, rfl⟩ := List.mem_map.mp hq
        have := hB r hr
        split
        · simp; omega
        · omega
      · rcases List.mem_append.mp hq with hq | hq
        · have := hB q hq; omega
        · simp at hq
          subst hq
          simp
    have := k3 (B + 1) hB1 (by omega) q hq
    rw [List.length_cons]
    omega
theorem foldw_keys (u : Option (Str × Str)) : ∀ (ws : List Str) (wb : List (Str × Option (Str × Str))), (wb.map (·.1)).Nodup → ((ws.foldl (fun w x => putW w x u) wb).map (·.1)).Nodup ∧ (ws.foldl (fun w x => putW w x u) wb).length ≤ wb.length + ws.length ∧ ∀ y ∈ (ws.foldl (fun w x => putW w x u) wb).map (·.1), y ∈ wb.map (·.1) ∨ y ∈ ws
  | [], wb, h => ⟨h, Nat.le_refl _, fun y hy => .inl hy⟩
  | x :: ws, wb, h => by
    have h1 : ((putW wb x u).map (·.1)).Nodup := by
      rw [putW_keys]
      split
      · exact h
      · rename_i hn
        rw [List.nodup_append]
        exact ⟨h, by simp, fun a ha b hb e => by simp at hb; subst hb; subst e; exact hn ha⟩
    have h2 : (putW wb x u).length ≤ wb.length + 1 := by
      unfold putW
      split <;> simp
    obtain ⟨k1, k2, k3⟩ := foldw_keys u ws _ h1
    refine ⟨k1, by simp only [List.foldl_cons, List.length_cons] at *; omega, fun y hy => ?_⟩
    rcases k3 y hy with hy | hy
    · rw [putW_keys] at hy
      split at hy
      · exact .inl hy
      · rcases List.mem_append.mp hy with hy | hy
        · exact .inl hy
        · simp at hy
          subst hy
          exact .inr (by simp)
    · exact .inr (by simp [hy])
theorem LaOk.take (o : LaOk c0 a) {an : Str} {m : MemA} (k : MemK m) (hf : fitsB a an m = true) (hl : a.rows.length < 1000) : LaOk c0 (takeL a an m) := by
  have hn : (an, m.name) ∉ a.rows.map rkey := by
    unfold fitsB at hf
    rw [Bool.and_eq_true, Bool.not_eq_true', decide_eq_false_iff_not] at hf
    exact hf.1
  obtain ⟨f1, f2, f3⟩ := fold_keys m.defs a.found o.fn
  obtain ⟨w1, w2, w3⟩ := foldw_keys (some (an, m.name)) m.wants a.wby o.wn
  have hd := k.dl
  have hw := k.wl
  have ofl := o.fl
  have owl := o.wl
  have oc := o.c
  have rl : (takeL a an m).rows.length = a.rows.length + 1 := by
    unfold takeL
    rw [List.length_append]
    rfl
  refine ⟨⟨oc.1, by rw [rl]; omega⟩, f1, w1, fun y hy => ?_, ?_, ?_, ?_, fun q hq => ?_⟩
  · rcases w3 y hy with hy | hy
    · exact o.wok y hy
    · exact k.ok.2.2 y hy
  · unfold takeL
    dsimp only
    rw [List.map_append, List.nodup_append]
    refine ⟨o.gk, by simp, fun x hx y hy e => ?_⟩
    simp at hy
    subst hy
    subst e
    exact hn hx
  · rw [rl]
    have : (takeL a an m).found.length ≤ a.found.length + m.defs.length := f2
    omega
  · rw [rl]
    have : (takeL a an m).wby.length ≤ a.wby.length + m.wants.length := w2
    omega
  · rw [rl]
    by_cases h0 : 0 < c0 + 10 * a.rows.length + m.defs.length
    · have := f3 (c0 + 10 * a.rows.length) o.ll h0 q hq
      omega
    · have h1 : a.found.length = 0 := by omega
      have h2 : m.defs.length = 0 := by omega
      have h3 : (takeL a an m).found = [] := by
        show m.defs.foldl _ a.found = []
        rw [List.eq_nil_of_length_eq_zero h2, List.eq_nil_of_length_eq_zero h1]
        rfl
      rw [h3] at hq
      cases hq
/-! ### take -/
def tTake (cs csM : List Str) (tbO : Tb) (B : D → D → Sto → Rs D) : SM := (sC (sA 3 (m2 dIx (mL (iSq (mMeth tbO "open_names" (mV 0) aN)) (gN 8) (toB (m2 B (mV 8) (mV 2))) (mV 8) [8]) (mC (.int 0)))) (sC (sE (mBM "list" (mtL lAppend) (mFld cs "rows" (mV 0)) (aC (mN fTup (aC (mV 1) (aC (mFld csM "name" (mV 2)) (aC (mV 3) aN)))) aN))) (sC (sSetT (mV 3) (mFld cs "got" (mV 0)) (aC (mV 1) (aC (mFld csM "name" (mV 2)) aN))) (sC (sF (iSq (mFld csM "defines" (mV 2))) (gT [(gN 5), (gN 6), (gN 7)]) (sE (mBM "list" (mtL lAppend) (mSetd (mFld cs "found" (mV 0)) (mV 5) (mN fLst aN)) (aC (mN fTup (aC (mV 6) (aC (mV 7) aN))) aN)))) (sF (iSq (mFld csM "wants" (mV 2))) (gN 4) (sE (mSetd (mFld cs "wanted_by" (mV 0)) (mV 4) (mN fTup (aC (mV 1) (aC (mFld csM "name" (mV 2)) aN))))))))))
structure TkI (s0 : Sto) (l : Nat) (base : D) (p : LkP) (rows : List Row3) (an : Str) (dm : D) (cause : Str) (fd : List (Str × List DefB)) (wb : List (Str × Option (Str × Str))) (e : Ev) (s : Sto) : Prop where
  lk : ∃ ls, IsLk s0 s l base p ls rows rows fd wb
  ev : ∃ o4 o5 o6 o7 o8, e = [some (.ref l), some (.str an), some dm, some (.str cause), o4, o5, o6, o7, o8]
end
end Z

set_option Elab.async false
set_option linter.all false
set_option maxRecDepth 100000
set_option maxHeartbeats 4000000
namespace Z
open PySem PySem.Spec PyProof.Rows L2 TL
open PySem.PyData (strOk)
/-! ### search, search_all: plainly -/
def leftL (a : LA) (r : ArcA) : Nat := (r.mems.filter fun m => !decide ((r.name, m.name) ∈ a.rows.map rkey)).length
def searchN (r : ArcA) : Nat → LA → LA
  | 0, a => a
  | n + 1, a => match nextM a r with
    | none => a
    | some m => searchN r n (takeL a r.name m)
def searchA (a : LA) (r : ArcA) : LA := searchN r (leftL a r) a
def arcOf (as : List ArcA) (x : Str) : Option ArcA := as.find? fun r => decide (r.name = x)
def roundA (as : List ArcA) (names : List Str) (a : LA) : LA := names.foldl (fun a x => match arcOf as x with | some r => searchA a r | none => a) a
def memKeys (as : List ArcA) : List (Str × Str) := as.flatMap fun r => r.mems.map fun m => (r.name, m.name)
def groupN (as : List ArcA) (names : List Str) : Nat → LA → LA
  | 0, a => a
  | n + 1, a => if (roundA as names a).rows.length = a.rows.length then roundA as names a else groupN as names n (roundA as names a)
def groupA (as : List ArcA) (names : List Str) (a : LA) : LA := groupN as names ((memKeys as).length + 1 - a.rows.length) a
structure StoK (as : List ArcA) : Prop where
  nd : (as.map (·.name)).Nodup
  ok : ∀ r ∈ as, strOk r.name = true
  len : as.length ≤ 100
  ml : ∀ r ∈ as, r.mems.length ≤ 100
  mks : ∀ r ∈ as, ∀ m ∈ r.mems, MemK m
  tot : (memKeys as).length ≤ 900
theorem nextM_some {a : LA} {r : ArcA} {m : MemA} (h : nextM a r = some m) : m ∈ r.mems ∧ fitsB a r.name m = true := ⟨List.mem_of_find?_eq_some h, List.find?_some h⟩
theorem fits_new {a : LA} {an : Str} {m : MemA} (h : fitsB a an m = true) : (an, m.name) ∉ a.rows.map rkey := by
  unfold fitsB at h
  rw [Bool.and_eq_true, Bool.not_eq_true', decide_eq_false_iff_not] at h
  exact h.1
theorem take_rows {a : LA} {an : Str} {m : MemA} : (takeL a an m).rows = a.rows ++ [(an, m.name, causeL a m)] := rfl
theorem left_take {a : LA} {r : ArcA} {m : MemA} (h : nextM a r = some m) : leftL (takeL a r.name m) r < leftL a r := by
  obtain ⟨hm, hf⟩ := nextM_some h
  have hn := fits_new hf
  unfold leftL
  rw [take_rows, List.map_append]
  have sub : ∀ x : MemA, (!decide ((r.name, x.name) ∈ a.rows.map rkey ++ [(r.name, m.name, causeL a m)].map rkey)) = true → (!decide ((r.name, x.name) ∈ a.rows.map rkey)) = true := fun x hx => by
    rw [Bool.not_eq_true', decide_eq_false_iff_not] at hx ⊢
    exact fun z => hx (List.mem_append_left _ z)
  have key : ∀ ms : List MemA, m ∈ ms → (ms.filter fun x => !decide ((r.name, x.name) ∈ a.rows.map rkey ++ [(r.name, m.name, causeL a m)].map rkey)).length < (ms.filter fun x => !decide ((r.name, x.name) ∈ a.rows.map rkey)).length := by
    intro ms
    have le : ∀ ms : List MemA, (ms.filter fun x => !decide ((r.name, x.name) ∈ a.rows.map rkey ++ [(r.name, m.name, causeL a m)].map rkey)).length ≤ (ms.filter fun x => !decide ((r.name, x.name) ∈ a.rows.map rkey)).length := fun ms => by
      induction ms with
      | nil => exact Nat.le_refl _
      | cons x ms ih =>
        rw [List.filter_cons, List.filter_cons]
        split
        · rename_i hx
          rw [if_pos (sub x hx), List.length_cons, List.length_cons]
          omega
        · split
          · rw [List.length_cons]; omega
          · exact ih
    induction ms with
    | nil => intro h; cases h
    | cons x ms ih =>
      intro hx
      rcases List.mem_cons.mp hx with rfl | hx
      · rw [List.filter_cons_of_neg (by simp [rkey]), List.filter_cons_of_pos (by simpa using hn), List.length_cons]
        have := le ms
        omega
      · have := ih hx
        rw [List.filter_cons, List.filter_cons]
        split
        · rename_i hx
          rw [if_pos (sub x hx), List.length_cons, List.length_cons]
          omega
        · split
          · rw [List.length_cons]; omega
          · exact this
  exact key r.mems hm
theorem left_zero {a : LA} {r : ArcA} (h : leftL a r = 0) : nextM a r = none := by
  cases q : nextM a r with
  | none => rfl
  | some m => have := left_take q; omega
theorem searchN_more {r : ArcA} : ∀ (n k : Nat) (a : LA), leftL a r ≤ n → leftL a r ≤ k → searchN r n a = searchN r k a
  | 0, k, a, h, h2 => by
    have hz := left_zero (a := a) (r := r) (by omega)
    cases k with
    | zero => rfl
    | succ k => rw [searchN, searchN, hz]
  | n + 1, 0, a, h, h2 => by
    have hz := left_zero (a := a) (r := r) (by omega)
    rw [searchN, searchN, hz]
  | n + 1, k + 1, a, h, h2 => by
    rw [searchN, searchN]
    cases q : nextM a r with
    | none => rfl
    | some m =>
      have := left_take q
      exact searchN_more n k _ (by omega) (by omega)
theorem searchA_none {a : LA} {r : ArcA} (h : nextM a r = none) : searchA a r = a := by
  unfold searchA
  cases leftL a r with
  | zero => rfl
  | succ n => rw [searchN, h]
theorem searchA_some {a : LA} {r : ArcA} {m : MemA} (h : nextM a r = some m) : searchA a r = searchA (takeL a r.name m) r := by
  have hlt := left_take h
  unfold searchA
  obtain ⟨k, hk⟩ : ∃ k, leftL a r = k + 1 := ⟨leftL a r - 1, by omega⟩
  rw [hk, searchN, h]
  exact searchN_more k _ _ (by omega) (Nat.le_refl _)
/-- what searching keeps -/
theorem search_ind {r : ArcA} (I : LA → Prop) (st : ∀ a m, nextM a r = some m → I a → I (takeL a r.name m)) : ∀ a : LA, I a → I (searchA a r) := by
  have main : ∀ n a, I a → I (searchN r n a) := by
    intro n
    induction n with
    | zero => exact fun a h => h
    | succ n ih =>
      intro a h
      rw [searchN]
      cases q : nextM a r with
      | none => exact h
      | some m => exact ih _ (st a m q h)
  exact fun a h => main _ a h
theorem round_ind {as : List ArcA} (I : LA → Prop) (st : ∀ r ∈ as, ∀ a m, nextM a r = some m → I a → I (takeL a r.name m)) : ∀ (names : List Str) (a : LA), I a → I (roundA as names a)
  | [], a, h => h
  | x :: names, a, h => by
    unfold roundA
    rw [List.foldl_cons]
    refine round_ind I st names _ ?_
    cases q : arcOf as x with
    | none => exact h
    | some r => exact search_ind I (st r (List.mem_of_find?_eq_some q)) a h
theorem group_ind {as : List ArcA} (I : LA → Prop) (st : ∀ r ∈ as, ∀ a m, nextM a r = some m → I a → I (takeL a r.name m)) (names : List Str) (a : LA) (h : I a) : I (groupA as names a) := by
  have main : ∀ n a, I a → I (groupN as names n a) := by
    intro n
    induction n with
    | zero => exact fun a h => h
    | succ n ih =>
      intro a h
      have h1 := round_ind I st names a h
      rw [groupN]
      split
      · exact h1
      · exact ih _ h1
  exact main _ a h
/-- the rows tell members of the store, each once -/
structure RowsOk (as : List ArcA) (a : LA) : Prop where
  nd : (a.rows.map rkey).Nodup
  sub : ∀ k ∈ a.rows.map rkey, k ∈ memKeys as
theorem nodup_len {α : Type} [DecidableEq α] : ∀ {xs ys : List α}, xs.Nodup → (∀ x ∈ xs, x ∈ ys) → xs.length ≤ ys.length
  | [], ys, _, _ => Nat.zero_le _
  | x :: xs, ys, h, hs => by
    rw [List.nodup_cons] at h
    have hx := hs x (by simp)
    have h1 := nodup_len (xs := xs) (ys := ys.erase x) h.2 fun y hy => (List.mem_erase_of_ne (fun e => h.1 (by rw [← e]; exact hy))).mpr (hs y (by simp [hy]))
    rw [List.length_erase_of_mem hx] at h1
    have : 0 < ys.length := List.length_pos_of_mem hx
    rw [List.length_cons]
    omega
theorem RowsOk.len {as : List ArcA} {a : LA} (h : RowsOk as a) : a.rows.length ≤ (memKeys as).length := by
  have := nodup_len h.nd h.sub
  rwa [List.length_map] at this
theorem RowsOk.take {as : List ArcA} {a : LA} {r : ArcA} {m : MemA} (h : RowsOk as a) (hr : r ∈ as) (q : nextM a r = some m) : RowsOk as (takeL a r.name m) := by
  obtain ⟨hm, hf⟩ := nextM_some q
  have hn := fits_new hf
  refine ⟨?_, fun k hk => ?_⟩
  · rw [take_rows, List.map_append, List.nodup_append]
    refine ⟨h.nd, by simp, fun x hx y hy e => ?_⟩
    simp at hy
    subst hy
    subst e
    exact hn hx
  · rw [take_rows, List.map_append] at hk
    rcases List.mem_append.mp hk with hk | hk
    · exact h.sub k hk
    · simp at hk
      subst hk
      exact List.mem_flatMap.mpr ⟨r, hr, List.mem_map.mpr ⟨m, hm, rfl⟩⟩
end Z

set_option Elab.async false
set_option linter.all false
set_option maxRecDepth 100000
set_option maxHeartbeats 4000000
namespace Z
open PySem PySem.Spec PyProof.Rows L2 TL
open PySem.PyData (strOk)
/-! ### search, search_all: the code -/
section
variable {s0 s t : Sto} {l : Nat} {base : D} {p : LkP} {ls : List Nat} {a : LA} {c0 : Nat}
def TakeMOk (F : MF) : Prop := ∀ {s0 s : Sto} {l : Nat} {base : D} {p : LkP} {ls : List Nat} {a : LA} {c0 : Nat} {an : Str} {dm : D} {m : MemA}, IsLa s0 s l base p ls a → LaOk c0 a → IsMem s0 dm m → MemK m → fitsB a an m = true → a.rows.length < 1000 → (F [.ref l, .str an, dm] s).wp fun d s' => d = .non ∧ ∃ ls', IsLa s0 s' l base p ls' (takeL a an m)
def tSearch (csA : List Str) (tbN tbT : Tb) : SM := (sC (sA 2 (mMeth tbN "next_member" (mV 0) (aC (mV 1) aN))) (sW 1000 (toB (m2 dNotN2 (mV 2) (mC .non))) (sC (sE (mMeth tbT "take" (mV 0) (aC (mFld csA "name" (mV 1)) (aC (mV 2) aN)))) (sA 2 (mMeth tbN "next_member" (mV 0) (aC (mV 1) aN))))))
structure SeI (s0 : Sto) (l : Nat) (base : D) (p : LkP) (as : List ArcA) (c0 : Nat) (a : LA) (r : ArcA) (da : D) (k : Nat) (e : Ev) (s : Sto) : Prop where
  ex : ∃ ls b d, IsLa s0 s l base p ls b ∧ LaOk c0 b ∧ RowsOk as b ∧ leftL b r ≤ k ∧ searchA b r = searchA a r ∧ e = [some (.ref l), some da, some d] ∧ (match nextM b r with | none => d = .non | some m => IsMem s0 d m)
def SearchOk (F : MF) : Prop := ∀ {s0 s : Sto} {l : Nat} {base : D} {p : LkP} {ls : List Nat} {a : LA} {c0 : Nat} {as : List ArcA} {da : D} {r : ArcA}, IsLa s0 s l base p ls a → LaOk c0 a → StoK as → RowsOk as a → r ∈ as → IsArc s0 da r →
  (F [.ref l, da] s).wp fun d s' => d = .non ∧ ∃ ls', IsLa s0 s' l base p ls' (searchA a r) ∧ LaOk c0 (searchA a r) ∧ RowsOk as (searchA a r)
/-- store[name], told at the world of old -/
def GetS0 (F : MF) : Prop := ∀ {s0 s : Sto} {d : D} {as : List ArcA} {r : ArcA}, Eff [] s0 s → IsSto s0 d as → StoK as → r ∈ as → (F [d, .str r.name] s).wp fun d' s' => IsArc s0 d' r ∧ Eff [] s s'
def tGet0 (tb : Tb) (cs csI : List Str) (st : SM) : SM := (sC (sI (toB (m2 (dInO true tb dNo2) (mV 1) (mV 0))) st sN) (sR (m2 dIx (mL (iSq (mFld cs "archives" (mV 0))) (gN 2) (toB (m2 dEq (mFld csI "name" (mV 2)) (mV 1))) (mV 2) [2]) (mC (.int 0)))))
/-- a walk over a name's tuple, however it is typed -/
def WalkT (i : Nat) (it : EM (Nat × Stp)) : Prop := ∀ {e : Ev} {s : Sto} {xs : List D}, e[i]? = some (some (.tup xs)) → it e s = .ok (xs.length, jTup xs) s
def tAll (cs : List Str) (it : EM (Nat × Stp)) (tbS tbG : Tb) : SM := (sC (sA 2 (m1 dNeg (mC (.int 1)))) (sW 1000 (toB (m2 dNe (mV 2) (mN fLen (aC (mFld cs "rows" (mV 0)) aN)))) (sC (sA 2 (mN fLen (aC (mFld cs "rows" (mV 0)) aN))) (sF it (gN 3) (sE (mMeth tbS "search" (mV 0) (aC (m2 (dIxO tbG dNo2) (mFld cs "base" (mV 0)) (mV 3)) aN)))))))
/-- the number that is kept from the last round -/
structure GrI (s0 : Sto) (l : Nat) (base : D) (p : LkP) (as : List ArcA) (c0 : Nat) (names : List Str) (a : LA) (k : Nat) (e : Ev) (s : Sto) : Prop where
  ex : ∃ ls b i o, IsLa s0 s l base p ls b ∧ LaOk c0 b ∧ RowsOk as b ∧ e = [some (.ref l), some (.tup (names.map D.str)), some (.int i), o] ∧
    ((i = b.rows.length ∧ b = groupA as names a) ∨ (i ≠ b.rows.length ∧ (memKeys as).length + 1 - b.rows.length ≤ k ∧ groupA as names b = groupA as names a ∧ i < b.rows.length))
structure RdI (s0 : Sto) (l : Nat) (base : D) (p : LkP) (as : List ArcA) (c0 : Nat) (names : List Str) (b : LA) (e : Ev) (i : Nat) (e' : Ev) (s : Sto) : Prop where
  ex : ∃ ls o, IsLa s0 s l base p ls (roundA as (names.take i) b) ∧ LaOk c0 (roundA as (names.take i) b) ∧ RowsOk as (roundA as (names.take i) b) ∧ e' = e.set 3 o
theorem groupN_more {as : List ArcA} {names : List Str} : ∀ (n k : Nat) (a : LA), RowsOk as a → (∀ b, RowsOk as b → RowsOk as (roundA as names b)) → (∀ b, b.rows.length ≤ (roundA as names b).rows.length) → (memKeys as).length + 1 - a.rows.length ≤ n → (memKeys as).length + 1 - a.rows.length ≤ k → groupN as names n a = groupN as names k a
  | 0, _, a, R, _, _, h, _ => by have := R.len; omega
  | _ + 1, 0, a, R, _, _, _, h => by have := R.len; omega
  | n + 1, k + 1, a, R, st, mo, h1, h2 => by
    rw [groupN, groupN]
    split
    · rfl
    · rename_i hne
      have := mo a
      have := (st a R).len
      exact groupN_more n k _ (st a R) st mo (by omega) (by omega)
theorem groupA_step {as : List ArcA} {names : List Str} {a : LA} (R : RowsOk as a) (st : ∀ b, RowsOk as b → RowsOk as (roundA as names b)) (mo : ∀ b, b.rows.length ≤ (roundA as names b).rows.length) :
    groupA as names a = if (roundA as names a).rows.length = a.rows.length then roundA as names a else groupA as names (roundA as names a) := by
  have := R.len
  unfold groupA
  obtain ⟨k, hk⟩ : ∃ k, (memKeys as).length + 1 - a.rows.length = k + 1 := ⟨(memKeys as).length - a.rows.length, by omega⟩
  rw [hk, groupN]
  split
  · rfl
  · rename_i hne
    have h1 := mo a
    have h2 := (st a R).len
    exact groupN_more k _ _ (st a R) st mo (by omega) (Nat.le_refl _)
theorem round_rows {as : List ArcA} {names : List Str} : ∀ b, RowsOk as b → RowsOk as (roundA as names b) := fun b R => round_ind (fun a => RowsOk as a) (fun r hr a m q h => h.take hr q) names b R
theorem round_mono {as : List ArcA} {names : List Str} : ∀ b : LA, b.rows.length ≤ (roundA as names b).rows.length := fun b => round_ind (as := as) (fun a => b.rows.length ≤ a.rows.length) (fun r hr a m q h => by rw [take_rows, List.length_append]; omega) names b (Nat.le_refl _)
def GroupOk (F : MF) : Prop := ∀ {s0 s : Sto} {l : Nat} {base : D} {p : LkP} {ls : List Nat} {a : LA} {c0 : Nat} {as : List ArcA} {names : List Str}, IsLa s0 s l base p ls a → LaOk c0 a → StoK as → RowsOk as a → IsSto s0 base as → (∀ x ∈ names, x ∈ as.map (·.name)) →
  (F [.ref l, .tup (names.map D.str)] s).wp fun d s' => d = .non ∧ ∃ ls', IsLa s0 s' l base p ls' (groupA as names a) ∧ LaOk c0 (groupA as names a) ∧ RowsOk as (groupA as names a)
end
end Z

set_option Elab.async false
set_option linter.all false
set_option maxRecDepth 100000
set_option maxHeartbeats 4000000
namespace Z
open PySem PySem.Spec PyProof.Rows L2
/-! ### enumerate(a tuple) -/
def enT (xs : List D) : List D := xs.mapIdx fun i d => .tup [.int i, d]
def iEnT (ms : EM (List D)) : EM (Nat × Stp) := fun e s => (ms e s).bind fun ds s1 => match ds with
  | [.tup xs] => .ok (xs.length, jTup (enT xs)) s1
  | _ => .no
theorem new_enumB {v : Value} {o : Obj} {HB : Heap → Prop} (B : Begins v o HB) :
    Meets (Builtin.«enumerate.__new__» ⟨[.type "enumerate", v], []⟩) (fun _ R s => HB s.heap ∧ R (.ok (.ret (.ref (s.heap.push o).objs.size))) { s with heap := (s.heap.push o).push { cls := .type "enumerate", data := .fields #[.none, .bool false, .ref s.heap.objs.size, rawInt 0, .none, .none] } }) :=
  .of_wp fun prog w A R s hs => by
    obtain ⟨hp, gs, dr, tk, os⟩ := s
    obtain ⟨hb, hr⟩ := hs
    have sub := sub_enumerate
    have go : ∀ {A' : Around} {E : Value → Shared → Prop} {Q : Value → Shared → Prop}, Q (.ref hp.objs.size) ⟨hp.push o, gs, dr, tk, os⟩ → wpAny (model prog w) A' (pyIter v) Q E ⟨hp, gs, dr, tk, os⟩ := fun z => B.iter prog w _ _ ⟨hp, gs, dr, tk, os⟩ _ hb z
    wp_walk using go
    refine wpAny_stack_any fun st => wpAny_pure ?_
    split
    · rename_i y _ _ _ _ _
      cases (y == Value.type "enumerate") <;> (wp_walk using go; exact ⟨_, rfl, hr⟩)
    · wp_walk using go
      exact ⟨_, rfl, hr⟩
section
variable {prog : Program} {w : World} {A : Around} {E : Value → Shared → Prop} {s : Shared}
theorem enum_beginsB {v : Value} {o : Obj} {HB : Heap → Prop} {Q : Value → Shared → Prop} (B : Begins v o HB) (hb : HB s.heap)
    (hq : ∀ h2, IsEnum h2 (s.heap.objs.size + 1) s.heap.objs.size 0 .none → h2.get? s.heap.objs.size = some o → (∀ b u, s.heap.get? b = some u → h2.get? b = some u) → Q (.ref (s.heap.objs.size + 1)) { s with heap := h2 }) :
    wpAny (model prog w) A (call (.type "enumerate") [v]) Q E s := by
  refine callType_new F.called_enumerate (by decide) (F.typeCall_enumerate_1 _) (F.newCall_enumerate_1 _) (fun obj => F.args_object_init_2 obj _) F.entry_enumerate_new (new_enumB B) ⟨hb, ?_⟩
  have hz : (s.heap.push o).objs.size = s.heap.objs.size + 1 := Heap.size_push ..
  show _ ∧ _
  rw [hz]
  have en : IsEnum ((s.heap.push o).push { cls := .type "enumerate", data := .fields #[.none, .bool false, .ref s.heap.objs.size, rawInt 0, .none, .none] }) (s.heap.objs.size + 1) s.heap.objs.size 0 .none := by
    have top := Heap.get?_push_size (s.heap.push o) (o := { cls := .type "enumerate", data := .fields #[.none, .bool false, .ref s.heap.objs.size, rawInt 0, .none, .none] }) rfl
    rwa [hz] at top
  exact ⟨⟨_, en, rfl⟩, hq _ en (Heap.get?_push_of_some _ (Heap.get?_push_size _ B.free)) fun b u z => Heap.get?_push_of_some _ (Heap.get?_push_of_some _ z)⟩
end
/-- the tuple at a, its items in new pairs -/
def Itet (K : PySem.W.Frag) (a : Addr) : L2.It where
  go := fun i H => ∃ (vs : List V) (v : V), SqT K H a vs ∧ vs[i]? = some v
  yld := fun i H u H2 => ∃ T v, u = .ref T ∧ H T = none ∧ H2 = upd H T (.tup [.int (i : Nat), v]) ∧ ∀ vs, SqT K H a vs → vs[i]? = some v
  stop := fun i H => ∃ vs : List V, SqT K H a vs ∧ vs.length ≤ i
theorem turn_enT {P : Program} {w : World} {K : PySem.W.Frag} {elts : List Expr} {kk : Nat} {tpos : Pos} (a e it : Addr) (hai : a ≠ it) (hae : a ≠ e) :
    Turn P w K (.Tuple elts kk tpos) (Itet K a) [e, it] e (fun i h => (∃ old, IsEnum h e it ((i : Nat) : Int) old) ∧ h.IsTupleIter it a i ∧ e ≠ it) where
  mem := List.mem_cons_self
  obj := fun i h st b hb => by
    obtain ⟨⟨old, en⟩, ⟨o, ho, hc, hd⟩, _⟩ := st
    rcases List.mem_cons.mp hb with rfl | hb
    · exact ⟨_, en, fun v q => nomatch q⟩
    · rw [List.mem_singleton.mp hb]
      exact ⟨o, ho, fun v q => by rw [hd] at q; cases q⟩
  keep := fun i h h' st k => ⟨⟨st.1.choose, k e List.mem_cons_self _ st.1.choose_spec⟩, st.2.1.at fun o q => k it (List.mem_cons_of_mem _ List.mem_cons_self) o q, st.2.2⟩
  item := by
    intro X hP hw hK hc i pins s σ H E I hf st hg
    subst hP hw hK
    obtain ⟨⟨old, en⟩, hit, hne⟩ := st
    obtain ⟨vs, v, hq, hv⟩ := hg
    obtain ⟨its, rv, ⟨o, t1, t2, t3, t4⟩, hz⟩ := I.tuple hq
    obtain ⟨u, hu, ru⟩ := rv.get hv
    have hel : e < s.heap.objs.size := Heap.lt_size en
    have hil : it < s.heap.objs.size := by obtain ⟨_, q, _⟩ := hit; exact Heap.lt_size q
    have hd : X.A.in1.handled = none := I.ok.hd hc
    refine wpAny_pyNext_enum_itemD (Draws.tuple hd it a hai its.toArray) en ⟨hit, o, t1, t2, t3, t4⟩ (by have := (List.getElem?_eq_some_iff.mp hu).1; simpa using this) hne (by simp [hne, Ne.symm hae]) fun y h1 tk hP1 ho1 hst1 hT hsz hk => ?_
    have hy : y = u := by
      have z : its.toArray[i]? = some y := hP1
      rw [List.getElem?_toArray, hu] at z
      exact (Option.some.inj z).symm
    subst hy
    refine ⟨_, rfl, wpAny_letOwnedTupleGo_enum (s := { s with heap := h1, toks := tk + 1 }) ho1 fun h2 en2 sb => ?_⟩
    have hT2 : h2.get? s.heap.objs.size = some { cls := .type "tuple", data := .seq #[.int i tk, y] } := (sb.2 _ (Nat.ne_of_gt hel)).trans hT
    have fresh : H s.heap.objs.size = none := I.hok.fresh (Nat.le_refl _)
    have mk : ObjOk X.prog X.w (upd H s.heap.objs.size (.tup [.int (i : Nat), v])) h2 s.heap.objs.size (.tup [.int (i : Nat), v]) := ⟨two_le_line, [.int i tk, y], .cons ⟨_, rfl⟩ (.cons ru .nil), ⟨_, hT2, rfl, _, rfl⟩⟩
    have I2 : Inv X pins σ (upd H s.heap.objs.size (.tup [.int (i : Nat), v])) { s with heap := h2, toks := tk + 1 } := by
      refine I.turnedNew (ch := [e, it]) (fun b ob hb q => ?_) hf (Nat.le_refl _) mk
      have n1 : b ≠ e := fun z => hb (z ▸ List.mem_cons_self)
      have n2 : b ≠ it := fun z => hb (z ▸ List.mem_cons_of_mem _ List.mem_cons_self)
      exact (sb.2 b n1).trans (hk b ob n1 n2 q)
    refine ⟨.ref s.heap.objs.size, _, I2, rfl, ⟨_, v, rfl, fresh, rfl, fun ys hy => by rw [I.tuple_inj hy hq]; exact hv⟩, ⟨⟨y, ?_⟩, hst1.1.at fun o q => (sb.2 it (Ne.symm hne)).trans q, hne⟩, fun b hb => ?_⟩
    · rw [show ((i + 1 : Nat) : Int) = (i : Int) + 1 by omega]
      exact en2
    · have hlt : b < s.heap.objs.size := by
        rcases List.mem_cons.mp hb with rfl | hb
        · exact hel
        · rw [List.mem_singleton.mp hb]; exact hil
      rw [upd_ne (Nat.ne_of_lt hlt)]
      exact (hf b hb).1
  done := by
    intro X hP hw hK hc i pins s σ H E I hf st hg
    subst hP hw hK
    obtain ⟨⟨old, en⟩, hit, hne⟩ := st
    obtain ⟨vs, hq, hv⟩ := hg
    obtain ⟨its, rv, ⟨o, t1, t2, t3, t4⟩, hz⟩ := I.tuple hq
    obtain ⟨f0, f1, f2, f3, f4, f5⟩ := hf it (List.mem_cons_of_mem _ List.mem_cons_self)
    have hd : X.A.in1.handled = none := I.ok.hd hc
    have hl := rv.length
    have D : Draws X.prog X.w X.A.in1 it [it, a] i (fun _ _ => False) (fun j h => j = i ∧ h.IsTupleIter it a j ∧ h.IsTuple a its.toArray) :=
      { live := fun _ _ z => let ⟨ob, z1, _⟩ := z.2.1; ⟨ob, z1⟩
        frame := fun _ _ _ z k => ⟨z.1, z.2.1.at fun ob y => k it List.mem_cons_self ob y, z.2.2.at fun ob y => k a (List.mem_cons_of_mem _ List.mem_cons_self) ob y⟩
        item := fun j _ _ _ lt z _ => absurd z.1 (Nat.ne_of_lt lt)
        done := fun s2 Q2 E2 z hE => wpAny_nextOf_tuple_end hd z.2.1 z.2.2 (Array.getElem?_eq_none (by rw [List.size_toArray]; omega)) hE }
    exact wpAny_pyNext_enum_endD D en ⟨rfl, hit, ⟨o, t1, t2, t3, t4⟩⟩ fun h' eb => ⟨rfl, I.turned (t' := s.toks) (fun b u hb q => eb b u hb q) f0 f1 f3 f4 f5⟩
  self := fun A i s Q E st h => wpAny_pyIter_enum st.1.choose_spec h
variable [Row]
section
variable {X : Cx} {W : WX} {p pos tpos : Pos} {e : Expr} {elts : List Expr} {kk : Nat} {ms : EM (List D)}
theorem ri_enT {ρ : Nat → Addr} {n : Nat} {H : Hp} {N : Nat} {a : Addr} {xs : List D} {vs : List V} (sq : SqT X.K H a vs) (rv : VRs X.K ρ n H xs vs) : RI X.K X.mg ρ n H (N, jTup (enT xs)) (Itet X.K a) := by
  intro ρ2 s2 H2 i ex sr
  have sq2 := ex.sqt sq
  have rv2 := rv.mono ex
  show match some (enT xs)[i]? with
    | none => True
    | some none => (Itet X.K a).stop i H2
    | some (some d) => _
  unfold enT
  rw [List.getElem?_mapIdx]
  cases hx : xs[i]? with
  | none =>
    exact ⟨vs, sq2, by rw [rv2.length]; exact List.getElem?_eq_none_iff.mp hx⟩
  | some d =>
    obtain ⟨v, hv, r⟩ := rv2.get hx
    refine ⟨⟨vs, v, sq2, hv⟩, fun u H3 y => ?_⟩
    obtain ⟨T, w, rfl, hT, rfl, hw⟩ := y
    have : v = w := by
      have z := hw vs sq2
      rw [hv] at z
      exact Option.some.inj z
    subst this
    exact new_tup sr hT (VRs.cons rfl (VRs.cons r VRs.nil))
theorem ji_enT (hg : Gl X "enumerate") (hm : X.mg "enumerate" = none) (ha : JA X W [e] ms) (hs : starEach [e] X.env = [(false, eval e X.env)] := by rfl) : JI X W (.Tuple elts kk tpos) (.Call (.Name "enumerate" p) [e] [] pos) (iEnT ms) := by
  refine ⟨fun pins s σ H R I ⟨ρ, env, st, sr, er, po⟩ => ?_⟩
  refine Call_ (ld_blt I hg hm boot_enumerate (PyProof.Rows.callWith_type1 (thn (ha.run pos pins s σ H _ I ⟨ρ, env, st, sr, er, Po.bind po⟩) fun us s1 ⟨vs, H1, I1, r1, ρ1, st1, ds, e1, sr1, vr1, po1⟩ => ?_) hs rfl))
  dsimp only at po1
  split at po1
  · rename_i xs
    obtain ⟨v, rfl, rv⟩ := vr1.one
    rw [VR] at rv
    obtain ⟨a, ws, rfl, sq, rw1⟩ := rv
    cases r1 with
    | cons ru rn =>
      cases rn
      obtain rfl : _ = Value.ref a := ru
      obtain ⟨its, rvs, ⟨o, t1, t2, t3, t4⟩, hz⟩ := I1.tuple sq
      have hal : a < s1.heap.objs.size := Heap.lt_size t1
      refine enum_beginsB (begins_tuple a its.toArray) ⟨o, t1, t2, t3, t4⟩ fun h2 en hit k => wpAny_pyIter_enum en ?_
      have I2 : Inv X pins σ H1 { s1 with heap := h2 } := I1.kept (t' := s1.toks) k
      refine ⟨s1.heap.objs.size + 1, [s1.heap.objs.size + 1, s1.heap.objs.size], _, _, H1, rfl, I2, turn_enT a (s1.heap.objs.size + 1) s1.heap.objs.size (Nat.ne_of_lt hal) (Nat.ne_of_lt (Nat.lt_succ_of_lt hal)), ⟨⟨.none, en⟩, ⟨_, hit, rfl, rfl⟩, Nat.succ_ne_self _⟩, fun b hb => ?_, po1 ρ1 H1 _ Ext.refl sr1 (ri_enT sq rw1)⟩
      have ge : s1.heap.objs.size ≤ b := by
        rcases List.mem_cons.mp hb with rfl | hb
        · exact Nat.le_succ _
        · rw [List.mem_singleton.mp hb]; exact Nat.le_refl _
      exact I1.fpOk ge (I1.hok.fresh ge)
  · exact po1.elim
end
section
omit [Row]
variable {PI : Nat × Stp → Sto → Prop} {E : Str → Str → D → Sto → Prop} {e : Ev} {s : Sto} {ms : EM (List D)}
@[simp ↓] theorem z_iEnT : (iEnT ms e s).wp PI E = (ms e s).wp (fun ds s1 => ∃ xs, ds = [.tup xs] ∧ PI (xs.length, jTup (enT xs)) s1) E := by
  unfold iEnT
  rw [z_bind]
  congr 1
  funext ds s1
  split
  · rw [z_ok, eq_iff_iff]
    refine ⟨fun h => ⟨_, rfl, h⟩, ?_⟩
    rintro ⟨xs, h1, h2⟩
    cases h1
    exact h2
  · rename_i hn
    simp only [z_no, eq_iff_iff, false_iff, not_exists]
    rintro xs ⟨h, _⟩
    exact hn xs h
end
end Z

set_option Elab.async false
set_option linter.all false
set_option maxRecDepth 100000
set_option maxHeartbeats 4000000
namespace Z
open PySem PySem.Spec PyProof.Rows L2 TL
open PySem.PyData (strOk)
/-! ### dict comprehensions, plainly -/
section
variable {j : Stp} {g : GN} {t : EM Bool} {mk mv : EM D} {l N : Nat}
def DcStep (j : Stp) (g : GN) (t : EM Bool) (mk mv : EM D) (l : Nat) (I : Nat → List (D × D) → Sto → Prop) (N i : Nat) (kvs : List (D × D)) (e : Ev) (s : Sto) : Prop :=
  (i = N → j i s = some none) ∧ (i < N → ∃ d e1, j i s = some (some d) ∧ g d e = some e1 ∧
    (t e1 s).wp fun q s1 => if q then (mk e1 s1).wp fun y s2 => (mv e1 s2).wp fun z s3 => s3[l]? = some (.dict false kvs) ∧ kvs.length < sizeLine ∧ ∃ k, keyD y = some k ∧ I (i + 1) (putKd kvs y k z) (s3.set l (.dict false (putKd kvs y k z)))
      else s1[l]? = some (.dict false kvs) ∧ I (i + 1) kvs s1)
end
section
variable {PI : Nat × Stp → Sto → Prop} {P : D → Sto → Prop} {E : Str → Str → D → Sto → Prop} {e : Ev} {s : Sto} {mi : EM (Nat × Stp)} {g : GN} {t : EM Bool} {mk mv : EM D} {vs : List Nat}
@[simp ↓] theorem z_mDc : (mDc mi g t mk mv vs e s).wp P E = (mi e s).wp (fun jt s1 => (dcL jt.2 g t mk mv s1.length jt.1 0 (wipeD e vs) (s1 ++ [.dict false []])).wp P E) E := by
  unfold mDc; rw [z_bind]
end
/-! ### faces -/
abbrev FaceA := List (Str × Str)
def faceDs (f : FaceA) : List D := f.map fun p => .tup [.str p.1, .str p.2]
def facePs (f : FaceA) : List (D × D) := f.map fun p => (.str p.1, .str p.2)
def initF (f : FaceA) : List (Str × List DefB) := (f.filter fun p => !decide (p.2 = ("wanted" : Str))).map fun p => (p.1, [(p.2, none)])
def initW (f : FaceA) : List (Str × Option (Str × Str)) := (f.filter fun p => decide (p.2 = ("wanted" : Str))).map fun p => (p.1, none)
def initA (f : FaceA) : LA := ⟨[], initF f, initW f⟩
theorem filt_nd {f : FaceA} {p : Str × Str → Bool} (h : (f.map (·.1)).Nodup) : ((f.filter p).map (·.1)).Nodup := h.sublist (List.filter_sublist.map _)
section
variable {s0 : Sto} {j : Stp} {N : Nat} {e : Ev} {f : FaceA}
structure FcI (s0 : Sto) (f : FaceA) (i : Nat) (kvs : List (D × D)) (s : Sto) : Prop where
  ef : Eff [] s0 s
  lt : s0.length < s.length
  ex : ∃ ls : List Nat, kvs = fndD (initF (f.take i)) ls ∧ ls.length = (initF (f.take i)).length ∧ ls.Pairwise (· < ·) ∧ (∀ n ∈ ls, s0.length < n ∧ n < s.length) ∧
    ∀ (k : Nat) (q : Str × List DefB) (n : Nat), (initF (f.take i))[k]? = some q → ls[k]? = some n → mlAt s n = some (q.2.map fdD)
end
end Z

set_option Elab.async false
set_option linter.all false
set_option maxRecDepth 100000
set_option maxHeartbeats 4000000
namespace Z
open PySem PySem.Spec PyProof.Rows L2 TL
open PySem.PyData (strOk)
/-! ### is_name asked of any text -/
def NmOk (F : MF) : Prop := ∀ {s : Sto} {x : Str}, strOk x = true → x.length ≤ 16 → (F [.str x] s).wp fun d s' => d = .bl (nmB x) ∧ Eff [] s s'
theorem nm_X {itb : Itb} {letters : EM D} (hL : LettersOk letters) : NmOk (fnM 1 2 (tIsNameX itb letters)) := fun {s x} h1 h2 => is_nameX (d := .str x) hL ⟨h1, h2⟩
theorem NmOk.name {F : MF} (h : NmOk F) : IsNameOk F := fun {s x} hx => wp_ne (h hx.ok (by have := hx.l8; omega)) fun d s' ⟨e, ef⟩ => ⟨by rw [e, nmB_iff.mpr hx], ef⟩
/-! ### faces -/
def wordL : List Str := ["wanted", "weak", "common", "strong"]
def wordsD : D := .tup [.str "wanted", .str "weak", .str "common", .str "strong"]
def wdsD (r : List Str) : D := .tup (r.map D.str)
def rowB2 (r : List Str) : Bool := match r with
  | [x, w] => nmB x && decide (w ∈ wordL)
  | _ => false
def nm1 (r : List Str) : Str := r.headD ""
theorem tup_isi {P : D → Sto → Prop} {E : Str → Str → D → Sto → Prop} {s : Sto} {e : Ev} {i : Nat} {x : List D} (h : e[i]? = some (some (.tup x))) (hP : P (.bl true) s) : (mIsi "tuple" (mV i) e s).wp P E := by
  rw [z_isi, z_mV, h, slotP_some]
  exact ⟨_, _, rfl, by rfl, hP⟩
theorem words_plain : plain 20 wordsD = true ∧ plains 19 [D.str "wanted", .str "weak", .str "common", .str "strong"] = true := by decide +kernel
/-- rows of words: a face, or not -/
structure RowsT (rs : List (List Str)) : Prop where
  ok : ∀ r ∈ rs, ∀ x ∈ r, strOk x = true ∧ x.length ≤ 16
  len : rs.length ≤ 1000
  wid : ∀ r ∈ rs, r.length ≤ 1000000
def tIsFace (FN FT : MF) : SM := (sC (sI (bOr (bNot (toT (mIsi "tuple" (mV 0)))) (bNot (toT (mN (fAllAny true) (aC (mL (iSq (mV 0)) (gN 2) tY (mAnd (mIsi "tuple" (mV 2)) (m2 dEq (mN fLen (aC (mV 2) aN)) (mC (.int 2)))) [2]) aN))))) (sR (mC (.bl false))) sN) (sC (sI (bNot (toT (mN (fAllAny true) (aC (mL (iSq (mV 0)) (gT [(gN 3), (gN 4)]) tY (mAnd (mN FN (aC (mV 3) aN)) (mAnd (mIsi "str" (mV 4)) (m2 (dInB false) (mV 4) (mC wordsD)))) [3, 4]) aN)))) (sR (mC (.bl false))) sN) (sC (sA 1 (mL (iSq (mV 0)) (gN 2) tY (m2 dIx (mV 2) (mC (.int 0))) [2])) (sR (mAnd (m2 dEq (mV 1) (mN fSortA (aC (mV 1) aN))) (m2 dIsN2 (mN FT (aC (mV 1) aN)) (mC .non)))))))
def faceB (rs : List (List Str)) : Bool := rs.all rowB2 && decide (sortS (rs.map nm1) = rs.map nm1) && decide (rs.map nm1).Nodup
def IsFaceOk (F : MF) : Prop := ∀ {s : Sto} {rs : List (List Str)}, RowsT rs → (F [.tup (rs.map wdsD)] s).wp fun d s' => d = .bl (faceB rs) ∧ Eff [] s s'
theorem is_face_gen {FN FT : MF} (hN : NmOk FN) (hT : FT = fnM 1 3 tTwice) : IsFaceOk (fnM 1 5 (tIsFace FN FT)) := by
  classical
  intro s rs h
  refine wp_of fun P hP => ?_
  have hlen := h.len
  have hsz : rs.length < sizeLine := by rw [size_line]; omega
  unfold tIsFace
  rw [z_fnM (by rfl)]
  simp [-List.map_map]
  refine tup_isi rfl ?_
  simp [trD, -List.map_map]
  refine wp_ne (lc_mapR (ks := []) (fun d r => d = wdsD r) (fun r => .bl (decide (r.length = 2))) (as := rs) AllR.of_map (it_tup (by simp)) bags_nil hsz fun d r s1 hd hr ef _ => ?_) ?_
  · subst hd
    refine ⟨_, rfl, ?_⟩
    simp
    refine tup_isi rfl ?_
    have := h.wid r hr
    simp [wdsD, Eff.refl]
    omega
  rintro d s1 ⟨rfl, ef1, hlt1, hm1⟩
  rw [z_all]
  refine ⟨_, rs.map fun r => decide (r.length = 2), lstAt_ml hm1, by rw [← mapM_bl, List.map_map]; rfl, ?_⟩
  have e1 : ((rs.map fun r => decide (r.length = 2)).all id) = rs.all fun r => decide (r.length = 2) := by rw [List.all_map]; rfl
  rw [if_pos rfl, e1]
  have row2 : ∀ r, rowB2 r = true → r.length = 2 := fun r hr => by
    match r, hr with
    | [x, w], _ => rfl
  cases q1 : rs.all fun r => decide (r.length = 2) with
  | false =>
    refine .inl ⟨rfl, hP _ _ ⟨?_, ef1⟩⟩
    have : rs.all rowB2 = false := by
      rw [Bool.eq_false_iff] at q1 ⊢
      intro hall
      exact q1 (List.all_eq_true.mpr fun r hr => decide_eq_true (row2 r (List.all_eq_true.mp hall r hr)))
    unfold faceB
    rw [this]
    rfl
  | true =>
    refine .inr ⟨rfl, ?_⟩
    have two : ∀ r ∈ rs, ∃ x w, r = [x, w] := fun r hr => by
      have := of_decide_eq_true (List.all_eq_true.mp q1 r hr)
      match r, this with
      | [x, w], _ => exact ⟨x, w, rfl⟩
    refine wp_ne (lc_mapR (ks := []) (fun d r => d = wdsD r) (fun r => .bl (rowB2 r)) (as := rs) AllR.of_map (it_tup (by simp)) bags_nil hsz fun d r s2 hd hr ef _ => ?_) ?_
    · subst hd
      obtain ⟨x, w, rfl⟩ := two r hr
      have hx := h.ok _ hr x (by simp)
      have hw := h.ok _ hr w (by simp)
      refine ⟨[some (.tup (rs.map wdsD)), none, none, some (.str x), some (.str w)], rfl, ?_⟩
      simp [-List.map_map]
      refine wp_ne (hN hx.1 hx.2) ?_
      rintro _ s3 ⟨rfl, ef3⟩
      unfold rowB2
      cases q : nmB x with
      | false => simp [ef3, q]
      | true =>
        simp [-List.map_map]
        refine isi_str rfl ?_
        simp
        unfold wordsD
        rw [z_inT (by rw [plain]; exact hw.1) words_plain.2, q, Bool.true_and, Bool.false_xor]
        refine ⟨ef3, ?_⟩
        congr 1
        exact decide_eq_decide.mpr (by simp [wordL])
    rintro d s2 ⟨rfl, ef2, hlt2, hm2⟩
    rw [z_all]
    refine ⟨_, rs.map rowB2, lstAt_ml hm2, by rw [← mapM_bl, List.map_map]; rfl, ?_⟩
    have e2 : (rs.map rowB2).all id = rs.all rowB2 := by rw [List.all_map]; rfl
    rw [if_pos rfl, e2]
    have e12 := ef1.trans ef2
    cases q2 : rs.all rowB2 with
    | false => exact .inl ⟨rfl, hP _ _ ⟨by unfold faceB; rw [q2]; rfl, e12⟩⟩
    | true =>
      refine .inr ⟨rfl, ?_⟩
      refine wp_ne (lc_mapR (ks := []) (fun d r => d = wdsD r) (fun r => .str (nm1 r)) (as := rs) AllR.of_map (it_tup (by simp)) bags_nil hsz fun d r s3 hd hr ef _ => ?_) ?_
      · subst hd
        obtain ⟨x, w, rfl⟩ := two r hr
        refine ⟨_, rfl, ?_⟩
        simp [wdsD, nm1]
        exact Eff.refl
      rintro d s3 ⟨rfl, ef3, hlt3, hm3⟩
      have hm3 : mlAt s3 s2.length = some ((rs.map nm1).map D.str) := by
        rw [hm3, List.map_map]
        rfl
      have hok : ∀ x ∈ rs.map nm1, strOk x = true := fun x hx => by
        obtain ⟨r, hr, rfl⟩ := List.mem_map.mp hx
        obtain ⟨x, w, rfl⟩ := two r hr
        exact (h.ok _ hr x (by simp)).1
      rw [z_sortL, lstAt_ml hm3, lstP_some]
      obtain ⟨s1', s2'⟩ := sortD_strs (s := s3) hok
      refine ⟨s1', ?_⟩
      rw [s2']
      have e4 : Eff [] s3 (s3 ++ [SO.lst ((sortS (rs.map nm1)).map D.str)]) := Eff.push
      have m4 : mlAt (s3 ++ [SO.lst ((sortS (rs.map nm1)).map D.str)]) s3.length = some ((sortS (rs.map nm1)).map D.str) := mlAt_push
      have m3 := e4.ml hm3 (by simp)
      generalize s3 ++ [SO.lst ((sortS (rs.map nm1)).map D.str)] = s4 at e4 m4 m3 ⊢
      have okS : ∀ x ∈ sortS (rs.map nm1), strOk x = true := fun x hx => hok x ((sortS_perm _).mem_iff.mp hx)
      rw [z_eqL (xs := (rs.map nm1).map D.str) (ys := (sortS (rs.map nm1)).map D.str) (lstAt_ml m3) (lstAt_ml m4) (plains_strs hok) (plains_strs okS), blP_bl]
      have e14 := (e12.trans ef3).trans e4
      have eq1 : ((rs.map nm1).map D.str = (sortS (rs.map nm1)).map D.str) ↔ sortS (rs.map nm1) = rs.map nm1 := ⟨fun e => (map_inj' (fun _ _ h => by injection h) e).symm, fun e => by rw [e]⟩
      by_cases q3 : sortS (rs.map nm1) = rs.map nm1
      · rw [decide_eq_true (eq1.mpr q3), if_pos rfl]
        rw [hT]
        refine wp_ne (twice_x (lstAt_ml m3) hok (by rw [List.length_map]; omega)) ?_
        rintro d s5 ⟨rfl, e5⟩
        refine hP _ _ ⟨?_, e14.trans e5⟩
        unfold faceB
        rw [q2, decide_eq_true q3, Bool.true_and, Bool.true_and]
        by_cases q4 : (rs.map nm1).Nodup
        · rw [again_nd (seen := []) (by simpa using q4), decide_eq_true q4]
          rfl
        · rw [decide_eq_false q4]
          cases q5 : again1 [] (rs.map nm1) with
          | none => exact absurd (again_none q5) q4
          | some x => rfl
      · rw [decide_eq_false (fun e => q3 (eq1.mp e)), if_neg Bool.false_ne_true]
        refine hP _ _ ⟨?_, e14⟩
        unfold faceB
        rw [decide_eq_false q3, Bool.and_false, Bool.false_and]
/-- a face -/
structure FaceOk (f : FaceA) : Prop where
  nm : ∀ p ∈ f, IsName p.1
  wd : ∀ p ∈ f, p.2 ∈ wordL
  nd : (f.map (·.1)).Nodup
  so : sortS (f.map (·.1)) = f.map (·.1)
  len : f.length ≤ 1000
def fRows (f : FaceA) : List (List Str) := f.map fun p => [p.1, p.2]
theorem face_rows (f : FaceA) : faceDs f = (fRows f).map wdsD := by
  unfold faceDs fRows
  rw [List.map_map]
  rfl
theorem fRows_nm (f : FaceA) : (fRows f).map nm1 = f.map (·.1) := by
  unfold fRows
  rw [List.map_map]
  rfl
theorem FaceOk.rows {f : FaceA} (h : FaceOk f) : RowsT (fRows f) := by
  have hw : ∀ w ∈ wordL, strOk w = true ∧ w.length ≤ 16 := by decide +kernel
  refine ⟨fun r hr x hx => ?_, by unfold fRows; rw [List.length_map]; exact h.len, fun r hr => ?_⟩
  · obtain ⟨p, hp, rfl⟩ := List.mem_map.mp hr
    rcases List.mem_cons.mp hx with rfl | hx
    · exact ⟨(h.nm p hp).ok, by have := (h.nm p hp).l8; omega⟩
    · rw [List.mem_singleton.mp hx]
      exact hw _ (h.wd p hp)
  · obtain ⟨p, hp, rfl⟩ := List.mem_map.mp hr
    simp
theorem FaceOk.isB {f : FaceA} (h : FaceOk f) : faceB (fRows f) = true := by
  unfold faceB
  rw [fRows_nm, decide_eq_true h.so, decide_eq_true h.nd, Bool.and_true, Bool.and_true]
  refine List.all_eq_true.mpr fun r hr => ?_
  obtain ⟨p, hp, rfl⟩ := List.mem_map.mp hr
  show (nmB p.1 && decide (p.2 ∈ wordL)) = true
  rw [nmB_iff.mpr (h.nm p hp), decide_eq_true (h.wd p hp)]
  rfl
/-- look_face(face): a face at a place -/
def tLookFace (FF : MF) (st : SM) : SM := (sC (sI (bNot (toT (mN FF (aC (mUn (mV 0)) aN)))) st sN) (sR (mV 0)))
/-! ### items and lines -/
inductive ItA where
  | one (x : Str)
  | grp (xs : List Str)
def ItA.names : ItA → List Str
  | .one x => [x]
  | .grp xs => xs
def ItA.d : ItA → D
  | .one x => .str x
  | .grp xs => .tup (xs.map D.str)
def ItA.isG : ItA → Bool
  | .one _ => false
  | .grp _ => true
structure ItOkA (i : ItA) : Prop where
  ne : i.names ≠ []
  nm : ∀ x ∈ i.names, IsName x
  len : i.names.length ≤ 1000
def tIsItem (it : EM (Nat × Stp)) (FN : MF) : SM := (sC (sI (toT (mIsi "tuple" (mV 0))) (sR (mAnd (m2 dNe (mV 0) (mN fTup aN)) (mN (fAllAny true) (aC (mL it (gN 1) tY (mN FN (aC (mV 1) aN)) [1]) aN)))) sN) (sR (mN FN (aC (mV 0) aN))))
def IsItemOk (F : MF) (gs : Bool) : Prop := ∀ {s : Sto} {i : ItA}, ItOkA i → (i.isG = true → gs = true) → (F [i.d] s).wp fun d s' => d = .bl true ∧ Eff [] s s'
def tArchivesOf : SM := (sR (mIf (toT (mIsi "tuple" (mV 0))) (mV 0) (mN fTup (aC (mV 0) aN))))
end Z

set_option Elab.async false
set_option linter.all false
set_option maxRecDepth 100000
set_option maxHeartbeats 4000000
namespace Z
open PySem PySem.Spec PyProof.Rows L2 TL
open PySem.PyData (strOk)
/-! ### look_line, a right line -/
def lineD (line : List ItA) : List D := line.map ItA.d
structure LineOk (as : List ArcA) (line : List ItA) : Prop where
  it : ∀ i ∈ line, ItOkA i
  here : ∀ i ∈ line, ∀ x ∈ i.names, x ∈ as.map (·.name)
  len : line.length ≤ 100000
def tLookLine (s1 s2 s3 : SM) (itL : EM (Nat × Stp)) (itb : Itb) (FI FA : MF) (tbC : Tb) : SM := (sC (sI (bNot (toT (mIsi "tuple" (mV 1)))) s1 sN) (sC (sF (iEnT (aC (mV 1) aN)) (gT [(gN 3), (gN 2)]) (sI (bNot (toT (mN FI (aC (mV 2) aN)))) s2 sN)) (sF itL (gN 2) (sF (iAny itb (mN FA (aC (mV 2) aN))) (gN 4) (sI (toB (m2 (dInO true tbC dNo2) (mV 4) (mV 0))) s3 sN)))))
def LookLineOk (F : MF) (gs : Bool) : Prop := ∀ {s0 s : Sto} {d : D} {as : List ArcA} {line : List ItA}, Eff [] s0 s → IsSto s0 d as → StoK as → LineOk as line → (∀ i ∈ line, i.isG = true → gs = true) → (F [d, .tup (lineD line)] s).wp fun d' s' => d' = .non ∧ Eff [] s s'
end Z

set_option Elab.async false
set_option linter.all false
set_option maxRecDepth 100000
set_option maxHeartbeats 4000000
namespace Z
open PySem PySem.Spec PyProof.Rows L2 TL
open PySem.PyData (strOk)
/-! ### all places but one stay -/
structure Oth (l : Nat) (s t : Sto) : Prop where
  le : s.length ≤ t.length
  eq : ∀ i, i < s.length → i ≠ l → t[i]? = s[i]?
section
variable {l n : Nat} {s t u : Sto} {o : SO}
theorem Oth.refl : Oth l s s := ⟨Nat.le_refl _, fun _ _ _ => rfl⟩
theorem Oth.trans (a : Oth l s t) (b : Oth l t u) : Oth l s u := ⟨Nat.le_trans a.le b.le, fun i hi hn => by rw [b.eq i (Nat.lt_of_lt_of_le hi a.le) hn, a.eq i hi hn]⟩
theorem Oth.eff (e : Eff [] s t) : Oth l s t := ⟨e.le, fun i hi _ => e.eq i hi (by simp)⟩
theorem Oth.push : Oth l s (s ++ [o]) := .eff Eff.push
theorem Oth.set : Oth l s (s.set l o) := ⟨by simp, fun i _ hn => List.getElem?_set_ne (Ne.symm hn)⟩
theorem Oth.get (h : Oth l s t) (hs : s[n]? = some o) (hn : n ≠ l) : t[n]? = some o := by
  rw [h.eq n (List.getElem?_eq_some_iff.mp hs).1 hn]
  exact hs
end
section
variable {Q : En} {s0 t : Sto} {e : Ev} {cs : List Str} {fs : List (Str × D)} {l w : Nat} {f : FaceA}
def tDcF (cs : List Str) : SM := (sLkA (mFld cs "words" (mV 0)) (sFldD cs "found" (mV 0) (mDc (iKy jItm (mFld cs "words" (mV 0))) (gT [(gN 5), (gN 6)]) (toB (m2 dNe (mV 6) (mC (.str "wanted")))) (mV 5) (mN fLst (aC (mN fTup (aC (mV 6) (aC (mC (.str "own")) aN))) aN)) [5, 6])))
def tDcW (cs : List Str) : SM := (sLkA (mFld cs "words" (mV 0)) (sFldD cs "wanted_by" (mV 0) (mDc (iKy jItm (mFld cs "words" (mV 0))) (gT [(gN 5), (gN 6)]) (toB (m2 dEq (mV 6) (mC (.str "wanted")))) (mV 5) (mC .non) [5, 6])))
structure DcEnv (e : Ev) (l : Nat) : Prop where
  h0 : e[0]? = some (some (.ref l))
  w0 : (wipeD e [5, 6])[0]? = some (some (.ref l))
  wl : 6 < (wipeD e [5, 6]).length
  wt : ∀ (x w : Str), gT [gN 5, gN 6] (.tup [.str x, .str w]) (wipeD e [5, 6]) = some (((wipeD e [5, 6]).set 5 (some (.str x))).set 6 (some (.str w)))
end
end Z

set_option Elab.async false
set_option linter.all false
set_option maxRecDepth 100000
set_option maxHeartbeats 4000000
namespace Z
open PySem PySem.Spec PyProof.Rows L2 TL
open PySem.PyData (strOk)
/-! ### Link(store, line, face) -/
def linkA (as : List ArcA) (line : List ItA) (f : FaceA) : LA := line.foldl (fun a i => groupA as i.names a) (initA f)
theorem initA_rows {as : List ArcA} (f : FaceA) : RowsOk as (initA f) := by
  constructor <;> simp [initA]
def tLinkInit (LL LF FA : MF) (cs : List Str) (itL : EM (Nat × Stp)) (tbS : Tb) : SM := (sC (sE (mN LL (aC (mV 1) (aC (mV 2) aN)))) (sC (sFldD cs "words" (mV 0) (mN fDictP (aC (mN LF (aC (mV 3) aN)) aN))) (sC (sFldD cs "base" (mV 0) (mV 1)) (sC (sFldD cs "rows" (mV 0) (mN fLst aN)) (sC (sFldD cs "got" (mV 0) mDT) (sC (tDcF cs) (sC (tDcW cs) (sF itL (gN 4) (sE (mMeth tbS "search_all" (mV 0) (aC (mN FA (aC (mV 4) aN)) aN)))))))))))
def LookFaceOk (F : MF) : Prop := ∀ {s : Sto} {n : Nat} {f : FaceA}, s[n]? = some (.ptp (faceDs f)) → FaceOk f → (F [.ref n] s).wp fun d s' => d = .ref n ∧ Eff [] s s'
def LinkOk (F : MF) (gs : Bool) : Prop := ∀ {s0 s : Sto} {d : D} {as : List ArcA} {line : List ItA} {n : Nat} {f : FaceA}, Eff [] s0 s → IsSto s0 d as → StoK as → LineOk as line → (∀ i ∈ line, i.isG = true → gs = true) → s[n]? = some (.ptp (faceDs f)) → FaceOk f →
  (mkD "Link" F [d, .tup (lineD line), .ref n] s).wp fun d' s' => d' = .ref s.length ∧ Eff [] s s' ∧ ∃ p ls, IsLa s s' s.length d p ls (linkA as line f) ∧ LaOk f.length (linkA as line f) ∧ RowsOk as (linkA as line f)
end Z

set_option Elab.async false
set_option linter.all false
set_option maxRecDepth 100000
set_option maxHeartbeats 4000000
namespace Z
open PySem PySem.Spec PyProof.Rows L2 LamX
/-! ### t.index(x) of a written tuple of texts -/
section
variable {X : Cx} {ws : List Str}
def rTix (K : PySem.W.Frag) (ws : List Str) : V → List V → Hp → VK → Prop := fun x xs H Q => ∃ a k, x = .ref a ∧ xs = [.str k] ∧ SqT K H a (ws.map V.str) ∧ k ∈ ws ∧ Q (.int (ws.idxOf k : Nat)) H
end
/-! ### a lambda of one parameter, called by a built-in -/
section
variable [Row] {X : Cx} {pins : List (Addr × Obj)} {σ : L2.St} {H : Hp} {s : Shared}
abbrev keyX (X : Cx) (N : List Str) (sc : Scope) (f co : Addr) (A : Around) (s : Shared) (H : Hp) : Cx := cxOf C8.CX0 X.prog X.w X.K X.mg X.base N (X.env.qual ++ "<lambda>") sc f (.ref co) A X.stack s H C8.E0
/-- what the walk of a list knows, whatever its items look like now -/
def LSt (l It : Addr) (vs : List V) (i : Nat) (s : Shared) : Prop := s.heap.IsListIter It l i ∧ ∃ its : Array Value, s.heap.IsList l its ∧ Vals vs its.toList
def LPt (vs : List V) (i : Nat) (u : Value) : Prop := ∃ x, vs[i]? = some x ∧ RelV x u
/-! ### max(rows, key=lambda row: WORDS.index(row[0]), default=(None, None)) -/
def keyIxD (ws : List Str) : D → Option Nat
  | .tup (.str k :: _) => if k ∈ ws then some (ws.idxOf k) else none
  | _ => none
def bestD (ks : List Nat) : Nat := argBest (fun i j => decide ((ks.getD i 0 : Int) > (ks.getD j 0 : Int))) (ks.length - 1)
def maxKD (ws : List Str) (d : D) (s1 : Sto) : Rs D := match d with
  | .ref n => match lstAt s1 n with
    | some xs => match xs.mapM (keyIxD ws) with
      | some ks => .ok ((xs[bestD ks]?).getD (.tup [.non, .non])) s1
      | none => .no
    | none => .no
  | _ => .no
def mMaxK (ws : List Str) (me : EM D) : EM D := fun e s => (me e s).bind (maxKD ws)
end
section
variable {P : D → Sto → Prop} {E : Str → Str → D → Sto → Prop} {e : Ev} {s : Sto} {ws : List Str} {me : EM D}
@[simp ↓] theorem z_mMaxK : (mMaxK ws me e s).wp P E = (me e s).wp (fun d s1 => refP d fun n => lstP (lstAt s1 n) fun xs => optP (xs.mapM (keyIxD ws)) fun ks => P ((xs[bestD ks]?).getD (.tup [.non, .non])) s1) E := by
  unfold mMaxK
  rw [z_bind]
  congr 1
  funext d s1
  unfold maxKD refP lstP optP
  cases d with
  | ref n =>
    dsimp only
    cases lstAt s1 n with
    | none => rfl
    | some xs =>
      dsimp only
      cases xs.mapM (keyIxD ws) <;> rfl
  | _ => rfl
end
end Z

set_option Elab.async false
set_option linter.all false
set_option maxRecDepth 100000
set_option maxHeartbeats 4000000
namespace Z
open PySem PySem.Spec PyProof.Rows L2
/-! ### list(range(n)) -/
def mLstR (m : EM D) : EM D := fun e s => (m e s).bind fun d s1 => match d with
  | .int n => if 0 ≤ n ∧ n ≤ 16777216 then .ok (.ref s1.length) (s1 ++ [.lst ((List.range n.toNat).map fun i => .int (i : Nat))]) else .no
  | _ => .no
section
variable [Row] {X : Cx} {W : WX} {e : Expr} {m : EM D} {p q pos pos2 : Pos}
end
section
variable {P : D → Sto → Prop} {E : Str → Str → D → Sto → Prop} {e : Ev} {s : Sto} {m : EM D}
@[simp ↓] theorem z_mLstR : (mLstR m e s).wp P E = (m e s).wp (fun d s1 => ∃ n : Int, d = .int n ∧ (0 ≤ n ∧ n ≤ 16777216) ∧ P (.ref s1.length) (s1 ++ [.lst ((List.range n.toNat).map fun i => .int (i : Nat))])) E := by
  unfold mLstR
  rw [z_bind]
  congr 1
  funext d s1
  split
  · rename_i n
    rw [z_iteN, z_ok, eq_iff_iff]
    exact ⟨fun h => ⟨n, rfl, h⟩, fun ⟨k, h1, h2⟩ => by cases h1; exact h2⟩
  · rename_i hn
    simp only [z_no, eq_iff_iff, false_iff, not_exists]
    rintro n ⟨h, _⟩
    exact hn n h
end
end Z

set_option Elab.async false
set_option linter.all false
set_option maxRecDepth 100000
set_option maxHeartbeats 4000000
namespace Z
open PySem PySem.Spec PyProof.Rows L2 TL
open PySem.PyData (strOk)
/-! ### what a link answers -/
def kindL : List Str := ["weak", "common", "strong"]
structure FdOk (a : LA) : Prop where
  nm : ∀ q ∈ a.found, strOk q.1 = true
  kd : ∀ q ∈ a.found, ∀ d ∈ q.2, d.1 ∈ kindL
def StoKd (as : List ArcA) : Prop := ∀ r ∈ as, ∀ m ∈ r.mems, ∀ d ∈ m.defs, d.2.1 ∈ kindL
section
variable {s0 s t : Sto} {l : Nat} {base : D} {p : LkP} {ls : List Nat} {a : LA} {c0 : Nat}
/-! ### taken, lacks -/
def tTaken (cs : List Str) : SM := (sR (mL (iSq (mFld cs "rows" (mV 0))) (gT [(gN 1), (gN 2), (gN 3)]) tY (mN fTup (aC (mV 1) (aC (mV 2) aN))) [1, 2, 3]))
def tkD (r : Row3) : D := .tup [.str r.1, .str r.2.1]
def TakenOk (F : MF) : Prop := ∀ {s0 s : Sto} {l : Nat} {base : D} {p : LkP} {ls : List Nat} {a : LA} {c0 : Nat}, IsLa s0 s l base p ls a → LaOk c0 a → (F [.ref l] s).wp fun d s' => d = .ref s.length ∧ Eff [] s s' ∧ mlAt s' s.length = some (a.rows.map tkD)
def tLacks (tb : Tb) : SM := (sR (mMeth tb "open_names" (mV 0) aN))
def LacksOk (F : MF) : Prop := ∀ {s0 s : Sto} {l : Nat} {base : D} {p : LkP} {ls : List Nat} {a : LA} {c0 : Nat}, IsLa s0 s l base p ls a → LaOk c0 a → (F [.ref l] s).wp fun d s' => Eff [] s s' ∧ ∃ k, d = .ref k ∧ s.length ≤ k ∧ mlAt s' k = some ((openL a).map D.str)
/-! ### clashes -/
def clashB (ds : List DefB) : Bool := decide (1 < (ds.filter fun d => decide (d.1 = ("strong" : Str))).length)
def clashL (a : LA) : List Str := sortS ((a.found.filter fun q => clashB q.2).map (·.1))
def tIsClash : SM := (sR (m2 dGt (mN fLen (aC (mL (iSq (mV 0)) (gT [(gN 1), (gN 2)]) (toB (m2 dEq (mV 1) (mC (.str "strong")))) (mV 1) [1, 2]) aN)) (mC (.int 1))))
def IsClashOk (F : MF) : Prop := ∀ {s : Sto} {n : Nat} {ds : List DefB}, mlAt s n = some (ds.map fdD) → ds.length ≤ 100000 → (F [.ref n] s).wp fun d s' => d = .bl (clashB ds) ∧ Eff [] s s'
def tClashes (cs : List Str) (FC : MF) : SM := (sLkA (mFld cs "found" (mV 0)) (sR (mN fSortA (aC (mL (iKy jItm (mFld cs "found" (mV 0))) (gT [(gN 1), (gN 2)]) (toT (mN FC (aC (mV 2) aN))) (mV 1) [1, 2]) aN))))
def ClashesOk (F : MF) : Prop := ∀ {s0 s : Sto} {l : Nat} {base : D} {p : LkP} {ls : List Nat} {a : LA} {c0 : Nat}, IsLa s0 s l base p ls a → LaOk c0 a → FdOk a → (F [.ref l] s).wp fun d s' => Eff [] s s' ∧ ∃ k, d = .ref k ∧ s.length ≤ k ∧ mlAt s' k = some ((clashL a).map D.str)
end
end Z

set_option Elab.async false
set_option linter.all false
set_option maxRecDepth 100000
set_option maxHeartbeats 4000000
namespace Z
open PySem PySem.Spec PyProof.Rows L2 TL
open PySem.PyData (strOk)
/-! ### strongest, bound -/
def kIx (d : DefB) : Nat := kindL.idxOf d.1
def strongB (ds : List DefB) : Option DefB := ds[bestD (ds.map kIx)]?
def strongD (ds : List DefB) : D := match strongB ds with
  | some d => bdD d.2
  | none => .non
def fdOf (a : LA) (x : Str) : List DefB := ((a.found.find? fun q => decide (q.1 = x)).map (·.2)).getD []
def tStrongest : SM := (sR (m2 dIx (mMaxK ["weak", "common", "strong"] (mV 0)) (mC (.int 1))))
def StrongestOk (F : MF) : Prop := ∀ {s : Sto} {n : Nat} {ds : List DefB}, mlAt s n = some (ds.map fdD) → (∀ d ∈ ds, d.1 ∈ kindL) → (F [.ref n] s).wp fun d s' => d = strongD ds ∧ s' = s
def tBound (cs : List Str) (FS' : MF) : SM := (sR (mN FS' (aC (mGet2 (mFld cs "found" (mV 0)) (mV 1) (mN fLst aN)) aN)))
def BoundOk (F : MF) : Prop := ∀ {s0 s : Sto} {l : Nat} {base : D} {p : LkP} {ls : List Nat} {a : LA} {c0 : Nat} {x : Str}, IsLa s0 s l base p ls a → LaOk c0 a → FdOk a → (F [.ref l, .str x] s).wp fun d s' => d = strongD (fdOf a x) ∧ Eff [] s s'
/-! ### works -/
def tWorks (tpL tpC : Tb) : SM := (sR (mAnd (m2 dEq (mProp tpL (mV 0)) (mN fLst aN)) (m2 dEq (mProp tpC (mV 0)) (mN fLst aN))))
def worksB (a : LA) : Bool := decide (openL a = []) && decide (clashL a = [])
def WorksOk (F : MF) : Prop := ∀ {s0 s : Sto} {l : Nat} {base : D} {p : LkP} {ls : List Nat} {a : LA} {c0 : Nat}, IsLa s0 s l base p ls a → LaOk c0 a → FdOk a → (F [.ref l] s).wp fun d s' => d = .bl (worksB a) ∧ Eff [] s s'
end Z

set_option Elab.async false
set_option linter.all false
set_option maxRecDepth 100000
set_option maxHeartbeats 4000000
namespace Z
open PySem PySem.Spec PyProof.Rows L2 TL
open PySem.PyData (strOk)
/-! ### faces, sorted -/
def fcD (p : Str × Str) : D := .tup [.str p.1, .str p.2]
def encF (p : Str × Str) : PyData := .tuple [.str p.1, .str p.2]
def leF (a b : Str × Str) : Bool := PySem.W.dataLe false encF a b
def sortF (ps : FaceA) : FaceA := ps.mergeSort leF
theorem sortF_perm (ps : FaceA) : (sortF ps).Perm ps := List.mergeSort_perm _ _
def okF (p : Str × Str) : Prop := strOk p.1 = true ∧ strOk p.2 = true
theorem plain_fcD {n : Nat} {p : Str × Str} (h : okF p) : plain (n + 1) (fcD p) = true := by
  unfold fcD
  rw [plain, plains_iff]
  intro x hx
  simp only [List.mem_cons, List.not_mem_nil, or_false] at hx
  rcases hx with rfl | rfl
  · rw [plain]; exact h.1
  · rw [plain]; exact h.2
theorem encD_fc {s : Sto} {p : Str × Str} (h : okF p) : encD s (fcD p) = encF p := by
  have e : enc (fcD p) = encF p := by
    unfold fcD encF
    rw [enc, encs, encs, encs, enc, enc]
  unfold encD
  rw [pyd_le (pyd_plain s 20 (fcD p) (plain_fcD h)) (by omega), e]
  rfl
theorem sortD_fcs {s : Sto} {ps : FaceA} (h : ∀ p ∈ ps, okF p) : canSort s (ps.map fcD) = true ∧ sortD s (ps.map fcD) = (sortF ps).map fcD := by
  constructor
  · unfold canSort
    simp only [List.all_map, Bool.and_eq_true, Bool.or_eq_true, List.all_eq_true, Function.comp_apply]
    refine ⟨⟨fun x hx => ?_, fun x hx y hy => ?_⟩, .inl fun x hx => ?_⟩
    · rw [shp_plain (plain_fcD (h x hx))]
      rfl
    · rw [encD_fc (h x hx), encD_fc (h y hy)]
      simp [PySem.W.alike, PySem.W.alikeAll, encF]
    · rw [encD_fc (h x hx)]
      rfl
  · unfold sortD sortF
    refine (List.map_mergeSort fun a ha b hb => ?_).symm
    rw [leF, PySem.W.dataLe_eq, PySem.W.dataLe_eq]
    simp only [encD_fc (h a ha), encD_fc (h b hb)]
theorem leF_ne {a b : Str × Str} (h : a.1 ≠ b.1) (h1 : leF a b = true) : leS a.1 b.1 = true := by
  have : leF a b = leS a.1 b.1 := by
    unfold leF
    rw [PySem.W.dataLe_eq]
    simp only [cond_false]
    unfold encF
    rw [PySem.W.dataLt_tuple, PySem.W.dataLt_cons (by simp [PySem.W.alike]), PySem.W.dataLt_str]
    have : PyData.eqv (.str b.1) (.str a.1) = false := by
      simp only [PyData.eqv, beq_eq_false_iff_ne]
      exact fun e => h e.symm
    rw [if_neg (by rw [this]; exact Bool.false_ne_true), PySem.W.not_lt_str]
    rfl
  rw [← this]
  exact h1
theorem leF_total : PySem.W.TotalLe leF := by
  unfold leF PySem.W.dataLe
  exact PySem.W.sortLe_total _ _ _
theorem sortF_ok {g : FaceA} (nm : ∀ p ∈ g, IsName p.1) (wd : ∀ p ∈ g, p.2 ∈ wordL) (nd : (g.map (·.1)).Nodup) (hl : g.length ≤ 1000) : FaceOk (sortF g) := by
  have hp := sortF_perm g
  have T := leF_total
  have tot : ∀ a b : Str × Str, (leF a b || leF b a) = true := fun a b => by rw [Bool.or_eq_true]; exact T.total a b
  have nd2 : ((sortF g).map (·.1)).Nodup := (hp.map _).nodup_iff.mpr nd
  refine ⟨fun p h => nm p (hp.mem_iff.mp h), fun p h => wd p (hp.mem_iff.mp h), nd2, ?_, by rw [hp.length_eq]; exact hl⟩
  refine sortS_of ?_
  rw [List.pairwise_map]
  have h1 : (sortF g).Pairwise fun a b => leF a b = true := List.pairwise_mergeSort T.trans tot g
  have h2 : (sortF g).Pairwise fun a b => a.1 ≠ b.1 := List.pairwise_map.mp nd2
  exact (h1.and h2).imp fun ⟨a, b⟩ => leF_ne b a
theorem face_fc (f : FaceA) : faceDs f = f.map fcD := rfl
theorem FaceOk.okF {f : FaceA} (h : FaceOk f) : ∀ p ∈ f, okF p := fun p hp => by
  have hw : ∀ w ∈ wordL, strOk w = true := by decide +kernel
  exact ⟨(h.nm p hp).ok, hw _ (h.wd p hp)⟩
end Z

set_option Elab.async false
set_option linter.all false
set_option maxRecDepth 100000
set_option maxHeartbeats 4000000
namespace Z
open PySem PySem.Spec PyProof.Rows L2 TL
open PySem.PyData (strOk)
/-! ### a link told by the members that were taken, in their order -/
/-- what is known of a name, in its order -/
def fdN (f : List (Str × List DefB)) (x : Str) : List DefB := ((f.find? fun q => decide (q.1 = x)).map (·.2)).getD []
theorem fdN_none {f : List (Str × List DefB)} {x : Str} (h : x ∉ f.map (·.1)) : fdN f x = [] := by
  unfold fdN
  cases q : f.find? fun q => decide (q.1 = x) with
  | none => rfl
  | some r => exact absurd (List.mem_map.mpr ⟨r, List.mem_of_find?_eq_some q, by simpa using List.find?_some q⟩) h
theorem fdN_map {x : Str} {v : DefB} {y : Str} : ∀ f : List (Str × List DefB), fdN (f.map fun q => if q.1 = x then (q.1, q.2 ++ [v]) else q) y = if y = x ∧ y ∈ f.map (·.1) then fdN f y ++ [v] else fdN f y
  | [] => by simp [fdN]
  | q :: f => by
    have ih := fdN_map (x := x) (v := v) (y := y) f
    unfold fdN at ih ⊢
    rw [List.map_cons, List.find?_cons, List.find?_cons]
    have e1 : (if q.1 = x then (q.1, q.2 ++ [v]) else q).1 = q.1 := by split <;> rfl
    rw [e1]
    by_cases hy : q.1 = y
    · rw [decide_eq_true hy]
      dsimp only
      by_cases hx : q.1 = x
      · rw [if_pos hx, if_pos ⟨hy.symm.trans hx, by simp [hy]⟩]
        rfl
      · rw [if_neg hx, if_neg fun z => hx (hy.trans z.1)]
    · rw [decide_eq_false hy]
      dsimp only
      rw [ih]
      have : (y = x ∧ y ∈ f.map (·.1)) ↔ (y = x ∧ y ∈ (q :: f).map (·.1)) := by
        rw [List.map_cons, List.mem_cons]
        constructor
        · exact fun h => ⟨h.1, .inr h.2⟩
        · rintro ⟨h1, h2 | h2⟩
          · exact absurd h2.symm hy
          · exact ⟨h1, h2⟩
      by_cases c : y = x ∧ y ∈ f.map (·.1)
      · rw [if_pos c, if_pos (this.mp c)]
      · rw [if_neg c, if_neg fun z => c (this.mpr z)]
theorem fdN_put {f : List (Str × List DefB)} {x y : Str} {v : DefB} : fdN (putF f x v) y = fdN f y ++ if y = x then [v] else [] := by
  unfold putF
  split
  · rename_i h
    rw [fdN_map]
    by_cases e : y = x
    · subst e
      rw [if_pos ⟨rfl, h⟩, if_pos rfl]
    · rw [if_neg fun z => e z.1, if_neg e, List.append_nil]
  · rename_i h
    by_cases e : y = x
    · subst e
      rw [if_pos rfl, fdN_none h]
      unfold fdN
      rw [List.find?_append, List.find?_eq_none.mpr (fun q hq => by
        simp only [decide_eq_true_eq]
        exact fun z => h (z ▸ List.mem_map_of_mem hq))]
      simp
    · rw [if_neg e, List.append_nil]
      unfold fdN
      rw [List.find?_append]
      have : ([(x, [v])] : List (Str × List DefB)).find? (fun q => decide (q.1 = y)) = none := by simp [Ne.symm e]
      rw [this]
      cases f.find? fun q => decide (q.1 = y) <;> rfl
theorem putF_mem {f : List (Str × List DefB)} {x y : Str} {v : DefB} : y ∈ (putF f x v).map (·.1) ↔ y ∈ f.map (·.1) ∨ y = x := by
  rw [putF_keys]
  split
  · rename_i h
    exact ⟨.inl, fun z => z.elim id fun e => e ▸ h⟩
  · rw [List.mem_append, List.mem_singleton]
theorem putW_mem {w : List (Str × Option (Str × Str))} {x y : Str} {u : Option (Str × Str)} : y ∈ (putW w x u).map (·.1) ↔ y ∈ w.map (·.1) ∨ y = x := by
  rw [putW_keys]
  split
  · rename_i h
    exact ⟨.inl, fun z => z.elim id fun e => e ▸ h⟩
  · rw [List.mem_append, List.mem_singleton]
/-- a member's definitions of a name -/
def defsN (m : MemA) (x : Str) : List DefB := (m.defs.filter fun d => decide (d.1 = x)).map fun d => (d.2.1, some d.2.2)
theorem foldF_fdN (x : Str) : ∀ (ds : List DefA) (f : List (Str × List DefB)), fdN (ds.foldl (fun f d => putF f d.1 (d.2.1, some d.2.2)) f) x = fdN f x ++ (ds.filter fun d => decide (d.1 = x)).map fun d => (d.2.1, some d.2.2)
  | [], f => by simp
  | d :: ds, f => by
    rw [List.foldl_cons, foldF_fdN x ds, fdN_put, List.filter_cons, List.append_assoc]
    congr 1
    by_cases e : d.1 = x
    · rw [if_pos e.symm, if_pos (decide_eq_true e)]
      rfl
    · rw [if_neg (Ne.symm e), if_neg (by simpa using e)]
      rfl
theorem foldF_mem (x : Str) : ∀ (ds : List DefA) (f : List (Str × List DefB)), x ∈ (ds.foldl (fun f d => putF f d.1 (d.2.1, some d.2.2)) f).map (·.1) ↔ x ∈ f.map (·.1) ∨ x ∈ ds.map (·.1)
  | [], f => by simp
  | d :: ds, f => by
    rw [List.foldl_cons, foldF_mem x ds, putF_mem, List.map_cons, List.mem_cons, or_assoc]
theorem foldW_mem (u : Option (Str × Str)) (x : Str) : ∀ (ws : List Str) (w : List (Str × Option (Str × Str))), x ∈ (ws.foldl (fun w y => putW w y u) w).map (·.1) ↔ x ∈ w.map (·.1) ∨ x ∈ ws
  | [], w => by simp
  | y :: ws, w => by
    rw [List.foldl_cons, foldW_mem u x ws, putW_mem, List.mem_cons, or_assoc]
abbrev Tk := List (Str × MemA)
structure TkL (f : FaceA) (T : Tk) (a : LA) : Prop where
  rows : a.rows.map rkey = T.map fun t => (t.1, t.2.name)
  key : ∀ y, y ∈ a.found.map (·.1) ↔ y ∈ (initF f).map (·.1) ∨ ∃ t ∈ T, y ∈ dns t.2
  fd : ∀ y, fdN a.found y = fdN (initF f) y ++ T.flatMap fun t => defsN t.2 y
  wk : ∀ y, y ∈ a.wby.map (·.1) ↔ y ∈ (initW f).map (·.1) ∨ ∃ t ∈ T, y ∈ t.2.wants
theorem tkL_nil {f : FaceA} : TkL f [] (initA f) := ⟨rfl, fun y => by simp [initA], fun y => by simp [initA], fun y => by simp [initA]⟩
theorem ex_snoc {T : Tk} {t0 : Str × MemA} {Pt : Str × MemA → Prop} : (∃ t ∈ T ++ [t0], Pt t) ↔ (∃ t ∈ T, Pt t) ∨ Pt t0 := by
  constructor
  · rintro ⟨t, ht, hp⟩
    rcases List.mem_append.mp ht with ht | ht
    · exact .inl ⟨t, ht, hp⟩
    · rw [List.mem_singleton.mp ht] at hp
      exact .inr hp
  · rintro (⟨t, ht, hp⟩ | hp)
    · exact ⟨t, List.mem_append_left _ ht, hp⟩
    · exact ⟨t0, by simp, hp⟩
theorem TkL.take {f : FaceA} {T : Tk} {a : LA} (h : TkL f T a) (an : Str) (m : MemA) : TkL f (T ++ [(an, m)]) (takeL a an m) := by
  refine ⟨?_, fun y => ?_, fun y => ?_, fun y => ?_⟩
  · show (a.rows ++ [(an, m.name, causeL a m)]).map rkey = _
    rw [List.map_append, List.map_append, h.rows]
    rfl
  · rw [ex_snoc, ← or_assoc, ← h.key]
    exact foldF_mem y m.defs a.found
  · rw [List.flatMap_append, ← List.append_assoc, ← h.fd]
    have := foldF_fdN y m.defs a.found
    show fdN (m.defs.foldl (fun f d => putF f d.1 (d.2.1, some d.2.2)) a.found) y = _
    rw [this]
    simp [defsN]
  · rw [ex_snoc, ← or_assoc, ← h.wk]
    exact foldW_mem _ y m.wants a.wby
/-- open, by what was taken -/
def opnT (f : FaceA) (T : Tk) (y : Str) : Prop := (y ∈ (initW f).map (·.1) ∨ ∃ t ∈ T, y ∈ t.2.wants) ∧ ¬ (y ∈ (initF f).map (·.1) ∨ ∃ t ∈ T, y ∈ dns t.2)
theorem TkL.opn {f : FaceA} {T : Tk} {a : LA} (h : TkL f T a) (y : Str) : y ∈ openL a ↔ opnT f T y := by
  unfold openL opnT
  rw [(sortS_perm _).mem_iff, List.mem_filter, h.wk, ← h.key]
  simp
def fitsT (f : FaceA) (T : Tk) (an : Str) (m : MemA) : Prop := (an, m.name) ∉ T.map (fun t => (t.1, t.2.name)) ∧ ∃ y ∈ dns m, opnT f T y
theorem TkL.fits {f : FaceA} {T : Tk} {a : LA} (h : TkL f T a) {an : Str} {m : MemA} : fitsB a an m = true ↔ fitsT f T an m := by
  unfold fitsB fitsT
  rw [Bool.and_eq_true, h.rows]
  simp only [Bool.not_eq_true', decide_eq_false_iff_not, List.any_eq_true, decide_eq_true_eq]
  exact and_congr Iff.rfl ⟨fun ⟨y, h1, h2⟩ => ⟨y, h2, (h.opn y).mp h1⟩, fun ⟨y, h1, h2⟩ => ⟨y, (h.opn y).mpr h2, h1⟩⟩
/-- the first member that fits -/
def NxT (f : FaceA) (T : Tk) (r : ArcA) (m : MemA) : Prop := ∃ us vs, r.mems = us ++ m :: vs ∧ (∀ u ∈ us, ¬ fitsT f T r.name u) ∧ fitsT f T r.name m
def NoT (f : FaceA) (T : Tk) (r : ArcA) : Prop := ∀ u ∈ r.mems, ¬ fitsT f T r.name u
theorem TkL.next_some {f : FaceA} {T : Tk} {a : LA} (h : TkL f T a) {r : ArcA} {m : MemA} (q : NxT f T r m) : nextM a r = some m := by
  obtain ⟨us, vs, e, h1, h2⟩ := q
  unfold nextM
  rw [e]
  have : ∀ us : List MemA, (∀ u ∈ us, ¬ fitsT f T r.name u) → (us ++ m :: vs).find? (fitsB a r.name) = some m := by
    intro us
    induction us with
    | nil => intro _; rw [List.nil_append, List.find?_cons, h.fits.mpr h2]
    | cons u us ih =>
      intro hu
      have hn : fitsB a r.name u = false := by rw [Bool.eq_false_iff]; exact fun z => hu u (by simp) (h.fits.mp z)
      rw [List.cons_append, List.find?_cons, hn]
      exact ih fun v hv => hu v (by simp [hv])
  exact this us h1
theorem TkL.next_none {f : FaceA} {T : Tk} {a : LA} (h : TkL f T a) {r : ArcA} (q : NoT f T r) : nextM a r = none := by
  unfold nextM
  exact List.find?_eq_none.mpr fun u hu z => q u hu (h.fits.mp z)
/-- a search, told by what is taken -/
inductive Run (f : FaceA) (r : ArcA) : Tk → Tk → Prop
  | done {T : Tk} (h : NoT f T r) : Run f r T T
  | step {T T' : Tk} {m : MemA} (h : NxT f T r m) (h2 : Run f r (T ++ [(r.name, m)]) T') : Run f r T T'
theorem Run.search {f : FaceA} {r : ArcA} {T T' : Tk} (h : Run f r T T') : ∀ {a : LA}, TkL f T a → TkL f T' (searchA a r) ∧ NoT f T' r := by
  induction h with
  | done h => exact fun {a} t => by rw [searchA_none (t.next_none h)]; exact ⟨t, h⟩
  | step h _ ih => exact fun {a} t => by rw [searchA_some (t.next_some h)]; exact ih (t.take _ _)
end Z

set_option Elab.async false
set_option linter.all false
set_option maxRecDepth 100000
set_option maxHeartbeats 4000000
namespace Z
open PySem PySem.Spec PyProof.Rows L2 TL
open PySem.PyData (strOk)
/-! ### reasons (Link.why) -/
inductive WhyL (a : LA) : Option (Str × Str) → List Row3 → Prop
  | nil : WhyL a none []
  | cons {r : Row3} {w : Option (Str × Str)} {L : List Row3} (h1 : r ∈ a.rows) (h2 : (r.2.2, w) ∈ a.wby) (h3 : WhyL a w L) : WhyL a (some (rkey r)) (r :: L)
def tWhy (cs : List Str) (FN : MF) (s1 : SM) : SM := (sC (sP 3 4 (aC (mN fLst aN) (aC (mN fTup (aC (mV 1) (aC (mV 2) aN))) aN))) (sC (sI (bOr (bNot (toT (mN FN (aC (mV 1) aN)))) (bOr (bNot (toT (mN FN (aC (mV 2) aN)))) (toB (m2 (dInT true) (mV 4) (mFld cs "got" (mV 0)))))) s1 sN) (sC (sW 1000 (toB (m2 dNotN2 (mV 4) (mC .non))) (sC (sE (mBM "list" (mtL lAppend) (mV 3) (aC (mN fTup (aC (m2 dIx (mV 4) (mC (.int 0))) (aC (m2 dIx (mV 4) (mC (.int 1))) (aC (m2 dGetT (mFld cs "got" (mV 0)) (mV 4)) aN)))) aN))) (sA 4 (m2 dGetD (mFld cs "wanted_by" (mV 0)) (m2 dGetT (mFld cs "got" (mV 0)) (mV 4)))))) (sR (mV 3)))))
def WhyOk (F : MF) : Prop := ∀ {s0 s : Sto} {l : Nat} {base : D} {p : LkP} {ls : List Nat} {a : LA} {c0 : Nat} {x y : Str} {L : List Row3}, IsLa s0 s l base p ls a → LaOk c0 a → IsName x → IsName y → WhyL a (some (x, y)) L → L.length ≤ 900 → (F [.ref l, .str x, .str y] s).wp fun d s' => Eff [] s s' ∧ ∃ k, d = .ref k ∧ s.length ≤ k ∧ mlAt s' k = some (L.map lrow)
structure WhI (a : LA) (L : List Row3) (s : Sto) (l : Nat) (x y : Str) (m : Nat) (e : Ev) (s' : Sto) : Prop where
  ex : Eff [] s s' ∧ ∃ L1 L2 w, L = L1 ++ L2 ∧ L2.length = m ∧ WhyL a w L2 ∧ mlAt s' s.length = some (L1.map lrow) ∧ e = [some (.ref l), some (.str x), some (.str y), some (.ref s.length), some (wbD w)]
end Z

set_option Elab.async false
set_option linter.all false
set_option maxRecDepth 100000
set_option maxHeartbeats 4000000
namespace Z
open PySem PySem.Spec PyProof.Rows L2
/-! ### tuple * int, once too -/
def rRep1 (K : PySem.W.Frag) : R2 := fun x y H Q => ∃ l xs, x = .ref l ∧ y = .int 1 ∧ SqT K H l xs ∧ Q (.ref l) H
def rRepA (K : PySem.W.Frag) : R2 := fun x y H Q => rRepT K x y H Q ∨ rRep1 K x y H Q
section
variable {X : Cx}
end
def dMulT (x y : D) (s : Sto) : Rs D := match x, y with
  | .tup xs, .int k => if xs ≠ [] ∧ 1 ≤ k ∧ k ≤ 1000 ∧ xs.length ≤ 1000 then .ok (.tup (List.replicate k.toNat xs).flatten) s else .no
  | _, _ => .no
section
variable [Row] {X : Cx} {W : WX}
end
section
variable {P : D → Sto → Prop} {E : Str → Str → D → Sto → Prop} {s : Sto}
@[simp ↓] theorem z_mulT {xs : List D} {k : Int} : (dMulT (.tup xs) (.int k) s).wp P E = ((xs ≠ [] ∧ 1 ≤ k ∧ k ≤ 1000 ∧ xs.length ≤ 1000) ∧ P (.tup (List.replicate k.toNat xs).flatten) s) := by
  show (if _ then _ else _ : Rs D).wp P E = _
  rw [z_iteN, z_ok]
end
end Z

set_option Elab.async false
set_option linter.all false
set_option maxRecDepth 100000
set_option maxHeartbeats 4000000
namespace Z
open PySem PySem.Spec PySem.Calls PyProof.Rows L2
open PySem.PyData (strOk)
variable [Row]
/-! ### sorted(a dict of texts) -/
section
variable {X : Cx} {W : WX}
def fSortK (B : MF) : MF := fun ds s => match ds with
  | [.ref n] => match s[n]? with
    | some (.dict false kvs) => match (kvs.map (·.1)).mapM strD with
      | some zs => if zs.all strOk = true ∧ zs.length ≤ 100000 then .ok (.ref s.length) (s ++ [.lst ((sortS zs).map D.str)]) else .no
      | none => .no
    | _ => B ds s
  | _ => B ds s
omit [Row] in
theorem KR.strs {K : PySem.W.Frag} {ρ : Nat → Addr} {n : Nat} {H : Hp} : ∀ {kvs : List (D × D)} {vs : List (Key × V)} {zs : List Str}, KR keyD K ρ n H kvs vs → (kvs.map (·.1)).mapM strD = some zs → vs.map (·.1) = zs.map Sum.inr
  | [], vs, zs, h, hz => by
    have h : vs = [] := h
    subst h
    cases hz
    rfl
  | p :: ps, vs, zs, h, hz => by
    obtain ⟨k, v, r, rfl, h1, _, h3⟩ := h
    rw [List.map_cons, List.mapM_cons] at hz
    obtain ⟨z, q1, hz⟩ := Option.bind_eq_some_iff.mp hz
    obtain ⟨zs1, q2, hz⟩ := Option.bind_eq_some_iff.mp hz
    cases hz
    obtain ⟨p1, p2⟩ := p
    cases p1 <;> first | (cases q1; done) | skip
    cases q1
    cases h1
    rw [List.map_cons, List.map_cons, KR.strs h3 q2]
end
section
omit [Row]
end
end Z

set_option Elab.async false
set_option linter.all false
set_option maxRecDepth 100000
set_option maxHeartbeats 4000000
namespace Z
open PySem PySem.Spec PyProof.Rows L2 TL
open PySem.PyData (strOk)
/-! ### the result of a link; links compared -/
def fdKeys (a : LA) : List Str := sortS (a.found.map (·.1))
def bindsD (a : LA) : List D := (fdKeys a).map fun x => .tup [.str x, strongD (fdOf a x)]
def resD (a : LA) : D := .tup [.tup (bindsD a), .tup ((openL a).map D.str), .tup ((clashL a).map D.str)]
def tResult (cs : List Str) (B FS' : MF) (tpL tpC : Tb) : SM := (sC (sA 1 (mN fTuple (aC (mL (iSq (mN (fSortK B) (aC (mFld cs "found" (mV 0)) aN))) (gN 2) tY (mN fTup (aC (mV 2) (aC (mN FS' (aC (m2 dGetD (mFld cs "found" (mV 0)) (mV 2)) aN)) aN))) [2]) aN))) (sR (mN fTup (aC (mV 1) (aC (mN fTuple (aC (mProp tpL (mV 0)) aN)) (aC (mN fTuple (aC (mProp tpC (mV 0)) aN)) aN))))))
def ResultOk (F : MF) : Prop := ∀ {s0 s : Sto} {l : Nat} {base : D} {p : LkP} {ls : List Nat} {a : LA} {c0 : Nat}, IsLa s0 s l base p ls a → LaOk c0 a → FdOk a → (F [.ref l] s).wp fun d s' => d = resD a ∧ Eff [] s s'
theorem fdKeys_in {a : LA} {x : Str} : x ∈ fdKeys a ↔ x ∈ a.found.map (·.1) := (sortS_perm _).mem_iff
def tEqLk (cls : List Str) (tpR : Tb) : SM := (sR (mAnd (mIsiC cls "Link" (mV 1)) (m2 dEq (mProp tpR (mV 0)) (mProp tpR (mV 1)))))
end Z

set_option Elab.async false
set_option linter.all false
set_option maxRecDepth 100000
set_option maxHeartbeats 4000000
namespace Z
open PySem PySem.Spec PyProof.Rows L2 TL
open PySem.PyData (strOk)
/-! ### drawn lines and faces -/
def tLineB (take of_ : MF) : SM := (sI (toB (m2 dEq (mN take (aC (mV 0) (aC (mC (.int 4)) aN))) (mC (.int 0)))) (sE (mBM "list" (mtL lAppend) (mV 3) (aC (mN fTuple (aC (mL (iR1 (aC (m2 dAdd (mC (.int 1)) (mN take (aC (mV 0) (aC (mC (.int 3)) aN)))) aN)) (gN 5) tY (mN of_ (aC (mV 0) (aC (mV 1) aN))) [5]) aN)) aN))) (sE (mBM "list" (mtL lAppend) (mV 3) (aC (mN of_ (aC (mV 0) (aC (mV 1) aN))) aN))))
def tLineR : SM := (sR (mN fTuple (aC (mV 3) aN)))
def tLine1 (take of_ : MF) : SM := (sC (sF (iR1 (aC (m2 dMul2 (mN take (aC (mV 0) (aC (m2 dAdd (mV 2) (mC (.int 1))) aN))) (mN fInt (aC (m2 dNe (mV 1) (mN fLst aN)) aN))) aN)) (gN 4) (tLineB take of_)) tLineR)
def tLine (take of_ : MF) : SM := (sC (sA 3 (mN fLst aN)) (tLine1 take of_))
/-- items of a drawn line -/
structure ItW (archs : List Str) (i : ItA) : Prop where
  ne : i.names ≠ []
  sub : ∀ x ∈ i.names, x ∈ archs
  len : i.names.length ≤ 3
structure LiI (archs : List Str) (s : Sto) (k n : Nat) (m : Int) (q : Nat) (i : Nat) (e : Ev) (s' : Sto) : Prop where
  ex : Eff [k] s s' ∧ ∃ (line : List ItA) (o4 o5 : Option D), line.length = i ∧ (∀ it ∈ line, ItW archs it) ∧ mlAt s' q = some (lineD line) ∧ e = [some (.ref k), some (.ref n), some (.int m), some (.ref q), o4, o5]
/-! faces -/
def tFaceR (take of_ : MF) : SM := (sR (mN fPtuple (aC (mL (iSq (mN fSortA (aC (mV 1) aN))) (gN 3) (toB (m2 dGt (mN take (aC (mV 0) (aC (mC (.int 3)) aN))) (mC (.int 0)))) (mN fTup (aC (mV 3) (aC (mN of_ (aC (mV 0) (aC (mV 2) aN))) aN))) [3]) aN)))
def tFace (take of_ : MF) : SM := (sC (sA 2 (mN fLst (aC (mC (.str "wanted")) (aC (mC (.str "wanted")) (aC (mC (.str "weak")) (aC (mC (.str "common")) (aC (mC (.str "strong")) aN))))))) (tFaceR take of_))
def fiveW : List Str := ["wanted", "wanted", "weak", "common", "strong"]
end Z

set_option Elab.async false
set_option linter.all false
set_option maxRecDepth 100000
set_option maxHeartbeats 4000000
namespace Z
open PySem PySem.Spec PyProof.Rows L2 TL
open PySem.PyData (strOk)
/-! ### each taken member has its reason -/
theorem putW_keep {w : List (Str × Option (Str × Str))} {x : Str} {v : Option (Str × Str)} {q : Str × Option (Str × Str)} (h : q ∈ w) : q ∈ putW w x v := by
  unfold putW
  split
  · exact h
  · exact List.mem_append_left _ h
theorem putW_from {w : List (Str × Option (Str × Str))} {x : Str} {v : Option (Str × Str)} {q : Str × Option (Str × Str)} (h : q ∈ putW w x v) : q ∈ w ∨ q.2 = v := by
  unfold putW at h
  split at h
  · exact .inl h
  · rcases List.mem_append.mp h with h | h
    · exact .inl h
    · rw [List.mem_singleton.mp h]; exact .inr rfl
theorem foldW_old {v : Option (Str × Str)} : ∀ (ws : List Str) {w : List (Str × Option (Str × Str))} {q : Str × Option (Str × Str)}, q ∈ w → q ∈ ws.foldl (fun w x => putW w x v) w
  | [], w, q, h => h
  | y :: ws, w, q, h => foldW_old ws (putW_keep h)
theorem foldW_new {v : Option (Str × Str)} : ∀ (ws : List Str) {w : List (Str × Option (Str × Str))} {q : Str × Option (Str × Str)}, q ∈ ws.foldl (fun w x => putW w x v) w → q ∈ w ∨ q.2 = v
  | [], w, q, h => .inl h
  | y :: ws, w, q, h => by
    rcases foldW_new ws h with h | h
    · exact putW_from h
    · exact .inr h
theorem wby_take {a : LA} {an : Str} {m : MemA} {q : Str × Option (Str × Str)} (h : q ∈ a.wby) : q ∈ (takeL a an m).wby := foldW_old m.wants h
structure WyI (a : LA) : Prop where
  rw : ∀ (i : Nat) (r : Row3), a.rows[i]? = some r → ∃ w, (r.2.2, w) ∈ a.wby ∧ (w = none ∨ ∃ (j : Nat) (r' : Row3), j < i ∧ a.rows[j]? = some r' ∧ w = some (rkey r'))
  wb : ∀ q ∈ a.wby, q.2 = none ∨ ∃ (j : Nat) (r' : Row3), a.rows[j]? = some r' ∧ q.2 = some (rkey r')
/-- the name for which a member that fits is taken -/
theorem cause_in {a : LA} {an : Str} {m : MemA} (h : fitsB a an m = true) : causeL a m ∈ openL a ∧ causeL a m ∈ dns m := by
  unfold fitsB at h
  rw [Bool.and_eq_true, List.any_eq_true] at h
  obtain ⟨y, hy, hd⟩ := h.2
  have hy2 : y ∈ (openL a).filter fun x => decide (x ∈ dns m) := List.mem_filter.mpr ⟨hy, hd⟩
  unfold causeL
  cases q : (openL a).filter fun x => decide (x ∈ dns m) with
  | nil => rw [q] at hy2; cases hy2
  | cons z zs =>
    have : z ∈ (openL a).filter fun x => decide (x ∈ dns m) := by rw [q]; simp
    obtain ⟨h1, h2⟩ := List.mem_filter.mp this
    exact ⟨h1, of_decide_eq_true h2⟩
theorem open_in {a : LA} {y : Str} : y ∈ openL a ↔ y ∈ a.wby.map (·.1) ∧ y ∉ a.found.map (·.1) := by
  unfold openL
  rw [(sortS_perm _).mem_iff, List.mem_filter]
  simp
theorem WyI.take {a : LA} {r : ArcA} {m : MemA} (h : WyI a) (q : nextM a r = some m) : WyI (takeL a r.name m) := by
  obtain ⟨hm, hf⟩ := nextM_some q
  obtain ⟨c1, c2⟩ := cause_in hf
  have at_old : ∀ {j : Nat} {r' : Row3}, a.rows[j]? = some r' → (takeL a r.name m).rows[j]? = some r' := fun {j r'} e => by
    rw [take_rows, List.getElem?_append_left (List.getElem?_eq_some_iff.mp e).1]
    exact e
  have lst : (takeL a r.name m).rows[a.rows.length]? = some (r.name, m.name, causeL a m) := by
    rw [take_rows, List.getElem?_append_right (Nat.le_refl _)]
    simp
  refine ⟨fun i r0 hi => ?_, fun p hp => ?_⟩
  · rw [take_rows] at hi
    by_cases hlt : i < a.rows.length
    · rw [List.getElem?_append_left hlt] at hi
      obtain ⟨w, h1, h2⟩ := h.rw i r0 hi
      refine ⟨w, wby_take h1, ?_⟩
      rcases h2 with h2 | ⟨j, r', h3, h4, h5⟩
      · exact .inl h2
      · exact .inr ⟨j, r', h3, at_old h4, h5⟩
    · have hi' := (List.getElem?_eq_some_iff.mp hi).1
      rw [List.length_append, List.length_singleton] at hi'
      have hie : i = a.rows.length := by omega
      subst hie
      rw [List.getElem?_append_right (Nat.le_refl _)] at hi
      simp at hi
      subst hi
      obtain ⟨p, hp, hpe⟩ := List.mem_map.mp (open_in.mp c1).1
      refine ⟨p.2, ?_, ?_⟩
      · show (causeL a m, p.2) ∈ _
        rw [← hpe]
        exact wby_take hp
      · rcases h.wb p hp with h2 | ⟨j, r', h4, h5⟩
        · exact .inl h2
        · exact .inr ⟨j, r', (List.getElem?_eq_some_iff.mp h4).1, at_old h4, h5⟩
  · rcases foldW_new m.wants (show p ∈ m.wants.foldl (fun w x => putW w x (some (r.name, m.name))) a.wby from hp) with hp | hp
    · rcases h.wb p hp with h2 | ⟨j, r', h4, h5⟩
      · exact .inl h2
      · exact .inr ⟨j, r', at_old h4, h5⟩
    · exact .inr ⟨_, _, lst, hp⟩
theorem WyI.why {a : LA} (h : WyI a) : ∀ (n i : Nat) (r : Row3), i ≤ n → a.rows[i]? = some r → ∃ L, WhyL a (some (rkey r)) L ∧ L.length ≤ i + 1 := by
  intro n
  induction n with
  | zero =>
    intro i r hi hr
    obtain ⟨w, h1, h2⟩ := h.rw i r hr
    rcases h2 with rfl | ⟨j, r', h3, _, _⟩
    · exact ⟨[r], .cons (List.mem_of_getElem? hr) h1 .nil, by simp⟩
    · omega
  | succ n ih =>
    intro i r hi hr
    obtain ⟨w, h1, h2⟩ := h.rw i r hr
    rcases h2 with rfl | ⟨j, r', h3, h4, rfl⟩
    · exact ⟨[r], .cons (List.mem_of_getElem? hr) h1 .nil, by simp⟩
    · obtain ⟨L, g1, g2⟩ := ih j r' (by omega) h4
      exact ⟨r :: L, .cons (List.mem_of_getElem? hr) h1 g1, by rw [List.length_cons]; omega⟩
/-! ### what a taken member defines is found -/
structure NamesU (as : List ArcA) : Prop where
  nd : (as.map (·.name)).Nodup
  mn : ∀ r ∈ as, (r.mems.map (·.name)).Nodup
theorem NamesU.arc {as : List ArcA} (h : NamesU as) {r r' : ArcA} (h1 : r ∈ as) (h2 : r' ∈ as) (e : r.name = r'.name) : r = r' := by
  obtain ⟨i, hi⟩ := List.mem_iff_getElem?.mp h1
  obtain ⟨j, hj⟩ := List.mem_iff_getElem?.mp h2
  obtain ⟨hil, hie⟩ := List.getElem?_eq_some_iff.mp hi
  obtain ⟨hjl, hje⟩ := List.getElem?_eq_some_iff.mp hj
  have pw := List.pairwise_iff_getElem.mp h.nd
  have e2 : (as.map (·.name))[i]'(by simpa using hil) = (as.map (·.name))[j]'(by simpa using hjl) := by
    rw [List.getElem_map, List.getElem_map, hie, hje, e]
  rcases Nat.lt_trichotomy i j with h | h | h
  · exact absurd e2 (pw i j (by simpa using hil) (by simpa using hjl) h)
  · subst h
    rw [hi] at hj
    exact Option.some.inj hj
  · exact absurd e2.symm (pw j i (by simpa using hjl) (by simpa using hil) h)
theorem nodup_name {ms : List MemA} (nd : (ms.map (·.name)).Nodup) {m m' : MemA} (h1 : m ∈ ms) (h2 : m' ∈ ms) (e : m.name = m'.name) : m = m' := by
  induction ms with
  | nil => cases h1
  | cons x ms ih =>
    rw [List.map_cons, List.nodup_cons] at nd
    rcases List.mem_cons.mp h1 with e1 | g1
    · rcases List.mem_cons.mp h2 with e2 | g2
      · rw [e1, e2]
      · refine absurd ?_ nd.1
        rw [← e1, e]
        exact List.mem_map_of_mem g2
    · rcases List.mem_cons.mp h2 with e2 | g2
      · refine absurd ?_ nd.1
        rw [← e2, ← e]
        exact List.mem_map_of_mem g1
      · exact ih nd.2 g1 g2
/-- what taken members define is found -/
def TkF (as : List ArcA) (a : LA) : Prop := ∀ r ∈ as, ∀ m ∈ r.mems, (r.name, m.name) ∈ a.rows.map rkey → ∀ y ∈ dns m, y ∈ a.found.map (·.1)
theorem found_take {a : LA} {an : Str} {m : MemA} {y : Str} : y ∈ (takeL a an m).found.map (·.1) ↔ y ∈ a.found.map (·.1) ∨ y ∈ dns m := foldF_mem y m.defs a.found
theorem TkF.take {as : List ArcA} (U : NamesU as) {a : LA} (h : TkF as a) {r : ArcA} (hr : r ∈ as) {m : MemA} (hm : m ∈ r.mems) : TkF as (takeL a r.name m) := fun r2 hr2 m2 hm2 hk y hy => by
  rw [found_take]
  rw [take_rows, List.map_append, List.mem_append] at hk
  rcases hk with hk | hk
  · exact .inl (h r2 hr2 m2 hm2 hk y hy)
  · have e : (r2.name, m2.name) = (r.name, m.name) := List.mem_singleton.mp hk
    injection e with e1 e2
    have := U.arc hr2 hr e1
    subst this
    have := nodup_name (U.mn _ hr2) hm2 hm e2
    subst this
    exact .inr hy
/-! ### two stores in which the same members come next -/
structure Like (J : LA → Prop) (as bs : List ArcA) (g : ArcA → ArcA) : Prop where
  nm : ∀ r, (g r).name = r.name
  arc : ∀ x, arcOf bs x = (arcOf as x).map g
  mem : ∀ r ∈ as, g r ∈ bs
  nx : ∀ r ∈ as, ∀ a, J a → nextM a (g r) = nextM a r
  st : ∀ r ∈ as, ∀ a m, nextM a r = some m → J a → J (takeL a r.name m)
section
variable {J : LA → Prop} {as bs : List ArcA} {g : ArcA → ArcA} (H : Like J as bs g)
include H
theorem Like.search {r : ArcA} (hr : r ∈ as) : ∀ (n : Nat) (a : LA), leftL a r ≤ n → J a → searchA a (g r) = searchA a r := by
  intro n
  induction n with
  | zero =>
    intro a hn ha
    cases q : nextM a r with
    | none => rw [searchA_none q, searchA_none (by rw [H.nx r hr a ha]; exact q)]
    | some m =>
      have := left_take q
      omega
  | succ n ih =>
    intro a hn ha
    cases q : nextM a r with
    | none => rw [searchA_none q, searchA_none (by rw [H.nx r hr a ha]; exact q)]
    | some m =>
      have hl := left_take q
      rw [searchA_some q, searchA_some (r := g r) (m := m) (by rw [H.nx r hr a ha]; exact q), H.nm]
      exact ih _ (by omega) (H.st r hr a m q ha)
theorem Like.round : ∀ (names : List Str) (a : LA), J a → roundA bs names a = roundA as names a ∧ J (roundA as names a)
  | [], a, h => ⟨rfl, h⟩
  | x :: names, a, h => by
    have e : ∀ cs : List ArcA, roundA cs (x :: names) a = roundA cs names (match arcOf cs x with | some r => searchA a r | none => a) := fun cs => by
      unfold roundA
      rw [List.foldl_cons]
      first | done | (cases arcOf cs x <;> rfl)
    rw [e bs, e as, H.arc]
    cases q : arcOf as x with
    | none => exact Like.round names a h
    | some r =>
      have hr : r ∈ as := List.mem_of_find?_eq_some q
      dsimp only [Option.map_some]
      rw [H.search hr _ a (Nat.le_refl _) h]
      exact Like.round names _ (search_ind J (fun a m q h => H.st r hr a m q h) a h)
theorem Like.group (names : List Str) : ∀ (n : Nat) (a : LA), RowsOk as a → RowsOk bs a → (memKeys as).length - a.rows.length ≤ n → J a → groupA bs names a = groupA as names a ∧ J (groupA as names a) ∧ RowsOk bs (groupA as names a) := by
  intro n
  induction n with
  | zero =>
    intro a R1 R2 hn ha
    obtain ⟨r1, r2⟩ := H.round names a ha
    have s1 := groupA_step (names := names) R1 (fun b => round_rows b) (fun b => round_mono b)
    have s2 := groupA_step (names := names) R2 (fun b => round_rows b) (fun b => round_mono b)
    have R1' := round_rows (names := names) a R1
    have R2' := round_rows (names := names) a R2
    have mo := round_mono (as := as) (names := names) a
    have l1 := R1'.len
    rw [r1] at s2 R2'
    have e : (roundA as names a).rows.length = a.rows.length := by omega
    rw [if_pos e] at s1 s2
    rw [s1, s2]
    exact ⟨rfl, r2, R2'⟩
  | succ n ih =>
    intro a R1 R2 hn ha
    obtain ⟨r1, r2⟩ := H.round names a ha
    have s1 := groupA_step (names := names) R1 (fun b => round_rows b) (fun b => round_mono b)
    have s2 := groupA_step (names := names) R2 (fun b => round_rows b) (fun b => round_mono b)
    have R1' := round_rows (names := names) a R1
    have R2' := round_rows (names := names) a R2
    have mo := round_mono (as := as) (names := names) a
    rw [r1] at s2 R2'
    by_cases e : (roundA as names a).rows.length = a.rows.length
    · rw [if_pos e] at s1 s2
      rw [s1, s2]
      exact ⟨rfl, r2, R2'⟩
    · rw [if_neg e] at s1 s2
      rw [s1, s2]
      exact ih _ R1' R2' (by omega) r2
theorem Like.link (line : List ItA) (f : FaceA) (h0 : J (initA f)) : linkA bs line f = linkA as line f ∧ J (linkA as line f) ∧ RowsOk bs (linkA as line f) := by
  have main : ∀ (line : List ItA) (a : LA), RowsOk as a → RowsOk bs a → J a → line.foldl (fun a i => groupA bs i.names a) a = line.foldl (fun a i => groupA as i.names a) a ∧ J (line.foldl (fun a i => groupA as i.names a) a) ∧ RowsOk bs (line.foldl (fun a i => groupA as i.names a) a) := by
    intro line
    induction line with
    | nil => exact fun a _ R2 h => ⟨rfl, h, R2⟩
    | cons i line ih =>
      intro a R1 R2 h
      obtain ⟨g1, g2, g3⟩ := H.group i.names _ a R1 R2 (Nat.le_refl _) h
      rw [List.foldl_cons, List.foldl_cons, g1]
      exact ih _ (group_ind (fun a => RowsOk as a) (fun r hr a m q h => h.take hr q) i.names a R1) g3 g2
  exact main line (initA f) (initA_rows f) (initA_rows f) h0
end
end Z

set_option Elab.async false
set_option linter.all false
set_option maxRecDepth 100000
set_option maxHeartbeats 4000000
namespace Z
open PySem PySem.Spec PySem.Calls PyProof.Rows L2
/-! ### bool(x) -/
section
variable {prog : Program} {w : World} {A : Around} {E : Value → Shared → Prop} {s : Shared}
end
variable [Row]
section
variable {X : Cx} {W : WX} {k : Nat} {tb : Tb}
/-- bool(x): a bool, an int, an own instance with __bool__ -/
def fBoolO (tb : Tb) : MF := fun ds s => match ds with
  | [.bl b] => .ok (.bl b) s
  | [d] => match insC s d with
    | some c => match tb.lookup c with
      | some F => (F [d] s).bind fun d1 s1 => match d1 with | .bl b => .ok (.bl b) s1 | _ => .no
      | none => .no
    | none => .no
  | _ => .no
def fBool1 : MF := fun ds s => match ds with
  | [.bl b] => .ok (.bl b) s
  | _ => .no
end
section
omit [Row]
variable {P : D → Sto → Prop} {E : Str → Str → D → Sto → Prop} {s : Sto}
@[simp ↓] theorem z_bool1 {b : Bool} : (fBool1 [.bl b] s).wp P E = P (.bl b) s := nr rfl
end
end Z

set_option Elab.async false
set_option linter.all false
set_option maxRecDepth 100000
set_option maxHeartbeats 4000000
namespace Z
open PySem PySem.Spec PyProof.Rows L2
/-! ### the run's equation, part by part (each part alone takes less memory) -/
end Z

set_option Elab.async false
set_option linter.all false
set_option maxRecDepth 100000
set_option maxHeartbeats 4000000
namespace Z
open PySem PySem.Spec PyProof.Rows L2
/-! ### dict(a list of pairs) -/
def fDictL : MF := fun ds s => match ds with
  | [.ref n] => match lstAt s n with
    | some xs => match xs.mapM pr2D with
      | some ps => .ok (.ref s.length) (s ++ [.dict false (mergeD [] ps)])
      | none => .no
    | _ => .no
  | _ => .no
variable [Row]
section
variable {X : Cx} {W : WX}
end
section
omit [Row]
variable {P : D → Sto → Prop} {E : Str → Str → D → Sto → Prop} {e : Ev} {s : Sto} {n : Nat}
end
end Z

set_option Elab.async false
set_option linter.all false
set_option maxRecDepth 100000
set_option maxHeartbeats 4000000
namespace Z
open PySem PySem.Spec PyProof.Rows L2 HT
/-! ### t[::-1] of a tuple -/
section
variable {prog : Program} {w : World} {A : Around} {E : Value → Shared → Prop} {s : Shared}
end
section
variable {X : Cx}
def tRevT (K : PySem.W.Frag) (te : TE) : TE := fun σ H Q => te σ H fun x H1 => ∃ a xs, x = .ref a ∧ SqT K H1 a xs ∧ ∀ p, H1 p = none → Q (.ref p) (upd H1 p (.tup xs.reverse))
end
variable [Row]
def mRevT (m : EM D) : EM D := fun e s => (m e s).bind fun d s1 => match d with
  | .tup xs => .ok (.tup xs.reverse) s1
  | _ => .no
section
omit [Row]
variable {P : D → Sto → Prop} {E : Str → Str → D → Sto → Prop} {e : Ev} {s : Sto} {m : EM D}
def tupP (d : D) (P : List D → Prop) : Prop := match d with
  | .tup xs => P xs
  | _ => False
@[simp] theorem tupP_tup {xs : List D} {P : List D → Prop} : tupP (.tup xs) P = P xs := rfl
@[simp ↓] theorem z_mRevT : (mRevT m e s).wp P E = (m e s).wp (fun d s1 => tupP d fun xs => P (.tup xs.reverse) s1) E := by
  unfold mRevT
  rw [z_bind]
  congr 1
  funext d s1
  unfold tupP
  cases d <;> rfl
end
end Z

set_option Elab.async false
set_option linter.all false
set_option maxRecDepth 100000
set_option maxHeartbeats 4000000
namespace Z
open PySem PySem.Spec PyProof.Rows L2 TL
open PySem.PyData (strOk)
/-! ### lines of single archives, told by the members taken -/
/-- the taken ones are of the store -/
def InS (as : List ArcA) (T : Tk) : Prop := ∀ t ∈ T, ∃ r ∈ as, t.1 = r.name ∧ t.2 ∈ r.mems
theorem InS.nil {as : List ArcA} : InS as [] := fun t h => by cases h
theorem InS.snoc {as : List ArcA} {T : Tk} (h : InS as T) {r : ArcA} {m : MemA} (hr : r ∈ as) (hm : m ∈ r.mems) : InS as (T ++ [(r.name, m)]) := fun t ht => by
  rcases List.mem_append.mp ht with ht | ht
  · exact h t ht
  · rw [List.mem_singleton.mp ht]
    exact ⟨r, hr, rfl, hm⟩
theorem uniq_name {α : Type} {g : α → Str} : ∀ {xs : List α}, (xs.map g).Nodup → ∀ {a b : α}, a ∈ xs → b ∈ xs → g a = g b → a = b
  | [], _, a, b, ha, _, _ => by cases ha
  | x :: xs, nd, a, b, ha, hb, e => by
    rw [List.map_cons, List.nodup_cons] at nd
    rcases List.mem_cons.mp ha with ha' | ha' <;> rcases List.mem_cons.mp hb with hb' | hb'
    · rw [ha', hb']
    · exact absurd (ha' ▸ e ▸ List.mem_map_of_mem hb') nd.1
    · exact absurd (hb' ▸ e ▸ List.mem_map_of_mem ha') nd.1
    · exact uniq_name nd.2 ha' hb' e
theorem fits_iff {as : List ArcA} (U : NamesU as) {f : FaceA} {T : Tk} (h : InS as T) {r : ArcA} (hr : r ∈ as) {u : MemA} (hu : u ∈ r.mems) : fitsT f T r.name u ↔ ∃ y ∈ dns u, opnT f T y := by
  constructor
  · exact fun h => h.2
  · rintro ⟨y, hy, ho⟩
    refine ⟨fun hk => ?_, y, hy, ho⟩
    obtain ⟨t, ht, e⟩ := List.mem_map.mp hk
    obtain ⟨q, hq, e1, e2⟩ := h t ht
    have e3 : t.1 = r.name := congrArg (·.1) e
    have e4 : t.2.name = u.name := congrArg (·.2) e
    obtain rfl : q = r := uniq_name U.nd hq hr (e1.symm.trans e3)
    have e5 : t.2 = u := uniq_name (U.mn q hq) e2 hu e4
    exact ho.2 (.inr ⟨t, ht, by rw [e5]; exact hy⟩)
/-- one name is open -/
def Op1 (f : FaceA) (T : Tk) (z : Str) : Prop := ∀ y, opnT f T y ↔ y = z
def Op0 (f : FaceA) (T : Tk) : Prop := ∀ y, ¬ opnT f T y
/-- the first definer -/
def firstM (z : Str) (r : ArcA) : Option MemA := r.mems.find? fun u => decide (z ∈ dns u)
section
variable {as : List ArcA} (U : NamesU as) {f : FaceA} {T : Tk} (h : InS as T) {a : LA} (t : TkL f T a)
include U h
theorem Op1.fits {z : Str} (o : Op1 f T z) {r : ArcA} (hr : r ∈ as) {u : MemA} (hu : u ∈ r.mems) : fitsT f T r.name u ↔ z ∈ dns u := by
  rw [fits_iff U h hr hu]
  exact ⟨fun ⟨y, h1, h2⟩ => (o y).mp h2 ▸ h1, fun h1 => ⟨z, h1, (o z).mpr rfl⟩⟩
theorem Op0.no (o : Op0 f T) {r : ArcA} (hr : r ∈ as) : NoT f T r := fun u hu hf => by
  obtain ⟨y, _, h2⟩ := (fits_iff U h hr hu).mp hf
  exact o y h2
theorem Op1.no {z : Str} (o : Op1 f T z) {r : ArcA} (hr : r ∈ as) (q : firstM z r = none) : NoT f T r := fun u hu hf => by
  have := List.find?_eq_none.mp q u hu
  exact this (decide_eq_true ((o.fits U h hr hu).mp hf))
theorem Op1.nx {z : Str} (o : Op1 f T z) {r : ArcA} (hr : r ∈ as) {m : MemA} (q : firstM z r = some m) : NxT f T r m := by
  obtain ⟨h1, us, vs, e, h2⟩ := List.find?_eq_some_iff_append.mp q
  have hm : m ∈ r.mems := by rw [e]; simp
  refine ⟨us, vs, e, fun u hu hf => ?_, (o.fits U h hr hm).mpr (of_decide_eq_true h1)⟩
  have hum : u ∈ r.mems := by rw [e]; exact List.mem_append_left _ hu
  have := h2 u hu
  have h3 := (o.fits U h hr hum).mp hf
  simp [h3] at this
include t
end
end Z

set_option Elab.async false
set_option linter.all false
set_option maxRecDepth 100000
set_option maxHeartbeats 4000000
namespace Z
open PySem PySem.Spec PyProof.Rows L2
/-! ### xs.index(x), xs.count(x) of texts, xs.insert(i, x) -/
section
variable {X : Cx}
def rIdxS (K : PySem.W.Frag) : V → List V → Hp → VK → Prop := fun x xs H Q => ∃ (a : Addr) (k : Str) (ys : List Str), x = .ref a ∧ xs = [.str k] ∧ SqL K H a (ys.map V.str) ∧ k ∈ ys ∧ Q (.int (ys.idxOf k : Nat)) H
theorem mt_idxS : MtR X "list.index" (rIdxS X.K) := by
  rintro pins s σ H x xs v us Q I r1 r2 ⟨a, k, ys, rfl, rfl, sq, hk, q⟩
  obtain rfl : v = Value.ref a := r1
  cases r2 with
  | cons ru rn =>
    cases rn
    obtain ⟨t, rfl⟩ := ru
    obtain ⟨its, rv, ⟨o, n, t1, t2, t3, t4⟩, hz⟩ := I.list sq
    refine SeqAt.list_index_strs ⟨o, t1, t2, n, t4⟩ (Vals.strs rv) (by rw [List.length_map] at hz; exact hz) hk ⟨.int (ys.idxOf k : Nat), H, I.tok _, ⟨_, rfl⟩, q⟩
def rCntS (K : PySem.W.Frag) : V → List V → Hp → VK → Prop := fun x xs H Q => ∃ (a : Addr) (k : Str) (ys : List Str), x = .ref a ∧ xs = [.str k] ∧ SqL K H a (ys.map V.str) ∧ Q (.int (ys.count k : Nat)) H
def rInsL (x : V) (vs : List V) (H : Hp) (Q : VK) : Prop := ∃ (l : Addr) (xs : List V) (i : Int) (y : V), x = .ref l ∧ vs = [.int i, y] ∧ H l = some (.lst xs) ∧ xs.length < sizeLine ∧ 0 ≤ i ∧ i < 2 ^ 63 ∧ Q .non (upd H l (.lst (xs.take i.toNat ++ [y] ++ xs.drop i.toNat)))
end
variable [Row]
section
variable {X : Cx} {W : WX}
def fIdxL (x : D) (ds : List D) (s : Sto) : Rs D := match x, ds with
  | .ref n, [.str k] => match lstAt s n with
    | some xs => match xs.mapM strD with
      | some ys => if k ∈ ys then .ok (.int (ys.idxOf k : Nat)) s else .no
      | none => .no
    | none => .no
  | _, _ => .no
def fCntL (x : D) (ds : List D) (s : Sto) : Rs D := match x, ds with
  | .ref n, [.str k] => match lstAt s n with
    | some xs => match xs.mapM strD with
      | some ys => .ok (.int (ys.count k : Nat)) s
      | none => .no
    | none => .no
  | _, _ => .no
theorem pm_idxS : PrM X W fIdxL (rIdxS X.K) := by
  intro ρ s H σ x ds v us Q sr r1 r2 po
  unfold fIdxL at po
  split at po
  · rename_i n k
    cases hx : lstAt s n with
    | none => rw [hx] at po; exact po.elim
    | some xs =>
      rw [hx] at po
      dsimp only at po
      cases hm : xs.mapM strD with
      | none => rw [hm] at po; exact po.elim
      | some ys =>
        rw [hm] at po
        obtain ⟨hk, po⟩ := Po.ite po
        rw [VR] at r1
        obtain ⟨_, rfl⟩ := r1
        obtain ⟨u, rfl, r3⟩ := r2.one
        obtain rfl : u = .str k := r3
        obtain ⟨vs, sq, rr⟩ := sr.lst hx
        have ev := strs_of rr hm
        subst ev
        exact ⟨ρ n, k, ys, rfl, rfl, sq, hk, po ρ H _ Ext.refl sr rfl⟩
  · exact po.elim
def lIns (xs ds : List D) : Option (List D × D) := match ds with
  | [.int i, d] => if xs.length < sizeLine ∧ 0 ≤ i ∧ i < 2 ^ 63 then some (xs.take i.toNat ++ [d] ++ xs.drop i.toNat, .non) else none
  | _ => none
end
section
omit [Row]
variable {P : D → Sto → Prop} {E : Str → Str → D → Sto → Prop} {s : Sto} {n : Nat}
theorem z_idxL {xs : List Str} {k : Str} (h : lstAt s n = some (xs.map D.str)) (hk : k ∈ xs) : (fIdxL (.ref n) [.str k] s).wp P E = P (.int (xs.idxOf k : Nat)) s := by
  unfold fIdxL
  dsimp only
  rw [h]
  dsimp only
  rw [mapM_strD]
  dsimp only
  rw [if_pos hk, z_ok]
end
end Z

set_option Elab.async false
set_option linter.all false
set_option maxRecDepth 100000
set_option maxHeartbeats 4000000
namespace Z
open PySem PySem.Spec PyProof.Rows L2
/-! ### sum(a list of ints) -/
variable [Row]
def numD : D → Option Int
  | .int b => some b
  | _ => none
section
variable {X : Cx} {W : WX}
def fSum (ds : List D) (s : Sto) : Rs D := match ds with
  | [.ref n] => match (lstAt s n).bind fun xs => xs.mapM numD with
    | some bs => .ok (.int bs.sum) s
    | none => .no
  | _ => .no
end
section
omit [Row]
variable {P : D → Sto → Prop} {E : Str → Str → D → Sto → Prop} {s : Sto} {n : Nat}
end
end Z

set_option Elab.async false
set_option linter.all false
set_option maxRecDepth 100000
set_option maxHeartbeats 4000000
namespace Z
open PySem PySem.Spec PyProof.Rows L2 TL
open PySem.PyData (strOk)
/-! ### two links side by side: the same members are taken -/
structure Two (c : Nat) (R : LA → LA → Prop) (as bs : List ArcA) (g : ArcA → ArcA) (X : List Str) : Prop where
  nm : ∀ r ∈ as, (g r).name = r.name
  arc : ∀ x ∈ X, arcOf bs x = (arcOf as x).map g
  nx : ∀ r ∈ as, ∀ a b, R a b → nextM b (g r) = nextM a r
  st : ∀ r ∈ as, ∀ a b m, nextM a r = some m → R a b → R (takeL a r.name m) (takeL b r.name m)
  len : ∀ a b, R a b → a.rows.length = b.rows.length + c
section
variable {c : Nat} {R : LA → LA → Prop} {as bs : List ArcA} {g : ArcA → ArcA} {X : List Str} (H : Two c R as bs g X)
include H
theorem Two.search {r : ArcA} (hr : r ∈ as) : ∀ (n : Nat) (a b : LA), leftL a r ≤ n → R a b → R (searchA a r) (searchA b (g r)) := by
  intro n
  induction n with
  | zero =>
    intro a b hn h
    have h1 := left_zero (a := a) (r := r) (by omega)
    rw [searchA_none (a := a) h1, searchA_none (a := b) (by rw [H.nx r hr a b h, h1])]
    exact h
  | succ n ih =>
    intro a b hn h
    cases q : nextM a r with
    | none =>
      rw [searchA_none (a := a) q, searchA_none (a := b) (by rw [H.nx r hr a b h, q])]
      exact h
    | some m =>
      have := left_take q
      rw [searchA_some (a := a) q, searchA_some (a := b) (r := g r) (m := m) (by rw [H.nx r hr a b h, q]), H.nm r hr]
      exact ih _ _ (by omega) (H.st r hr a b m q h)
theorem Two.round : ∀ (names : List Str), (∀ x ∈ names, x ∈ X) → ∀ (a b : LA), R a b → R (roundA as names a) (roundA bs names b)
  | [], _, a, b, h => h
  | x :: names, hx, a, b, h => by
    have e : ∀ (cs : List ArcA) (c : LA), roundA cs (x :: names) c = roundA cs names (match arcOf cs x with | some r => searchA c r | none => c) := fun cs c => by
      unfold roundA
      rw [List.foldl_cons]
      first | done | (cases arcOf cs x <;> rfl)
    rw [e as, e bs, H.arc x (hx x (by simp))]
    have hx' : ∀ y ∈ names, y ∈ X := fun y hy => hx y (List.mem_cons_of_mem _ hy)
    cases q : arcOf as x with
    | none => exact Two.round names hx' a b h
    | some r =>
      dsimp only [Option.map_some]
      exact Two.round names hx' _ _ (H.search (List.mem_of_find?_eq_some q) _ a b (Nat.le_refl _) h)
theorem Two.group (names : List Str) (hx : ∀ x ∈ names, x ∈ X) : ∀ (n : Nat) (a b : LA), RowsOk as a → RowsOk bs b → (memKeys as).length - a.rows.length ≤ n → R a b → R (groupA as names a) (groupA bs names b) := by
  intro n
  induction n with
  | zero =>
    intro a b R1 R2 hn h
    have r1 := H.round names hx a b h
    have s1 := groupA_step (names := names) R1 (fun b => round_rows b) (fun b => round_mono b)
    have s2 := groupA_step (names := names) R2 (fun b => round_rows b) (fun b => round_mono b)
    have R1' := round_rows (names := names) a R1
    have mo := round_mono (as := as) (names := names) a
    have l1 := R1'.len
    have q1 := H.len _ _ r1
    have q0 := H.len _ _ h
    have e : (roundA as names a).rows.length = a.rows.length := by omega
    rw [if_pos e] at s1
    rw [if_pos (by omega)] at s2
    rw [s1, s2]
    exact r1
  | succ n ih =>
    intro a b R1 R2 hn h
    have r1 := H.round names hx a b h
    have s1 := groupA_step (names := names) R1 (fun b => round_rows b) (fun b => round_mono b)
    have s2 := groupA_step (names := names) R2 (fun b => round_rows b) (fun b => round_mono b)
    have R1' := round_rows (names := names) a R1
    have R2' := round_rows (names := names) b R2
    have mo := round_mono (as := as) (names := names) a
    have q1 := H.len _ _ r1
    have q0 := H.len _ _ h
    by_cases e : (roundA as names a).rows.length = a.rows.length
    · rw [if_pos e] at s1
      rw [if_pos (by omega)] at s2
      rw [s1, s2]
      exact r1
    · rw [if_neg e] at s1
      rw [if_neg (by omega)] at s2
      rw [s1, s2]
      exact ih _ _ R1' R2' (by omega) r1
theorem Two.line : ∀ (line : List ItA), (∀ i ∈ line, ∀ x ∈ i.names, x ∈ X) → ∀ (a b : LA), RowsOk as a → RowsOk bs b → R a b → R (line.foldl (fun a i => groupA as i.names a) a) (line.foldl (fun a i => groupA bs i.names a) b)
  | [], _, a, b, _, _, h => h
  | i :: line, hl, a, b, R1, R2, h => by
    rw [List.foldl_cons, List.foldl_cons]
    exact Two.line line (fun j hj => hl j (List.mem_cons_of_mem _ hj)) _ _ (group_ind (fun a => RowsOk as a) (fun r hr a m q h => h.take hr q) i.names a R1) (group_ind (fun a => RowsOk bs a) (fun r hr a m q h => h.take hr q) i.names b R2) (H.group i.names (hl i (by simp)) _ a b R1 R2 (Nat.le_refl _) h)
theorem Two.link (line : List ItA) (hl : ∀ i ∈ line, ∀ x ∈ i.names, x ∈ X) (f f' : FaceA) (h0 : R (initA f) (initA f')) : R (linkA as line f) (linkA bs line f') := H.line line hl _ _ (initA_rows f) (initA_rows f') h0
end
/-! ### a face with names that no archive mentions -/
/-- no member of the store defines or wants one of some names -/
def FarN (as : List ArcA) (Y : List Str) : Prop := ∀ r ∈ as, ∀ m ∈ r.mems, ∀ y ∈ Y, y ∉ dns m ∧ y ∉ m.wants
structure FSim (Y : List Str) (a b : LA) : Prop where
  rows : b.rows = a.rows
  fk : ∀ y, y ∉ Y → (y ∈ b.found.map (·.1) ↔ y ∈ a.found.map (·.1))
  wk : ∀ y, y ∉ Y → ∀ v, (y, v) ∈ b.wby ↔ (y, v) ∈ a.wby
theorem wby_keys {w : List (Str × Option (Str × Str))} {y : Str} : y ∈ w.map (·.1) ↔ ∃ v, (y, v) ∈ w := by
  rw [List.mem_map]
  constructor
  · rintro ⟨⟨a, b⟩, h, rfl⟩
    exact ⟨b, h⟩
  · rintro ⟨v, h⟩
    exact ⟨_, h, rfl⟩
theorem FSim.opn {Y : List Str} {a b : LA} (s : FSim Y a b) {y : Str} (h : y ∉ Y) : y ∈ openL b ↔ y ∈ openL a := by
  rw [open_in, open_in, s.fk y h, wby_keys, wby_keys]
  simp only [s.wk y h]
theorem FSim.fits {Y : List Str} {a b : LA} (s : FSim Y a b) {x : Str} {m : MemA} (h : ∀ y ∈ dns m, y ∉ Y) : fitsB b x m = fitsB a x m := by
  unfold fitsB
  rw [s.rows]
  congr 1
  rw [Bool.eq_iff_iff, List.any_eq_true, List.any_eq_true]
  constructor
  · rintro ⟨y, h1, h2⟩
    have hy := of_decide_eq_true h2
    exact ⟨y, (s.opn (h y hy)).mp h1, h2⟩
  · rintro ⟨y, h1, h2⟩
    have hy := of_decide_eq_true h2
    exact ⟨y, (s.opn (h y hy)).mpr h1, h2⟩
theorem sorted_eq {xs ys : List Str} (p : xs.Perm ys) (h1 : xs.Pairwise fun a b => leS a b = true) (h2 : ys.Pairwise fun a b => leS a b = true) : xs = ys := by
  have := sortS_uniq p
  rwa [sortS_of h1, sortS_of h2] at this
theorem openL_sorted (a : LA) : (openL a).Pairwise fun x y => leS x y = true := by
  unfold openL
  exact sortS_sorted _
theorem FSim.cause {Y : List Str} {a b : LA} (s : FSim Y a b) (na : (openL a).Nodup) (nb : (openL b).Nodup) {m : MemA} (h : ∀ y ∈ dns m, y ∉ Y) : causeL b m = causeL a m := by
  unfold causeL
  congr 1
  refine sorted_eq ?_ ((openL_sorted b).filter _) ((openL_sorted a).filter _)
  refine (List.perm_ext_iff_of_nodup (nb.filter _) (na.filter _)).mpr fun y => ?_
  rw [List.mem_filter, List.mem_filter]
  constructor
  · rintro ⟨h1, h2⟩
    exact ⟨(s.opn (h y (of_decide_eq_true h2))).mp h1, h2⟩
  · rintro ⟨h1, h2⟩
    exact ⟨(s.opn (h y (of_decide_eq_true h2))).mpr h1, h2⟩
theorem putW_memV {w : List (Str × Option (Str × Str))} {x y : Str} {u v : Option (Str × Str)} : (y, v) ∈ putW w x u ↔ (y, v) ∈ w ∨ (y = x ∧ v = u ∧ x ∉ w.map (·.1)) := by
  unfold putW
  split
  · rename_i h
    exact ⟨.inl, fun z => z.elim id fun e => absurd h e.2.2⟩
  · rename_i h
    rw [List.mem_append, List.mem_singleton]
    constructor
    · rintro (h1 | h1)
      · exact .inl h1
      · injection h1 with h1 h2
        exact .inr ⟨h1, h2, h⟩
    · rintro (h1 | ⟨h1, h2, _⟩)
      · exact .inl h1
      · exact .inr (by rw [h1, h2])
theorem foldW_sim {Y : List Str} {v : Option (Str × Str)} : ∀ (ws : List Str) (w w' : List (Str × Option (Str × Str))), (∀ x ∈ ws, x ∉ Y) → (∀ y, y ∉ Y → ∀ u, (y, u) ∈ w' ↔ (y, u) ∈ w) → ∀ y, y ∉ Y → ∀ u, (y, u) ∈ ws.foldl (fun w x => putW w x v) w' ↔ (y, u) ∈ ws.foldl (fun w x => putW w x v) w
  | [], w, w', _, h => h
  | x :: ws, w, w', hx, h => by
    rw [List.foldl_cons, List.foldl_cons]
    refine foldW_sim ws _ _ (fun y hy => hx y (List.mem_cons_of_mem _ hy)) fun y hy u => ?_
    rw [putW_memV, putW_memV, h y hy, wby_keys, wby_keys]
    have := h x (hx x (by simp))
    simp only [this]
theorem FSim.take {as : List ArcA} {Y : List Str} (F : FarN as Y) {a b : LA} (s : FSim Y a b) (na : (openL a).Nodup) (nb : (openL b).Nodup) {r : ArcA} (hr : r ∈ as) {m : MemA} (hm : m ∈ r.mems) : FSim Y (takeL a r.name m) (takeL b r.name m) := by
  have h1 : ∀ y ∈ dns m, y ∉ Y := fun y hy z => (F r hr m hm y z).1 hy
  have h2 : ∀ y ∈ m.wants, y ∉ Y := fun y hy z => (F r hr m hm y z).2 hy
  refine ⟨?_, fun y hy => ?_, foldW_sim m.wants _ _ h2 s.wk⟩
  · rw [take_rows, take_rows, s.rows, s.cause na nb h1]
  · rw [found_take, found_take, s.fk y hy]
/-- the two faces: g has more names, all of them in Y -/
structure More (Y : List Str) (f g : FaceA) : Prop where
  mem : ∀ y, y ∉ Y → ∀ w, (y, w) ∈ g ↔ (y, w) ∈ f
theorem initW_memV {f : FaceA} {y : Str} {v : Option (Str × Str)} : (y, v) ∈ initW f ↔ (y, ("wanted" : Str)) ∈ f ∧ v = none := by
  unfold initW
  rw [List.mem_map]
  constructor
  · rintro ⟨p, hp, e⟩
    obtain ⟨h1, h2⟩ := List.mem_filter.mp hp
    have : p.2 = ("wanted" : Str) := of_decide_eq_true h2
    injection e with e1 e2
    refine ⟨?_, e2.symm⟩
    rw [← e1, ← this]
    exact h1
  · rintro ⟨h, rfl⟩
    exact ⟨_, List.mem_filter.mpr ⟨h, by simp⟩, rfl⟩
theorem initF_memV {f : FaceA} {y : Str} : y ∈ (initF f).map (·.1) ↔ ∃ w, (y, w) ∈ f ∧ w ≠ ("wanted" : Str) := by
  unfold initF
  rw [List.map_map, List.mem_map]
  constructor
  · rintro ⟨p, hp, rfl⟩
    obtain ⟨h1, h2⟩ := List.mem_filter.mp hp
    exact ⟨p.2, h1, by simpa using h2⟩
  · rintro ⟨w, h1, h2⟩
    exact ⟨(y, w), List.mem_filter.mpr ⟨h1, by simpa using h2⟩, rfl⟩
theorem FSim.init {Y : List Str} {f g : FaceA} (M : More Y f g) : FSim Y (initA f) (initA g) := by
  refine ⟨rfl, fun y hy => ?_, fun y hy v => ?_⟩
  · show y ∈ (initF g).map (·.1) ↔ y ∈ (initF f).map (·.1)
    rw [initF_memV, initF_memV]
    simp only [M.mem y hy]
  · show (y, v) ∈ initW g ↔ (y, v) ∈ initW f
    rw [initW_memV, initW_memV, M.mem y hy]
theorem openL_nd {a : LA} (h : (a.wby.map (·.1)).Nodup) : (openL a).Nodup := by
  unfold openL
  exact (sortS_perm _).nodup_iff.mpr (h.filter _)
end Z

set_option Elab.async false
set_option linter.all false
set_option maxRecDepth 100000
set_option maxHeartbeats 4000000
namespace Z
open PySem PySem.Spec PyProof.Rows L2
/-! ### {k: v for a in .. for b in ..}: the machine's two loops -/
abbrev dE (kx vx t0 i0 : Expr) (f0 : List Expr) (t1 i1 : Expr) (f1 : List Expr) (sc : Scope) (ps : Pos) : Expr := .DictComp kx vx [⟨t0, i0, f0, 0⟩, ⟨t1, i1, f1, 0⟩] sc ps
/-- a clause's tests, one after another -/
abbrev tsts (fs : List Expr) (env : Env) : Sem Bool := forIn fs true fun c r => if r = true then do let ok ← isTrue c env (eval c env); pure (ForInStep.yield ok) else pure (ForInStep.yield r)
section
variable {kx vx t0 i0 t1 i1 : Expr} {f0 f1 : List Expr} {sc : Scope} {ps : Pos} {env : Env} {it acc : Value} {D : Addr}
theorem dturn_out : compTurn (dE kx vx t0 i0 f0 t1 i1 f1 sc ps) 0 it acc env = (do
    standAt i0.pos
    match ← pyNext it with
    | none => pure (.done .next)
    | some u =>
      letOwnedTupleGo t0 it u
      assign t0 env u
      let mut go := true
      for q in f0 do
        if go then go ← isTrue q env (eval q env)
      if go then
        let y ← eval i1 env
        standAt i1.pos
        let y ← foldedSetIterable i1 env y
        let _ ← runOwn (.compStart (dE kx vx t0 i0 f0 t1 i1 f1 sc ps) 1 (← holding [y] (pyIter y)) acc env) env
      again (.compLoop (dE kx vx t0 i0 f0 t1 i1 f1 sc ps) 0 it acc env)) := by rfl
theorem dturn_in : compTurn (dE kx vx t0 i0 f0 t1 i1 f1 sc ps) 1 it (.ref D) env = (do
    standAt i1.pos
    match ← pyNext it with
    | none => pure (.done .next)
    | some u =>
      letOwnedTupleGo t1 it u
      assign t1 env u
      let mut go := true
      for q in f1 do
        if go then go ← isTrue q env (eval q env)
      if go then
        (do
          let a ← eval kx env
          let b ← holding [a] (eval vx env)
          standAt { kx.pos with endLine := vx.pos.endLine, endCol := vx.pos.endCol }
          holding [a, b] (dictSet D a b))
      again (.compLoop (dE kx vx t0 i0 f0 t1 i1 f1 sc ps) 1 it (.ref D) env)) := by rfl
variable {P : Program} {w : World} {A : Around} {R : Result → Shared → Prop} {s : Shared}
/-- what no evaluation of the block does -/
abbrev NoE : Value → Shared → Prop := fun _ _ => False
/-- a turn: the next item stored and looked at; body where the tests hold -/
def TurnW (P : Program) (w : World) (A : Around) (tg : Expr) (fs : List Expr) (env : Env) (it : Value) (fin : Shared → Prop) (body next : Shared → Prop) (s : Shared) : Prop :=
  wpAny (model P w) A (pyNext it) (fun r s1 => match r with
    | none => fin s1
    | some u => wpAny (model P w) A (letOwnedTupleGo tg it u) (fun _ s2 => wpAny (model P w) A (assign tg env u) (fun _ s3 =>
        wpAny (model P w) A (tsts fs env) (fun b s4 => if b = true then body s4 else next s4) NoE s3) NoE s2) NoE s1) NoE s
theorem dloop_in (I : Nat → Shared → Prop)
    (turn : ∀ n s, I n s → TurnW P w A t1 f1 env it (R (.ok .next)) (fun s4 => wpAny (model P w) A (eval kx env) (fun a s5 => wpAny (model P w) A (eval vx env) (fun b s6 =>
      wpAny (model P w) A (dictSet D a b) (fun _ s7 => ∃ m, m < n ∧ I m s7) NoE s6) NoE s5) NoE s4) (fun s4 => ∃ m, m < n ∧ I m s4) s)
    (n : Nat) (h : I n s) : codeAny (model P w) A (.compLoop (dE kx vx t0 i0 f0 t1 i1 f1 sc ps) 1 it (.ref D) env) R s := by
  refine codeAny_loop rfl I (fun k z hz => ?_) n h
  show wpAny _ A ((compTurn (dE kx vx t0 i0 f0 t1 i1 f1 sc ps) 1 it (.ref D) env).onRaise (fun x => do noteFrame x env; theTreesLotGoes x)) _ _ z
  refine wpAny_noted ?_
  rw [dturn_in]
  refine wpAny_bind (wpAny_standAt (wpAny_bind (thnF (turn k z hz) fun r z1 h1 => ?_)))
  cases r with
  | none => exact wpAny_pure h1
  | some u =>
    refine wpAny_bind (thnF h1 fun _ z2 h2 => wpAny_bind (thnF h2 fun _ z3 h3 => wpAny_bind (thnF h3 fun b z4 h4 => ?_)))
    cases b with
    | false => exact wpAny_pure ⟨rfl, h4⟩
    | true => exact wpAny_bind (wpAny_bind (thnF h4 fun a z5 h5 => wpAny_bind (wpAny_holding (thnF h5 fun b z6 h6 => wpAny_bind (wpAny_standAt (wpAny_holding (thnF h6 fun _ z7 h7 => wpAny_pure ⟨rfl, h7⟩)))))))
theorem dloop_out (hs : ∀ y, foldedSetIterable i1 env y = pure y) (I : Nat → Shared → Prop)
    (turn : ∀ n s, I n s → TurnW P w A t0 f0 env it (R (.ok .next)) (fun s4 => wpAny (model P w) A (eval i1 env) (fun y s5 => wpAny (model P w) A (pyIter y) (fun it1 s6 =>
      codeAny (model P w) A (.compStart (dE kx vx t0 i0 f0 t1 i1 f1 sc ps) 1 it1 acc env) (fun r s7 => (∃ f, r = .ok f) ∧ ∃ m, m < n ∧ I m s7) s6) NoE s5) NoE s4) (fun s4 => ∃ m, m < n ∧ I m s4) s)
    (n : Nat) (h : I n s) : codeAny (model P w) A (.compLoop (dE kx vx t0 i0 f0 t1 i1 f1 sc ps) 0 it acc env) R s := by
  refine codeAny_loop rfl I (fun k z hz => ?_) n h
  show wpAny _ A ((compTurn (dE kx vx t0 i0 f0 t1 i1 f1 sc ps) 0 it acc env).onRaise (fun x => do noteFrame x env; theTreesLotGoes x)) _ _ z
  refine wpAny_noted ?_
  rw [dturn_out]
  refine wpAny_bind (wpAny_standAt (wpAny_bind (thnF (turn k z hz) fun r z1 h1 => ?_)))
  cases r with
  | none => exact wpAny_pure h1
  | some u =>
    refine wpAny_bind (thnF h1 fun _ z2 h2 => wpAny_bind (thnF h2 fun _ z3 h3 => wpAny_bind (thnF h3 fun b z4 h4 => ?_)))
    cases b with
    | false => exact wpAny_pure ⟨rfl, h4⟩
    | true =>
      refine wpAny_bind (thnF h4 fun y z5 h5 => wpAny_bind (wpAny_standAt (wpAny_bind (wpAny_of_eq (hs y) (wpAny_bind (wpAny_holding (thnF h5 fun it1 z6 h6 => ?_)))))))
      refine wpAny_bind (wpAny_runOwn ?_)
      rw [Around.mark_none]
      refine codeAny_mono h6 fun r z7 h7 => ?_
      obtain ⟨⟨f, rfl⟩, hm⟩ := h7
      first
        | exact wpAny_pure ⟨rfl, hm⟩
        | exact wpAny_bind (wpAny_pure (wpAny_pure ⟨rfl, hm⟩))
theorem dstart_in (h0 : codeAny (model P w) A (.compLoop (dE kx vx t0 i0 f0 t1 i1 f1 sc ps) 1 it acc env) R s)
    (h : wpAny (model P w) A (pyIter it) (fun it2 s2 => codeAny (model P w) A (.compLoop (dE kx vx t0 i0 f0 t1 i1 f1 sc ps) 1 it2 acc env) R s2) NoE s) :
    codeAny (model P w) A (.compStart (dE kx vx t0 i0 f0 t1 i1 f1 sc ps) 1 it acc env) R s := by
  refine codeAny_of_tree ?_
  show wpAny _ _ ((compStart (dE kx vx t0 i0 f0 t1 i1 f1 sc ps) 1 it acc env).onRaise (fun x => do noteFrame x env; standAt theWindowsPlace)) _ _ s
  refine wpAny_notedAt ?_
  unfold compStart
  show wpAny _ _ (ask >>= _) _ _ s
  refine wpAny_bind (wpAny_askSetting (wpAny_ite ?_))
  split
  · first
    | exact wpAny_bind (wpAny_pure (wpAny_pure ⟨rfl, h0⟩))
    | exact wpAny_pure ⟨rfl, h0⟩
  · refine wpAny_bind (wpAny_rule ?_)
    first
    | exact wpAny_bind (wpAny_standAt (wpAny_bind (thnF h fun it2 s2 h2 => wpAny_pure ⟨rfl, h2⟩)))
    | (show wpAny _ _ (standAt i1.pos >>= _) _ _ s
       exact wpAny_bind (wpAny_standAt (wpAny_bind (thnF h fun it2 s2 h2 => wpAny_pure ⟨rfl, h2⟩))))
end
end Z

set_option Elab.async false
set_option linter.all false
set_option maxRecDepth 100000
set_option maxHeartbeats 4000000
namespace Z
open PySem PySem.Spec PyProof.Rows L2
/-! ### {k: v for a in .. for b in ..}: a rule -/
section
variable {Y : Cx} {tg : Expr} {fs : List Expr} {J : It} {fp : List Addr} {it : Addr} {tn : Nat → Heap → Prop} {g : L2.TG} {tt : TT} {vs : List Nat}
/-- behind a turn's store and tests: the iterator's objects are pinned -/
structure Aft (Y : Cx) (fp : List Addr) (tn : Nat → Heap → Prop) (vs : List Nat) (j : Nat) (pins : List (Addr × Obj)) (σ : L2.St) (B : L2.St → Hp → Prop) (s : Shared) : Prop where
  ex : ∃ (τ : L2.St) (H : Hp) (hp : Heap), Inv Y (pins ++ pinsAt fp hp) τ H s ∧ wipe τ vs = wipe σ vs ∧ tn (j + 1) hp ∧ B τ H
/-- what a clause is to tell of its j-th turn -/
def ClauseT (J : It) (g : L2.TG) (tt : TT) (vs : List Nat) (σ : L2.St) (j : Nat) (H : Hp) (Fin Nx : Hp → Prop) (Bd : L2.St → Hp → Prop) : Prop :=
  (J.stop j H ∧ Fin H) ∨ (J.go j H ∧ ∀ x H1, J.yld j H x H1 → g x (wipe σ vs) H1 fun τ H2 => wipe τ vs = wipe σ vs ∧ tt τ H2 fun b H3 => if b = true then Bd τ H3 else Nx H3)
theorem turn_wp (hc : Y.calm = true) (hE : Y.xe = NoE) (T : Turn Y.prog Y.w Y.K tg J fp it tn) (pg : PG Y tg g) (pt : PTs Y fs tt) {pins : List (Addr × Obj)} {σ : L2.St} {H : Hp} {s : Shared} {j : Nat} (I : Inv Y pins (wipe σ vs) H s) (ok : ∀ {H' : Hp}, (∀ b ∈ fp, H' b = none) → ∀ b ∈ fp, FpOk Y pins H' b) (n0 : ∀ b ∈ fp, H b = none) (st : tn j s.heap)
    {Fin Nx : Hp → Prop} {Bd : L2.St → Hp → Prop} (h : ClauseT J g tt vs σ j H Fin Nx Bd) :
    TurnW Y.prog Y.w Y.A tg fs Y.env (.ref it) (fun z => Inv Y pins (wipe σ vs) H z ∧ Fin H) (Aft Y fp tn vs j pins σ Bd) (Aft Y fp tn vs j pins σ fun _ H => Nx H) s := by
  unfold TurnW
  rcases h with ⟨hs, hf⟩ | ⟨hg, hy⟩
  · refine thnF (T.done Y rfl rfl rfl hc j pins s _ H NoE I (ok n0) st hs) fun r z hr => ?_
    obtain ⟨rfl, I1⟩ := hr
    exact ⟨I1, hf⟩
  · refine thnF (T.item Y rfl rfl rfl hc j pins s _ H NoE I (ok n0) st hg) fun r z hr => ?_
    obtain ⟨u, rfl, h1⟩ := hr
    refine thnF h1 fun _ z2 h2 => ?_
    obtain ⟨x, H2, I2, r2, y2, st2, n2⟩ := h2
    have Ip := I2.pinned (ok n2) (T.obj _ _ st2)
    have a1 := pg.run _ z2 _ H2 x u _ Ip r2 (hy x H2 y2)
    rw [hE] at a1
    refine thnF a1 fun _ z3 h3 => ?_
    obtain ⟨τ, H3, I3, hw, q3⟩ := h3
    have a2 := pt.run _ z3 τ H3 _ I3 q3
    rw [hE] at a2
    refine thnF a2 fun b z4 h4 => ?_
    obtain ⟨H4, I4, q4⟩ := h4
    cases b with
    | false => exact ⟨τ, H4, z2.heap, I4, hw, st2, q4⟩
    | true => exact ⟨τ, H4, z2.heap, I4, hw, st2, q4⟩
/-- a turn's end -/
theorem turn_end (T : Turn Y.prog Y.w Y.K tg J fp it tn) {pins : List (Addr × Obj)} {τ ρ : L2.St} {H : Hp} {s : Shared} {hp : Heap} {i : Nat} (I : Inv Y (pins ++ pinsAt fp hp) τ H s) (st : tn i hp) (hl : ρ.length = τ.length) (hk : ∀ (j : Nat) v, ρ[j]? = some (some v) → τ[j]? = some (some v)) :
    Inv Y pins ρ H s ∧ tn i s.heap ∧ ∀ b ∈ fp, H b = none := by
  have kp : ∀ b ∈ fp, ∀ o, hp.get? b = some o → s.heap.get? b = some o ∧ H b = none := fun b hb o e => by
    have := I.pin (b, o) (List.mem_append_right _ (List.mem_append_right _ (mem_pinsAt hb e)))
    exact ⟨this.1, this.2.1⟩
  refine ⟨I.unpinned.weak hl hk, T.keep _ _ _ st fun b hb o e => (kp b hb o e).1, fun b hb => ?_⟩
  obtain ⟨o, e, _⟩ := T.obj _ _ st b hb
  exact (kp b hb o e).2
end
section
variable {X : Cx}
/-- the rule's word: as for a list of two walks, the last step puts a key -/
def tDc2 (wi : L2.TI) (g : L2.TG) (tt : TT) (wi1 : L2.TI) (g1 : L2.TG) (tt1 : TT) (tk tv : TE) (vs vs1 : List Nat) : TE := fun σ H Q => wi σ H fun J H1 => ∀ D, H1 D = none → ∃ W : Nat → Nat → Hp → Prop, (∃ m, W 0 m (upd H1 D (.dK []))) ∧
  ∀ i m H, W i m H → ∃ Nx : Hp → Prop, (∀ H', Nx H' → ∃ m', m' < m ∧ W (i + 1) m' H') ∧ ClauseT J g tt vs σ i H (Q (.ref D)) Nx fun τ H3 => wi1 τ H3 fun J1 H4 => ∃ W1 : Nat → Nat → Hp → Prop, (∃ m, W1 0 m H4) ∧
    ∀ j k H, W1 j k H → ∃ Nx1 : Hp → Prop, (∀ H', Nx1 H' → ∃ k', k' < k ∧ W1 (j + 1) k' H') ∧ ClauseT J1 g1 tt1 vs1 τ j H Nx Nx1 fun τ1 H6 => tk τ1 H6 fun y H7 => tv τ1 H7 fun z H8 => ∃ kvs k, y = kV k ∧ H8 D = some (.dK kvs) ∧ kvs.length < sizeLine ∧ Nx1 (upd H8 D (.dK (putK kvs k z)))
variable {kx vx t0 i0 t1 i1 : Expr} {f0 f1 : List Expr} {sc : Scope} {ps ps' : Pos} {own : List (Str × Nat)} {vs1 : List Nat} {wi wi1 : L2.TI} {g g1 : L2.TG} {tt tt1 : TT} {tk tv : TE}
/-- a rule of the block, wherever the block stands -/
abbrev InBlk (X : Cx) (sc : Scope) (F : Cx → Prop) : Prop := ∀ (s : Shared) (H : Hp) (C : Addr) (cl : List (Str × Addr)) (fp : List Addr), F (X.blk s H sc (compEnvC sc cl C X.env) fp)
/-- the two loops, in the block -/
theorem dloops {Y : Cx} (hc : Y.calm = true) (hE : Y.xe = NoE) {J : It} {fp : List Addr} {it : Addr} {tn : Nat → Heap → Prop} (T : Turn Y.prog Y.w Y.K t0 J fp it tn) (pg : PG Y t0 g) (pt : PTs Y f0 tt) (pi : PI Y t1 i1 wi1) (pg1 : PG Y t1 g1) (pt1 : PTs Y f1 tt1) (pk : PE Y kx tk) (pv : PE Y vx tv)
    (hs1 : ∀ y, foldedSetIterable i1 Y.env y = pure y) {vs vs1 : List Nat} (hv : ∀ i ∈ vs1, i ∈ vs) {σ : L2.St} {H : Hp} {s : Shared} {D : Addr} {Q : Hp → Prop} {R : Result → Shared → Prop} (I : Inv Y [] (wipe σ vs) H s) (ok : ∀ {H' : Hp}, (∀ b ∈ fp, H' b = none) → ∀ b ∈ fp, FpOk Y [] H' b) (n0 : ∀ b ∈ fp, H b = none) (st : tn 0 s.heap)
    {W : Nat → Nat → Hp → Prop} {m : Nat} (hW : W 0 m H) (h : ∀ i m H, W i m H → ∃ Nx : Hp → Prop, (∀ H', Nx H' → ∃ m', m' < m ∧ W (i + 1) m' H') ∧ ClauseT J g tt vs σ i H Q Nx fun τ H3 => wi1 τ H3 fun J1 H4 => ∃ W1 : Nat → Nat → Hp → Prop, (∃ m, W1 0 m H4) ∧
      ∀ j k H, W1 j k H → ∃ Nx1 : Hp → Prop, (∀ H', Nx1 H' → ∃ k', k' < k ∧ W1 (j + 1) k' H') ∧ ClauseT J1 g1 tt1 vs1 τ j H Nx Nx1 fun τ1 H6 => tk τ1 H6 fun y H7 => tv τ1 H7 fun z H8 => ∃ kvs k, y = kV k ∧ H8 D = some (.dK kvs) ∧ kvs.length < sizeLine ∧ Nx1 (upd H8 D (.dK (putK kvs k z))))
    (hR : ∀ H' s', Inv Y [] (wipe σ vs) H' s' → Q H' → R (.ok .next) s') :
    codeAny (model Y.prog Y.w) Y.A (.compLoop (dE kx vx t0 i0 f0 t1 i1 f1 sc ps) 0 (.ref it) (.ref D) Y.env) R s := by
  refine dloop_out hs1 (fun n z => ∃ i H', Inv Y [] (wipe σ vs) H' z ∧ tn i z.heap ∧ (∀ b ∈ fp, H' b = none) ∧ W i n H') ?_ m ⟨0, H, I, st, n0, hW⟩
  rintro n z ⟨i, H1, I1, st1, n1, w1⟩
  obtain ⟨Nx, hNx, cl⟩ := h i n H1 w1
  have ww : ∀ a : L2.St, (wipe (wipe σ vs) vs) = wipe σ vs := fun _ => wipe_again σ vs
  have done : ∀ {τ : L2.St} {H' : Hp} {z' : Shared} {hp : Heap}, Inv Y ([] ++ pinsAt fp hp) τ H' z' → tn (i + 1) hp → (wipe σ vs).length = τ.length → (∀ (j : Nat) v, (wipe σ vs)[j]? = some (some v) → τ[j]? = some (some v)) → Nx H' → ∃ m', m' < n ∧ ∃ i H', Inv Y [] (wipe σ vs) H' z' ∧ tn i z'.heap ∧ (∀ b ∈ fp, H' b = none) ∧ W i m' H' := fun I' st' hl hk nx => by
    obtain ⟨m', hm, w'⟩ := hNx _ nx
    obtain ⟨e1, e2, e3⟩ := turn_end T I' st' hl hk
    exact ⟨m', hm, i + 1, _, e1, e2, e3, w'⟩
  have tw := turn_wp hc hE T pg pt I1 ok n1 st1 cl
  unfold TurnW at tw ⊢
  refine thnF tw fun r z1 h1 => ?_
  cases r with
  | none => exact hR _ _ h1.1 h1.2
  | some u =>
    refine thnF h1 fun _ z2 h2 => thnF h2 fun _ z3 h3 => thnF h3 fun b z4 h4 => ?_
    cases b with
    | false =>
      obtain ⟨τ, H4, hp, I4, hw, st4, nx⟩ := h4
      exact done I4 st4 (by rw [← hw, wipe_length]) (fun j v e => by rw [← hw] at e; exact (wipe_some e).1) nx
    | true =>
      obtain ⟨τ, H4, hp, I4, hw, st4, q4⟩ := h4
      have hl4 : (wipe σ vs).length = τ.length := by rw [← hw, wipe_length]
      have a1 := pi.run _ z4 τ H4 _ I4 q4
      rw [hE] at a1
      refine thnF a1 fun y z5 h5 => thnF h5 fun iv z6 h6 => ?_
      obtain ⟨it1, fp1, tn1, J1, H6, rfl, I6, T1, st6, f6, W1, ⟨m1, w6⟩, cl1⟩ := h6
      have ok1 : ∀ {H' : Hp}, (∀ b ∈ fp1, H' b = none) → ∀ b ∈ fp1, FpOk Y ([] ++ pinsAt fp hp) H' b := fun hn b hb => ⟨hn b hb, (f6 b hb).2⟩
      have loop : codeAny (model Y.prog Y.w) Y.A (.compLoop (dE kx vx t0 i0 f0 t1 i1 f1 sc ps) 1 (.ref it1) (.ref D) Y.env)
          (fun r z7 => (∃ f, r = .ok f) ∧ ∃ m', m' < n ∧ ∃ i H', Inv Y [] (wipe σ vs) H' z7 ∧ tn i z7.heap ∧ (∀ b ∈ fp, H' b = none) ∧ W i m' H') z6 := by
        refine dloop_in (fun k z => ∃ j H', Inv Y ([] ++ pinsAt fp hp) (wipe τ vs1) H' z ∧ tn1 j z.heap ∧ (∀ b ∈ fp1, H' b = none) ∧ W1 j k H') ?_ m1 ⟨0, H6, I6.weak (wipe_length _ _) (fun j v e => (wipe_some e).1), st6, fun b hb => (f6 b hb).1, w6⟩
        rintro k z7 ⟨j, H7, I7, st7, n7, w7⟩
        obtain ⟨Nx1, hNx1, c7⟩ := cl1 j k H7 w7
        have tw1 := turn_wp hc hE T1 pg1 pt1 I7 ok1 n7 st7 c7
        unfold TurnW at tw1 ⊢
        refine thnF tw1 fun r z8 h8 => ?_
        cases r with
        | none =>
          refine ⟨⟨_, rfl⟩, done h8.1 st4 (by rw [hl4, wipe_length]) (fun j v e => ?_) h8.2⟩
          rw [← hw] at e
          obtain ⟨e1, e2⟩ := wipe_some e
          rw [wipe_out fun q => e2 (hv j q)]
          exact e1
        | some u1 =>
          refine thnF h8 fun _ z9 h9 => thnF h9 fun _ za ha => thnF ha fun b zb hb => ?_
          have back : ∀ {τ1 : L2.St} {H' : Hp} {z' : Shared} {hp1 : Heap}, Inv Y (([] ++ pinsAt fp hp) ++ pinsAt fp1 hp1) τ1 H' z' → tn1 (j + 1) hp1 → wipe τ1 vs1 = wipe τ vs1 → Nx1 H' → ∃ k', k' < k ∧ ∃ j H', Inv Y ([] ++ pinsAt fp hp) (wipe τ vs1) H' z' ∧ tn1 j z'.heap ∧ (∀ b ∈ fp1, H' b = none) ∧ W1 j k' H' := fun I' st' hw1 nx => by
            obtain ⟨k', hk, w'⟩ := hNx1 _ nx
            obtain ⟨e1, e2, e3⟩ := turn_end T1 I' st' (ρ := wipe τ vs1) (by rw [← hw1, wipe_length]) (fun j v e => by rw [← hw1] at e; exact (wipe_some e).1)
            exact ⟨k', hk, j + 1, _, e1, e2, e3, w'⟩
          cases b with
          | false =>
            obtain ⟨τ1, Hb, hp1, Ib, hw1, stb, nx⟩ := hb
            exact back Ib stb hw1 nx
          | true =>
            obtain ⟨τ1, Hb, hp1, Ib, hw1, stb, qb⟩ := hb
            have b1 := pk.run _ zb τ1 Hb _ Ib qb
            rw [hE] at b1
            refine thnF b1 fun a zc hc1 => ?_
            obtain ⟨yk, Hc, Ic, rc, qc⟩ := hc1
            have b2 := pv.run _ zc τ1 Hc _ Ic qc
            rw [hE] at b2
            refine thnF b2 fun bv zd hd1 => ?_
            obtain ⟨yv, Hd, Id, rd, kvs, key, rfl, hD, hz, nx⟩ := hd1
            exact d_dictSet (X := Y) Id hD hz rc rd fun ze Ie => back Ie stb hw1 nx
      exact dstart_in loop (T1.self Y.A 0 _ _ _ st6 loop)
end
end Z

set_option Elab.async false
set_option linter.all false
set_option maxRecDepth 100000
set_option maxHeartbeats 4000000
namespace Z
open PySem PySem.Spec PyProof.Rows L2
section
variable {X : Cx} {kx vx t0 i0 t1 i1 : Expr} {f0 f1 : List Expr} {sc : Scope} {ps ps' : Pos} {own : List (Str × Nat)} {vs1 : List Nat} {wi wi1 : L2.TI} {g g1 : L2.TG} {tt tt1 : TT} {tk tv : TE}
theorem dc2_run {pins : List (Addr × Obj)} {s : Shared} {σ : L2.St} {H : Hp} {Q : VK} {use : Option (Value → Sem Unit)} {Qf : Value → Shared → Prop} (I : Inv X pins σ H s) (hc : X.calm = true) (hN : X.N.Nodup) (hi : PI X t0 i0 wi) (ok : BlkOk X.N X.env.scope sc own) (hv : ∀ i ∈ vs1, i ∈ own.map (·.2))
    (hg : InBlk X sc fun Y => PG Y t0 g) (ht : InBlk X sc fun Y => PTs Y f0 tt) (hi1 : InBlk X sc fun Y => PI Y t1 i1 wi1) (hg1 : InBlk X sc fun Y => PG Y t1 g1) (ht1 : InBlk X sc fun Y => PTs Y f1 tt1)
    (hk : InBlk X sc fun Y => PE Y kx tk) (he : InBlk X sc fun Y => PE Y vx tv) (hs : ∀ x, foldedSetIterable i0 X.env x = pure x) (hs1 : ∀ env x, foldedSetIterable i1 env x = pure x)
    (h : tDc2 wi g tt wi1 g1 tt1 tk tv (own.map (·.2)) vs1 σ H Q)
    (fin : ∀ D C z m H', Inv X pins σ H' z → Q (.ref D) H' → z.heap.Ns C m → FpOk X pins H' C → compPost (model X.prog X.w) X.A X.xe use Qf (.ref D) C (.ok .next) z) :
    wpAny (model X.prog X.w) X.A (comprehension (dE kx vx t0 i0 f0 t1 i1 f1 sc ps) sc X.env ps' newDict false (eval i0 X.env) use) Qf X.xe s := by
  have cl : ∀ y ∈ sc.names, y.2 = .free → ∃ c, X.env.cells.lookup y.1 = some c := by
    intro y hy e
    exact (ok.free y hy e).elim (fun q => I.ok.has _ (.inl q)) fun q => I.ok.has _ (.inr q)
  refine wpAny_comprehension_free (use := use) rfl hs (closure_ok cl) ok.kind (fun y hy e => by rw [ok.uniq y hy, e]) (thn (hi.run pins s σ H _ I h) fun a z1 h1 => thn h1 fun b z2 h2 => ?_)
  obtain ⟨it, fp, tn, J, H2, rfl, I2, T, st2, ok2, q2⟩ := h2
  refine wpAny_newObj_type (newEnv_comp ?_)
  have nD : H2 z2.heap.objs.size = none := I2.hok.fresh (Nat.le_refl _)
  obtain ⟨W, ⟨m, w0⟩, tell⟩ := q2 _ nD
  have low : ∀ b ∈ fp, b < z2.heap.objs.size := fun b hb => (T.obj _ _ st2 b hb).elim fun o e => Heap.lt_size e.1
  -- the state with the new dict
  obtain ⟨z3, ez3⟩ : ∃ z3 : Shared, z3 = { z2 with heap := z2.heap.push { cls := .type "dict", data := .dict #[] } } := ⟨_, rfl⟩
  obtain ⟨H3, eH3⟩ : ∃ H3 : Hp, H3 = upd H2 z2.heap.objs.size (.dK []) := ⟨_, rfl⟩
  have hz3 : z3.heap = z2.heap.push { cls := .type "dict", data := .dict #[] } := by rw [ez3]
  have I3 : Inv X pins σ H3 z3 := by
    rw [ez3, eH3]
    exact I2.laid (t' := z2.toks) (fun b o e => Heap.get?_push_of_some _ e) (Nat.le_refl _) (dk_empty z2.heap I2.big)
  have ok3 : ∀ b ∈ fp, FpOk X pins H3 b ∧ b < z3.heap.objs.size := by
    intro b hb
    refine ⟨⟨?_, (ok2 b hb).2⟩, ?_⟩
    · rw [eH3, upd_ne (Nat.ne_of_lt (low b hb))]
      exact (ok2 b hb).1
    · rw [hz3, Heap.size_push]
      exact Nat.lt_succ_of_lt (low b hb)
  have st3 : tn 0 z3.heap := T.keep _ _ _ st2 fun b _ o e => by
    rw [hz3]
    exact Heap.get?_push_of_some _ e
  have I4 := block_start I3 ok hN ok3
  rw [← ez3]
  -- the block
  obtain ⟨cells, ec⟩ : ∃ cells, cells = cellsFrom (z3.heap.objs.size + 1) sc.names (cloFrom X.env.cells sc.names []) := ⟨_, rfl⟩
  rw [← ec] at I4
  have pg := hg z3 H3 z3.heap.objs.size cells fp
  have pt := ht z3 H3 z3.heap.objs.size cells fp
  have pi := hi1 z3 H3 z3.heap.objs.size cells fp
  have pg1 := hg1 z3 H3 z3.heap.objs.size cells fp
  have pt1 := ht1 z3 H3 z3.heap.objs.size cells fp
  have pk := hk z3 H3 z3.heap.objs.size cells fp
  have pv := he z3 H3 z3.heap.objs.size cells fp
  have n3 : ∀ b ∈ fp, H3 b = none := fun b hb => (ok3 b hb).1.1
  have w3 : W 0 m H3 := by rw [eH3]; exact w0
  show codeAny _ _ (.compStart (dE kx vx t0 i0 f0 t1 i1 f1 sc ps) 0 (.ref it) (.ref z2.heap.objs.size) (compEnvC sc (cellsFrom (z3.heap.objs.size + 1) sc.names (cloFrom X.env.cells sc.names [])) z3.heap.objs.size X.env)) (compPost (model X.prog X.w) X.A X.xe use _ (.ref z2.heap.objs.size) z3.heap.objs.size) { z3 with heap := pushCells (z3.heap.push { cls := .type "dict", data := .dict #[] }) sc.names }
  rw [← ec]
  obtain ⟨ce, ece⟩ : ∃ ce, ce = compEnvC sc cells z3.heap.objs.size X.env := ⟨_, rfl⟩
  have lce : ce.locals = z3.heap.objs.size := by rw [ece]; rfl
  rw [← ece] at I4 pg pt pi pg1 pt1 pk pv ⊢
  obtain ⟨z4, ez4⟩ : ∃ z4 : Shared, z4 = { z3 with heap := pushCells (z3.heap.push { cls := .type "dict", data := .dict #[] }) sc.names } := ⟨_, rfl⟩
  rw [← ez4] at I4 ⊢
  have st4 : tn 0 z4.heap := T.keep _ _ _ st3 fun b _ o e => by
    rw [ez4]
    exact pushCells_keeps _ _ _ _ (Heap.get?_push_of_some _ e)
  have okB : ∀ {H' : Hp}, (∀ b ∈ fp, H' b = none) → ∀ b ∈ fp, FpOk (X.blk z3 H3 sc ce fp) [] H' b := fun {H'} hn b hb =>
    ⟨hn b hb, (I4.ok.exf b hb).1, I4.ok.exfs b hb, .inl hb, fun x c e => (I4.ok.exf b hb).2 x c e, fun p hp => by simp [Cx.blk] at hp⟩
  have loop : codeAny (model X.prog X.w) X.A (.compLoop (dE kx vx t0 i0 f0 t1 i1 f1 sc ps) 0 (.ref it) (.ref z2.heap.objs.size) ce) (compPost (model X.prog X.w) X.A X.xe use Qf (.ref z2.heap.objs.size) z3.heap.objs.size) z4 := by
    refine dloops (Y := X.blk z3 H3 sc ce fp) hc rfl T pg pt pi pg1 pt1 pk pv (hs1 _) hv I4 okB n3 st4 w3 tell fun H5 z5 I5 q5 => ?_
    have I6 : Inv X pins σ H5 z5 := I3.call' (ch := fp) I5.os I5.base I5.hok I5.bare fun b hb => by
      have z := (ok3 b hb).1.2
      exact ⟨z.2.2.1, z.1, z.2.2.2.1, z.2.2.2.2⟩
    have nC : H5 z3.heap.objs.size = none := by
      have q : H5 ce.locals = none := I5.free
      rwa [lce] at q
    obtain ⟨k, hk5, _⟩ := I5.loc
    have hk5 : z5.heap.Ns ce.locals k := hk5
    rw [lce] at hk5
    exact fin z2.heap.objs.size z3.heap.objs.size z5 k H5 I6 q5 hk5 (I3.fpOk (Nat.le_refl _) nC)
  exact codeAny_compStart_dict loop (T.self X.A 0 _ _ _ st4 loop)
theorem pe_dc2 (hc : X.calm = true) (hN : X.N.Nodup) (hi : PI X t0 i0 wi) (ok : BlkOk X.N X.env.scope sc own) (hv : ∀ i ∈ vs1, i ∈ own.map (·.2))
    (hg : InBlk X sc fun Y => PG Y t0 g) (ht : InBlk X sc fun Y => PTs Y f0 tt) (hi1 : InBlk X sc fun Y => PI Y t1 i1 wi1) (hg1 : InBlk X sc fun Y => PG Y t1 g1) (ht1 : InBlk X sc fun Y => PTs Y f1 tt1)
    (hk : InBlk X sc fun Y => PE Y kx tk) (he : InBlk X sc fun Y => PE Y vx tv) (hs : ∀ x, foldedSetIterable i0 X.env x = pure x) (hs1 : ∀ env x, foldedSetIterable i1 env x = pure x) :
    PE X (dE kx vx t0 i0 f0 t1 i1 f1 sc ps) (tDc2 wi g tt wi1 g1 tt1 tk tv (own.map (·.2)) vs1) := by
  refine ⟨fun pins s σ H Q I h => ?_⟩
  show wpAny _ _ (eval (.DictComp kx vx [⟨t0, i0, f0, 0⟩, ⟨t1, i1, f1, 0⟩] sc ps) X.env) _ _ s
  rw [arm_eval_DictComp]
  refine dc2_run I hc hN hi ok hv hg ht hi1 hg1 ht1 hk he hs hs1 h fun D C z m H' I' q hn f => ⟨m, hn, fun h6 sb => ?_⟩
  obtain ⟨c0, c1, c2, c3, c4, c5⟩ := f
  exact ⟨.ref D, H', I'.turned (t' := z.toks) (fun b o hb e => (sb.2 b hb).trans e) c0 c1 c3 c4 c5, rfl, q⟩
/-- x = {..}: the machine stores it within the block -/
theorem ps_setDc2 {i : Nat} {y : Str} {py spos : Pos} (hc : X.calm = true) (hN : X.N.Nodup) (hy : X.N[i]? = some y) (hyl : X.env.scope.names.lookup y = some .local) (hsw : swapsWith (dE kx vx t0 i0 f0 t1 i1 f1 sc ps) (some (.Name y py)) spos.line X.env = pure true)
    (hi : PI X t0 i0 wi) (ok : BlkOk X.N X.env.scope sc own) (hv : ∀ i ∈ vs1, i ∈ own.map (·.2))
    (hg : InBlk X sc fun Y => PG Y t0 g) (ht : InBlk X sc fun Y => PTs Y f0 tt) (hi1 : InBlk X sc fun Y => PI Y t1 i1 wi1) (hg1 : InBlk X sc fun Y => PG Y t1 g1) (ht1 : InBlk X sc fun Y => PTs Y f1 tt1)
    (hk : InBlk X sc fun Y => PE Y kx tk) (he : InBlk X sc fun Y => PE Y vx tv) (hs : ∀ x, foldedSetIterable i0 X.env x = pure x) (hs1 : ∀ env x, foldedSetIterable i1 env x = pure x) :
    PS X (.Assign [.Name y py] (dE kx vx t0 i0 f0 t1 i1 f1 sc ps) spos) (tAsg (tDc2 wi g tt wi1 g1 tt1 tk tv (own.map (·.2)) vs1) (gName i)) := by
  refine ⟨fun pins s σ H D I h => ?_⟩
  rw [exec_Assign_Name_used _ _ _ _ hsw]
  refine wpAny_bind (wpAny_standAt (wpAny_bind ?_))
  show wpAny _ X.A (do let _ ← comprehension (dE kx vx t0 i0 f0 t1 i1 f1 sc ps) sc X.env (firstIterPos [⟨t0, i0, f0, 0⟩, ⟨t1, i1, f1, 0⟩] ps) newDict false (eval i0 X.env) (some (assign (.Name y py) X.env))) _ _ s
  have told : tDc2 wi g tt wi1 g1 tt1 tk tv (own.map (·.2)) vs1 σ H (fun x H1 => gName i x σ H1 D.nx) := h
  refine wpAny_bind (thn (dc2_run (Qf := fun _ z => SP X pins D .next z) I hc hN hi ok hv hg ht hi1 hg1 ht1 hk he hs hs1 told fun L C z m H' I' q hn f => ?_) fun _ z hz => wpAny_pure (wpAny_pure hz))
  show wpAny _ _ (assign (.Name y py) X.env (.ref L)) _ _ _
  obtain ⟨c0, c1, c2, c3, c4, c5⟩ := f
  refine wpAny_assign_Name (store_ok2 (v := V.ref L) I' hN hy (.inl hyl) rfl (fun z2 I2 st => ?_) (.inr hyl))
  obtain ⟨a, sb, ha⟩ := st
  have apart : C ≠ a := by
    rcases ha with q1 | q1
    · exact q1 ▸ c1
    · exact fun e => c4 y a q1 e.symm
  refine ⟨m, hn.sameBut sb apart, fun h3 sb3 => ⟨_, H', I2.turned (t' := z2.toks) (fun b o hb e => (sb3.2 b hb).trans e) c0 c1 c3 c4 c5, q⟩⟩
end
end Z

set_option Elab.async false
set_option linter.all false
set_option maxRecDepth 100000
set_option maxHeartbeats 4000000
namespace Z
open PySem PySem.Spec PyProof.Rows L2
/-! ### {k: v for a in .. for b in ..} of values -/
def dcI (j : Stp) (g : GN) (t : EM Bool) (mk mv : EM D) (l : Nat) : Nat → Nat → Ev → Sto → Rs Unit
  | 0, i, e, s => match j i s with
    | some none => .ok () s
    | _ => .no
  | f + 1, i, e, s => match j i s with
    | none => .no
    | some none => .ok () s
    | some (some d) => match g d e with
      | none => .no
      | some e1 => (t e1 s).nox.bind fun q s1 => if q then (mk e1 s1).nox.bind fun y s2 => (mv e1 s2).nox.bind fun z s3 => match s3[l]? with
          | some (.dict false kvs) => match keyD y with
            | some k => if kvs.length < sizeLine then dcI j g t mk mv l f (i + 1) e (s3.set l (.dict false (putKd kvs y k z))) else .no
            | none => .no
          | _ => .no
        else dcI j g t mk mv l f (i + 1) e s1
def dcL2 (j : Stp) (g : GN) (t : EM Bool) (mi1 : EM (Nat × Stp)) (g1 : GN) (t1 : EM Bool) (mk mv : EM D) (vs1 : List Nat) (l : Nat) : Nat → Nat → Ev → Sto → Rs D
  | 0, i, e, s => match j i s with
    | some none => .ok (.ref l) s
    | _ => .no
  | f + 1, i, e, s => match j i s with
    | none => .no
    | some none => .ok (.ref l) s
    | some (some d) => match g d e with
      | none => .no
      | some e1 => (t e1 s).nox.bind fun q s1 => if q then (mi1 e1 s1).nox.bind fun jt s2 => (dcI jt.2 g1 t1 mk mv l jt.1 0 (wipeD e1 vs1) s2).bind fun _ s3 => dcL2 j g t mi1 g1 t1 mk mv vs1 l f (i + 1) e s3
        else dcL2 j g t mi1 g1 t1 mk mv vs1 l f (i + 1) e s1
def mDc2 (mi : EM (Nat × Stp)) (g : GN) (t : EM Bool) (mi1 : EM (Nat × Stp)) (g1 : GN) (t1 : EM Bool) (mk mv : EM D) (vs vs1 : List Nat) : EM D := fun e s => (mi e s).bind fun jt s1 => dcL2 jt.2 g t mi1 g1 t1 mk mv vs1 s1.length jt.1 0 (wipeD e vs) (s1 ++ [.dict false []])
variable [Row]
section
variable {X : Cx} {W : WX} {pos : Pos} {kx vx tg iter tg1 iter1 : Expr} {ifs ifs1 : List Expr} {scope : Scope} {own : List (Str × Nat)} {mi mi1 : EM (Nat × Stp)} {g g1 : GN} {is is1 : List Nat} {t t1 : EM Bool} {mk mv : EM D}
theorem ldc2 {K : PySem.W.Frag} {mg : Str → Option Value} {vs vs1 : List Nat} {g' g1' : L2.TG} {wi1 : L2.TI} {tt tt1 : TT} {tk te : TE} (his : ∀ i ∈ is, i ∈ vs) (his1 : ∀ i ∈ is1, i ∈ vs1)
    (gq : GQ K g is g') (gq1 : GQ K g1 is1 g1')
    (ht : ∀ σ H Q, lT K mg WF t σ H Q → tt σ H Q) (hi1 : ∀ σ H Q, lG K mg (RI K mg) WF mi1 σ H Q → wi1 σ H Q) (ht1 : ∀ σ H Q, lT K mg WF t1 σ H Q → tt1 σ H Q) (hk : ∀ σ H Q, lE K mg WF mk σ H Q → tk σ H Q) (he : ∀ σ H Q, lE K mg WF mv σ H Q → te σ H Q) {σ : L2.St} {H : Hp} {Q : VK}
    (h : lE K mg W (mDc2 mi g t mi1 g1 t1 mk mv vs vs1) σ H Q) : tDc2 (lG K mg (RI K mg) W mi) g' tt wi1 g1' tt1 tk te vs vs1 σ H Q := by
  obtain ⟨ρ, env, s, sr, er, po⟩ := h
  refine ⟨ρ, env, s, sr, er, (Po.bind po).imp fun J H1 ⟨ρ1, s1, jt, e1, sr1, ri, po1⟩ => fun Dl hDl => ?_⟩
  obtain ⟨x2, sr2, r2⟩ := new_dct sr1 hDl
  refine ⟨fun i m2 H2 => ∃ ρ2 s2, Ext (ρup ρ1 s1.length Dl) (s1 ++ [SO.dict false []]).length (upd H1 Dl (.dK [])) ρ2 s2.length H2 ∧ SR K mg ρ2 s2 H2 ∧ Po K mg (VR K) W σ ρ2 s2.length H2 (dcL2 jt.2 g t mi1 g1 t1 mk mv vs1 s1.length m2 i (wipeD env vs) s2) Q, ⟨jt.1, ρup ρ1 s1.length Dl, _, Ext.refl, sr2, po1.rebase x2⟩, ?_⟩
  rintro i m2 H2 ⟨ρ2, s2, x3, sr3, po2⟩
  have x23 := x2.trans x3
  have hj := ri ρ2 s2 H2 i x23 sr3
  have lt1 : s1.length < (s1 ++ [SO.dict false []]).length := by simp
  have rD : VR K ρ2 s2.length H2 (.ref s1.length) (.ref Dl) := r2.mono x3
  cases m2 with
  | zero =>
    refine ⟨fun _ => False, fun H' z => z.elim, ?_⟩
    rw [dcL2] at po2
    cases e : jt.2 i s2 with
    | none => rw [e] at po2; exact po2.elim
    | some o =>
      rw [e] at po2 hj
      cases o with
      | none => exact .inl ⟨hj, po2 ρ2 H2 _ Ext.refl sr3 rD⟩
      | some d => exact po2.elim
  | succ f =>
    refine ⟨fun H' => ∃ ρ5 s5, Ext (ρup ρ1 s1.length Dl) (s1 ++ [SO.dict false []]).length (upd H1 Dl (.dK [])) ρ5 s5.length H' ∧ SR K mg ρ5 s5 H' ∧ Po K mg (VR K) W σ ρ5 s5.length H' (dcL2 jt.2 g t mi1 g1 t1 mk mv vs1 s1.length f (i + 1) (wipeD env vs) s5) Q, fun H' w => ⟨f, Nat.lt_succ_self f, w⟩, ?_⟩
    rw [dcL2] at po2
    cases e : jt.2 i s2 with
    | none => rw [e] at po2; exact po2.elim
    | some o =>
      rw [e] at po2 hj
      cases o with
      | none => exact .inl ⟨hj, po2 ρ2 H2 _ Ext.refl sr3 rD⟩
      | some d =>
        dsimp only at po2 hj
        obtain ⟨go, yl⟩ := hj
        refine .inr ⟨go, fun x H' y => ?_⟩
        obtain ⟨x4, sr4, r4⟩ := yl x H' y
        cases hgd : g d (wipeD env vs) with
        | none => rw [hgd] at po2; exact po2.elim
        | some e4 =>
          rw [hgd] at po2
          dsimp only at po2
          have erw : EnvR K ρ2 s2.length H' (wipeD env vs) (wipe σ vs) := ((er.mono e1).mono (x23.trans x4)).wipe vs
          refine gq ρ2 s2 H' _ _ e4 d x _ erw r4 hgd fun σ4 er4 hw => ⟨by rw [hw vs his, wipe_again], ?_⟩
          refine ht _ _ _ ⟨ρ2, e4, s2, sr4, er4, (Po.bindx (po2.rebase x4)).imp fun q H5 ⟨ρ5, s5, q5, x5, sr5, r5, po5⟩ => ?_⟩
          have eq : q5 = q := r5
          subst eq
          have x35 := (x3.trans x4).trans x5
          cases q5 with
          | false => exact ⟨ρ5, s5, x35, sr5, po5⟩
          | true =>
            rw [if_pos rfl] at po5 ⊢
            refine hi1 _ _ _ ⟨ρ5, e4, s5, sr5, er4.mono x5, (Po.bindx po5).imp fun J1 H6 ⟨ρ6, s6, jt1, x6, sr6, ri6, po6⟩ => ?_⟩
            have x36 := x35.trans x6
            have er6 : EnvR K ρ6 s6.length H6 e4 σ4 := (er4.mono x5).mono x6
            dsimp only at po6
            refine ⟨fun i1 k1 H7 => ∃ ρ7 s7, Ext ρ6 s6.length H6 ρ7 s7.length H7 ∧ SR K mg ρ7 s7 H7 ∧ Po K mg (VR K) W σ ρ7 s7.length H7 ((dcI jt1.2 g1 t1 mk mv s1.length k1 i1 (wipeD e4 vs1) s7).bind fun _ s3 => dcL2 jt.2 g t mi1 g1 t1 mk mv vs1 s1.length f (i + 1) (wipeD env vs) s3) Q, ⟨jt1.1, ρ6, s6, Ext.refl, sr6, po6⟩, ?_⟩
            rintro i1 k1 H7 ⟨ρ7, s7, x7, sr7, po7⟩
            have hj7 := ri6 ρ7 s7 H7 i1 x7 sr7
            have x37 := x36.trans x7
            cases k1 with
            | zero =>
              refine ⟨fun _ => False, fun H' z => z.elim, ?_⟩
              rw [dcI] at po7
              cases e7 : jt1.2 i1 s7 with
              | none => rw [e7] at po7; exact po7.elim
              | some o =>
                rw [e7] at po7 hj7
                cases o with
                | none => exact .inl ⟨hj7, ρ7, s7, x37, sr7, po7⟩
                | some d => exact po7.elim
            | succ f7 =>
              refine ⟨fun H' => ∃ ρ9 s9, Ext ρ6 s6.length H6 ρ9 s9.length H' ∧ SR K mg ρ9 s9 H' ∧ Po K mg (VR K) W σ ρ9 s9.length H' ((dcI jt1.2 g1 t1 mk mv s1.length f7 (i1 + 1) (wipeD e4 vs1) s9).bind fun _ s3 => dcL2 jt.2 g t mi1 g1 t1 mk mv vs1 s1.length f (i + 1) (wipeD env vs) s3) Q, fun H' w => ⟨f7, Nat.lt_succ_self f7, w⟩, ?_⟩
              rw [dcI] at po7
              cases e7 : jt1.2 i1 s7 with
              | none => rw [e7] at po7; exact po7.elim
              | some o =>
                rw [e7] at po7 hj7
                cases o with
                | none => exact .inl ⟨hj7, ρ7, s7, x37, sr7, po7⟩
                | some d7 =>
                  dsimp only at po7 hj7
                  obtain ⟨go7, yl7⟩ := hj7
                  refine .inr ⟨go7, fun x' H' y' => ?_⟩
                  obtain ⟨x8, sr8, r8⟩ := yl7 x' H' y'
                  cases hg7 : g1 d7 (wipeD e4 vs1) with
                  | none => rw [hg7] at po7; exact po7.elim
                  | some e8 =>
                    rw [hg7] at po7
                    dsimp only at po7
                    have erw8 : EnvR K ρ7 s7.length H' (wipeD e4 vs1) (wipe σ4 vs1) := (er6.mono (x7.trans x8)).wipe vs1
                    refine gq1 ρ7 s7 H' _ _ e8 d7 x' _ erw8 r8 hg7 fun σ8 er8 hw8 => ⟨by rw [hw8 vs1 his1, wipe_again], ?_⟩
                    rw [Rs.bind_assoc] at po7
                    refine ht1 _ _ _ ⟨ρ7, e8, s7, sr8, er8, (Po.bindx (po7.rebase x8)).imp fun q H9 ⟨ρ9, s9, q9, x9, sr9, r9, po9⟩ => ?_⟩
                    have eq9 : q9 = q := r9
                    subst eq9
                    have x79 := (x7.trans x8).trans x9
                    have x39 := (x37.trans x8).trans x9
                    cases q9 with
                    | false => exact ⟨ρ9, s9, x79, sr9, po9⟩
                    | true =>
                      rw [if_pos rfl] at po9 ⊢
                      rw [Rs.bind_assoc] at po9
                      refine hk _ _ _ ⟨ρ9, e8, s9, sr9, er8.mono x9, (Po.bindx po9).imp fun y6 Ha ⟨ρa, sa, da, xa, sra, ra, poa⟩ => ?_⟩
                      dsimp only at poa
                      rw [Rs.bind_assoc] at poa
                      refine he _ _ _ ⟨ρa, e8, sa, sra, (er8.mono x9).mono xa, (Po.bindx poa).imp fun z7 Hb ⟨ρb, sb, db, xb, srb, rb, pob⟩ => ?_⟩
                      have x3b := (x39.trans xa).trans xb
                      have eDb : ρb s1.length = Dl := by
                        rw [x3b.ag _ lt1, ρup_same]
                      dsimp only at pob
                      cases el : sb[s1.length]? with
                      | none => rw [el] at pob; exact pob.elim
                      | some o =>
                        rw [el] at pob
                        cases o with
                        | dict bb kvs =>
                          cases bb with
                          | true => exact pob.elim
                          | false =>
                            dsimp only at pob
                            cases hkd : keyD da with
                            | none => rw [hkd] at pob; exact pob.elim
                            | some k =>
                              rw [hkd] at pob
                              dsimp only at pob
                              by_cases hl : kvs.length < sizeLine
                              · rw [if_pos hl] at pob
                                obtain ⟨av, hav, rav⟩ := srb.ob _ _ el
                                rw [eDb] at hav
                                have ob' := srb.ob _ _ el
                                have xw : Ext ρb sb.length Hb ρb sb.length (upd Hb (ρb s1.length) (.dK (putK av k z7))) := Ext.write (u := .dK (putK av k z7)) ob' rfl
                                refine ⟨av, k, keyD_vr hkd (ra.mono xb), hav, by rw [rav.len]; exact hl, ρb, sb.set s1.length (.dict false (putKd kvs da k db)), ?_, ?_, ?_⟩
                                · rw [List.length_set]
                                  have x8b := (((x79.trans xa).trans xb).trans xw)
                                  rw [eDb] at x8b
                                  exact x8b
                                · rw [← eDb]
                                  exact srb.write el rfl rfl ⟨_, upd_same, (rav.put hkd rb).mono xw⟩
                                · rw [List.length_set, ← eDb]
                                  exact pob.rebase xw
                              · rw [if_neg hl] at pob
                                exact pob.elim
                        | _ => exact pob.elim
theorem je_dc2 {g' g1' : L2.TG} {vs1 : List Nat} (hc : X.calm = true) (hN : X.N.Nodup) (hi : JI X W tg iter mi) (ok : BlkOk X.N X.env.scope scope own) (hv : ∀ i ∈ vs1, i ∈ own.map (·.2)) (his : ∀ i ∈ is, i ∈ own.map (·.2)) (his1 : ∀ i ∈ is1, i ∈ vs1)
    (hg' : ∀ (s : Shared) (H : Hp) (C : Addr) (cl : List (Str × Addr)) (fp : List Addr), PG (X.blk s H scope (compEnvC scope cl C X.env) fp) tg g') (gq : GQ X.K g is g')
    (ht : ∀ (s : Shared) (H : Hp) (C : Addr) (cl : List (Str × Addr)) (fp : List Addr), PTs (X.blk s H scope (compEnvC scope cl C X.env) fp) ifs (lT X.K X.mg WF t))
    (hi1 : ∀ (s : Shared) (H : Hp) (C : Addr) (cl : List (Str × Addr)) (fp : List Addr), JI (X.blk s H scope (compEnvC scope cl C X.env) fp) WF tg1 iter1 mi1)
    (hg1 : ∀ (s : Shared) (H : Hp) (C : Addr) (cl : List (Str × Addr)) (fp : List Addr), PG (X.blk s H scope (compEnvC scope cl C X.env) fp) tg1 g1') (gq1 : GQ X.K g1 is1 g1')
    (ht1 : ∀ (s : Shared) (H : Hp) (C : Addr) (cl : List (Str × Addr)) (fp : List Addr), PTs (X.blk s H scope (compEnvC scope cl C X.env) fp) ifs1 (lT X.K X.mg WF t1))
    (hk : ∀ (s : Shared) (H : Hp) (C : Addr) (cl : List (Str × Addr)) (fp : List Addr), JE (X.blk s H scope (compEnvC scope cl C X.env) fp) WF kx mk)
    (he : ∀ (s : Shared) (H : Hp) (C : Addr) (cl : List (Str × Addr)) (fp : List Addr), JE (X.blk s H scope (compEnvC scope cl C X.env) fp) WF vx mv) (hs : ∀ x, foldedSetIterable iter X.env x = pure x := by intro _; rfl) (hs1 : ∀ env x, foldedSetIterable iter1 env x = pure x := by intro _ _; rfl) :
    JE X W (.DictComp kx vx [⟨tg, iter, ifs, 0⟩, ⟨tg1, iter1, ifs1, 0⟩] scope pos) (mDc2 mi g t mi1 g1 t1 mk mv (own.map (·.2)) vs1) := by
  exact PE_imp (pe_dc2 hc hN hi ok hv hg' ht hi1 hg1 ht1 hk he hs hs1) fun σ H Q h => ldc2 his his1 gq gq1 (fun _ _ _ z => z) (fun _ _ _ z => z) (fun _ _ _ z => z) (fun _ _ _ z => z) (fun _ _ _ z => z) h
theorem js_setDc2 {i : Nat} {y : Str} {py spos : Pos} {g' g1' : L2.TG} {vs1 : List Nat} (hc : X.calm = true) (hN : X.N.Nodup) (hy : X.N[i]? = some y) (hyl : X.env.scope.names.lookup y = some .local)
    (hsw : swapsWith (.DictComp kx vx [⟨tg, iter, ifs, 0⟩, ⟨tg1, iter1, ifs1, 0⟩] scope pos) (some (.Name y py)) spos.line X.env = pure true) (hi : JI X W tg iter mi) (ok : BlkOk X.N X.env.scope scope own) (hv : ∀ i ∈ vs1, i ∈ own.map (·.2)) (his : ∀ i ∈ is, i ∈ own.map (·.2)) (his1 : ∀ i ∈ is1, i ∈ vs1)
    (hg' : ∀ (s : Shared) (H : Hp) (C : Addr) (cl : List (Str × Addr)) (fp : List Addr), PG (X.blk s H scope (compEnvC scope cl C X.env) fp) tg g') (gq : GQ X.K g is g')
    (ht : ∀ (s : Shared) (H : Hp) (C : Addr) (cl : List (Str × Addr)) (fp : List Addr), PTs (X.blk s H scope (compEnvC scope cl C X.env) fp) ifs (lT X.K X.mg WF t))
    (hi1 : ∀ (s : Shared) (H : Hp) (C : Addr) (cl : List (Str × Addr)) (fp : List Addr), JI (X.blk s H scope (compEnvC scope cl C X.env) fp) WF tg1 iter1 mi1)
    (hg1 : ∀ (s : Shared) (H : Hp) (C : Addr) (cl : List (Str × Addr)) (fp : List Addr), PG (X.blk s H scope (compEnvC scope cl C X.env) fp) tg1 g1') (gq1 : GQ X.K g1 is1 g1')
    (ht1 : ∀ (s : Shared) (H : Hp) (C : Addr) (cl : List (Str × Addr)) (fp : List Addr), PTs (X.blk s H scope (compEnvC scope cl C X.env) fp) ifs1 (lT X.K X.mg WF t1))
    (hk : ∀ (s : Shared) (H : Hp) (C : Addr) (cl : List (Str × Addr)) (fp : List Addr), JE (X.blk s H scope (compEnvC scope cl C X.env) fp) WF kx mk)
    (he : ∀ (s : Shared) (H : Hp) (C : Addr) (cl : List (Str × Addr)) (fp : List Addr), JE (X.blk s H scope (compEnvC scope cl C X.env) fp) WF vx mv) (hs : ∀ x, foldedSetIterable iter X.env x = pure x := by intro _; rfl) (hs1 : ∀ env x, foldedSetIterable iter1 env x = pure x := by intro _ _; rfl) :
    JS X W (.Assign [.Name y py] (.DictComp kx vx [⟨tg, iter, ifs, 0⟩, ⟨tg1, iter1, ifs1, 0⟩] scope pos) spos) (sA i (mDc2 mi g t mi1 g1 t1 mk mv (own.map (·.2)) vs1)) := by
  exact PS_imp (ps_setDc2 hc hN hy hyl hsw hi ok hv hg' ht hi1 hg1 ht1 hk he hs hs1) fun σ H D ⟨ρ, env, s, sr, er, po⟩ =>
    ldc2 (Q := fun x H1 => D.nx (σ.set i (some x)) H1) his his1 gq gq1 (fun _ _ _ z => z) (fun _ _ _ z => z) (fun _ _ _ z => z) (fun _ _ _ z => z) (fun _ _ _ z => z) ⟨ρ, env, s, sr, er, (PoS.st (R := VR X.K) er po).imp fun v H1 ⟨ρ1, s1, d1, e1, sr1, r1, er1, po1⟩ => po1 ρ1 H1 _ Ext.refl sr1 (er1.set r1)⟩
end
end Z

set_option Elab.async false
set_option linter.all false
set_option maxRecDepth 100000
set_option maxHeartbeats 4000000
namespace Z
open PySem PySem.Spec PyProof.Rows L2
/-! ### d.update(another dict) -/
section
variable {X : Cx}
def rUpdD : V → List V → Hp → VK → Prop := fun x xs H Q => ∃ (a b : Addr) (ks ls : List (Key × V)), x = .ref a ∧ xs = [.ref b] ∧ H a = some (.dK ks) ∧ H b = some (.dK ls) ∧ a ≠ b ∧ ks.length + ls.length ≤ sizeLine ∧ Q .non (upd H a (.dK (mergeK ks ls)))
theorem mt_updD : MtR X "dict.update" rUpdD := by
  rintro pins s σ H x xs v us Q I r1 r2 ⟨a, b, ks, ls, rfl, rfl, ha, hb, hne, hz, q⟩
  obtain rfl : v = Value.ref a := r1
  cases r2 with
  | cons ru rn =>
    cases rn
    obtain rfl : _ = Value.ref b := ru
    obtain ⟨_, lo, va, ra, da⟩ := (show ObjOk X.prog X.w H s.heap a (.dK ks) from I.hok a _ ha)
    obtain ⟨_, lo2, vb, rb, db⟩ := (show ObjOk X.prog X.w H s.heap b (.dK ls) from I.hok b _ hb)
    have la : ks.length = va.length := Paired.length ra
    have lb : ls.length = vb.length := Paired.length rb
    refine call_meetsIn PySem.F.slot_dict_update da.typeIs PySem.F.entry_dict_update (PySem.F.args_dict_update_2 _ _) (meets_dict_update (mixKind X.prog X.w) a b hne lo2) ⟨va, vb, da, db, by omega, fun h' hm _ hs => ?_⟩
    have he : ∃ q, h'.get? a = some q := by
      obtain ⟨q, _, _, hq, _⟩ := hm
      exact ⟨q, hq⟩
    have hl : (mergeK ks ls).length ≤ sizeLine := by have := length_mergeK ls ks; omega
    exact ⟨.non, _, d_write (t' := s.toks) I (by rw [ha]; exact True.intro) hs he (dk_new hl lo (KV.merge rb ra) hm), rfl, q⟩
end
variable [Row]
section
variable {X : Cx} {W : WX}
def fUpdD (x : D) (ds : List D) (s : Sto) : Rs D := match x, ds with
  | .ref n, [.ref m] => match s[n]?, s[m]? with
    | some (.dict false ks), some (.dict false ls) => if n ≠ m ∧ ks.length + ls.length ≤ sizeLine then .ok .non (s.set n (.dict false (mergeD ks ls))) else .no
    | _, _ => .no
  | _, _ => .no
theorem pm_updD : PrM X W fUpdD rUpdD := by
  intro ρ s H σ x ds v us Q sr r1 r2 po
  unfold fUpdD at po
  split at po
  · rename_i n m
    split at po
    · rename_i ks ls h1 h2
      obtain ⟨⟨hne, hz⟩, po⟩ := Po.ite po
      rw [VR] at r1
      obtain ⟨_, rfl⟩ := r1
      obtain ⟨u, rfl, r3⟩ := r2.one
      rw [VR] at r3
      obtain ⟨_, rfl⟩ := r3
      obtain ⟨va, ha, ra⟩ := sr.ob _ _ h1
      obtain ⟨vb, hb, rb⟩ := sr.ob _ _ h2
      have hi : ρ n ≠ ρ m := fun e => hne (sr.inj n m _ _ h1 h2 rfl rfl e)
      have xw : Ext ρ s.length H ρ s.length (upd H (ρ n) (.dK (mergeK va vb))) := Ext.write (u := .dK (mergeK va vb)) (sr.ob _ _ h1) rfl
      refine ⟨ρ n, ρ m, va, vb, rfl, rfl, ha, hb, hi, by have h1 := ra.len; have h2 := rb.len; omega, ?_⟩
      have sr2 := sr.write (o' := .dict false (mergeD ks ls)) (u := .dK (mergeK va vb)) h1 rfl rfl ⟨_, upd_same, (KR.merge rb ra).mono xw⟩
      refine po _ _ _ (by rw [List.length_set]; exact xw) sr2 rfl
    · exact po.elim
  · exact po.elim
end
section
omit [Row]
variable {P : D → Sto → Prop} {E : Str → Str → D → Sto → Prop} {s : Sto} {n m : Nat}
theorem z_updD {ks ls : List (D × D)} (h1 : s[n]? = some (.dict false ks)) (h2 : s[m]? = some (.dict false ls)) (hne : n ≠ m) (hz : ks.length + ls.length ≤ sizeLine) : (fUpdD (.ref n) [.ref m] s).wp P E = P .non (s.set n (.dict false (mergeD ks ls))) := by
  unfold fUpdD
  dsimp only
  rw [h1, h2]
  dsimp only
  rw [if_pos ⟨hne, hz⟩, z_ok]
end
end Z

set_option Elab.async false
set_option linter.all false
set_option maxRecDepth 100000
set_option maxHeartbeats 4000000
namespace Z
open PySem PySem.Spec PySem.Calls PyProof.Rows L2
/-! ### sorted(d.items()) -/
section
variable {X : Cx}
def rItemsK : V → List V → Hp → VK → Prop := fun x xs H Q => ∃ (a : Addr) (ks : List (Key × V)), x = .ref a ∧ xs = [] ∧ H a = some (.dK ks) ∧ ∀ p, H p = none → Q (.ref p) (upd H p (L2.DX.itemsO p a))
theorem mt_itemsK : MtR X "dict.items" rItemsK := by
  rintro pins s σ H x xs v us Q I r1 r2 ⟨a, ks, rfl, rfl, ha, q⟩
  obtain rfl : v = Value.ref a := r1
  cases r2
  obtain ⟨_, lo, vs, rel, dd⟩ := (show ObjOk X.prog X.w H s.heap a (.dK ks) from I.hok a _ ha)
  refine call_meetsIn PySem.F.slot_dict_items dd.typeIs PySem.F.entry_dict_items (PySem.F.args_dict_items_1 _) (meets_dict_items (mixKind X.prog X.w) a lo) ⟨⟨vs, dd⟩, ?_⟩
  have fr : H s.heap.objs.size = none := I.hok.fresh (Nat.le_refl _)
  exact ⟨.ref s.heap.objs.size, _, I.laid (t' := s.toks) (fun b u e => Heap.get?_push_of_some _ e) (Nat.le_refl _) (L2.DX.itemsO_ok (Heap.get?_push_size _ rfl)), rfl, q _ fr⟩
/-- sorted(view): the pairs come as tuples ts, and are sorted by what they read as -/
def rSortView (X : Cx) : List V → Hp → VK → Prop := fun xs H Q => ∃ (p a : Addr) (ks : List (Key × V)), xs = [.ref p] ∧ H p = some (L2.DX.itemsO p a) ∧ H a = some (.dK ks) ∧
  ∀ (H1 : Hp) (ts : List Addr), (∀ b o, H b = some o → H1 b = some o) → ts.length = ks.length → (∀ (j : Nat) (t : Addr) (q : Key × V), ts[j]? = some t → ks[j]? = some q → H1 t = some (.tup [kV q.1, q.2])) →
    ∃ ps : List (PyData × V), ps.map (·.2) = ts.map V.ref ∧ (∀ p ∈ ps, Dp X.K H1 p.2 p.1) ∧ PySem.W.AllAlike (ps.map (·.1)) ∧ PySem.W.Sortable (ps.map (·.1)) ∧ (∀ p ∈ ps, X.A.units + 2 + p.1.depth < cLine) ∧
      ∀ l, H1 l = none → Q (.ref l) (upd H1 l (.lst ((ps.mergeSort (PySem.W.dataLe false (·.1))).map (·.2))))
theorem valsE {ps : List (PyData × V)} : ∀ {us : List Value}, Vals (ps.map (·.2)) us → PySem.W.EachIs (fun u (p : PyData × V) => RelV p.2 u) us ps := by
  induction ps with
  | nil => intro us h; cases h; exact .nil
  | cons p ps ih =>
    intro us h
    cases h with
    | cons h1 h2 => exact .cons h1 (ih h2)
theorem eachV {ps : List (PyData × V)} : ∀ {us : List Value}, PySem.W.EachIs (fun u (p : PyData × V) => RelV p.2 u) us ps → Vals (ps.map (·.2)) us := by
  induction ps with
  | nil => intro us h; cases h; exact .nil
  | cons p ps ih =>
    intro us h
    cases h with
    | cons h1 h2 => exact .cons h1 (ih h2)
theorem cr_sortView (hc : X.calm = true) : CallR X (.builtin "sorted") (rSortView X) := by
  rintro pins s σ H xs us Q I r ⟨p, a, ks, rfl, hp, ha, tell⟩
  obtain rfl := Vals.ref1 r
  have view : s.heap.IsItemsView p a := (show ObjOk X.prog X.w H s.heap p (L2.DX.itemsO p a) from I.hok p _ hp).1
  obtain ⟨z, lo, vs, rel, dd⟩ := (show ObjOk X.prog X.w H s.heap a (.dK ks) from I.hok a _ ha)
  obtain ⟨ep, hat⟩ := dd.dictAt
  have lk : ks.length = vs.length := Paired.length rel
  refine sorted_col (β := PyData × V) (enc := (·.1)) (R := fun u (p : PyData × V) => RelV p.2 u) (C := fun us s1 => ∃ (h' : Heap) (tk : Nat) (as : List Addr), us = as.map Value.ref ∧ s1 = { s with heap := h', toks := tk } ∧ (∀ b o, s.heap.get? b = some o → h'.get? b = some o) ∧ as.length = vs.length ∧ PySem.W.KdxG (mixKind X.prog X.w) vs s.heap.objs.size h' as)
    (PySem.W.kdx_collect (A := X.A.in1) (knd := mixKind X.prog X.w) (kvs := vs) (ep := ep) (I.ok.hd hc) view hat (by omega) fun h' tk as hk hl hG => ⟨h', tk, as, rfl, rfl, hk, hl, hG⟩) ?_
  rintro us s1 ⟨h', tk, as, rfl, rfl, hk, hl, hG⟩
  have I1 : L2.Inv X pins σ H { s with heap := h', toks := tk } := I.kept hk
  have nd : as.Nodup := List.Pairwise.imp (fun {a b} (h : a < b) => Nat.ne_of_lt h) hG.rise
  obtain ⟨H1, I2, g1, g2⟩ := L2.DX.takeT (P := fun b ws => ∀ (j : Nat) (q : Key × V), as[j]? = some b → ks[j]? = some q → ws = [kV q.1, q.2]) I as H I1 nd fun b hb => by
    obtain ⟨j, hj⟩ := List.mem_iff_getElem?.mp hb
    obtain ⟨key, k, x, e1, e2, e3⟩ := hG.pairs j b hj
    have hjl : j < vs.length := (List.getElem?_eq_some_iff.mp e1).1
    obtain ⟨q, hq⟩ : ∃ q, ks[j]? = some q := ⟨_, List.getElem?_eq_getElem (by omega)⟩
    obtain ⟨⟨k', x'⟩, e4, e5, e6⟩ := _root_.LiI.paired_get rel hq
    rw [e1] at e4
    cases e4
    have hb0 : s.heap.objs.size ≤ b := Nat.le_of_lt (hG.above b hb)
    refine ⟨hb0, I.hok.fresh hb0, [kV q.1, q.2], fun j2 q2 h1 h2 => ?_, fun H2 => ?_⟩
    · have : j2 = j := by
        have l1 := (List.getElem?_eq_some_iff.mp h1).1
        have l2 := (List.getElem?_eq_some_iff.mp hj).1
        exact (List.getElem?_inj l1 nd).mp (h1.trans hj.symm)
      subst this
      rw [hq] at h2
      cases h2
      rfl
    · have rk : RelV (kV q.1) key := by
        have e5' : q.1 = k := e5
        rw [e5']
        exact relV_key (show keyIs k key = true from e2)
      exact ⟨by show 2 ≤ sizeLine; decide, [key, x], .cons rk (.cons e6 .nil), ⟨_, e3, rfl, _, rfl⟩⟩
  have at1 : ∀ (j : Nat) (t : Addr) (q : Key × V), as[j]? = some t → ks[j]? = some q → H1 t = some (.tup [kV q.1, q.2]) := fun j t q h1 h2 => by
    obtain ⟨ws, h3, h4⟩ := g2 t (List.mem_of_getElem? h1)
    rw [h4, h3 j q h1 h2]
  obtain ⟨ps, e1, e2, e3, e4, e5, fin⟩ := tell H1 as g1 (by omega) at1
  have vv : Vals (ps.map (·.2)) (as.map Value.ref) := by
    rw [e1]
    exact _root_.LiI.vals_refs as
  have ev := valsE vv
  refine ⟨ps, ev, ?_, e3, e4, ?_, e5, ?_⟩
  · have : ∀ {qs : List (PyData × V)} {ws : List Value}, (∀ p ∈ qs, Dp X.K H1 p.2 p.1) → PySem.W.EachIs (fun u (p : PyData × V) => RelV p.2 u) ws qs → PySem.W.EachIs (fun v (p : PyData × V) => ∃ q, PySem.Reads h' v p.1 q) ws qs := by
      intro qs
      induction qs with
      | nil => intro ws _ h; cases h; exact .nil
      | cons p qs ih =>
        intro ws hp h
        cases h with
        | cons h1 h2 => exact .cons (Dp.reads I2 _ _ _ (hp p List.mem_cons_self) h1) (ih (fun z hz => hp z (List.mem_cons_of_mem _ hz)) h2)
    exact this e2 ev
  · have := congrArg List.length e1
    simp only [List.length_map] at this
    omega
  · intro out a2 h2 ep2 ho2 eo kp ha2 he
    have hv := eachV eo
    have hlen : ((ps.mergeSort (PySem.W.dataLe false (·.1))).map (·.2)).length ≤ sizeLine := by
      have := congrArg List.length e1
      simp only [List.length_map] at this
      rw [List.length_map, List.length_mergeSort]
      omega
    exact ⟨.ref a2, _, I2.laid (t' := tk) kp ha2 (show ObjOk X.prog X.w _ _ _ (.lst ((ps.mergeSort (PySem.W.dataLe false (·.1))).map (·.2))) from ⟨hlen, out, ep2, hv, he⟩), rfl, fin _ (I2.hok.fresh ha2)⟩
end
variable [Row]
section
variable {X : Cx} {W : WX}
def fSortI : MF := fun ds s => match ds with
  | [.ref n] => match s[n]? with
    | some (.dict false kvs) => if canSort s (kvs.map fun p => .tup [p.1, p.2]) = true then .ok (.ref s.length) (s ++ [.lst (sortD s (kvs.map fun p => .tup [p.1, p.2]))]) else .no
    | _ => .no
  | _ => .no
theorem KR.tups {K : PySem.W.Frag} {ρ : Nat → Addr} {n : Nat} {H H1 : Hp} (hx : Ext ρ n H ρ n H1) : ∀ {kvs : List (D × D)} {ks : List (Key × V)} {ts : List Addr}, KR keyD K ρ n H kvs ks → ts.length = ks.length → (∀ (j : Nat) (t : Addr) (q : Key × V), ts[j]? = some t → ks[j]? = some q → H1 t = some (.tup [kV q.1, q.2])) →
    VRs K ρ n H1 (kvs.map fun p => .tup [p.1, p.2]) (ts.map V.ref)
  | [], ks, ts, h, hl, _ => by
    have h : ks = [] := h
    subst h
    have : ts = [] := List.eq_nil_of_length_eq_zero hl
    subst this
    exact VRs.nil
  | p :: ps, ks, ts, h, hl, ha => by
    obtain ⟨k, v, r, rfl, h1, h2, h3⟩ := h
    cases ts with
    | nil => cases hl
    | cons t ts =>
      refine VRs.cons ?_ (KR.tups hx h3 (Nat.succ.inj hl) fun j t' q e1 e2 => ha (j + 1) t' q e1 e2)
      rw [VR]
      have := ha 0 t (k, v) rfl rfl
      refine ⟨t, [kV k, v], rfl, .inl (.of this), ?_⟩
      refine VRs.cons ?_ (VRs.cons (h2.mono hx) VRs.nil)
      exact vr_keyD h1
theorem je_sortI {o : Expr} {mo : EM D} {p apos cpos pos : Pos} (hc : X.calm = true) (hu : X.A.units + 66 < cLine) (ho : JE X W o mo) (hg : Gl X "sorted") (hm : X.mg "sorted" = none) (hv : bootBuiltins "sorted" = some (.builtin "sorted"))
    (hbase : attributeBase o "items" X.env (eval o X.env) = eval o X.env := by rfl) (hline : (apos.endLine == cpos.line) = true := by rfl)
    (he : starEach [.Call (.Attribute o "items" apos) [] [] cpos] X.env = (false, eval (.Call (.Attribute o "items" apos) [] [] cpos) X.env) :: starEach [] X.env := by rfl) (hpl : (backTo pos (starEach [] X.env)).any (·.1) = false := by rfl) :
    JE X W (.Call (.Name "sorted" p) [.Call (.Attribute o "items" apos) [] [] cpos] [] pos) (mN fSortI (aC mo aN)) := by
  refine PE_imp (pe_callB (cr_sortView hc) hg hm hv (pa_cons (pe_bm0 PySem.F.plainAttrs_dict PySem.F.slot_dict_items PySem.F.type_dict_items mt_itemsK ho hbase hline) pa_nil he) (by decide) (by decide) he hpl) fun σ H Q h => ?_
  obtain ⟨ρ, env, s, sr, er, po⟩ := h
  have eb : mN fSortI (aC mo aN) env s = (mo env s).bind fun d s1 => fSortI [d] s1 := by
    unfold mN aC aN
    cases mo env s <;> rfl
  rw [eb] at po
  refine ⟨ρ, env, s, sr, er, (Po.bind po).imp fun x H1 ⟨ρ1, s1, d1, e1, sr1, r1, po1⟩ => ?_⟩
  have po2 : Po X.K X.mg (VR X.K) W σ ρ1 s1.length H1 (fSortI [d1] s1) Q := po1
  unfold fSortI at po2
  cases d1 with
  | ref n =>
    dsimp only at po2
    cases hn : s1[n]? with
    | none => rw [hn] at po2; exact po2.elim
    | some so =>
      rw [hn] at po2
      cases so with
      | dict b kvs =>
        cases b with
        | true => exact po2.elim
        | false =>
          dsimp only at po2
          obtain ⟨hs, po3⟩ := Po.ite po2
          rw [VR] at r1
          obtain ⟨hnl, rfl⟩ := r1
          obtain ⟨ks, ha, rk⟩ := sr1.ob _ _ hn
          have ty : isTy "dict" s1 (.ref n) = true := by
            show (match s1[n]? with
              | some (.lst _) => "dict" == "list"
              | some (.frz _) => "dict" == "list"
              | some (.dict _ _) => "dict" == "dict"
              | _ => false) = true
            rw [hn]
            rfl
          refine ⟨isTy_tyV sr1 (d := .ref n) (by rw [VR]; exact ⟨hnl, rfl⟩) ty, ρ1 n, ks, rfl, rfl, ha, fun p hp => ?_⟩
          have g0 : ∀ b o, H1 b = some o → upd H1 p (L2.DX.itemsO p (ρ1 n)) b = some o := fun b o e => by rw [upd_ne (ne_of_none e hp)]; exact e
          refine ⟨p, ρ1 n, ks, rfl, upd_same, g0 _ _ ha, fun H2 ts g1 hl at1 => ?_⟩
          have g2 : ∀ b o, H1 b = some o → H2 b = some o := fun b o e => g1 _ _ (g0 _ _ e)
          have x12 : Ext ρ1 s1.length H1 ρ1 s1.length H2 := Ext.same g2
          have sr2 := sr1.grow g2
          have rr := KR.tups x12 rk hl at1
          obtain ⟨ps, e1', e2', e3'⟩ := rr.pairs
          obtain ⟨hs, c3⟩ := Bool.and_eq_true_iff.mp hs
          obtain ⟨c1, c2⟩ := Bool.and_eq_true_iff.mp hs
          have mem1 : ∀ p ∈ ps, p.1 ∈ (kvs.map fun p => D.tup [p.1, p.2]) := fun p hp => by rw [← e1']; exact List.mem_map_of_mem hp
          have get : ∀ {P : PyData → Prop}, (∀ x ∈ (kvs.map fun p => D.tup [p.1, p.2]), P (encD s1 x)) → ∀ d ∈ (ps.map fun p => (encD s1 p.1, p.2)).map (·.1), P d := fun {P} h d hd => by
            rw [List.map_map] at hd
            obtain ⟨p, hp, rfl⟩ := List.mem_map.mp hd
            exact h _ (mem1 p hp)
          refine ⟨ps.map fun p => (encD s1 p.1, p.2), by rw [List.map_map]; exact e2', fun p hp => ?_, ?_, ?_, fun p hp => ?_, fun l hl2 => ?_⟩
          · obtain ⟨q, hq, rfl⟩ := List.mem_map.mp hp
            exact pyd_dp sr2 30 q.1 q.2 _ (shp_enc (List.all_eq_true.mp c1 q.1 (mem1 q hq))).1 (e3' q hq)
          · exact get (P := fun d => ∀ d', d' ∈ ((ps.map fun p => (encD s1 p.1, p.2)).map (·.1)) → PySem.W.alike d d' = true) fun x hx => get fun y hy => List.all_eq_true.mp (List.all_eq_true.mp c2 x hx) y hy
          · rcases Bool.or_eq_true_iff.mp c3 with c3 | c3
            · refine .inl (get fun x hx => ?_)
              have := List.all_eq_true.mp c3 x hx
              revert this
              cases encD s1 x with
              | tuple l => cases l with
                | nil => exact fun h => nomatch h
                | cons y r => exact fun _ => ⟨y, r, rfl⟩
              | _ => exact fun h => nomatch h
            · refine .inr (get fun x hx => ?_)
              have := List.all_eq_true.mp c3 x hx
              revert this
              cases encD s1 x with
              | tuple l => exact fun h => nomatch h
              | none => exact fun h => nomatch h
              | _ => exact fun _ => ⟨(fun h => nomatch h), fun l h => nomatch h⟩
          · obtain ⟨q, hq, rfl⟩ := List.mem_map.mp hp
            have := SeqAt.depth_of_shaped (shp_enc (List.all_eq_true.mp c1 q.1 (mem1 q hq))).2
            dsimp only
            omega
          · have em : ((ps.mergeSort (PySem.W.dataLe false fun p => encD s1 p.1)).map (·.1)) = sortD s1 (kvs.map fun p => .tup [p.1, p.2]) := by
              unfold sortD
              rw [← e1']
              exact List.map_mergeSort fun a _ b _ => rfl
            have ev : ((ps.map fun p => (encD s1 p.1, p.2)).mergeSort (PySem.W.dataLe false (·.1))).map (·.2) = (ps.mergeSort (PySem.W.dataLe false fun p => encD s1 p.1)).map (·.2) := by
              rw [← List.map_mergeSort (r := PySem.W.dataLe false fun p : D × V => encD s1 p.1) (f := fun p : D × V => (encD s1 p.1, p.2)) fun a _ b _ => rfl, List.map_map]
              rfl
            rw [ev]
            have rs : VRs X.K ρ1 s1.length H2 (sortD s1 (kvs.map fun p => .tup [p.1, p.2])) ((ps.mergeSort (PySem.W.dataLe false fun p => encD s1 p.1)).map (·.2)) := by
              rw [← em]
              exact VRs.of_pairs fun p hp => e3' p ((List.mergeSort_perm _ _).mem_iff.mp hp)
            obtain ⟨x3, sr3, v3⟩ := new_lst sr2 hl2 rs
            exact (po3.rebase x12) _ _ _ x3 sr3 v3
      | _ => exact po2.elim
  | _ => exact po2.elim
end
section
omit [Row]
variable {P : D → Sto → Prop} {E : Str → Str → D → Sto → Prop} {s : Sto} {n : Nat}
theorem z_sortI {kvs : List (D × D)} (h : s[n]? = some (.dict false kvs)) (hc : canSort s (kvs.map fun p => .tup [p.1, p.2]) = true) : (fSortI [.ref n] s).wp P E = P (.ref s.length) (s ++ [.lst (sortD s (kvs.map fun p => .tup [p.1, p.2]))]) := by
  unfold fSortI
  dsimp only
  rw [h]
  dsimp only
  rw [if_pos hc, z_ok]
end
end Z

set_option Elab.async false
set_option linter.all false
set_option maxRecDepth 100000
set_option maxHeartbeats 4000000
namespace Z
open PySem PySem.Spec PySem.Calls PyProof.Rows L2
/-! ### isinstance(x, (list, tuple)) -/
def KdLT (K : PySem.W.Frag) (H : Hp) (x : V) (b : Bool) : Prop := (b = true ∧ ∃ (t : Addr) (xs : List V), x = .ref t ∧ (SqT K H t xs ∨ SqL K H t xs)) ∨ (b = false ∧ (x = .non ∨ (∃ q, x = .bl q) ∨ (∃ i, x = .int i) ∨ ∃ y, x = .str y))
def tIsLT (K : PySem.W.Frag) (te : TE) : TE := fun σ H Q => te σ H fun x H1 => ∃ b, KdLT K H1 x b ∧ ∀ T, H1 T = none → Q (.bl b) (upd H1 T (.tup [.ty "list", .ty "tuple"]))
section
variable {X : Cx} {p pos tpos : Pos} {e : Expr} {es : List Expr} {te : TE}
theorem pe_isLT {k : Nat} (he : PE X e te) (hg : Gl X "isinstance") (hm : X.mg "isinstance" = none) (hes : PA X es (tCons (tC (.ty "list")) (tCons (tC (.ty "tuple")) tNil)))
    (hs1 : starEach [e, .Tuple es k tpos] X.env = (false, eval e X.env) :: starEach [.Tuple es k tpos] X.env := by rfl) (hs2 : starEach [.Tuple es k tpos] X.env = (false, eval (.Tuple es k tpos) X.env) :: starEach [] X.env := by rfl)
    (hpl : (backTo pos (starEach [.Tuple es k tpos] X.env)).any (·.1) = false := by rfl) :
    PE X (.Call (.Name "isinstance" p) [e, .Tuple es k tpos] [] pos) (tIsLT X.K te) := by
  refine ⟨fun pins s σ H Q I h => wpAny_Call_Name_kw (ld_blt I hg hm boot_isinstance ?_ (by decide) (by decide))⟩
  refine callWith_builtin1 ?_ hs1 hpl
  rw [hs1]
  show wpAny _ _ (spliced ((false, eval e X.env) :: backTo pos (starEach [.Tuple es k tpos] X.env))) _ _ s
  refine Calls.spliced_cons (thn (he.run pins s σ H _ I h) fun u z1 h1 => ?_)
  obtain ⟨x, H1, I1, r1, b, kd, q1⟩ := h1
  rw [hs2]
  show wpAny _ _ (spliced ((false, eval (.Tuple es k tpos) X.env) :: backTo pos (starEach [] X.env))) _ _ z1
  refine Calls.spliced_cons (wpAny_Tuple_spliced (thn (hes.run tpos pins z1 σ H1 (fun ys H' => ys = [.ty "list", .ty "tuple"] ∧ H' = H1) I1 ⟨rfl, rfl⟩) fun us z2 h2 => ?_))
  obtain ⟨ys, H2, I2, r2, rfl, rfl⟩ := h2
  obtain rfl := vals_ty2 r2
  have two : 2 ≤ sizeLine := by rw [sizeLine_eq]; omega
  refine ⟨two, Calls.spliced_nil ?_⟩
  have fr := I2.hok.fresh (Nat.le_refl z2.heap.objs.size)
  have at0 : (z2.heap.push { cls := .type "tuple", data := .seq [Value.type "list", Value.type "tuple"].toArray }).get? z2.heap.objs.size = some { cls := .type "tuple", data := .seq [Value.type "list", Value.type "tuple"].toArray } := Heap.get?_push_size _ rfl
  have I3 := I2.laid (o := .tup [.ty "list", .ty "tuple"]) (t' := z2.toks) (fun c o q => Heap.get?_push_of_some _ q) (Nat.le_refl _) ⟨two, _, r2, ⟨_, at0, rfl, _, rfl⟩⟩
  have fin : ∀ {Tx : String} {vs : List Bool}, AnswersAll (fun s => s.TypeIs u Tx) u [.type "list", .type "tuple"] vs → Shared.TypeIs { z2 with heap := z2.heap.push { cls := .type "tuple", data := .seq [Value.type "list", Value.type "tuple"].toArray } } u Tx → vs.any id = b →
      wpAny (model X.prog X.w) X.A (call (.builtin "isinstance") [u, .ref z2.heap.objs.size]) (EP X pins σ Q) X.xe { z2 with heap := z2.heap.push { cls := .type "tuple", data := .seq [Value.type "list", Value.type "tuple"].toArray } } := fun ha hT hb =>
    IsiPair.tupleOfB ha hT at0 hb fun tk => ⟨.bl b, _, I3.tok tk, rfl, q1 _ fr⟩
  rcases kd with ⟨rfl, t, xs, rfl, hx | hx⟩ | ⟨rfl, rfl | ⟨q, rfl⟩ | ⟨i, rfl⟩ | ⟨y, rfl⟩⟩
  · obtain rfl : u = Value.ref t := r1
    obtain ⟨its, _, ⟨o, ho, hc, _⟩, _⟩ := I2.tuple hx
    exact fin (Tx := "tuple") (vs := [false, true]) ⟨Answers.of_false_tuple (by decide +kernel) F.isi_meta_list F.sub_tuple_list, Answers.of_true F.isi_meta_tuple F.isi_sub_tuple, True.intro⟩ ⟨o, Heap.get?_push_of_some _ ho, hc⟩ rfl
  · obtain rfl : u = Value.ref t := r1
    obtain ⟨its, _, hl, _⟩ := I2.list hx
    obtain ⟨o, ho, hc, _⟩ := hl.isList
    exact fin (Tx := "list") (vs := [true, false]) ⟨Answers.of_true F.isi_meta_list (by rw [isSubtype_type]; kernel_rfl), Answers.of_false_list (by decide +kernel) F.isi_meta_tuple F.sub_list_tuple, True.intro⟩ ⟨o, Heap.get?_push_of_some _ ho, hc⟩ rfl
  · obtain rfl : u = Value.none := r1
    exact fin (Tx := "NoneType") (vs := [false, false]) ⟨Answers.of_false_none (by decide +kernel) F.isi_meta_list F.sub_NoneType_list, Answers.of_false_none (by decide +kernel) F.isi_meta_tuple F.sub_NoneType_tuple, True.intro⟩ rfl rfl
  · obtain rfl : u = Value.bool q := r1
    exact fin (Tx := "bool") (vs := [false, false]) ⟨Answers.of_false_bool (by decide +kernel) F.isi_meta_list F.sub_bool_list, Answers.of_false_bool (by decide +kernel) F.isi_meta_tuple F.sub_bool_tuple, True.intro⟩ rfl rfl
  · obtain ⟨t, rfl⟩ := r1
    exact fin (Tx := "int") (vs := [false, false]) ⟨Answers.of_false_int (by decide +kernel) F.isi_meta_list F.sub_int_list, Answers.of_false_int (by decide +kernel) F.isi_meta_tuple F.sub_int_tuple, True.intro⟩ rfl rfl
  · obtain ⟨t, rfl⟩ := r1
    exact fin (Tx := "str") (vs := [false, false]) ⟨Answers.of_false_str (by decide +kernel) F.isi_meta_list F.sub_str_list, Answers.of_false_str (by decide +kernel) F.isi_meta_tuple F.sub_str_tuple, True.intro⟩ rfl rfl
end
def ltB (s : Sto) : D → Option Bool
  | .tup _ => some true
  | .ref n => match s[n]? with
    | some (.lst _) => some true
    | some (.frz _) => some true
    | some (.ptp _) => some true
    | _ => none
  | .non => some false
  | .bl _ => some false
  | .int _ => some false
  | .str _ => some false
def mIsLT (m : EM D) : EM D := fun e s => (m e s).bind fun d s1 => match ltB s1 d with
  | some b => .ok (.bl b) s1
  | none => .no
variable [Row]
section
variable {X : Cx} {W : WX} {p p1 p2 pos tpos : Pos} {e : Expr} {m : EM D} {k : Nat}
theorem ltB_ok {K : PySem.W.Frag} {mg : Str → Option Value} {ρ : Nat → Addr} {s : Sto} {H : Hp} (sr : SR K mg ρ s H) {d : D} {v : V} {b : Bool} (r : VR K ρ s.length H d v) (h : ltB s d = some b) : KdLT K H v b := by
  unfold ltB at h
  split at h
  · cases h
    rw [VR] at r
    obtain ⟨t, xs, rfl, hx, _⟩ := r
    exact .inl ⟨rfl, t, xs, rfl, .inl hx⟩
  · rename_i n
    rw [VR] at r
    obtain ⟨hn, rfl⟩ := r
    cases e : s[n]? with
    | none => rw [e] at h; cases h
    | some o =>
      rw [e] at h
      have ob := sr.ob n o e
      cases o with
      | lst xs =>
        cases h
        obtain ⟨vs, q, _⟩ := ob
        exact .inl ⟨rfl, _, vs, rfl, .inr (.inl (.of q))⟩
      | frz xs =>
        cases h
        obtain ⟨vs, q, _⟩ := ob
        exact .inl ⟨rfl, _, vs, rfl, .inr q.sq⟩
      | ptp xs =>
        cases h
        obtain ⟨vs, q, _⟩ := ob
        exact .inl ⟨rfl, _, vs, rfl, .inl (PlT.sq q)⟩
      | _ => cases h
  · cases h
    obtain rfl : v = .non := r
    exact .inr ⟨rfl, .inl rfl⟩
  · cases h
    obtain rfl : v = .bl _ := r
    exact .inr ⟨rfl, .inr (.inl ⟨_, rfl⟩)⟩
  · cases h
    obtain rfl : v = .int _ := r
    exact .inr ⟨rfl, .inr (.inr (.inl ⟨_, rfl⟩))⟩
  · cases h
    obtain rfl : v = .str _ := r
    exact .inr ⟨rfl, .inr (.inr (.inr ⟨_, rfl⟩))⟩
theorem je_isLT (hg : Gl X "isinstance") (hm : X.mg "isinstance" = none) (hg1 : Gl X "list") (hm1 : X.mg "list" = none) (hg2 : Gl X "tuple") (hm2 : X.mg "tuple" = none) (he : JE X W e m)
    (hs1 : starEach [e, .Tuple [.Name "list" p1, .Name "tuple" p2] k tpos] X.env = (false, eval e X.env) :: starEach [.Tuple [.Name "list" p1, .Name "tuple" p2] k tpos] X.env := by rfl) (hs2 : starEach [.Tuple [.Name "list" p1, .Name "tuple" p2] k tpos] X.env = (false, eval (.Tuple [.Name "list" p1, .Name "tuple" p2] k tpos) X.env) :: starEach [] X.env := by rfl)
    (hpl : (backTo pos (starEach [.Tuple [.Name "list" p1, .Name "tuple" p2] k tpos] X.env)).any (·.1) = false := by rfl) :
    JE X W (.Call (.Name "isinstance" p) [e, .Tuple [.Name "list" p1, .Name "tuple" p2] k tpos] [] pos) (mIsLT m) := by
  refine PE_imp (pe_isLT he hg hm (pa_cons (pe_bltn (v := .ty "list") hg1 hm1 boot_list rfl (by decide) (by decide)) (pa_cons (pe_bltn (v := .ty "tuple") hg2 hm2 boot_tuple rfl (by decide) (by decide)) pa_nil)) hs1 hs2 hpl) fun σ H Q ⟨ρ, env, s, sr, er, po⟩ => ⟨ρ, env, s, sr, er, (Po.bind po).imp fun x H1 ⟨ρ1, s1, d1, e1, sr1, r1, po1⟩ => ?_⟩
  dsimp only at po1
  cases hb : ltB s1 d1 with
  | none => rw [hb] at po1; exact po1.elim
  | some b =>
    rw [hb] at po1
    dsimp only at po1
    refine ⟨b, ltB_ok sr1 r1 hb, fun T hT => ?_⟩
    have g : ∀ c o, H1 c = some o → upd H1 T (.tup [.ty "list", .ty "tuple"]) c = some o := fun c o q => by rw [upd_ne (ne_of_none q hT)]; exact q
    exact po1 ρ1 _ _ (Ext.same g) (sr1.grow g) rfl
end
section
omit [Row]
variable {P : D → Sto → Prop} {E : Str → Str → D → Sto → Prop} {e : Ev} {s : Sto} {m : EM D}
@[simp ↓] theorem z_mIsLT : (mIsLT m e s).wp P E = (m e s).wp (fun d s1 => optP (ltB s1 d) fun b => P (.bl b) s1) E := by
  unfold mIsLT
  rw [z_bind]
  congr 1
  funext d s1
  cases ltB s1 d with
  | none => rfl
  | some b => simp only [z_ok, optP_some]
end
end Z

set_option Elab.async false
set_option linter.all false
set_option maxRecDepth 100000
set_option maxHeartbeats 4000000
namespace Z
open PySem PySem.Spec PyProof.Rows L2 TL
open PySem.PyData (strOk)
/-! ### dicts from texts to texts -/
def lookF (f : FaceA) (y : Str) : Option Str := (f.find? fun p => decide (p.1 = y)).map (·.2)
def putFd (f : FaceA) (y w : Str) : FaceA := if y ∈ f.map (·.1) then f.map (fun p => if p.1 = y then (p.1, w) else p) else f ++ [(y, w)]
theorem getK_face (f : FaceA) (y : Str) : getK (facePs f) (.inr y) = (lookF f y).map D.str := by
  unfold getK lookF facePs
  rw [List.find?_map]
  have : (fun p : Str × Str => decide (p.1 = y)) = ((fun p : D × D => decide (keyD p.1 = some (Sum.inr y : Key))) ∘ fun p : Str × Str => (D.str p.1, D.str p.2)) := by
    funext p
    show decide (p.1 = y) = decide (keyD (D.str p.1) = some (Sum.inr y))
    refine decide_eq_decide.mpr ⟨fun e => by rw [e]; rfl, fun e => ?_⟩
    have e : (some (Sum.inr p.1) : Option Key) = some (Sum.inr y) := e
    injection e with e
    injection e with e
  rw [this]
  cases f.find? _ <;> rfl
theorem putKd_face (f : FaceA) (y w : Str) : putKd (facePs f) (.str y) (.inr y) (.str w) = facePs (putFd f y w) := by
  unfold putKd putFd facePs
  have e : ∀ p : Str × Str, (keyD (D.str p.1) = some (Sum.inr y : Key)) ↔ p.1 = y := fun p => by
    constructor
    · intro e
      have e : (some (Sum.inr p.1) : Option Key) = some (Sum.inr y) := e
      injection e with e
      injection e with e
    · intro e
      rw [e]
      rfl
  by_cases c : y ∈ f.map (·.1)
  · rw [if_pos c, if_pos ?_]
    · rw [List.map_map, List.map_map]
      refine List.map_congr_left fun p _ => ?_
      show (if keyD (D.str p.1) = some (Sum.inr y : Key) then (D.str p.1, D.str w) else (D.str p.1, D.str p.2)) = _
      by_cases q : p.1 = y
      · rw [if_pos ((e p).mpr q)]
        show _ = (D.str (if p.1 = y then (p.1, w) else p).1, D.str (if p.1 = y then (p.1, w) else p).2)
        rw [if_pos q]
      · rw [if_neg fun z => q ((e p).mp z)]
        show _ = (D.str (if p.1 = y then (p.1, w) else p).1, D.str (if p.1 = y then (p.1, w) else p).2)
        rw [if_neg q]
    · obtain ⟨p, hp, rfl⟩ := List.mem_map.mp c
      rw [List.any_map, List.any_eq_true]
      exact ⟨p, hp, decide_eq_true rfl⟩
  · rw [if_neg c, if_neg ?_]
    · rw [List.map_append]
      rfl
    · rw [List.any_map, List.any_eq_true]
      rintro ⟨p, hp, h⟩
      exact c (List.mem_map.mpr ⟨p, hp, (e p).mp (of_decide_eq_true h)⟩)
theorem putFd_keys (f : FaceA) (y w : Str) : (putFd f y w).map (·.1) = if y ∈ f.map (·.1) then f.map (·.1) else f.map (·.1) ++ [y] := by
  unfold putFd
  split
  · rw [List.map_map]
    refine List.map_congr_left fun p _ => ?_
    show (if p.1 = y then (p.1, w) else p).1 = p.1
    split <;> rfl
  · rw [List.map_append]
    rfl
theorem putFd_nd {f : FaceA} {y w : Str} (h : (f.map (·.1)).Nodup) : ((putFd f y w).map (·.1)).Nodup := by
  rw [putFd_keys]
  split
  · exact h
  · rename_i hy
    rw [List.nodup_append]
    exact ⟨h, by simp, fun a ha b hb e => hy (by rw [List.mem_singleton.mp hb] at e; exact e ▸ ha)⟩
theorem putFd_mem {f : FaceA} {y w : Str} (h : (f.map (·.1)).Nodup) (z v : Str) : (z, v) ∈ putFd f y w ↔ (z = y ∧ v = w) ∨ (z ≠ y ∧ (z, v) ∈ f) := by
  unfold putFd
  split
  · rename_i hy
    rw [List.mem_map]
    constructor
    · rintro ⟨p, hp, e⟩
      split at e
      · rename_i q
        injection e with e1 e2
        exact .inl ⟨by rw [← e1, q], e2.symm⟩
      · rename_i q
        subst e
        exact .inr ⟨q, hp⟩
    · rintro (⟨rfl, rfl⟩ | ⟨h1, h2⟩)
      · obtain ⟨p, hp, e⟩ := List.mem_map.mp hy
        exact ⟨p, hp, by rw [if_pos e, e]⟩
      · exact ⟨_, h2, if_neg h1⟩
  · rename_i hy
    rw [List.mem_append, List.mem_singleton]
    constructor
    · rintro (h1 | h1)
      · exact .inr ⟨fun e => hy (by rw [← e]; exact List.mem_map_of_mem (f := (·.1)) h1), h1⟩
      · injection h1 with e1 e2
        exact .inl ⟨e1, e2⟩
    · rintro (⟨rfl, rfl⟩ | ⟨_, h2⟩)
      · exact .inr rfl
      · exact .inl h2
theorem lookF_mem {f : FaceA} {y w : Str} (nd : (f.map (·.1)).Nodup) : lookF f y = some w ↔ (y, w) ∈ f := by
  unfold lookF
  constructor
  · intro h
    obtain ⟨p, h1, h2⟩ := Option.map_eq_some_iff.mp h
    have e : p.1 = y := by simpa using List.find?_some h1
    have hm := List.mem_of_find?_eq_some h1
    obtain ⟨a, b⟩ := p
    have e : a = y := e
    have h2 : b = w := h2
    subst e h2
    exact hm
  · intro h
    cases q : f.find? fun p => decide (p.1 = y) with
    | none =>
      have := List.find?_eq_none.mp q _ h
      simp at this
    | some p =>
      have e : p.1 = y := by simpa using List.find?_some q
      have := uniq_name (g := fun p : Str × Str => p.1) nd (List.mem_of_find?_eq_some q) h e
      rw [this]
      rfl
theorem lookF_none {f : FaceA} {y : Str} : lookF f y = none ↔ y ∉ f.map (·.1) := by
  unfold lookF
  rw [Option.map_eq_none_iff, List.find?_eq_none]
  constructor
  · intro h z
    obtain ⟨p, hp, rfl⟩ := List.mem_map.mp z
    have := h p hp
    simp at this
  · intro h p hp
    simp only [decide_eq_true_eq]
    exact fun e => h (by rw [← e]; exact List.mem_map_of_mem hp)
theorem lookF_put {f : FaceA} {y w z : Str} (nd : (f.map (·.1)).Nodup) : lookF (putFd f y w) z = if z = y then some w else lookF f z := by
  by_cases e : z = y
  · rw [if_pos e]
    exact (lookF_mem (putFd_nd nd)).mpr ((putFd_mem nd z w).mpr (.inl ⟨e, rfl⟩))
  · rw [if_neg e]
    cases q : lookF f z with
    | some v => exact (lookF_mem (putFd_nd nd)).mpr ((putFd_mem nd z v).mpr (.inr ⟨e, (lookF_mem nd).mp q⟩))
    | none =>
      refine lookF_none.mpr fun h => ?_
      obtain ⟨p, hp, rfl⟩ := List.mem_map.mp h
      rcases (putFd_mem nd p.1 p.2).mp hp with ⟨h1, _⟩ | ⟨_, h1⟩
      · exact e h1
      · exact lookF_none.mp q (List.mem_map_of_mem h1)
/-- sorted(d.items()) of such a dict -/
theorem sortI_face {s : Sto} {n : Nat} {f : FaceA} (h : s[n]? = some (.dict false (facePs f))) (ok : ∀ p ∈ f, okF p) {P : D → Sto → Prop} {E : Str → Str → D → Sto → Prop} : (fSortI [.ref n] s).wp P E = P (.ref s.length) (s ++ [.lst ((sortF f).map fcD)]) := by
  have e : (facePs f).map (fun p => D.tup [p.1, p.2]) = f.map fcD := by
    unfold facePs
    rw [List.map_map]
    rfl
  obtain ⟨c1, c2⟩ := sortD_fcs (s := s) ok
  rw [z_sortI h (by rw [e]; exact c1), e, c2]
end Z

set_option Elab.async false
set_option linter.all false
set_option maxRecDepth 100000
set_option maxHeartbeats 4000000
namespace Z
open PySem PySem.Spec PyProof.Rows L2 TL
open PySem.PyData (strOk)
/-! ### drawn stores -/
theorem dns_mB {w : RowB} {z : Str} : z ∈ dns (memB w) ↔ z ∈ w.gs.map (·.1) := by
  show z ∈ (sortP w.gs).map (·.1) ↔ _
  exact ((sortP_perm w.gs).map _).mem_iff
theorem wants_mB {w : RowB} {z : Str} : z ∈ (memB w).wants ↔ z ∈ w.ws := (sortS_perm w.ws).mem_iff
def arcQ (ps : List ArcB) (x : Str) : Option ArcB := ps.find? fun p => decide (p.1 = x)
def rowsQ (ps : List ArcB) (x : Str) : List RowB := ((arcQ ps x).map (·.2)).getD []
/-! the members by archives, as a dict -/
def memKv (ps : List ArcB) : List (D × D) := ps.map fun p => (.str p.1, .tup (p.2.map rowB))
/-! ### a link told by the members taken, any face -/
theorem fits_iff2 {a : LA} {x : Str} {m : MemA} : fitsB a x m = true ↔ (x, m.name) ∉ a.rows.map rkey ∧ ∃ y ∈ dns m, y ∈ openL a := by
  unfold fitsB
  rw [Bool.and_eq_true, Bool.not_eq_true', decide_eq_false_iff_not, List.any_eq_true]
  refine and_congr Iff.rfl ⟨?_, ?_⟩
  · rintro ⟨y, h1, h2⟩
    exact ⟨y, of_decide_eq_true h2, h1⟩
  · rintro ⟨y, h1, h2⟩
    exact ⟨y, h2, decide_eq_true h1⟩
end Z

set_option Elab.async false
set_option linter.all false
set_option maxRecDepth 100000
set_option maxHeartbeats 4000000
namespace Z
open PySem PySem.Spec PyProof.Rows L2 TL
open PySem.PyData (strOk)
/-! ### what is bound: the names found -/
end Z

set_option Elab.async false
set_option linter.all false
set_option maxRecDepth 100000
set_option maxHeartbeats 4000000
namespace Z
open PySem PySem.Spec PyProof.Rows L2 TL
open PySem.PyData (strOk)
/-! ### dict comprehensions with two generators, with pure parts -/
theorem ok_of {α : Type} {r : Rs α} {v : α} {s : Sto} (h : r.wp (fun x s' => x = v ∧ s' = s) (fun _ _ _ _ => False)) : r = .ok v s := by
  cases r with
  | ok a t => obtain ⟨rfl, rfl⟩ := h; rfl
  | ex c f v s => exact h.elim
  | no => exact h.elim
theorem putKd_len {kvs : List (D × D)} {x : D} {k : Key} {v : D} : (putKd kvs x k v).length ≤ kvs.length + 1 := by
  unfold putKd
  split
  · rw [List.length_map]; omega
  · rw [List.length_append]; exact Nat.le_refl _
theorem mergeD_app : ∀ (a kvs b : List (D × D)), mergeD kvs (a ++ b) = mergeD (mergeD kvs a) b
  | [], _, _ => rfl
  | p :: a, kvs, b => by
    rw [List.cons_append, mergeD, mergeD]
    cases keyD p.1 with
    | none => exact mergeD_app a kvs b
    | some k => exact mergeD_app a _ b
theorem mergeD_len : ∀ (a kvs : List (D × D)), (mergeD kvs a).length ≤ kvs.length + a.length
  | [], _ => Nat.le_refl _
  | p :: a, kvs => by
    rw [mergeD, List.length_cons]
    cases keyD p.1 with
    | none => exact Nat.le_trans (mergeD_len a kvs) (by omega)
    | some k =>
      have := mergeD_len a (putKd kvs p.1 k p.2)
      have h2 := putKd_len (kvs := kvs) (x := p.1) (k := k) (v := p.2)
      exact Nat.le_trans this (by omega)
/-- what one step of the inner walk does -/
def DcB (g : GN) (t : EM Bool) (mk mv : EM D) (e : Ev) (d : D) (F : Option (D × D)) : Prop :=
  ∃ e1, g d e = some e1 ∧ ∀ s, match F with
    | none => t e1 s = .ok false s
    | some p => t e1 s = .ok true s ∧ mk e1 s = .ok p.1 s ∧ (keyD p.1).isSome = true ∧ mv e1 s = .ok p.2 s
theorem dcI_pure {g : GN} {t : EM Bool} {mk mv : EM D} {l : Nat} {zs : List D} {e : Ev} {F : D → Option (D × D)} (hb : ∀ d ∈ zs, DcB g t mk mv e d (F d)) : ∀ (n i : Nat) (s : Sto) (kvs : List (D × D)), i + n = zs.length → s[l]? = some (.dict false kvs) → kvs.length + n ≤ sizeLine →
    dcI (jTup zs) g t mk mv l n i e s = .ok () (s.set l (.dict false (mergeD kvs ((zs.drop i).filterMap F))))
  | 0, i, s, kvs, h, hl, _ => by
    have hi : zs[i]? = none := List.getElem?_eq_none (by omega)
    have hd : zs.drop i = [] := List.drop_eq_nil_of_le (by omega)
    unfold dcI jTup
    rw [hi, hd]
    dsimp only
    rw [List.filterMap_nil, mergeD]
    congr 1
    have hlt := (List.getElem?_eq_some_iff.mp hl).1
    have he := (List.getElem?_eq_some_iff.mp hl).2
    rw [← he]
    exact (List.set_getElem_self hlt).symm
  | n + 1, i, s, kvs, h, hl, hz => by
    have hi : i < zs.length := by omega
    have hlt := (List.getElem?_eq_some_iff.mp hl).1
    have hd : zs.drop i = zs[i] :: zs.drop (i + 1) := List.drop_eq_getElem_cons hi
    obtain ⟨e1, h1, h2⟩ := hb zs[i] (List.getElem_mem hi)
    have h2 := h2 s
    unfold dcI
    have hj : jTup zs i s = some (some zs[i]) := by unfold jTup; rw [List.getElem?_eq_getElem hi]
    rw [hj]
    dsimp only
    rw [h1, hd, List.filterMap_cons]
    dsimp only
    cases q : F zs[i] with
    | none =>
      rw [q] at h2
      dsimp only at h2
      rw [h2]
      have := dcI_pure hb n (i + 1) s kvs (by omega) hl (by omega)
      rw [← this]
      rfl
    | some p =>
      rw [q] at h2
      obtain ⟨h3, h4, h5, h6⟩ := h2
      rw [h3]
      dsimp only [Rs.nox, Rs.bind]
      rw [if_pos rfl, h4]
      dsimp only [Rs.nox, Rs.bind]
      rw [h6]
      dsimp only [Rs.nox, Rs.bind]
      rw [hl]
      dsimp only
      obtain ⟨k, hk⟩ := Option.isSome_iff_exists.mp h5
      rw [hk, mergeD, hk]
      dsimp only
      rw [if_pos (by omega)]
      have := putKd_len (kvs := kvs) (x := p.1) (k := k) (v := p.2)
      rw [dcI_pure hb n (i + 1) _ _ (by omega) (List.getElem?_set_self hlt) (by omega), List.set_set]
theorem dcL2_pure {j : Stp} {g : GN} {t : EM Bool} {mi1 : EM (Nat × Stp)} {g1 : GN} {t1 : EM Bool} {mk mv : EM D} {vs1 : List Nat} {l : Nat} {xs : List D} {e : Ev} {Zs : D → List D} {F : D → D → Option (D × D)} {s0 : Sto} (hl0 : l = s0.length)
    (hj : ∀ i s, (∀ n, n < s0.length → s[n]? = s0[n]?) → j i s = some xs[i]?)
    (hb : ∀ d ∈ xs, ∃ e1, g d e = some e1 ∧ (∀ s, t e1 s = .ok true s) ∧ (∀ s, mi1 e1 s = .ok ((Zs d).length, jTup (Zs d)) s) ∧ ∀ z ∈ Zs d, DcB g1 t1 mk mv (wipeD e1 vs1) z (F d z)) :
    ∀ (n i : Nat) (s : Sto) (kvs : List (D × D)), i + n = xs.length → (∀ m, m < s0.length → s[m]? = s0[m]?) → s[l]? = some (.dict false kvs) → kvs.length + ((xs.drop i).flatMap Zs).length ≤ sizeLine →
    dcL2 j g t mi1 g1 t1 mk mv vs1 l n i e s = .ok (.ref l) (s.set l (.dict false (mergeD kvs ((xs.drop i).flatMap fun d => (Zs d).filterMap (F d)))))
  | 0, i, s, kvs, h, hs, hl, _ => by
    have hi : xs[i]? = none := List.getElem?_eq_none (by omega)
    have hd : xs.drop i = [] := List.drop_eq_nil_of_le (by omega)
    unfold dcL2
    rw [hj i s hs, hi, hd]
    dsimp only
    rw [List.flatMap_nil, mergeD]
    congr 1
    have hlt := (List.getElem?_eq_some_iff.mp hl).1
    have he := (List.getElem?_eq_some_iff.mp hl).2
    rw [← he]
    exact (List.set_getElem_self hlt).symm
  | n + 1, i, s, kvs, h, hs, hl, hz => by
    have hi : i < xs.length := by omega
    have hlt := (List.getElem?_eq_some_iff.mp hl).1
    have hd : xs.drop i = xs[i] :: xs.drop (i + 1) := List.drop_eq_getElem_cons hi
    obtain ⟨e1, h1, h2, h3, h4⟩ := hb xs[i] (List.getElem_mem hi)
    rw [hd, List.flatMap_cons, List.length_append] at hz
    unfold dcL2
    rw [hj i s hs, List.getElem?_eq_getElem hi]
    dsimp only
    rw [h1, hd, List.flatMap_cons]
    dsimp only
    rw [h2 s]
    dsimp only [Rs.nox, Rs.bind]
    rw [if_pos rfl, h3 s]
    dsimp only [Rs.nox, Rs.bind]
    rw [dcI_pure h4 (Zs xs[i]).length 0 s kvs (by omega) hl (by omega)]
    dsimp only [Rs.nox, Rs.bind]
    have ml := mergeD_len ((Zs xs[i]).filterMap (F xs[i])) kvs
    have fl := List.length_filterMap_le (F xs[i]) (Zs xs[i])
    rw [List.drop_zero, mergeD_app]
    rw [dcL2_pure hl0 hj hb n (i + 1) _ _ (by omega) (fun m hm => by rw [List.getElem?_set_ne (by omega)]; exact hs m hm) (List.getElem?_set_self hlt) (by omega), List.set_set]
theorem dc2_pure {mi : EM (Nat × Stp)} {j : Stp} {g : GN} {t : EM Bool} {mi1 : EM (Nat × Stp)} {g1 : GN} {t1 : EM Bool} {mk mv : EM D} {vs vs1 : List Nat} {xs : List D} {e : Ev} {Zs : D → List D} {F : D → D → Option (D × D)} {s0 : Sto} (hi : mi e s0 = .ok (xs.length, j) s0)
    (hj : ∀ i s, (∀ n, n < s0.length → s[n]? = s0[n]?) → j i s = some xs[i]?)
    (hb : ∀ d ∈ xs, ∃ e1, g d (wipeD e vs) = some e1 ∧ (∀ s, t e1 s = .ok true s) ∧ (∀ s, mi1 e1 s = .ok ((Zs d).length, jTup (Zs d)) s) ∧ ∀ z ∈ Zs d, DcB g1 t1 mk mv (wipeD e1 vs1) z (F d z)) (hz : (xs.flatMap Zs).length ≤ sizeLine) :
    mDc2 mi g t mi1 g1 t1 mk mv vs vs1 e s0 = .ok (.ref s0.length) (s0 ++ [.dict false (mergeD [] (xs.flatMap fun d => (Zs d).filterMap (F d)))]) := by
  unfold mDc2
  rw [hi]
  show dcL2 j g t mi1 g1 t1 mk mv vs1 s0.length xs.length 0 (wipeD e vs) (s0 ++ [.dict false []]) = _
  rw [dcL2_pure rfl hj hb xs.length 0 _ [] (by omega) (fun m hm => List.getElem?_append_left hm) (by simp) (by simpa using hz)]
  rw [List.drop_zero, List.set_append_right _ _ (Nat.le_refl _), Nat.sub_self]
  rfl
end Z

set_option Elab.async false
set_option linter.all false
set_option maxRecDepth 100000
set_option maxHeartbeats 4000000
namespace Z
open PySem PySem.Spec PyProof.Rows L2 TL
open PySem.PyData (strOk)
/-! ### enumerate(a list or a tuple) -/
def iEnB (ms : EM (List D)) : EM (Nat × Stp) := fun e s => match ms e s with
  | .ok [.tup _] _ => iEnT ms e s
  | _ => iEn ms e s
theorem iEnB_or (ms : EM (List D)) (e : Ev) (s : Sto) : iEnB ms e s = iEnT ms e s ∨ iEnB ms e s = iEn ms e s := by
  unfold iEnB
  split
  · exact .inl rfl
  · exact .inr rfl
section
variable [Row] {X : Cx} {W : WX} {p pos tpos : Pos} {e : Expr} {elts : List Expr} {kk : Nat} {ms : EM (List D)}
theorem ji_enB (hg : Gl X "enumerate") (hm : X.mg "enumerate" = none) (ha : JA X W [e] ms) (hs : starEach [e] X.env = [(false, eval e X.env)] := by rfl) : JI X W (.Tuple elts kk tpos) (.Call (.Name "enumerate" p) [e] [] pos) (iEnB ms) := by
  refine ⟨fun pins s σ H R I ⟨ρ, env, st, sr, er, po⟩ => ?_⟩
  rcases iEnB_or ms env st with h | h
  · rw [h] at po
    exact (ji_enT hg hm ha hs).run pins s σ H R I ⟨ρ, env, st, sr, er, po⟩
  · rw [h] at po
    exact (ji_en hg hm ha hs).run pins s σ H R I ⟨ρ, env, st, sr, er, po⟩
end
theorem z_iEnB {PI : Nat × Stp → Sto → Prop} {E : Str → Str → D → Sto → Prop} {s : Sto} {e : Ev} {i : Nat} {d : D} {xs : List D} (he : e[i]? = some (some d)) (h : SeqOf s d xs) (hP : ∀ j, (∀ i t, (∀ n, n < s.length → t[n]? = s[n]?) → j i t = some ((xs[i]?).map fun d => .tup [.int i, d])) → PI (xs.length, j) s) : (iEnB (aC (mV i) aN) e s).wp PI E := by
  have ha : (aC (mV i) aN) e s = .ok [d] s := by
    have h1 : mV i e s = .ok d s := by unfold mV; rw [he]
    unfold aC aN
    rw [h1]
    rfl
  unfold iEnB
  rw [ha]
  rcases h with rfl | ⟨n, rfl, h2⟩
  · dsimp only
    unfold iEnT
    rw [ha]
    refine hP _ fun i t _ => ?_
    unfold jTup enT
    rw [List.getElem?_mapIdx]
  · dsimp only
    unfold iEn
    rw [ha]
    show (match lstAt s n with
      | some xs => Rs.ok (xs.length, jEn n) s
      | none => .no).wp PI E
    rw [h2]
    refine hP _ fun i t ht => ?_
    have hn := lstAt_lt h2
    have h3 : lstAt t n = some xs := by
      unfold lstAt at h2 ⊢
      rw [ht n hn]
      exact h2
    unfold jEn
    rw [h3]
    rfl
end Z

set_option Elab.async false
set_option linter.all false
set_option maxRecDepth 100000
set_option maxHeartbeats 4000000
namespace Z
open PySem PySem.Spec PyProof.Rows L2 TL
open PySem.PyData (strOk)
/-! ### the objects of a program -/
abbrev ObA := List (Str × Str) × List Str
def obD (o : ObA) : D := .tup [.tup (o.1.map fcD), .tup (o.2.map D.str)]
structure ObOk (o : ObA) : Prop where
  nm : ∀ p ∈ o.1, IsName p.1
  kd : ∀ p ∈ o.1, p.2 ∈ kinds
  nd : (o.1.map (·.1)).Nodup
  wn : ∀ x ∈ o.2, IsName x
  l1 : o.1.length ≤ 100
  l2 : o.2.length ≤ 100
theorem bls_k {α : Type} (b : Bool) : ∀ xs : List α, (xs.map fun _ => D.bl b).mapM blD = some (xs.map fun _ => b)
  | [] => rfl
  | x :: xs => by
    rw [List.map_cons, List.mapM_cons, bls_k b xs]
    rfl
theorem all_of {α : Type} {xs : List α} {s : Sto} {k : Nat} (m : mlAt s k = some (xs.map fun _ => D.bl true)) {P : D → Sto → Prop} {E : Str → Str → D → Sto → Prop} (hP : P (.bl true) s) : (fAllAny true [.ref k] s).wp P E := by
  rw [z_all]
  refine ⟨_, _, lstAt_ml m, bls_k true xs, ?_⟩
  have : (xs.map fun _ => true).all id = true := by simp
  rw [if_pos rfl, this]
  exact hP
def tAreDefines (FN FK : MF) : SM := (sC (sI (bOr (bNot (toT (mIsi "tuple" (mV 0)))) (bNot (toT (mN (fAllAny true) (aC (mL (iSq (mV 0)) (gN 3) tY (mAnd (mIsi "tuple" (mV 3)) (m2 dEq (mN fLen (aC (mV 3) aN)) (mC (.int 2)))) [3]) aN))))) (sR (mC (.bl false))) sN) (sR (mN (fAllAny true) (aC (mL (iSq (mV 0)) (gT [(gN 1), (gN 2)]) tY (mAnd (mN FN (aC (mV 1) aN)) (mN FK (aC (mV 2) aN))) [1, 2]) aN))))
def tIsObject (FA FN FT : MF) : SM := (sC (sI (bOr (bNot (toT (mIsi "tuple" (mV 0)))) (toB (m2 dNe (mN fLen (aC (mV 0) aN)) (mC (.int 2))))) (sR (mC (.bl false))) sN) (sC (sG (gT [(gN 1), (gN 2)]) (mV 0)) (sC (sI (bOr (bNot (toT (mN FA (aC (mV 1) aN)))) (bOr (bNot (toT (mIsi "tuple" (mV 2)))) (bNot (toT (mN (fAllAny true) (aC (mL (iSq (mV 2)) (gN 4) tY (mN FN (aC (mV 4) aN)) [4]) aN)))))) (sR (mC (.bl false))) sN) (sR (m2 dIsN2 (mN FT (aC (mL (iSq (mV 1)) (gN 3) tY (m2 dIx (mV 3) (mC (.int 0))) [3]) aN)) (mC .non))))))
def tLookObjects (s1 s2 : SM) (it : EM (Nat × Stp)) (FO : MF) : SM := (sC (sI (bNot (toT (mIsLT (mV 0)))) s1 sN) (sF it (gT [(gN 1), (gN 2)]) (sI (bNot (toT (mN FO (aC (mV 2) aN)))) s2 sN)))
theorem are_def_ok {FN FK : MF} (hN : IsNameOk FN) (hK : ∀ {s : Sto} {k : Str}, k ∈ kinds → (FK [.str k] s).wp fun d s' => d = .bl true ∧ Eff [] s s') {o : ObA} (h : ObOk o) {s : Sto} : (fnM 1 4 (tAreDefines FN FK) [.tup (o.1.map fcD)] s).wp fun d s' => d = .bl true ∧ Eff [] s s' := by
  refine wp_of fun P hP => ?_
  have l1 := h.l1
  unfold tAreDefines
  rw [z_fnM (by rfl), z_sCn]
  simp [-List.map_map]
  refine tup_isi rfl ?_
  simp [-List.map_map, trD]
  refine wp_ne (lc_mapR (ks := []) (fun d x => d = fcD x) (fun _ => .bl true) (as := o.1) AllR.of_map (it_tup (by simp)) bags_nil (by rw [size_line]; omega) fun d x s1 hd hx ef _ => ?_) ?_
  · subst hd
    refine ⟨_, rfl, ?_⟩
    simp [fcD]
    refine tup_isi rfl ?_
    simp [trD]
    exact Eff.refl
  rintro _ s1 ⟨rfl, e1, hlt1, m1⟩
  refine all_of m1 ?_
  simp [-List.map_map, trD]
  show nxt _ _ _ _
  rw [z_nxt]
  simp [-List.map_map]
  refine wp_ne (lc_mapR (ks := []) (fun d x => d = fcD x) (fun _ => .bl true) (as := o.1) AllR.of_map (it_tup (by simp)) bags_nil (by rw [size_line]; omega) fun d x s2 hd hx ef _ => ?_) ?_
  · subst hd
    refine ⟨_, rfl, ?_⟩
    simp
    refine wp_ne (hN (h.nm x hx)) ?_
    rintro _ s3 ⟨rfl, e3⟩
    simp [trD]
    refine wp_ne (hK (h.kd x hx)) ?_
    rintro _ s4 ⟨rfl, e4⟩
    exact ⟨e3.trans e4, rfl⟩
  rintro _ s2 ⟨rfl, e2, hlt2, m2⟩
  refine all_of m2 ?_
  exact hP _ _ ⟨rfl, e1.trans e2⟩
theorem is_object_ok {FA FN FT : MF} (hN : IsNameOk FN) (hA : ∀ {o : ObA} {s : Sto}, ObOk o → (FA [.tup (o.1.map fcD)] s).wp fun d s' => d = .bl true ∧ Eff [] s s') (hT : TwiceOk FT) {o : ObA} (h : ObOk o) {s : Sto} : (fnM 1 5 (tIsObject FA FN FT) [obD o] s).wp fun d s' => d = .bl true ∧ Eff [] s s' := by
  refine wp_of fun P hP => ?_
  have l1 := h.l1
  have l2 := h.l2
  unfold tIsObject
  rw [z_fnM (by rfl), z_sCn]
  simp [-List.map_map, obD]
  refine tup_isi rfl ?_
  simp [-List.map_map, trD]
  rw [z_nxt, z_sCn]
  simp [-List.map_map]
  rw [z_nxt, z_sCn]
  simp [-List.map_map]
  refine wp_ne (hA h) ?_
  rintro _ s1 ⟨rfl, e1⟩
  simp [-List.map_map, trD]
  refine tup_isi rfl ?_
  simp [-List.map_map, trD]
  refine wp_ne (lc_mapR (ks := []) (fun d x => d = .str x) (fun _ => .bl true) (as := o.2) (xs := o.2.map D.str) AllR.of_map (it_tup (by simp)) bags_nil (by rw [size_line]; omega) fun d x s3 hd hx ef _ => ?_) ?_
  · subst hd
    refine ⟨_, rfl, ?_⟩
    simp
    refine wp_ne (hN (h.wn x hx)) ?_
    rintro _ s4 ⟨rfl, e4⟩
    exact ⟨e4, rfl⟩
  rintro _ s3 ⟨rfl, e3, hlt3, m3⟩
  refine all_of m3 ?_
  simp [-List.map_map, trD]
  rw [z_nxt]
  simp [-List.map_map]
  refine wp_ne (lc_mapR (ks := []) (fun d x => d = fcD x) (fun x => .str x.1) (as := o.1) AllR.of_map (it_tup (by simp)) bags_nil (by rw [size_line]; omega) fun d x s4 hd hx ef _ => ?_) ?_
  · subst hd
    refine ⟨_, rfl, ?_⟩
    simp [fcD, show ∀ (a b : D), atI [a, b] 0 = some a from fun _ _ => rfl]
    exact Eff.refl
  rintro _ s4 ⟨rfl, e4, hlt4, m4⟩
  have m4' : lstAt s4 s3.length = some ((o.1.map (·.1)).map D.str) := by rw [lstAt_ml m4, List.map_map]; rfl
  refine wp_ne (hT m4' h.nd (fun x hx => ?_) (by rw [List.length_map]; omega)) ?_
  · obtain ⟨p, hp, rfl⟩ := List.mem_map.mp hx
    exact (h.nm p hp).ok
  rintro _ s5 ⟨rfl, e5⟩
  exact hP _ _ ⟨rfl, ((e1.trans e3).trans e4).trans e5⟩
theorem isi_lt {s : Sto} {d : D} {xs : List D} (h : SeqOf s d xs) : ltB s d = some true := by
  rcases h with rfl | ⟨n, rfl, h⟩
  · rfl
  · unfold ltB
    unfold lstAt at h
    revert h
    cases q : s[n]? with
    | none => intro h; cases h
    | some o =>
      cases o <;> intro h <;> first | (cases h; done) | (dsimp only; rw [q])
def EnOk (it : EM (Nat × Stp)) (Sq : Sto → D → List D → Prop) : Prop := ∀ {PI : Nat × Stp → Sto → Prop} {E : Str → Str → D → Sto → Prop} {s : Sto} {e : Ev} {d : D} {xs : List D}, e[0]? = some (some d) → Sq s d xs → (∀ j, (∀ i t, (∀ n, n < s.length → t[n]? = s[n]?) → j i t = some ((xs[i]?).map fun d => .tup [.int i, d])) → PI (xs.length, j) s) → (it e s).wp PI E
theorem enOk_B : EnOk (iEnB (aC (mV 0) aN)) SeqOf := fun he h hP => z_iEnB he h hP
theorem look_objects_ok {s1 s2 : SM} {it : EM (Nat × Stp)} {FO : MF} {Sq : Sto → D → List D → Prop} (hi : EnOk it Sq) (hsq : ∀ {s d xs}, Sq s d xs → SeqOf s d xs) (hO : ∀ {o : ObA} {s : Sto}, ObOk o → (FO [obD o] s).wp fun d s' => d = .bl true ∧ Eff [] s s') {os : List ObA} (h : ∀ o ∈ os, ObOk o) {s : Sto} {d : D} (hd : Sq s d (os.map obD)) : (fnM 1 3 (tLookObjects s1 s2 it FO) [d] s).wp fun d s' => Eff [] s s' := by
  refine wp_of fun P hP => ?_
  unfold tLookObjects
  rw [z_fnM (by rfl), z_sCn]
  simp [-List.map_map]
  rw [isi_lt (hsq hd), optP_some]
  simp [-List.map_map, trD]
  show nxt _ _ _ _
  rw [z_nxt]
  rw [z_sF]
  refine hi rfl hd fun j hj => ?_
  refine for_it (ks := []) (s0 := s) (j := j) (xs := (os.map obD).mapIdx fun i d => D.tup [.int i, d]) ⟨by rw [List.length_mapIdx], fun i t ef => ?_⟩ (fun i e s' => Eff [] s s' ∧ ∃ o1 o2, e = [some d, o1, o2]) (fun i e s' h => h.1) ?_ ⟨Eff.refl, none, none, rfl⟩ ?_
  · rw [List.getElem?_mapIdx]
    exact hj i t fun n hn => ef.eq n hn (by simp)
  · rintro i dd e s2 hd2 ⟨e2, p1, p2, rfl⟩
    rw [List.getElem?_mapIdx, List.getElem?_map, Option.map_map, Option.map_eq_some_iff] at hd2
    obtain ⟨o, ho, rfl⟩ := hd2
    refine ⟨_, rfl, ?_⟩
    simp [-List.map_map]
    refine wp_ne (hO (h o (List.mem_of_getElem? ho))) ?_
    rintro _ s3 ⟨rfl, e3⟩
    simp [trD]
    exact e2.trans e3
  · rintro e s2 ⟨e2, p1, p2, rfl⟩
    exact hP _ _ e2
end Z

set_option Elab.async false
set_option linter.all false
set_option maxRecDepth 100000
set_option maxHeartbeats 4000000
namespace Z
open PySem PySem.Spec PyProof.Rows L2 TL
open PySem.PyData (strOk)
/-! ### the face of a program, plainly -/
def mergeF (f es : FaceA) : FaceA := es.foldl (fun w p => putFd w p.1 p.2) f
theorem mergeD_face : ∀ (es f : FaceA), mergeD (facePs f) (facePs es) = facePs (mergeF f es)
  | [], f => rfl
  | p :: es, f => by
    have e : facePs (p :: es) = (.str p.1, .str p.2) :: facePs es := rfl
    have k : keyD (D.str p.1) = some (.inr p.1) := rfl
    rw [e, mergeD, k]
    dsimp only
    rw [putKd_face, mergeD_face es]
    rfl
theorem mergeF_nd : ∀ (es : FaceA) {f : FaceA}, (f.map (·.1)).Nodup → ((mergeF f es).map (·.1)).Nodup
  | [], f, h => h
  | p :: es, f, h => mergeF_nd es (f := putFd f p.1 p.2) (putFd_nd h)
theorem mergeF_look {v : Str} : ∀ (es : FaceA) {f : FaceA}, (f.map (·.1)).Nodup → (∀ p ∈ es, p.2 = v) → ∀ y, lookF (mergeF f es) y = if y ∈ es.map (·.1) then some v else lookF f y
  | [], f, _, _, y => by simp [mergeF]
  | p :: es, f, h, hv, y => by
    have ih := mergeF_look es (f := putFd f p.1 p.2) (putFd_nd h) (fun q hq => hv q (List.mem_cons_of_mem _ hq)) y
    show lookF (mergeF (putFd f p.1 p.2) es) y = _
    rw [ih, lookF_put h, hv p (by simp)]
    by_cases c : y ∈ es.map (·.1)
    · rw [if_pos c, if_pos (by simp only [List.map_cons, List.mem_cons]; exact .inr c)]
    · rw [if_neg c]
      by_cases d : y = p.1
      · rw [if_pos d, if_pos (by simp [d])]
      · rw [if_neg d, if_neg (by simp only [List.map_cons, List.mem_cons]; exact fun z => z.elim d c)]
theorem mergeF_len : ∀ (es f : FaceA), (mergeF f es).length ≤ f.length + es.length
  | [], f => Nat.le_refl _
  | p :: es, f => by
    have h1 := mergeF_len es (putFd f p.1 p.2)
    have h2 : (putFd f p.1 p.2).length ≤ f.length + 1 := by
      unfold putFd
      split
      · rw [List.length_map]; omega
      · rw [List.length_append]; exact Nat.le_refl _
    show (mergeF (putFd f p.1 p.2) es).length ≤ _
    rw [List.length_cons]
    omega
def defsO (os : List ObA) : List (Str × Str) := os.flatMap (·.1)
def wantsO (os : List ObA) : List Str := os.flatMap (·.2)
def ents0 (os : List ObA) : FaceA := os.flatMap fun o => o.2.map fun x => (x, ("wanted" : Str))
def entsK (os : List ObA) (k : Str) : FaceA := os.flatMap fun o => o.1.filterMap fun p => if p.2 = k then some (p.1, k) else none
def wordsO (os : List ObA) : FaceA := kinds.foldl (fun w k => mergeF w (mergeF [] (entsK os k))) (mergeF [] (ents0 os))
def faceO (os : List ObA) : FaceA := sortF (wordsO os)
def strongsO (os : List ObA) : List Str := os.flatMap fun o => (o.1.filter fun p => decide (p.2 = ("strong" : Str))).map (·.1)
theorem ents0_key {os : List ObA} {y : Str} : y ∈ (ents0 os).map (·.1) ↔ y ∈ wantsO os := by
  have : (ents0 os).map (·.1) = wantsO os := by
    unfold ents0 wantsO
    rw [List.map_flatMap]
    congr 1
    funext o
    rw [List.map_map]
    exact List.map_id _
  rw [this]
theorem ents0_v {os : List ObA} : ∀ p ∈ ents0 os, p.2 = ("wanted" : Str) := by
  intro p hp
  obtain ⟨o, _, h⟩ := List.mem_flatMap.mp hp
  obtain ⟨x, _, rfl⟩ := List.mem_map.mp h
  rfl
theorem entsK_v {os : List ObA} {k : Str} : ∀ p ∈ entsK os k, p.2 = k := by
  intro p hp
  obtain ⟨o, _, h⟩ := List.mem_flatMap.mp hp
  obtain ⟨x, _, h⟩ := List.mem_filterMap.mp h
  split at h
  · cases h; rfl
  · cases h
theorem entsK_key {os : List ObA} {k y : Str} : y ∈ (entsK os k).map (·.1) ↔ (y, k) ∈ defsO os := by
  rw [List.mem_map]
  unfold entsK defsO
  constructor
  · rintro ⟨p, hp, rfl⟩
    obtain ⟨o, ho, h⟩ := List.mem_flatMap.mp hp
    obtain ⟨x, hx, h⟩ := List.mem_filterMap.mp h
    split at h
    · rename_i e
      cases h
      refine List.mem_flatMap.mpr ⟨o, ho, ?_⟩
      rw [← e]
      exact hx
    · cases h
  · intro h
    obtain ⟨o, ho, h⟩ := List.mem_flatMap.mp h
    exact ⟨(y, k), List.mem_flatMap.mpr ⟨o, ho, List.mem_filterMap.mpr ⟨_, h, if_pos rfl⟩⟩, rfl⟩
theorem mergeF_key {v : Str} {es : FaceA} (h : ∀ p ∈ es, p.2 = v) {y : Str} : y ∈ (mergeF [] es).map (·.1) ↔ y ∈ es.map (·.1) := by
  have := mergeF_look es (f := []) List.nodup_nil h y
  by_cases c : y ∈ es.map (·.1)
  · rw [if_pos c] at this
    refine ⟨fun _ => c, fun _ => Classical.byContradiction fun z => ?_⟩
    rw [lookF_none.mpr z] at this
    cases this
  · rw [if_neg c] at this
    refine ⟨fun z => absurd this ?_, fun z => absurd z c⟩
    show lookF (mergeF [] es) y ≠ none
    rw [Ne, lookF_none]
    exact fun w => w z
theorem mergeF_v {v : Str} {es : FaceA} (h : ∀ p ∈ es, p.2 = v) : ∀ p ∈ mergeF [] es, p.2 = v := by
  have nd := mergeF_nd es (f := []) List.nodup_nil
  intro p hp
  have hl := (lookF_mem nd).mpr (show (p.1, p.2) ∈ _ from hp)
  rw [mergeF_look es (f := []) List.nodup_nil h] at hl
  split at hl
  · exact (Option.some.inj hl).symm
  · cases hl
theorem mergeK_look {os : List ObA} {k : Str} {f : FaceA} (nd : (f.map (·.1)).Nodup) (y : Str) : lookF (mergeF f (mergeF [] (entsK os k))) y = if (y, k) ∈ defsO os then some k else lookF f y := by
  rw [mergeF_look _ nd (mergeF_v entsK_v)]
  by_cases c : (y, k) ∈ defsO os
  · rw [if_pos c, if_pos ((mergeF_key entsK_v).mpr (entsK_key.mpr c))]
  · rw [if_neg c, if_neg fun z => c (entsK_key.mp ((mergeF_key entsK_v).mp z))]
theorem words_nd (os : List ObA) : ((wordsO os).map (·.1)).Nodup := by
  unfold wordsO kinds
  simp only [List.foldl_cons, List.foldl_nil]
  exact mergeF_nd _ (mergeF_nd _ (mergeF_nd _ (mergeF_nd _ List.nodup_nil)))
/-- the word of a name -/
def wordOf (os : List ObA) (y : Str) : Option Str :=
  if (y, ("strong" : Str)) ∈ defsO os then some "strong" else if (y, ("common" : Str)) ∈ defsO os then some "common" else if (y, ("weak" : Str)) ∈ defsO os then some "weak" else if y ∈ wantsO os then some "wanted" else none
theorem words_look (os : List ObA) (y : Str) : lookF (wordsO os) y = wordOf os y := by
  have n0 : ((mergeF [] (ents0 os)).map (·.1)).Nodup := mergeF_nd _ List.nodup_nil
  have h0 : lookF (mergeF [] (ents0 os)) y = if y ∈ wantsO os then some ("wanted" : Str) else none := by
    rw [mergeF_look _ (f := []) List.nodup_nil ents0_v]
    by_cases c : y ∈ wantsO os
    · rw [if_pos c, if_pos (ents0_key.mpr c)]
    · rw [if_neg c, if_neg fun z => c (ents0_key.mp z)]
      rfl
  unfold wordsO kinds wordOf
  simp only [List.foldl_cons, List.foldl_nil]
  rw [mergeK_look (mergeF_nd _ (mergeF_nd _ n0)), mergeK_look (mergeF_nd _ n0), mergeK_look n0, h0]
theorem faceO_mem {os : List ObA} {y w : Str} : (y, w) ∈ faceO os ↔ wordOf os y = some w := by
  unfold faceO
  rw [(sortF_perm _).mem_iff, ← lookF_mem (words_nd os), words_look]
theorem wordOf_word {os : List ObA} {y w : Str} (h : wordOf os y = some w) : w ∈ wordL := by
  unfold wordOf at h
  repeat' split at h
  all_goals first | (cases h; decide +kernel) | cases h
theorem wordOf_in {os : List ObA} {y w : Str} (h : wordOf os y = some w) : (∃ k, (y, k) ∈ defsO os) ∨ y ∈ wantsO os := by
  unfold wordOf at h
  split at h
  · exact .inl ⟨_, by assumption⟩
  split at h
  · exact .inl ⟨_, by assumption⟩
  split at h
  · exact .inl ⟨_, by assumption⟩
  split at h
  · exact .inr (by assumption)
  · cases h
structure ObsOk (os : List ObA) : Prop where
  ob : ∀ o ∈ os, ObOk o
  st : (strongsO os).Nodup
  len : (defsO os).length + (wantsO os).length ≤ 1000
theorem ObsOk.nmD {os : List ObA} (h : ObsOk os) : ∀ p ∈ defsO os, IsName p.1 := fun p hp => by
  obtain ⟨o, ho, hp⟩ := List.mem_flatMap.mp hp
  exact (h.ob o ho).nm p hp
theorem ObsOk.kdD {os : List ObA} (h : ObsOk os) : ∀ p ∈ defsO os, p.2 ∈ kinds := fun p hp => by
  obtain ⟨o, ho, hp⟩ := List.mem_flatMap.mp hp
  exact (h.ob o ho).kd p hp
theorem ObsOk.nmW {os : List ObA} (h : ObsOk os) : ∀ x ∈ wantsO os, IsName x := fun x hx => by
  obtain ⟨o, ho, hx⟩ := List.mem_flatMap.mp hx
  exact (h.ob o ho).wn x hx
theorem ObsOk.words {os : List ObA} (h : ObsOk os) : (∀ p ∈ wordsO os, IsName p.1) ∧ (∀ p ∈ wordsO os, p.2 ∈ wordL) ∧ (wordsO os).length ≤ 1000 := by
  have key : ∀ p ∈ wordsO os, wordOf os p.1 = some p.2 := fun p hp => by
    rw [← words_look]
    exact (lookF_mem (words_nd os)).mpr hp
  have inn : ∀ p ∈ wordsO os, p.1 ∈ (defsO os).map (·.1) ++ wantsO os := fun p hp => by
    rcases wordOf_in (key p hp) with ⟨k, hk⟩ | hw
    · exact List.mem_append_left _ (List.mem_map_of_mem (f := (·.1)) hk)
    · exact List.mem_append_right _ hw
  refine ⟨fun p hp => ?_, fun p hp => wordOf_word (key p hp), ?_⟩
  · rcases List.mem_append.mp (inn p hp) with hm | hm
    · obtain ⟨q, hq, e⟩ := List.mem_map.mp hm
      rw [← e]
      exact h.nmD q hq
    · exact h.nmW _ hm
  · have := List.Nodup.length_le_of_subset (words_nd os) (l₂ := (defsO os).map (·.1) ++ wantsO os) fun y hy => by
      obtain ⟨p, hp, rfl⟩ := List.mem_map.mp hy
      exact inn p hp
    rw [List.length_map, List.length_append, List.length_map] at this
    have := h.len
    omega
theorem faceO_ok {os : List ObA} (h : ObsOk os) : FaceOk (faceO os) := by
  obtain ⟨h1, h2, h3⟩ := h.words
  exact sortF_ok h1 h2 (words_nd os) h3
theorem faceO_in {os : List ObA} (h : ObsOk os) {names : List Str} (hd : ∀ p ∈ defsO os, p.1 ∈ names) (hw : ∀ x ∈ wantsO os, x ∈ names) : ∀ p ∈ faceO os, p.1 ∈ names := fun p hp => by
  rcases wordOf_in (faceO_mem.mp (show (p.1, p.2) ∈ _ from hp)) with ⟨k, hk⟩ | hx
  · exact hd (p.1, k) hk
  · exact hw _ hx
end Z

set_option Elab.async false
set_option linter.all false
set_option maxRecDepth 100000
set_option maxHeartbeats 4000000
namespace Z
open PySem PySem.Spec PyProof.Rows L2 TL
open PySem.PyData (strOk)
/-! ### face_of -/
theorem iSq_of {s : Sto} {e : Ev} {i : Nat} {d : D} {xs : List D} (he : e[i]? = some (some d)) (h : SeqOf s d xs) : ∃ j, iSq (mV i) e s = .ok (xs.length, j) s ∧ ∀ i t, (∀ n, n < s.length → t[n]? = s[n]?) → j i t = some xs[i]? := by
  have h1 : mV i e s = .ok d s := by unfold mV; rw [he]
  rcases h with rfl | ⟨n, rfl, h2⟩
  · refine ⟨jTup xs, ?_, fun i t _ => rfl⟩
    unfold iSq
    rw [h1]
    rfl
  · refine ⟨jLst n, ?_, fun i t ht => ?_⟩
    · refine ok_of ?_
      rw [z_iSq, h1]
      show lstP (lstAt s n) _
      rw [h2, lstP_some]
      exact ⟨rfl, rfl⟩
    · have hn := lstAt_lt h2
      have h3 : lstAt t n = some xs := by
        unfold lstAt at h2 ⊢
        rw [ht n hn]
        exact h2
      rw [jLst_eq, h3]
      rfl
def obWs (d : D) : List D := match d with
  | .tup [_, .tup ws] => ws
  | _ => []
def obDs (d : D) : List D := match d with
  | .tup [.tup ds, _] => ds
  | _ => []
theorem flat_obWs (os : List ObA) : ((os.map obD).flatMap obWs).length = (wantsO os).length := by
  unfold wantsO
  rw [List.flatMap_map, List.length_flatMap, List.length_flatMap]
  congr 1
  refine List.map_congr_left fun o _ => ?_
  show (o.2.map D.str).length = _
  rw [List.length_map]
theorem flat_obDs (os : List ObA) : ((os.map obD).flatMap obDs).length = (defsO os).length := by
  unfold defsO
  rw [List.flatMap_map, List.length_flatMap, List.length_flatMap]
  congr 1
  refine List.map_congr_left fun o _ => ?_
  show (o.1.map fcD).length = _
  rw [List.length_map]
theorem ents0_D (os : List ObA) : ((os.map obD).flatMap fun d => (obWs d).filterMap fun z => some (z, D.str "wanted")) = facePs (ents0 os) := by
  unfold ents0 facePs
  rw [List.flatMap_map, List.map_flatMap]
  congr 1
  funext o
  show (o.2.map D.str).filterMap _ = _
  rw [List.filterMap_map, List.map_map, ← List.filterMap_eq_map]
  rfl
def keyF (k : Str) (z : D) : Option (D × D) := match z with
  | .tup [.str y, .str w] => if w = k then some (.str y, .str k) else none
  | _ => none
theorem entsK_D (os : List ObA) (k : Str) : ((os.map obD).flatMap fun d => (obDs d).filterMap (keyF k)) = facePs (entsK os k) := by
  unfold entsK facePs
  rw [List.flatMap_map, List.map_flatMap]
  congr 1
  funext o
  show (o.1.map fcD).filterMap _ = _
  rw [List.filterMap_map, List.map_filterMap]
  congr 1
  funext p
  show (if p.2 = k then some (D.str p.1, D.str k) else none) = _
  by_cases c : p.2 = k
  · rw [if_pos c, if_pos c]
    rfl
  · rw [if_neg c, if_neg c]
    rfl
theorem entsK_len : ∀ (os : List ObA) (k : Str), (entsK os k).length ≤ (defsO os).length
  | [], _ => Nat.le_refl _
  | o :: os, k => by
    have ih := entsK_len os k
    unfold entsK defsO at ih ⊢
    rw [List.flatMap_cons, List.flatMap_cons, List.length_append, List.length_append]
    exact Nat.add_le_add (List.length_filterMap_le _ _) ih
theorem strongs_len : ∀ (os : List ObA), (strongsO os).length ≤ (defsO os).length
  | [] => Nat.le_refl _
  | o :: os => by
    have ih := strongs_len os
    unfold strongsO defsO at ih ⊢
    rw [List.flatMap_cons, List.flatMap_cons, List.length_append, List.length_append, List.length_map]
    exact Nat.add_le_add (List.length_filter_le _ _) ih
def fo6T : SM := (sR (mN fPtuple (aC (mN fSortI (aC (mV 3) aN)) aN)))
def fo5b : SM := (sE (mBM "dict" fUpdD (mV 3) (aC (mDc2 (iSq (mV 0)) (gT [(gN 6), (gN 7)]) tY (iSq (mV 6)) (gT [(gN 5), (gN 8)]) (toB (m2 dEq (mV 8) (mV 4))) (mV 5) (mV 4) [6, 7, 5, 8] [5, 8]) aN)))
def fo5T (c : D) : SM := (sC (sF (iSq (mC c)) (gN 4) fo5b) fo6T)
def fo4T (c : D) : SM := (sC (sA 3 (mDc2 (iSq (mV 0)) (gT [(gN 6), (gN 7)]) tY (iSq (mV 7)) (gN 5) tY (mV 5) (mC (.str "wanted")) [6, 7, 5] [5])) (fo5T c))
def fo3T (st : SM) (c : D) : SM := (sC (sI (toB (m2 dNotN2 (mV 2) (mC .non))) st sN) (fo4T c))
def fo2T (FT : MF) (st : SM) (c : D) : SM := (sC (sA 2 (mN FT (aC (mV 1) aN))) (fo3T st c))
def fo1T (FT : MF) (st : SM) (c : D) : SM := (sC (sA 1 (mN fSortA (aC (mL2 (iSq (mV 0)) (gT [(gN 6), (gN 7)]) tY (iSq (mV 6)) (gT [(gN 5), (gN 4)]) (toB (m2 dEq (mV 4) (mC (.str "strong")))) (mV 5) [6, 7, 5, 4] [5, 4]) aN))) (fo2T FT st c))
def tFaceOf (LO FT : MF) (st : SM) (c : D) : SM := (sC (sE (mN LO (aC (mV 0) aN))) (fo1T FT st c))
section
variable {os : List ObA} {d : D} {s : Sto} {Q : En} {o1 o2 o4 o5 o6 o7 o8 : Option D} (h : ObsOk os)
include h
theorem fo5b_ok {l : Nat} {k : Str} (hk : strOk k = true) (hd : SeqOf s d (os.map obD)) {f : FaceA} (hl : s[l]? = some (.dict false (facePs f))) (hf : f.length ≤ 10000) (hQ : ∀ s' o4 o5 o6 o7 o8, (∀ i, i < s.length → i ≠ l → s'[i]? = s[i]?) → s.length ≤ s'.length → s'[l]? = some (.dict false (facePs (mergeF f (mergeF [] (entsK os k))))) → Q.nx [some d, o1, o2, some (.ref l), o4, o5, o6, o7, o8] s') :
    (fo5b [some d, o1, o2, some (.ref l), some (.str k), o5, o6, o7, o8] s).wp Q := by
  have hlt := (List.getElem?_eq_some_iff.mp hl).1
  have hlen := h.len
  obtain ⟨j, hi, hj⟩ := iSq_of (e := [some d, o1, o2, some (.ref l), some (.str k), o5, o6, o7, o8]) (i := 0) rfl hd
  have dc := dc2_pure (mi := iSq (mV 0)) (g := gT [(gN 6), (gN 7)]) (t := tY) (mi1 := iSq (mV 6)) (g1 := gT [(gN 5), (gN 8)]) (t1 := toB (m2 dEq (mV 8) (mV 4))) (mk := mV 5) (mv := mV 4) (vs := [6, 7, 5, 8]) (vs1 := [5, 8]) (e := [some d, o1, o2, some (.ref l), some (.str k), o5, o6, o7, o8]) (Zs := obDs) (F := fun _ => keyF k) (s0 := s) (j := j) (xs := os.map obD) hi hj (fun x hx => by
    obtain ⟨o, ho, rfl⟩ := List.mem_map.mp hx
    refine ⟨_, rfl, fun s => rfl, fun s => rfl, fun z hz => ?_⟩
    obtain ⟨p, hp, rfl⟩ := List.mem_map.mp (show z ∈ o.1.map fcD from hz)
    refine ⟨_, rfl, fun s => ?_⟩
    have ho := h.ob o ho
    have e : (toB (m2 dEq (mV 8) (mV 4))) [some d, o1, o2, some (.ref l), some (.str k), some (.str p.1), some (.tup (o.1.map fcD)), some (.tup (o.2.map D.str)), some (.str p.2)] s = .ok (decide (p.2 = k)) s := by
      refine ok_of ?_
      simp [-List.map_map]
    have ek : keyF k (fcD p) = if p.2 = k then some (D.str p.1, D.str k) else none := rfl
    by_cases c : p.2 = k
    · rw [if_pos c] at ek
      rw [ek]
      rw [decide_eq_true c] at e
      exact ⟨e, rfl, rfl, rfl⟩
    · rw [if_neg c] at ek
      rw [ek]
      rw [decide_eq_false c] at e
      exact e) (by rw [flat_obDs, size_line]; omega)
  rw [entsK_D, show (mergeD [] (facePs (entsK os k))) = facePs (mergeF [] (entsK os k)) from mergeD_face _ []] at dc
  unfold fo5b
  simp [-List.map_map]
  refine ⟨?_, ?_⟩
  · show (match s[l]? with
      | some (.lst _) => "dict" == "list"
      | some (.frz _) => "dict" == "list"
      | some (.dict _ _) => "dict" == "dict"
      | _ => false) = true
    rw [hl]
    rfl
  rw [dc, z_ok]
  have hne : l ≠ s.length := by omega
  have g1 : (s ++ [SO.dict false (facePs (mergeF [] (entsK os k)))])[l]? = some (.dict false (facePs f)) := by rw [List.getElem?_append_left hlt]; exact hl
  have l1 : (mergeF [] (entsK os k)).length ≤ 1000 := by
    have := mergeF_len (entsK os k) []
    have h2 : (entsK os k).length ≤ (defsO os).length := entsK_len os k
    rw [List.length_nil] at this
    omega
  rw [z_updD g1 (show (s ++ [SO.dict false (facePs (mergeF [] (entsK os k)))])[s.length]? = some (.dict false (facePs (mergeF [] (entsK os k)))) by simp) hne (by unfold facePs; rw [List.length_map, List.length_map, size_line]; omega), mergeD_face]
  refine hQ _ _ _ _ _ _ (fun i hi hil => ?_) (by simp) ?_
  · rw [List.getElem?_set_ne (Ne.symm hil), List.getElem?_append_left hi]
  · rw [List.getElem?_set_self (by simp; omega)]
end
end Z

set_option Elab.async false
set_option linter.all false
set_option maxRecDepth 100000
set_option maxHeartbeats 4000000
namespace Z
open PySem PySem.Spec PyProof.Rows L2 TL
open PySem.PyData (strOk)
/-! ### a line walked with plain rows: the store -/
structure WA where
  taken : List (Str × Str)
  found : List (Str × List DefB)
  asked : List Str
def tkP (t : Str × Str) : D := .tup [.str t.1, .str t.2]
structure WkI (s0 s : Sto) (lf la lt lm : Nat) (ls : List Nat) (ps : List ArcB) (w : WA) : Prop where
  ef : Eff [] s0 s
  fnd : s[lf]? = some (.dict false (fndD w.found ls))
  len : ls.length = w.found.length
  lst : ∀ (i : Nat) (q : Str × List DefB) (n : Nat), w.found[i]? = some q → ls[i]? = some n → mlAt s n = some (q.2.map fdD)
  nd : ls.Nodup
  ask : mlAt s la = some (w.asked.map D.str)
  tak : mlAt s lt = some (w.taken.map tkP)
  mem : s[lm]? = some (.dict false (memKv ps))
  na : la ∉ ls
  nt : lt ∉ ls
  nat : la ≠ lt
  nm : lm ≠ lf
  lo : s0.length ≤ lf ∧ s0.length ≤ la ∧ s0.length ≤ lt
  los : ∀ n ∈ ls, s0.length ≤ n
structure WSz (n : Nat) (w : WA) : Prop where
  nd : (w.found.map (·.1)).Nodup
  fl : w.found.length ≤ n
  ll : ∀ q ∈ w.found, q.2.length ≤ n
  al : w.asked.length ≤ n
  ak : ∀ x ∈ w.asked, strOk x = true
  tk : w.taken.length ≤ n
  tok : ∀ t ∈ w.taken, strOk t.1 = true ∧ strOk t.2 = true
section
variable {s0 s t : Sto} {lf la lt lm : Nat} {ls : List Nat} {ps : List ArcB} {w : WA} {x : Str} {v : DefB}
theorem WkI.eff (h : WkI s0 s lf la lt lm ls ps w) (e : Eff [] s t) : WkI s0 t lf la lt lm ls ps w :=
  ⟨h.ef.trans e, e.get h.fnd (by simp), h.len, fun i q n h1 h2 => e.ml (h.lst i q n h1 h2) (by simp), h.nd, e.ml h.ask (by simp), e.ml h.tak (by simp), e.get h.mem (by simp), h.na, h.nt, h.nat, h.nm, h.lo, h.los⟩
/-- more names asked for -/
theorem WkI.asks (h : WkI s0 s lf la lt lm ls ps w) {ws : List Str} : WkI s0 (s.set la (.lst ((w.asked ++ ws).map D.str))) lf la lt lm ls ps ⟨w.taken, w.found, w.asked ++ ws⟩ := by
  have ha := mlAt_get h.ask
  have hl := (List.getElem?_eq_some_iff.mp ha).1
  have nf : la ≠ lf := ne_kind ha h.fnd (fun z => nomatch z)
  have nm : la ≠ lm := ne_kind ha h.mem (fun z => nomatch z)
  refine ⟨h.ef.set h.lo.2.1, by rw [List.getElem?_set_ne nf]; exact h.fnd, h.len, fun i q n h1 h2 => ?_, h.nd, by rw [mlAt_set_self hl], by rw [mlAt_set_ne h.nat]; exact h.tak, by rw [List.getElem?_set_ne nm]; exact h.mem, h.na, h.nt, h.nat, h.nm, h.lo, h.los⟩
  have : la ≠ n := fun e => h.na (e ▸ List.mem_of_getElem? h2)
  rw [mlAt_set_ne this]
  exact h.lst i q n h1 h2
/-- a member taken -/
theorem WkI.takes (h : WkI s0 s lf la lt lm ls ps w) {t : Str × Str} : WkI s0 (s.set lt (.lst ((w.taken ++ [t]).map tkP))) lf la lt lm ls ps ⟨w.taken ++ [t], w.found, w.asked⟩ := by
  have ht := mlAt_get h.tak
  have hl := (List.getElem?_eq_some_iff.mp ht).1
  have nf : lt ≠ lf := ne_kind ht h.fnd (fun z => nomatch z)
  have nm : lt ≠ lm := ne_kind ht h.mem (fun z => nomatch z)
  refine ⟨h.ef.set h.lo.2.2, by rw [List.getElem?_set_ne nf]; exact h.fnd, h.len, fun i q n h1 h2 => ?_, h.nd, by rw [mlAt_set_ne (Ne.symm h.nat)]; exact h.ask, by rw [mlAt_set_self hl], by rw [List.getElem?_set_ne nm]; exact h.mem, h.na, h.nt, h.nat, h.nm, h.lo, h.los⟩
  have : lt ≠ n := fun e => h.nt (e ▸ List.mem_of_getElem? h2)
  rw [mlAt_set_ne this]
  exact h.lst i q n h1 h2
theorem WSz.mono {n m : Nat} (h : WSz n w) (hm : n ≤ m) : WSz m w := ⟨h.nd, by have := h.fl; omega, fun q hq => by have := h.ll q hq; omega, by have := h.al; omega, h.ak, by have := h.tk; omega, h.tok⟩
theorem WSz.put {n : Nat} (h : WSz n w) : WSz (n + 1) ⟨w.taken, putF w.found x v, w.asked⟩ := by
  have h1 := h.fl
  refine ⟨?_, ?_, fun q hq => ?_, by have := h.al; exact Nat.le_succ_of_le this, h.ak, Nat.le_succ_of_le h.tk, h.tok⟩
  · show ((putF w.found x v).map (·.1)).Nodup
    rw [putF_keys]
    split
    · exact h.nd
    · rename_i hx
      rw [List.nodup_append]
      exact ⟨h.nd, by simp, fun a ha b hb e => hx (by rw [List.mem_singleton.mp hb] at e; exact e ▸ ha)⟩
  · show (putF w.found x v).length ≤ n + 1
    unfold putF
    split
    · rw [List.length_map]; omega
    · rw [List.length_append, List.length_singleton]; omega
  · have hq : q ∈ putF w.found x v := hq
    unfold putF at hq
    split at hq
    · obtain ⟨r, hr, rfl⟩ := List.mem_map.mp hq
      have := h.ll r hr
      split
      · rw [List.length_append, List.length_singleton]; omega
      · omega
    · rcases List.mem_append.mp hq with hq | hq
      · have := h.ll q hq
        omega
      · rw [List.mem_singleton.mp hq]
        show [v].length ≤ n + 1
        rw [List.length_singleton]
        omega
theorem WSz.asks {n : Nat} (h : WSz n w) {ws : List Str} (hw : ∀ x ∈ ws, strOk x = true) : WSz (n + ws.length) ⟨w.taken, w.found, w.asked ++ ws⟩ :=
  ⟨h.nd, by have := h.fl; exact Nat.le_trans this (by omega), fun q hq => by have := h.ll q hq; omega, by
    show (w.asked ++ ws).length ≤ _
    have := h.al
    rw [List.length_append]; omega, fun x hx => by
    rcases List.mem_append.mp hx with hx | hx
    · exact h.ak x hx
    · exact hw x hx, Nat.le_trans h.tk (by omega), h.tok⟩
theorem WSz.takes {n : Nat} (h : WSz n w) {t : Str × Str} (ht : strOk t.1 = true ∧ strOk t.2 = true) : WSz (n + 1) ⟨w.taken ++ [t], w.found, w.asked⟩ :=
  ⟨h.nd, Nat.le_succ_of_le h.fl, fun q hq => Nat.le_succ_of_le (h.ll q hq), Nat.le_succ_of_le h.al, h.ak, by
    show (w.taken ++ [t]).length ≤ _
    have := h.tk
    rw [List.length_append, List.length_singleton]; omega, fun u hu => by
    rcases List.mem_append.mp hu with hu | hu
    · exact h.tok u hu
    · rw [List.mem_singleton.mp hu]; exact ht⟩
def tPutW : SM := (sC (sA 4 (mSetd (mV 0) (mV 1) (mN fLst aN))) (sE (mBM "list" (mtL lAppend) (mV 4) (aC (mN fTup (aC (mV 2) (aC (mV 3) aN))) aN))))
def PutOkW (F : MF) : Prop := ∀ {s0 s : Sto} {lf la lt lm : Nat} {ls : List Nat} {ps : List ArcB} {w : WA} {x : Str} {v : DefB} {n : Nat}, WkI s0 s lf la lt lm ls ps w → WSz n w → n ≤ 20000 → (F [.ref lf, .str x, .str v.1, bdD v.2] s).wp fun d s' => s.length ≤ s'.length ∧ ∃ ls', WkI s0 s' lf la lt lm ls' ps ⟨w.taken, putF w.found x v, w.asked⟩
end
end Z

set_option Elab.async false
set_option linter.all false
set_option maxRecDepth 100000
set_option maxHeartbeats 4000000
namespace Z
open PySem PySem.Spec PyProof.Rows L2 TL
open PySem.PyData (strOk)
/-! ### the next member, by plain rows -/
def fitW (w : WA) (x : Str) (r : RowB) : Bool := (r.gs.any fun d => decide (d.1 ∈ w.asked) && !decide (d.1 ∈ w.found.map (·.1))) && !decide ((x, r.mem) ∈ w.taken)
def nextW (w : WA) (x : Str) (rows : List RowB) : Option RowB := rows.find? (fitW w x)
structure RowSz (r : RowB) : Prop where
  nm : strOk r.mem = true
  gn : ∀ d ∈ r.gs, strOk d.1 = true
  kn : ∀ d ∈ r.gs, strOk d.2.1 = true
  wn : ∀ x ∈ r.ws, strOk x = true
  l1 : r.gs.length ≤ 10
  l2 : r.ws.length ≤ 2
theorem ne_nil {s : Sto} {k : Nat} {ys : List D} (m : mlAt s k = some ys) (hp : plains 20 ys = true) {P : D → Sto → Prop} {E : Str → Str → D → Sto → Prop} [Decidable (ys = [])] (hP : ∀ s', Eff [] s s' → P (.bl (!decide (ys = []))) s') : (dNe (.ref k) (.ref s.length) (s ++ [SO.lst []])).wp P E := by
  have e1 : Eff [] s (s ++ [SO.lst []]) := Eff.push
  rw [z_neL (lstAt_ml (e1.ml m (by simp))) (lstAt_ml (mlAt_push : mlAt (s ++ [SO.lst []]) s.length = some [])) hp rfl]
  exact hP _ e1
def nw1 : SM := (sI (bAnd (toT (mV 8)) (toB (m2 (dInB true) (mN fTup (aC (mV 0) (aC (mV 5) aN))) (mV 4)))) (sR (mN fTup (aC (mV 5) (aC (mV 6) (aC (mV 7) aN))))) sN)
def nw0 : SM := (sC (sA 8 (m2 dNe (mL (iSq (mV 6)) (gN 9) (bAnd (toB (m2 (dInB false) (m2 dIx (mV 9) (mC (.int 0))) (mV 3))) (toB (m2 (dInD true) (m2 dIx (mV 9) (mC (.int 0))) (mV 2)))) (mV 9) [9]) (mN fLst aN))) nw1)
def tNextW : SM := (sC (sF (iSq (mV 1)) (gT [(gN 5), (gN 6), (gN 7)]) nw0) (sR (mC .non)))
def NextOkW (F : MF) : Prop := ∀ {s0 s : Sto} {lf la lt lm : Nat} {ls : List Nat} {ps : List ArcB} {w : WA} {x : Str} {rows : List RowB} {n : Nat}, WkI s0 s lf la lt lm ls ps w → WSz n w → n ≤ 20000 → strOk x = true → (∀ r ∈ rows, RowSz r) → rows.length ≤ 1000 → (F [.str x, .tup (rows.map rowB), .ref lf, .ref la, .ref lt] s).wp fun d s' => Eff [] s s' ∧ d = (match nextW w x rows with | none => .non | some r => rowB r)
section
variable {s0 s t : Sto} {lf la lt lm : Nat} {ls : List Nat} {ps : List ArcB} {w : WA} {x : Str} {v : DefB} {n : Nat} {rows : List RowB} {Q : En} {o1 o5 o6 o7 o8 o9 : Option D}
end
end Z

set_option Elab.async false
set_option linter.all false
set_option maxRecDepth 100000
set_option maxHeartbeats 4000000
namespace Z
open PySem PySem.Spec PyProof.Rows L2 TL
open PySem.PyData (strOk)
/-! ### a line walked with plain rows, and the link -/
def ownL (os : List ObA) (y : Str) : List DefB := ((defsO os).filter fun p => decide (p.1 = y)).map fun p => (p.2, none)
def gsN (r : RowB) (y : Str) : List DefB := (r.gs.filter fun d => decide (d.1 = y)).map fun d => (d.2.1, some d.2.2)
def takeW (w : WA) (x : Str) (r : RowB) : WA := ⟨w.taken ++ [(x, r.mem)], r.gs.foldl (fun f d => putF f d.1 (d.2.1, some d.2.2)) w.found, w.asked ++ r.ws⟩
def startW (os : List ObA) : WA := ⟨[], (defsO os).foldl (fun f p => putF f p.1 (p.2, none)) [], wantsO os⟩
abbrev RkR := List (Str × RowB)
def rkT (R : RkR) : Tk := R.map fun t => (t.1, memB t.2)
structure TkWr (os : List ObA) (R : RkR) (w : WA) : Prop where
  tak : w.taken = R.map fun t => (t.1, t.2.mem)
  key : ∀ y, y ∈ w.found.map (·.1) ↔ (∃ k, (y, k) ∈ defsO os) ∨ ∃ t ∈ R, y ∈ t.2.gs.map (·.1)
  fd : ∀ y, fdN w.found y = ownL os y ++ R.flatMap fun t => gsN t.2 y
  asl : w.asked = wantsO os ++ R.flatMap fun t => t.2.ws
theorem TkWr.ask {os : List ObA} {R : RkR} {w : WA} (h : TkWr os R w) (y : Str) : y ∈ w.asked ↔ y ∈ wantsO os ∨ ∃ t ∈ R, y ∈ t.2.ws := by
  rw [h.asl, List.mem_append, List.mem_flatMap]
structure SimW (ps : List ArcB) (os : List ObA) (R : RkR) (w : WA) (a : LA) : Prop where
  of : ∀ t ∈ R, ∃ p ∈ ps, t.1 = p.1 ∧ t.2 ∈ p.2
  tl : TkL (faceO os) (rkT R) a
  tw : TkWr os R w
theorem ex_rkT {R : RkR} {p : Str × MemA → Prop} : (∃ t ∈ rkT R, p t) ↔ ∃ t ∈ R, p (t.1, memB t.2) := by
  unfold rkT
  constructor
  · rintro ⟨t, ht, hp⟩
    obtain ⟨u, hu, rfl⟩ := List.mem_map.mp ht
    exact ⟨u, hu, hp⟩
  · rintro ⟨u, hu, hp⟩
    exact ⟨_, List.mem_map_of_mem hu, hp⟩
theorem foldG_key {α : Type} (nm : α → Str) (vl : α → DefB) : ∀ (gs : List α) (f : List (Str × List DefB)) (y : Str), y ∈ (gs.foldl (fun f d => putF f (nm d) (vl d)) f).map (·.1) ↔ y ∈ f.map (·.1) ∨ y ∈ gs.map nm
  | [], f, y => by simp
  | g :: gs, f, y => by
    rw [List.foldl_cons, foldG_key nm vl gs, putF_keys, List.map_cons, List.mem_cons]
    split
    · rename_i h
      constructor
      · rintro (h1 | h1)
        · exact .inl h1
        · exact .inr (.inr h1)
      · rintro (h1 | rfl | h1)
        · exact .inl h1
        · exact .inl h
        · exact .inr h1
    · rw [List.mem_append, List.mem_singleton, or_assoc]
theorem foldG_fd {α : Type} (nm : α → Str) (vl : α → DefB) : ∀ (gs : List α) (f : List (Str × List DefB)) (y : Str), fdN (gs.foldl (fun f d => putF f (nm d) (vl d)) f) y = fdN f y ++ (gs.filter fun d => decide (nm d = y)).map vl
  | [], f, y => by simp
  | g :: gs, f, y => by
    rw [List.foldl_cons, foldG_fd nm vl gs, fdN_put, List.filter_cons]
    by_cases c : nm g = y
    · rw [if_pos c.symm, if_pos (decide_eq_true c), List.map_cons, List.append_assoc]
      rfl
    · rw [if_neg (Ne.symm c), if_neg (by simpa using c), List.append_nil]
theorem TkWr.take {os : List ObA} {R : RkR} {w : WA} (h : TkWr os R w) (x : Str) (r : RowB) : TkWr os (R ++ [(x, r)]) (takeW w x r) := by
  refine ⟨?_, fun y => ?_, fun y => ?_, ?_⟩
  · show w.taken ++ _ = _
    rw [h.tak, List.map_append]
    rfl
  · show y ∈ (r.gs.foldl (fun f d => putF f d.1 (d.2.1, some d.2.2)) w.found).map (·.1) ↔ _
    rw [foldG_key (fun d : DefA => d.1) (fun d => (d.2.1, some d.2.2)), h.key, or_assoc]
    refine or_congr Iff.rfl ?_
    simp only [List.mem_append, List.mem_singleton]
    constructor
    · rintro (⟨t, ht, hy⟩ | hy)
      · exact ⟨t, .inl ht, hy⟩
      · exact ⟨_, .inr rfl, hy⟩
    · rintro ⟨t, ht | rfl, hy⟩
      · exact .inl ⟨t, ht, hy⟩
      · exact .inr hy
  · show fdN (r.gs.foldl (fun f d => putF f d.1 (d.2.1, some d.2.2)) w.found) y = _
    rw [foldG_fd (fun d : DefA => d.1) (fun d => (d.2.1, some d.2.2)), h.fd, List.flatMap_append, List.append_assoc]
    congr 2
    simp [gsN]
  · show w.asked ++ r.ws = _
    rw [h.asl, List.flatMap_append, List.append_assoc]
    congr 2
    simp
theorem TkWr.start (os : List ObA) : TkWr os [] (startW os) := by
  refine ⟨rfl, fun y => ?_, fun y => ?_, ?_⟩
  · show y ∈ ((defsO os).foldl (fun f p => putF f p.1 (p.2, none)) []).map (·.1) ↔ _
    rw [foldG_key (fun p : Str × Str => p.1) (fun p => (p.2, none))]
    constructor
    · rintro (h | h)
      · cases h
      · obtain ⟨p, hp, rfl⟩ := List.mem_map.mp h
        exact .inl ⟨p.2, hp⟩
    · rintro (⟨k, h⟩ | ⟨t, ht, _⟩)
      · exact .inr (List.mem_map.mpr ⟨_, h, rfl⟩)
      · cases ht
  · show fdN ((defsO os).foldl (fun f p => putF f p.1 (p.2, none)) []) y = _
    rw [foldG_fd (fun p : Str × Str => p.1) (fun p => (p.2, none))]
    rw [show fdN [] y = [] from rfl, List.nil_append, List.flatMap_nil, List.append_nil]
    rfl
  · show wantsO os = _
    simp
theorem wordOf_def {os : List ObA} (hk : ∀ p ∈ defsO os, p.2 ∈ kinds) {y : Str} : (∃ w, (y, w) ∈ faceO os ∧ w ≠ ("wanted" : Str)) ↔ ∃ k, (y, k) ∈ defsO os := by
  have n1 : ("strong" : Str) ≠ "wanted" ∧ ("common" : Str) ≠ "wanted" ∧ ("weak" : Str) ≠ "wanted" := by decide +kernel
  simp only [faceO_mem]
  unfold wordOf
  constructor
  · rintro ⟨w, h, hw⟩
    split at h
    · exact ⟨_, by assumption⟩
    split at h
    · exact ⟨_, by assumption⟩
    split at h
    · exact ⟨_, by assumption⟩
    split at h
    · exact absurd (Option.some.inj h).symm hw
    · cases h
  · rintro ⟨k, h⟩
    have := hk _ h
    unfold kinds at this
    simp only [List.mem_cons, List.not_mem_nil, or_false] at this
    split
    · exact ⟨_, rfl, n1.1⟩
    split
    · exact ⟨_, rfl, n1.2.1⟩
    split
    · exact ⟨_, rfl, n1.2.2⟩
    · rename_i h1 h2 h3
      rcases this with e | e | e
      · exact absurd (e ▸ h) h3
      · exact absurd (e ▸ h) h2
      · exact absurd (e ▸ h) h1
theorem wordOf_want {os : List ObA} (hk : ∀ p ∈ defsO os, p.2 ∈ kinds) {y : Str} : (y, ("wanted" : Str)) ∈ faceO os ↔ (¬ ∃ k, (y, k) ∈ defsO os) ∧ y ∈ wantsO os := by
  have n1 : ("strong" : Str) ≠ "wanted" ∧ ("common" : Str) ≠ "wanted" ∧ ("weak" : Str) ≠ "wanted" := by decide +kernel
  rw [faceO_mem]
  unfold wordOf
  constructor
  · intro h
    split at h
    · exact absurd (Option.some.inj h) n1.1
    split at h
    · exact absurd (Option.some.inj h) n1.2.1
    split at h
    · exact absurd (Option.some.inj h) n1.2.2
    split at h
    · refine ⟨?_, by assumption⟩
      rintro ⟨k, h⟩
      rename_i h1 h2 h3 _ _
      have := hk _ h
      unfold kinds at this
      simp only [List.mem_cons, List.not_mem_nil, or_false] at this
      rcases this with e | e | e
      · exact absurd (e ▸ h) h3
      · exact absurd (e ▸ h) h2
      · exact absurd (e ▸ h) h1
    · cases h
  · rintro ⟨h1, h2⟩
    rw [if_neg fun z => h1 ⟨_, z⟩, if_neg fun z => h1 ⟨_, z⟩, if_neg fun z => h1 ⟨_, z⟩, if_pos h2]
theorem SimW.start {ps : List ArcB} (os : List ObA) : SimW ps os [] (startW os) (initA (faceO os)) := ⟨fun t ht => (by cases ht), tkL_nil, TkWr.start os⟩
section
variable {ps : List ArcB} {os : List ObA} (hk : ∀ p ∈ defsO os, p.2 ∈ kinds) {R : RkR} {w : WA} {a : LA} (h : SimW ps os R w a)
include hk h
theorem SimW.found (y : Str) : y ∈ w.found.map (·.1) ↔ y ∈ a.found.map (·.1) := by
  rw [h.tw.key, h.tl.key, ex_rkT, initF_memV, wordOf_def hk]
  simp only [dns_mB]
theorem SimW.opn (y : Str) : y ∈ openL a ↔ y ∈ w.asked ∧ y ∉ w.found.map (·.1) := by
  have hf := h.found hk y
  rw [open_in, ← hf, h.tl.wk, ex_rkT]
  have e1 : y ∈ (initW (faceO os)).map (·.1) ↔ (y, ("wanted" : Str)) ∈ faceO os := by
    rw [wby_keys]
    exact ⟨fun ⟨v, z⟩ => (initW_memV.mp z).1, fun z => ⟨none, initW_memV.mpr ⟨z, rfl⟩⟩⟩
  rw [e1, wordOf_want hk, h.tw.ask]
  simp only [wants_mB]
  have hkey := h.tw.key y
  constructor
  · rintro ⟨h1 | h1, h2⟩
    · exact ⟨.inl h1.2, h2⟩
    · exact ⟨.inr h1, h2⟩
  · rintro ⟨h1 | h1, h2⟩
    · exact ⟨.inl ⟨fun z => h2 (hkey.mpr (.inl z)), h1⟩, h2⟩
    · exact ⟨.inr h1, h2⟩
theorem SimW.fit (x : Str) (r : RowB) : fitW w x r = fitsB a x (memB r) := by
  rw [Bool.eq_iff_iff, fits_iff2]
  unfold fitW
  rw [Bool.and_eq_true, List.any_eq_true, Bool.not_eq_true', decide_eq_false_iff_not, and_comm]
  have e : a.rows.map rkey = w.taken := by
    rw [h.tl.rows, h.tw.tak]
    unfold rkT
    rw [List.map_map]
    rfl
  rw [e]
  refine and_congr Iff.rfl ?_
  constructor
  · rintro ⟨d, hd, hz⟩
    simp only [Bool.and_eq_true, decide_eq_true_eq, Bool.not_eq_true', decide_eq_false_iff_not] at hz
    exact ⟨d.1, dns_mB.mpr (List.mem_map_of_mem hd), (h.opn hk d.1).mpr hz⟩
  · rintro ⟨y, hy, ho⟩
    obtain ⟨d, hd, rfl⟩ := List.mem_map.mp (dns_mB.mp hy)
    refine ⟨d, hd, ?_⟩
    simp only [Bool.and_eq_true, decide_eq_true_eq, Bool.not_eq_true', decide_eq_false_iff_not]
    exact (h.opn hk d.1).mp ho
theorem SimW.next (p : ArcB) : nextM a (arcW p) = (nextW w p.1 p.2).map memB := by
  unfold nextM nextW
  show (p.2.map memB).find? (fitsB a p.1) = _
  rw [List.find?_map]
  congr 2
  funext r
  exact (h.fit hk p.1 r).symm
omit hk in
theorem SimW.take {p : ArcB} (hp : p ∈ ps) {r : RowB} (hr : r ∈ p.2) : SimW ps os (R ++ [(p.1, r)]) (takeW w p.1 r) (takeL a p.1 (memB r)) := by
  refine ⟨fun t ht => ?_, ?_, h.tw.take p.1 r⟩
  · rcases List.mem_append.mp ht with ht | ht
    · exact h.of t ht
    · rw [List.mem_singleton.mp ht]
      exact ⟨p, hp, rfl, hr⟩
  · unfold rkT
    rw [List.map_append]
    exact h.tl.take _ _
end
end Z

set_option Elab.async false
set_option linter.all false
set_option maxRecDepth 100000
set_option maxHeartbeats 4000000
namespace Z
open PySem PySem.Spec PyProof.Rows L2 TL
open PySem.PyData (strOk)
/-! ### _law_linked -/
section
variable (FN FP : MF) (itb : Itb)
def lkNx : EM D := (mN FN (aC (mV 13) (aC (m2 dGetD (mV 7) (mV 13)) (aC (mV 4) (aC (mV 5) (aC (mV 6) aN))))))
def lkW3 : SM := (sC (sF (iSq (m2 dIx (mV 14) (mC (.int 1)))) (gT [(gN 11), (gN 12), (gN 15)]) (sE (mN FP (aC (mV 4) (aC (mV 11) (aC (mV 12) (aC (mV 15) aN))))))) (sA 14 (lkNx FN)))
def lkW2 : SM := (sC (sE (mBM "list" lExtend (mV 5) (aC (m2 dIx (mV 14) (mC (.int 2))) aN))) (lkW3 FN FP))
def lkW1 : SM := (sC (sE (mBM "list" (mtL lAppend) (mV 6) (aC (mN fTup (aC (mV 13) (aC (m2 dIx (mV 14) (mC (.int 0))) aN))) aN))) (lkW2 FN FP))
def lkS : SM := (sC (sA 14 (lkNx FN)) (sW 1000 (toB (m2 dNotN2 (mV 14) (mC .non))) (lkW1 FN FP)))
def lkR : SM := (sF (iAny itb (mIf (toT (mIsi "tuple" (mV 3))) (mV 3) (mN fTup (aC (mV 3) aN)))) (gN 13) (lkS FN FP))
def lkG : SM := (sC (sA 10 (m1 dNeg (mC (.int 1)))) (sW 1000 (toB (m2 dNe (mV 10) (mN fLen (aC (mV 6) aN)))) (sC (sA 10 (mN fLen (aC (mV 6) aN))) (lkR FN FP itb))))
def lk3 : SM := (sR (mN fTup (aC (mV 6) (aC (mV 4) (aC (mV 5) aN)))))
def lk2 : SM := (sC (sF (iSq (mV 1)) (gN 3) (lkG FN FP itb)) lk3)
def lk1c : SM := (sF (iSq (mV 8)) (gT [(gN 11), (gN 12)]) (sE (mN FP (aC (mV 4) (aC (mV 11) (aC (mV 12) (aC (mC (.str "own")) aN)))))))
def lk1b : SM := (sC (sE (mBM "list" lExtend (mV 5) (aC (mV 9) aN))) (lk1c FP))
def lk1 : SM := (sC (sF (iSq (mV 2)) (gT [(gN 8), (gN 9)]) (lk1b FP)) (lk2 FN FP itb))
def tLinkedW : SM := (sC (sG (gT [(gN 4), (gN 5), (gN 6), (gN 7)]) (mN fTup (aC mDN (aC (mN fLst aN) (aC (mN fLst aN) (aC (mN fDictL (aC (mV 0) aN)) aN)))))) (lk1 FN FP itb))
end
structure PsOk (ps : List ArcB) : Prop where
  nd : (ps.map (·.1)).Nodup
  ok : ∀ p ∈ ps, strOk p.1 = true
  rw : ∀ p ∈ ps, ∀ r ∈ p.2, RowSz r
  ln : ∀ p ∈ ps, p.2.length ≤ 1000
  tot : (memKeys (ps.map arcW)).length ≤ 900
/-- the walk so far: at the link a -/
structure LkI (s0 s : Sto) (lf la lt lm : Nat) (ps : List ArcB) (os : List ObA) (a : LA) (ls : List Nat) (R : RkR) (w : WA) : Prop where
  i : WkI s0 s lf la lt lm ls ps w
  z : WSz (1000 + 21 * w.taken.length) w
  m : SimW ps os R w a
  r : RowsOk (ps.map arcW) a
theorem LkI.eff {s0 s t : Sto} {lf la lt lm : Nat} {ps : List ArcB} {os : List ObA} {a : LA} {ls : List Nat} {R : RkR} {w : WA} (h : LkI s0 s lf la lt lm ps os a ls R w) (e : Eff [] s t) : LkI s0 t lf la lt lm ps os a ls R w := ⟨h.i.eff e, h.z, h.m, h.r⟩
theorem LkI.len {s0 s : Sto} {lf la lt lm : Nat} {ps : List ArcB} {os : List ObA} {a : LA} {ls : List Nat} {R : RkR} {w : WA} (h : LkI s0 s lf la lt lm ps os a ls R w) : w.taken.length = a.rows.length := by
  have h1 := congrArg List.length h.m.tl.rows
  have h2 := congrArg List.length h.m.tw.tak
  unfold rkT at h1
  simp only [List.length_map] at h1 h2
  omega
theorem LkI.n {s0 s : Sto} {lf la lt lm : Nat} {ps : List ArcB} (P : PsOk ps) {os : List ObA} {a : LA} {ls : List Nat} {R : RkR} {w : WA} (h : LkI s0 s lf la lt lm ps os a ls R w) : w.taken.length ≤ 900 := by
  rw [h.len]
  exact Nat.le_trans h.r.len P.tot
section
variable {FN FP : MF} (hN : NextOkW FN) (hP : PutOkW FP) {itb : Itb} {s0 s : Sto} {lf la lt lm : Nat} {ps : List ArcB} (P : PsOk ps) {os : List ObA} (hk : ∀ p ∈ defsO os, p.2 ∈ kinds) {a : LA} {ls : List Nat} {R : RkR} {w : WA} {Q : En} {o0 o1 o2 o3 o4 o5 o6 o7 o8 o9 o10 o11 o12 o13 o14 o15 : Option D}
def nxD (w : WA) (p : ArcB) : D := match nextW w p.1 p.2 with | none => .non | some r => rowB r
theorem lens_take (os : List ObA) (i : Nat) : (defsO (os.take i)).length + (wantsO (os.take i)).length ≤ (defsO os).length + (wantsO os).length := by
  have e : os = os.take i ++ os.drop i := (List.take_append_drop i os).symm
  have h1 : (defsO os).length = (defsO (os.take i)).length + (defsO (os.drop i)).length := by
    conv => lhs; rw [e]
    unfold defsO
    rw [List.flatMap_append, List.length_append]
  have h2 : (wantsO os).length = (wantsO (os.take i)).length + (wantsO (os.drop i)).length := by
    conv => lhs; rw [e]
    unfold wantsO
    rw [List.flatMap_append, List.length_append]
  omega
end
end Z

set_option Elab.async false
set_option linter.all false
set_option maxRecDepth 100000
set_option maxHeartbeats 4000000
namespace Z
open PySem PySem.Spec PyProof.Rows L2 TL
open PySem.PyData (strOk)
/-! ### _law_result -/
def rankB (d : DefB) : Nat := kinds.idxOf d.1
def bestS (b d : DefB) : DefB := if rankB b < rankB d then d else b
def bestF (ds : List DefB) : DefB := ds.foldl bestS (ds.headD ("", none))
def keysW (w : WA) : List Str := sortS (w.found.map (·.1))
def bindsW (w : WA) : List D := (keysW w).map fun x => .tup [.str x, bdD (bestF (fdN w.found x)).2]
def clashW (w : WA) : List Str := (keysW w).filter fun x => clashB (fdN w.found x)
def lacksW (w : WA) : List Str := sortS (onceS (w.asked.filter fun x => !decide (x ∈ w.found.map (·.1))))
def resW (w : WA) : D := .tup [.tup (bindsW w), .tup ((lacksW w).map D.str), .tup ((clashW w).map D.str)]
structure FdW (w : WA) : Prop where
  nm : ∀ q ∈ w.found, strOk q.1 = true
  ne : ∀ q ∈ w.found, q.2 ≠ []
  kd : ∀ q ∈ w.found, ∀ d ∈ q.2, d.1 ∈ kinds
def rs1c : SM := (sE (mBM "list" (mtL lAppend) (mV 5) (aC (mN fTup (aC (mV 2) (aC (m2 dIx (mV 7) (mC (.int 1))) aN))) aN)))
def rs1bb : SM := (sI (toB (m2 dGt (mBM "list" fIdxL (mV 6) (aC (m2 dIx (mV 8) (mC (.int 0))) aN)) (mBM "list" fIdxL (mV 6) (aC (m2 dIx (mV 7) (mC (.int 0))) aN)))) (sA 7 (mV 8)) sN)
def rs1b : SM := (sC (sF (iSq (m2 dGetD (mV 0) (mV 2))) (gN 8) rs1bb) rs1c)
def rs1a : SM := (sC (sA 7 (m2 dIx (m2 dGetD (mV 0) (mV 2)) (mC (.int 0)))) rs1b)
def rs4 : SM := (sR (mN fTup (aC (mN fTuple (aC (mV 5) aN)) (aC (mN fTuple (aC (mV 4) aN)) (aC (mN fTuple (aC (mV 3) aN)) aN)))))
def rs3 : SM := (sC (sA 4 (mN (fSortZ fSortA) (aC (mN fSetL (aC (mL (iSq (mV 1)) (gN 2) (toB (m2 (dInD true) (mV 2) (mV 0))) (mV 2) [2]) aN)) aN))) rs4)
def rs2 : SM := (sC (sA 3 (mL (iSq (mN (fSortK fSortA) (aC (mV 0) aN))) (gN 2) (toB (m2 dGt (mN fLen (aC (mL (iSq (m2 dGetD (mV 0) (mV 2))) (gN 8) (toB (m2 dEq (m2 dIx (mV 8) (mC (.int 0))) (mC (.str "strong")))) (mV 8) [8]) aN)) (mC (.int 1)))) (mV 2) [2])) rs3)
def rs1 : SM := (sC (sF (iSq (mN (fSortK fSortA) (aC (mV 0) aN))) (gN 2) rs1a) rs2)
def tResultW : SM := (sC (sP 5 6 (aC (mN fLst aN) (aC (mN fLst (aC (mC (.str "weak")) (aC (mC (.str "common")) (aC (mC (.str "strong")) aN)))) aN))) rs1)
/-- the walk, read only -/
structure RoI (s : Sto) (lf la : Nat) (w : WA) : Prop where
  ask : mlAt s la = some (w.asked.map D.str)
  fnd : ∃ ls, s[lf]? = some (.dict false (fndD w.found ls)) ∧ ls.length = w.found.length
  get : ∀ x ∈ w.found.map (·.1), ∃ n kvs, dctAt s lf = some kvs ∧ getK kvs (.inr x) = some (.ref n) ∧ mlAt s n = some ((fdN w.found x).map fdD)
theorem WkI.ro {s0 s : Sto} {lf la lt lm : Nat} {ls : List Nat} {ps : List ArcB} {w : WA} (h : WkI s0 s lf la lt lm ls ps w) (nd : (w.found.map (·.1)).Nodup) : RoI s lf la w := by
  refine ⟨h.ask, ⟨ls, h.fnd, h.len⟩, fun x hx => ?_⟩
  obtain ⟨i, q, hi, rfl⟩ := mem_at hx
  have hil : i < ls.length := by rw [h.len]; exact (List.getElem?_eq_some_iff.mp hi).1
  have hn : ls[i]? = some ls[i] := List.getElem?_eq_getElem hil
  refine ⟨ls[i], _, dctAt_dict h.fnd, getK_at (fndD_keys h.len) nd (i := i) (fndD_at hi hn), ?_⟩
  rw [h.lst i q _ hi hn]
  have : fdN w.found q.1 = q.2 := by
    unfold fdN
    have hm := List.mem_of_getElem? hi
    cases c : w.found.find? fun r => decide (r.1 = q.1) with
    | none =>
      have := List.find?_eq_none.mp c q hm
      simp at this
    | some r =>
      have h1 := List.mem_of_find?_eq_some c
      have h2 := List.find?_some c
      rw [uniq_name (g := fun r : Str × List DefB => r.1) nd h1 hm (of_decide_eq_true h2)]
      rfl
  rw [this]
theorem RoI.eff {s t : Sto} {lf la : Nat} {w : WA} (h : RoI s lf la w) (e : Eff [] s t) : RoI t lf la w := by
  obtain ⟨ls, h1, h2⟩ := h.fnd
  refine ⟨e.ml h.ask (by simp), ⟨ls, e.get h1 (by simp), h2⟩, fun x hx => ?_⟩
  obtain ⟨n, kvs, g1, g2, g3⟩ := h.get x hx
  refine ⟨n, kvs, ?_, g2, e.ml g3 (by simp)⟩
  rw [dctAt_dict h1] at g1
  rw [dctAt_dict (e.get h1 (by simp))]
  exact g1
section
variable {s s0 t : Sto} {lf la k5 k6 : Nat} {w : WA} {n : Nat} {Q : En} {o2 o3 o4 o5 o6 o7 o8 : Option D} {x : Str}
end
end Z

set_option Elab.async false
set_option linter.all false
set_option maxRecDepth 100000
set_option maxHeartbeats 4000000
namespace Z
open PySem PySem.Spec PyProof.Rows L2 TL
open PySem.PyData (strOk)
/-! ### the walk's result is the link's -/
theorem best_take {ds : List DefB} {d0 : DefB} (h0 : ds[0]? = some d0) : ∀ n, n < ds.length → ds[argBest (fun i j => decide (((ds.map kIx).getD i 0 : Int) > ((ds.map kIx).getD j 0 : Int))) n]? = some ((ds.take (n + 1)).foldl bestS d0)
  | 0, h => by
    show ds[0]? = _
    rw [List.take_add_one, List.take_zero, h0]
    show some d0 = some (bestS d0 d0)
    unfold bestS
    split <;> rfl
  | n + 1, h => by
    have ih := best_take h0 n (by omega)
    have hd : ds[n + 1]? = some ds[n + 1] := List.getElem?_eq_getElem h
    have e : (ds.take (n + 1 + 1)).foldl bestS d0 = bestS ((ds.take (n + 1)).foldl bestS d0) ds[n + 1] := by
      rw [List.take_add_one, hd, List.foldl_append]
      rfl
    rw [e]
    generalize (ds.take (n + 1)).foldl bestS d0 = b at ih
    unfold argBest
    generalize argBest (fun i j => decide (((ds.map kIx).getD i 0 : Int) > ((ds.map kIx).getD j 0 : Int))) n = j at ih ⊢
    have e1 : (ds.map kIx).getD (n + 1) 0 = rankB ds[n + 1] := by
      rw [List.getD_eq_getElem?_getD, List.getElem?_map, hd]
      rfl
    have e2 : (ds.map kIx).getD j 0 = rankB b := by
      rw [List.getD_eq_getElem?_getD, List.getElem?_map, ih]
      rfl
    rw [e1, e2]
    unfold bestS
    by_cases c : rankB b < rankB ds[n + 1]
    · rw [if_pos c, if_pos (by rw [decide_eq_true_eq]; omega)]
      exact hd
    · rw [if_neg c, if_neg (by rw [decide_eq_true_eq]; omega)]
      exact ih
theorem strongD_best {ds : List DefB} (ne : ds ≠ []) : strongD ds = bdD (bestF ds).2 := by
  obtain ⟨d0, r, e⟩ := List.exists_cons_of_ne_nil ne
  have h0 : ds[0]? = some d0 := by rw [e]; rfl
  have hl : 0 < ds.length := List.length_pos_iff.mpr ne
  have hb := best_take h0 (ds.length - 1) (by omega)
  rw [show ds.length - 1 + 1 = ds.length by omega, List.take_length] at hb
  unfold strongD strongB bestD
  rw [List.length_map, hb]
  show _ = bdD (ds.foldl bestS (ds.headD ("", none))).2
  rw [show ds.headD ("", none) = d0 by rw [e]; rfl]
/-- the best of what stands first comes to stand for it -/
theorem bestF_app {os xs : List DefB} (ne : os ≠ []) : bestF (os ++ xs) = xs.foldl bestS (bestF os) := by
  obtain ⟨d0, r, e⟩ := List.exists_cons_of_ne_nil ne
  unfold bestF
  rw [List.foldl_append]
  congr 2
  rw [e]
  rfl
theorem bestF_one (d : DefB) : bestF [d] = d := by
  show bestS d d = d
  unfold bestS
  split <;> rfl
theorem bestF_mem : ∀ {ds : List DefB}, ds ≠ [] → bestF ds ∈ ds ∧ ∀ d ∈ ds, rankB d ≤ rankB (bestF ds) := by
  intro ds ne
  obtain ⟨d0, r, e⟩ := List.exists_cons_of_ne_nil ne
  have key : ∀ (xs : List DefB) (b : DefB), (xs.foldl bestS b = b ∨ xs.foldl bestS b ∈ xs) ∧ rankB b ≤ rankB (xs.foldl bestS b) ∧ ∀ d ∈ xs, rankB d ≤ rankB (xs.foldl bestS b) := by
    intro xs
    induction xs with
    | nil => intro b; exact ⟨.inl rfl, Nat.le_refl _, fun d h => by cases h⟩
    | cons y xs ih =>
      intro b
      obtain ⟨h1, h2, h3⟩ := ih (bestS b y)
      rw [List.foldl_cons]
      have hb : rankB b ≤ rankB (bestS b y) ∧ rankB y ≤ rankB (bestS b y) := by
        unfold bestS
        split <;> omega
      refine ⟨?_, by omega, fun d hd => ?_⟩
      · rcases h1 with h1 | h1
        · rw [h1]
          unfold bestS
          split
          · exact .inr (by simp)
          · exact .inl rfl
        · exact .inr (List.mem_cons_of_mem _ h1)
      · rcases List.mem_cons.mp hd with rfl | hd
        · omega
        · exact h3 d hd
  have e1 : bestF ds = ds.foldl bestS d0 := by unfold bestF; rw [e]; rfl
  rw [e1]
  obtain ⟨h1, h2, h3⟩ := key ds d0
  refine ⟨?_, h3⟩
  rcases h1 with h1 | h1
  · rw [h1, e]; simp
  · exact h1
theorem kind_nw : ∀ v ∈ kinds, v ≠ ("wanted" : Str) := by decide +kernel
/-- what the program itself brings: its best stands for its all -/
theorem own_face {os : List ObA} (O : ObsOk os) (y : Str) : fdN (initF (faceO os)) y = if ownL os y = [] then [] else [bestF (ownL os y)] := by
  have nd := (faceO_ok O).nd
  have mem : ∀ k, (k, (none : Bd)) ∈ ownL os y ↔ (y, k) ∈ defsO os := fun k => by
    unfold ownL
    rw [List.mem_map]
    constructor
    · rintro ⟨p, hp, e⟩
      obtain ⟨h1, h2⟩ := List.mem_filter.mp hp
      have h2 := of_decide_eq_true h2
      injection e with e _
      subst e h2
      exact h1
    · intro h
      exact ⟨_, List.mem_filter.mpr ⟨h, by simp⟩, rfl⟩
  have non : ∀ d ∈ ownL os y, d.2 = none := fun d hd => by
    unfold ownL at hd
    obtain ⟨p, _, rfl⟩ := List.mem_map.mp hd
    rfl
  have keyI : ∀ y, y ∈ (initF (faceO os)).map (·.1) ↔ ∃ k, (y, k) ∈ defsO os := fun y => by rw [initF_memV, wordOf_def O.kdD]
  by_cases c : ownL os y = []
  · rw [if_pos c]
    refine fdN_none fun h => ?_
    obtain ⟨k, hk⟩ := (keyI y).mp h
    have := (mem k).mpr hk
    rw [c] at this
    cases this
  · rw [if_neg c]
    obtain ⟨b1, b2⟩ := bestF_mem c
    generalize bestF (ownL os y) = b at b1 b2 ⊢
    obtain ⟨k, v⟩ := b
    have hv : v = none := non _ b1
    subst hv
    have hk := (mem k).mp b1
    have hkk := O.kdD _ hk
    have hw : wordOf os y = some k := by
      have mx : ∀ k', (y, k') ∈ defsO os → kinds.idxOf k' ≤ kinds.idxOf k := fun k' h' => b2 _ ((mem k').mpr h')
      have ixs : kinds.idxOf ("strong" : Str) = 2 ∧ kinds.idxOf ("common" : Str) = 1 ∧ kinds.idxOf ("weak" : Str) = 0 := by decide +kernel
      have hk3 : k = "weak" ∨ k = "common" ∨ k = "strong" := by
        unfold kinds at hkk
        simpa using hkk
      unfold wordOf
      by_cases c1 : (y, ("strong" : Str)) ∈ defsO os
      · rw [if_pos c1]
        have := mx _ c1
        rcases hk3 with rfl | rfl | rfl
        · omega
        · omega
        · rfl
      · rw [if_neg c1]
        by_cases c2 : (y, ("common" : Str)) ∈ defsO os
        · rw [if_pos c2]
          have := mx _ c2
          rcases hk3 with rfl | rfl | rfl
          · omega
          · rfl
          · exact absurd hk c1
        · rw [if_neg c2]
          rcases hk3 with rfl | rfl | rfl
          · rw [if_pos hk]
          · exact absurd hk c2
          · exact absurd hk c1
    have hne : k ≠ ("wanted" : Str) := (kind_nw _ hkk)
    have hm := faceO_mem.mpr hw
    unfold fdN initF
    rw [List.find?_map]
    have hf : ((faceO os).filter (fun p => !decide (p.2 = ("wanted" : Str)))).find? ((fun q : Str × List DefB => decide (q.1 = y)) ∘ fun p => (p.1, [(p.2, none)])) = some (y, k) := by
      have hm2 : (y, k) ∈ (faceO os).filter (fun p => !decide (p.2 = ("wanted" : Str))) := List.mem_filter.mpr ⟨hm, by simpa using hne⟩
      have nd2 : (((faceO os).filter (fun p => !decide (p.2 = ("wanted" : Str)))).map (·.1)).Nodup := filt_nd nd
      cases q : ((faceO os).filter (fun p => !decide (p.2 = ("wanted" : Str)))).find? ((fun q : Str × List DefB => decide (q.1 = y)) ∘ fun p => (p.1, [(p.2, none)])) with
      | none =>
        have := List.find?_eq_none.mp q _ hm2
        simp at this
      | some r =>
        have h1 := List.mem_of_find?_eq_some q
        have h2 := List.find?_some q
        have h2 : r.1 = y := by simpa using h2
        rw [uniq_name (g := fun p : Str × Str => p.1) nd2 h1 hm2 h2]
    rw [hf]
    rfl
end Z

set_option Elab.async false
set_option linter.all false
set_option maxRecDepth 100000
set_option maxHeartbeats 4000000
namespace Z
open PySem PySem.Spec PyProof.Rows L2 TL
open PySem.PyData (strOk)
theorem perm_le1 {α : Type} {xs ys : List α} (p : xs.Perm ys) (h : ys.length ≤ 1) : xs = ys := by
  match ys, h with
  | [], _ => exact List.perm_nil.mp p
  | [y], _ => exact List.perm_singleton.mp p
theorem gsN_memB {names : List Str} {r : RowB} (g : RowG1 names r) (y : Str) : defsN (memB r) y = gsN r y := by
  have nd : (r.gs.map (·.1)).Nodup := (List.nodup_append.mp g.nd).1
  unfold defsN gsN
  show ((sortP r.gs).filter fun d => decide (d.1 = y)).map _ = _
  have p : ((sortP r.gs).filter fun d : DefA => decide (d.1 = y)).Perm (r.gs.filter fun d => decide (d.1 = y)) := (sortP_perm r.gs).filter _
  have l : (r.gs.filter fun d : DefA => decide (d.1 = y)).length ≤ 1 := by
    have := nodup_len (xs := (r.gs.filter fun d : DefA => decide (d.1 = y)).map (·.1)) (ys := [y]) (nd.sublist (List.filter_sublist.map _)) fun x hx => by
      obtain ⟨d, hd, rfl⟩ := List.mem_map.mp hx
      exact List.mem_singleton.mpr (of_decide_eq_true (List.mem_filter.mp hd).2)
    simpa using this
  rw [perm_le1 p l]
theorem strongs_flat (os : List ObA) : strongsO os = ((defsO os).filter fun p => decide (p.2 = ("strong" : Str))).map (·.1) := by
  unfold strongsO defsO
  rw [List.filter_flatMap, List.map_flatMap]
theorem own_strong {os : List ObA} (O : ObsOk os) (y : Str) : ((ownL os y).filter fun d => decide (d.1 = ("strong" : Str))).length ≤ 1 := by
  have h := O.st
  rw [strongs_flat] at h
  have e : ((ownL os y).filter fun d => decide (d.1 = ("strong" : Str))).length = ((((defsO os).filter fun p => decide (p.2 = ("strong" : Str))).map (·.1)).filter fun x => decide (x = y)).length := by
    unfold ownL
    rw [List.filter_map, List.length_map, List.filter_filter, List.filter_map, List.length_map, List.filter_filter]
    congr 1
    refine List.filter_congr fun p _ => ?_
    show (decide (p.2 = _) && decide (p.1 = y)) = (decide (p.1 = y) && decide (p.2 = _))
    exact Bool.and_comm _ _
  rw [e]
  have := nodup_len (ys := [y]) (h.filter fun x => decide (x = y)) fun x hx => List.mem_singleton.mpr (of_decide_eq_true (List.mem_filter.mp hx).2)
  simpa using this
theorem own_kd {os : List ObA} (O : ObsOk os) (y : Str) : ∀ d ∈ ownL os y, d.1 ∈ kinds := fun d hd => by
  unfold ownL at hd
  obtain ⟨p, hp, rfl⟩ := List.mem_map.mp hd
  exact O.kdD p (List.mem_filter.mp hp).1
theorem own_count {os : List ObA} (O : ObsOk os) (y : Str) (ne : ownL os y ≠ []) : ((ownL os y).filter fun d => decide (d.1 = ("strong" : Str))).length = ([bestF (ownL os y)].filter fun d => decide (d.1 = ("strong" : Str))).length := by
  have l1 := own_strong O y
  obtain ⟨b1, b2⟩ := bestF_mem ne
  have kb := own_kd O y _ b1
  by_cases c : ∃ d ∈ ownL os y, d.1 = ("strong" : Str)
  · obtain ⟨d, hd, e⟩ := c
    have hr := b2 d hd
    have e2 : (bestF (ownL os y)).1 = ("strong" : Str) := by
      unfold rankB at hr
      rw [e] at hr
      have ixs : kinds.idxOf ("strong" : Str) = 2 ∧ kinds.idxOf ("common" : Str) = 1 ∧ kinds.idxOf ("weak" : Str) = 0 := by decide +kernel
      generalize (bestF (ownL os y)).1 = k at hr kb
      unfold kinds at kb
      simp only [List.mem_cons, List.not_mem_nil, or_false] at kb
      rcases kb with rfl | rfl | rfl
      · omega
      · omega
      · rfl
    have h1 : 0 < ((ownL os y).filter fun d => decide (d.1 = ("strong" : Str))).length := List.length_pos_of_mem (List.mem_filter.mpr ⟨hd, decide_eq_true e⟩)
    rw [List.filter_cons, if_pos (decide_eq_true e2), List.filter_nil]
    show _ = 1
    omega
  · have e2 : ¬ (bestF (ownL os y)).1 = ("strong" : Str) := fun z => c ⟨_, b1, z⟩
    rw [List.filter_cons, if_neg (by simpa using e2), List.filter_nil]
    have : (ownL os y).filter (fun d => decide (d.1 = ("strong" : Str))) = [] := List.filter_eq_nil_iff.mpr fun d hd z => c ⟨d, hd, of_decide_eq_true z⟩
    rw [this]
section
variable {names : List Str} {ps : List ArcB} (S : StoW names ps) {os : List ObA} (O : ObsOk os) {R : RkR} {w : WA} {a : LA} (h : SimW ps os R w a) {n c0 : Nat} (z : WSz n w) (ok : LaOk c0 a)
include S h
theorem SimW.flat (y : Str) : ((rkT R).flatMap fun t => defsN t.2 y) = R.flatMap fun t => gsN t.2 y := by
  unfold rkT
  rw [List.flatMap_map]
  have : ∀ L : RkR, (∀ t ∈ L, ∃ p ∈ ps, t.1 = p.1 ∧ t.2 ∈ p.2) → (L.flatMap fun t => defsN (memB t.2) y) = L.flatMap fun t => gsN t.2 y := by
    intro L
    induction L with
    | nil => intro _; rfl
    | cons t L ih =>
      intro hL
      obtain ⟨p, hp, _, hw⟩ := hL t (by simp)
      rw [List.flatMap_cons, List.flatMap_cons, ih fun u hu => hL u (List.mem_cons_of_mem _ hu), gsN_memB ((S.arc p hp).row t.2 hw)]
  exact this R h.of
theorem SimW.fdA (y : Str) : fdN a.found y = fdN (initF (faceO os)) y ++ R.flatMap fun t => gsN t.2 y := by
  rw [h.tl.fd, h.flat S]
include O z ok
theorem SimW.keys : keysW w = fdKeys a := sortS_same z.nd ok.fn fun y => h.found O.kdD y
theorem SimW.bind {y : Str} (hne : fdN a.found y ≠ []) : bdD (bestF (fdN w.found y)).2 = strongD (fdOf a y) := by
  show _ = strongD (fdN a.found y)
  rw [strongD_best hne, h.fdA S, h.tw.fd, own_face O]
  by_cases c : ownL os y = []
  · rw [c, if_pos rfl]
  · rw [if_neg c, bestF_app c, bestF_app (by simp), bestF_one]
theorem SimW.clash (y : Str) : clashB (fdN w.found y) = clashB (fdN a.found y) := by
  unfold clashB
  rw [h.fdA S, h.tw.fd, own_face O]
  by_cases c : ownL os y = []
  · rw [c, if_pos rfl]
  · rw [if_neg c, List.filter_append, List.filter_append, List.length_append, List.length_append, own_count O y c]
omit z in
theorem fdN_at {q : Str × List DefB} (hq : q ∈ a.found) : fdN a.found q.1 = q.2 := by
  unfold fdN
  cases c : a.found.find? fun r => decide (r.1 = q.1) with
  | none =>
    have := List.find?_eq_none.mp c q hq
    simp at this
  | some r =>
    have h1 := List.mem_of_find?_eq_some c
    have h2 := List.find?_some c
    rw [uniq_name (g := fun r : Str × List DefB => r.1) ok.fn h1 hq (of_decide_eq_true h2)]
    rfl
theorem SimW.clashes : clashW w = clashL a := by
  have e1 : clashW w = sortS (clashW w) := by
    refine (sortS_of ?_).symm
    unfold clashW keysW
    exact (sortS_sorted _).filter _
  rw [e1]
  refine sortS_same ?_ ?_ fun y => ?_
  · unfold clashW keysW
    exact ((sortS_perm _).nodup_iff.mpr z.nd).filter _
  · exact ok.fn.sublist (List.filter_sublist.map _)
  · unfold clashW
    rw [List.mem_filter, h.keys S O z ok, fdKeys_in, h.clash S O z ok]
    constructor
    · rintro ⟨hy, hc⟩
      obtain ⟨q, hq, rfl⟩ := List.mem_map.mp hy
      rw [fdN_at S O h ok hq] at hc
      exact List.mem_map.mpr ⟨q, List.mem_filter.mpr ⟨hq, hc⟩, rfl⟩
    · intro hz
      obtain ⟨q, hq, rfl⟩ := List.mem_map.mp hz
      obtain ⟨h1, h2⟩ := List.mem_filter.mp hq
      exact ⟨List.mem_map_of_mem h1, by rw [fdN_at S O h ok h1]; exact h2⟩
theorem SimW.lacks : lacksW w = openL a := by
  have e1 : openL a = sortS (openL a) := (sortS_of (openL_sorted a)).symm
  rw [e1]
  unfold lacksW
  refine sortS_same (onceS_nodup _) (openL_nd ok.wn) fun y => ?_
  rw [onceS_mem, List.mem_filter, h.opn O.kdD y]
  simp
end
end Z

set_option Elab.async false
set_option linter.all false
set_option maxRecDepth 100000
set_option maxHeartbeats 4000000
namespace Z
open PySem PySem.Spec PyProof.Rows L2 TL
open PySem.PyData (strOk)
/-! ### _law_objects -/
section
variable (take of_ : MF)
def ob3 : SM := (sI (toB (m2 dEq (mV 9) (mC (.str "strong")))) (sE (mBM "list" (mtL lAppend) (mV 4) (aC (mV 10) aN))) sN)
def ob2 : SM := (sC (sE (mBM "list" (mtL lAppend) (mV 7) (aC (mN fTup (aC (mV 10) (aC (mV 9) aN))) aN))) ob3)
def ob1 : SM := (sC (sA 9 (mIf (toB (m2 (dInB false) (mV 10) (mV 4))) (mC (.str "weak")) (mV 9))) ob2)
def ob0 : SM := (sC (sP 10 9 (aC (mBM "list" (mtL lPopAt) (mV 6) (aC (mN take (aC (mV 0) (aC (mN fLen (aC (mV 6) aN)) aN))) aN)) (aC (mN of_ (aC (mV 0) (aC (mN fLst (aC (mC (.str "weak")) (aC (mC (.str "common")) (aC (mC (.str "strong")) aN)))) aN))) aN))) ob1)
def oc0 : SM := (sE (mBM "list" (mtL lAppend) (mV 8) (aC (mN of_ (aC (mV 0) (aC (mV 1) aN))) aN)))
def oa3 : SM := (sE (mBM "list" (mtL lAppend) (mV 3) (aC (mN fTup (aC (mN fTuple (aC (mV 7) aN)) (aC (mN fTuple (aC (mV 8) aN)) aN))) aN)))
def oa2 : SM := (sC (sF (iR1 (aC (m2 dAdd (mC (.int 1)) (mN take (aC (mV 0) (aC (mC (.int 3)) aN)))) aN)) (gN 5) (oc0 of_)) oa3)
def oa1 : SM := (sC (sF (iR1 (aC (mN take (aC (mV 0) (aC (mN fMin2 (aC (mC (.int 3)) (aC (m2 dAdd (mN fLen (aC (mV 6) aN)) (mC (.int 1))) aN))) aN))) aN)) (gN 5) (ob0 take of_)) (oa2 take of_))
def oa0 : SM := (sC (sP3 6 7 8 (aC (mN fList (aC (mV 1) aN)) (aC (mN fLst aN) (aC (mN fLst aN) aN)))) (oa1 take of_))
def ox2 : SM := (sR (mN fTuple (aC (mV 3) aN)))
def ox1 : SM := (sC (sF (iR1 (aC (m2 dAdd (mC (.int 1)) (mN take (aC (mV 0) (aC (mC (.int 3)) aN)))) aN)) (gN 2) (oa0 take of_)) ox2)
def tObjectsW : SM := (sC (sP 3 4 (aC (mN fLst aN) (aC (mN fLst aN) aN))) (ox1 take of_))
end
structure ObI (s0 s : Sto) (k p3 p4 p6 p7 p8 : Nat) (os : List ObA) (st left : List Str) (gv : List (Str × Str)) (nd : List Str) : Prop where
  ef : Eff [k] s0 s
  m3 : mlAt s p3 = some (os.map obD)
  m4 : mlAt s p4 = some (st.map D.str)
  m6 : mlAt s p6 = some (left.map D.str)
  m7 : mlAt s p7 = some (gv.map fcD)
  m8 : mlAt s p8 = some (nd.map D.str)
  lo : k < s0.length ∧ s0.length ≤ p3 ∧ p3 < p4 ∧ p4 < p6 ∧ p6 < p7 ∧ p7 < p8
section
variable {s0 s t : Sto} {k p3 p4 p6 p7 p8 : Nat} {os : List ObA} {st left : List Str} {gv : List (Str × Str)} {nd : List Str}
theorem ObI.eff (h : ObI s0 s k p3 p4 p6 p7 p8 os st left gv nd) (e : Eff [k] s t) : ObI s0 t k p3 p4 p6 p7 p8 os st left gv nd := by
  obtain ⟨l0, l1, l2, l3, l4, l5⟩ := h.lo
  exact ⟨h.ef.trans e, e.ml h.m3 (by simp; omega), e.ml h.m4 (by simp; omega), e.ml h.m6 (by simp; omega), e.ml h.m7 (by simp; omega), e.ml h.m8 (by simp; omega), h.lo⟩
theorem ObI.s3 (h : ObI s0 s k p3 p4 p6 p7 p8 os st left gv nd) {os' : List ObA} : ObI s0 (s.set p3 (.lst (os'.map obD))) k p3 p4 p6 p7 p8 os' st left gv nd := by
  obtain ⟨l0, l1, l2, l3, l4, l5⟩ := h.lo
  have hl := lstAt_lt (lstAt_ml h.m3)
  exact ⟨h.ef.set l1, mlAt_set_self hl, by rw [mlAt_set_ne (by omega)]; exact h.m4, by rw [mlAt_set_ne (by omega)]; exact h.m6, by rw [mlAt_set_ne (by omega)]; exact h.m7, by rw [mlAt_set_ne (by omega)]; exact h.m8, h.lo⟩
theorem ObI.s4 (h : ObI s0 s k p3 p4 p6 p7 p8 os st left gv nd) {st' : List Str} : ObI s0 (s.set p4 (.lst (st'.map D.str))) k p3 p4 p6 p7 p8 os st' left gv nd := by
  obtain ⟨l0, l1, l2, l3, l4, l5⟩ := h.lo
  have hl := lstAt_lt (lstAt_ml h.m4)
  exact ⟨h.ef.set (by omega), by rw [mlAt_set_ne (by omega)]; exact h.m3, mlAt_set_self hl, by rw [mlAt_set_ne (by omega)]; exact h.m6, by rw [mlAt_set_ne (by omega)]; exact h.m7, by rw [mlAt_set_ne (by omega)]; exact h.m8, h.lo⟩
theorem ObI.s6 (h : ObI s0 s k p3 p4 p6 p7 p8 os st left gv nd) {l' : List Str} : ObI s0 (s.set p6 (.lst (l'.map D.str))) k p3 p4 p6 p7 p8 os st l' gv nd := by
  obtain ⟨l0, l1, l2, l3, l4, l5⟩ := h.lo
  have hl := lstAt_lt (lstAt_ml h.m6)
  exact ⟨h.ef.set (by omega), by rw [mlAt_set_ne (by omega)]; exact h.m3, by rw [mlAt_set_ne (by omega)]; exact h.m4, mlAt_set_self hl, by rw [mlAt_set_ne (by omega)]; exact h.m7, by rw [mlAt_set_ne (by omega)]; exact h.m8, h.lo⟩
theorem ObI.s7 (h : ObI s0 s k p3 p4 p6 p7 p8 os st left gv nd) {g' : List (Str × Str)} : ObI s0 (s.set p7 (.lst (g'.map fcD))) k p3 p4 p6 p7 p8 os st left g' nd := by
  obtain ⟨l0, l1, l2, l3, l4, l5⟩ := h.lo
  have hl := lstAt_lt (lstAt_ml h.m7)
  exact ⟨h.ef.set (by omega), by rw [mlAt_set_ne (by omega)]; exact h.m3, by rw [mlAt_set_ne (by omega)]; exact h.m4, by rw [mlAt_set_ne (by omega)]; exact h.m6, mlAt_set_self hl, by rw [mlAt_set_ne (by omega)]; exact h.m8, h.lo⟩
theorem ObI.s8 (h : ObI s0 s k p3 p4 p6 p7 p8 os st left gv nd) {n' : List Str} : ObI s0 (s.set p8 (.lst (n'.map D.str))) k p3 p4 p6 p7 p8 os st left gv n' := by
  obtain ⟨l0, l1, l2, l3, l4, l5⟩ := h.lo
  have hl := lstAt_lt (lstAt_ml h.m8)
  exact ⟨h.ef.set (by omega), by rw [mlAt_set_ne (by omega)]; exact h.m3, by rw [mlAt_set_ne (by omega)]; exact h.m4, by rw [mlAt_set_ne (by omega)]; exact h.m6, by rw [mlAt_set_ne (by omega)]; exact h.m7, mlAt_set_self hl, h.lo⟩
end
theorem kinds3S : ("strong" : Str) ∈ kinds ∧ ("weak" : Str) ∈ kinds ∧ ("common" : Str) ∈ kinds := by decide +kernel
theorem kind_drawS {of_ : MF} (O : OfOk of_) {s : Sto} {kb : Nat} (hb : Bag s kb) {P : D → Sto → Prop} {E : Str → Str → D → Sto → Prop} (hP : ∀ k s', k ∈ kinds → Eff [kb] s s' → P (.str k) s') :
    (of_ [.ref kb, .ref s.length] (s ++ [SO.lst [.str "weak", .str "common", .str "strong"]])).wp P E := by
  have e1 : Eff [] s (s ++ [SO.lst [.str "weak", .str "common", .str "strong"]]) := Eff.push
  have m1 : mlAt (s ++ [SO.lst [.str "weak", .str "common", .str "strong"]]) s.length = some [.str "weak", .str "common", .str "strong"] := mlAt_push
  have hkl := hb.lt
  refine wp_ne (O (k := kb) (x := .ref s.length) (xs := [.str "weak", .str "common", .str "strong"]) ((e1.nil (js := [kb])).bag kb (by simp) hb) (by rw [seqD_ref]; exact lstAt_ml m1) (by intro e; injection e with e; omega) (by simp) (by simp)) ?_
  rintro d s' ⟨h1, e2⟩
  simp only [List.mem_cons, List.not_mem_nil, or_false] at h1
  have e12 := (e1.nil (js := [kb])).trans e2
  rcases h1 with rfl | rfl | rfl
  · exact hP _ _ kinds3S.2.1 e12
  · exact hP _ _ kinds3S.2.2 e12
  · exact hP _ _ kinds3S.1 e12
/-- the program so far, plainly -/
structure ObP (names : List Str) (os : List ObA) (st left : List Str) (gv : List (Str × Str)) : Prop where
  pm : (gv.map (·.1) ++ left).Perm names
  kd : ∀ p ∈ gv, p.2 ∈ kinds
  se : st = strongsO os ++ (gv.filter fun p => decide (p.2 = ("strong" : Str))).map (·.1)
  sn : st.Nodup
  sn2 : ∀ y ∈ st, y ∈ names
theorem ObP.stk {names : List Str} {os : List ObA} {st left : List Str} {gv : List (Str × Str)} (P : ObP names os st left gv) (hn : ∀ x ∈ names, IsName x) : ∀ y ∈ st, strOk y = true := fun y hy => (hn y (P.sn2 y hy)).ok
theorem ob2_ok {s0 s : Sto} {k p3 p4 p6 p7 p8 : Nat} {os : List ObA} {names st left left2 : List Str} {gv : List (Str × Str)} {nd : List Str} {Q : En} {o1 o2 o5 : Option D} (hn : ∀ x ∈ names, IsName x) {x kd : Str} (hx : x ∈ names) (h : ObI s0 s k p3 p4 p6 p7 p8 os st left2 gv nd) (P : ObP names os st left gv) (hp : (gv.map (·.1) ++ [x] ++ left2).Perm names) (hk : kd ∈ kinds) (hc : kd = ("strong" : Str) → x ∉ st) (gl : gv.length ≤ 100) (sl : st.length ≤ 100)
    (hQ : ∀ s' st' gv' o9 o10, ObI s0 s' k p3 p4 p6 p7 p8 os st' left2 gv' nd → ObP names os st' left2 gv' → gv'.length = gv.length + 1 → st'.length ≤ st.length + 1 → Q.nx [some (.ref k), o1, o2, some (.ref p3), some (.ref p4), o5, some (.ref p6), some (.ref p7), some (.ref p8), o9, o10] s') :
    (ob2 [some (.ref k), o1, o2, some (.ref p3), some (.ref p4), o5, some (.ref p6), some (.ref p7), some (.ref p8), some (.str kd), some (.str x)] s).wp Q := by
  unfold ob2
  rw [z_sCn]
  simp [-List.map_map]
  refine ⟨isTy_ml h.m7, two_le_line, ?_⟩
  rw [h.m7, lstP_some]
  refine ⟨by rw [List.length_map, size_line]; omega, ?_⟩
  have eg : gv.map fcD ++ [D.tup [.str x, .str kd]] = (gv ++ [(x, kd)]).map fcD := by rw [List.map_append]; rfl
  rw [eg]
  have h1 := h.s7 (g' := gv ++ [(x, kd)])
  generalize s.set p7 (.lst ((gv ++ [(x, kd)]).map fcD)) = s1 at h1 ⊢
  have pm : ((gv ++ [(x, kd)]).map (·.1) ++ left2).Perm names := by rw [List.map_append]; exact hp
  have kd2 : ∀ p ∈ gv ++ [(x, kd)], p.2 ∈ kinds := fun p hp => by
    rcases List.mem_append.mp hp with hp | hp
    · exact P.kd p hp
    · rw [List.mem_singleton.mp hp]; exact hk
  have ol : ∀ p ∈ strongsO os ++ (gv.filter fun p => decide (p.2 = ("strong" : Str))).map (·.1), p ∈ st := fun p hp => by rw [P.se]; exact hp
  rw [z_nxt]
  unfold ob3
  simp [-List.map_map]
  by_cases c : kd = ("strong" : Str)
  · rw [if_pos c]
    refine ⟨isTy_ml h1.m4, ?_⟩
    rw [h1.m4, lstP_some]
    refine ⟨by rw [List.length_map, size_line]; omega, ?_⟩
    have es : st.map D.str ++ [D.str x] = (st ++ [x]).map D.str := by rw [List.map_append]; rfl
    rw [es]
    refine hQ _ (st ++ [x]) (gv ++ [(x, kd)]) _ _ h1.s4 ⟨pm, kd2, ?_, ?_, fun y hy => ?_⟩ (by simp) (by simp)
    · rw [List.filter_append, List.map_append, ← List.append_assoc, ← P.se]
      congr 1
      rw [List.filter_cons, if_pos (decide_eq_true c)]
      rfl
    · rw [List.nodup_append]
      exact ⟨P.sn, by simp, fun a ha b hb e => hc c (by rw [List.mem_singleton.mp hb] at e; exact e ▸ ha)⟩
    · rcases List.mem_append.mp hy with hy | hy
      · exact P.sn2 y hy
      · rw [List.mem_singleton.mp hy]; exact hx
  · rw [if_neg c]
    refine hQ _ st (gv ++ [(x, kd)]) _ _ h1 ⟨pm, kd2, ?_, P.sn, P.sn2⟩ (by simp) (by omega)
    rw [List.filter_append, List.map_append, ← List.append_assoc, ← P.se]
    rw [List.filter_cons, if_neg (by simpa using c)]
    simp
section
variable {take of_ : MF} (T : TakeOk take) (O : OfOk of_) {s0 s : Sto} {k p3 p4 p6 p7 p8 : Nat} {os : List ObA} {names st left : List Str} {gv : List (Str × Str)} {nd : List Str} {Q : En} {o1 o2 o5 o9 o10 : Option D} (hb : Bag s0 k) (hn : ∀ x ∈ names, IsName x) (nn : names.Nodup) (nl : names.length ≤ 1000)
include T O hb hn nn nl
theorem ob0_ok (h : ObI s0 s k p3 p4 p6 p7 p8 os st left gv nd) (P : ObP names os st left gv) (hl : 0 < left.length) (gl : gv.length ≤ 100) (sl : st.length ≤ 100) (hQ : ∀ s' st' left' gv' o9 o10, ObI s0 s' k p3 p4 p6 p7 p8 os st' left' gv' nd → ObP names os st' left' gv' → gv'.length = gv.length + 1 → st'.length ≤ st.length + 1 → left'.length + 1 = left.length → Q.nx [some (.ref k), o1, o2, some (.ref p3), some (.ref p4), o5, some (.ref p6), some (.ref p7), some (.ref p8), o9, o10] s') :
    ((ob0 take of_) [some (.ref k), o1, o2, some (.ref p3), some (.ref p4), o5, some (.ref p6), some (.ref p7), some (.ref p8), o9, o10] s).wp Q := by
  obtain ⟨l0, l1, l2, l3, l4, l5⟩ := h.lo
  have ll : left.length ≤ 1000 := by have := P.pm.length_eq; rw [List.length_append] at this; omega
  unfold ob0
  rw [z_sCn]
  simp [-List.map_map]
  refine ⟨isTy_ml h.m6, ?_⟩
  rw [lstAt_ml h.m6, lstP_some, List.length_map]
  refine wp_ne (T (n := left.length) (h.ef.bag k (by simp) hb) (by omega) (by omega)) ?_
  intro d1 s1 hh1
  obtain ⟨j, rfl, hj, e1⟩ := hh1
  have h1 := h.eff e1
  have hjl : j < left.length := by omega
  have hxj : (left.map D.str)[j]? = some (D.str left[j]) := by rw [List.getElem?_map, List.getElem?_eq_getElem hjl]; rfl
  rw [z_popN h1.m6 hxj (by rw [List.length_map]; omega), eraseIdx_map]
  have h2 := h1.s6 (l' := left.eraseIdx j)
  generalize s1.set p6 (.lst ((left.eraseIdx j).map D.str)) = s2 at h2 ⊢
  refine ⟨by rw [size_line]; decide, ?_⟩
  refine kind_drawS O (h2.ef.bag k (by simp) hb) fun kd s3 hkd e3 => ?_
  have h3 := h2.eff e3
  rw [z_nxt]
  unfold ob1
  rw [z_sCn]
  simp [-List.map_map]
  have hx : left[j] ∈ names := P.pm.mem_iff.mp (List.mem_append_right _ (List.getElem_mem hjl))
  have sk : ∀ y ∈ st, strOk y = true := P.stk hn
  have hp : (gv.map (·.1) ++ [left[j]] ++ left.eraseIdx j).Perm names := (pop_perm (List.getElem?_eq_getElem hjl)).trans P.pm
  have hlen : (left.eraseIdx j).length + 1 = left.length := by rw [List.length_eraseIdx_of_lt hjl]; omega
  rw [z_inStr (hn _ hx).ok (lstAt_ml h3.m4) sk, blP_bl]
  simp only [Bool.false_xor, decide_eq_true_eq]
  generalize left[j] = x at hx hp ⊢
  generalize left.eraseIdx j = left2 at h3 hp hlen ⊢
  by_cases c : x ∈ st
  · rw [if_pos c, z_nxt]
    refine ob2_ok hn hx h3 P hp (kd := "weak") (by decide +kernel) (fun e => absurd e (by decide +kernel)) gl sl fun s' st' gv' q9 q10 h' P' l1' l2' => hQ s' st' left2 gv' _ _ h' P' l1' l2' hlen
  · rw [if_neg c, z_nxt]
    exact ob2_ok hn hx h3 P hp hkd (fun _ => c) gl sl fun s' st' gv' q9 q10 h' P' l1' l2' => hQ s' st' left2 gv' _ _ h' P' l1' l2' hlen
omit hb nn nl in
theorem of_names {l1 : Nat} (hb : Bag s k) (m1 : mlAt s l1 = some (names.map D.str)) (h1 : l1 ≠ k) (ne : names ≠ []) (nl : names.length ≤ 1000) {P : D → Sto → Prop} {E : Str → Str → D → Sto → Prop} (hP : ∀ y s', y ∈ names → Eff [k] s s' → P (.str y) s') : (of_ [.ref k, .ref l1] s).wp P E := by
  refine wp_ne (O (k := k) (x := .ref l1) (xs := names.map D.str) hb (by rw [seqD_ref]; exact lstAt_ml m1) (by intro e; injection e with e; exact h1 e) (by simpa using ne) (by rw [List.length_map]; omega)) ?_
  rintro d s' ⟨hd, e⟩
  obtain ⟨y, hy, rfl⟩ := List.mem_map.mp hd
  exact hP y s' hy e
theorem oa3_ok {l1 : Nat} (h : ObI s0 s k p3 p4 p6 p7 p8 os st left gv nd) (ol : os.length ≤ 100) (hQ : ∀ s', ObI s0 s' k p3 p4 p6 p7 p8 (os ++ [(gv, nd)]) st left gv nd → Q.nx [some (.ref k), some (.ref l1), o2, some (.ref p3), some (.ref p4), o5, some (.ref p6), some (.ref p7), some (.ref p8), o9, o10] s') :
    (oa3 [some (.ref k), some (.ref l1), o2, some (.ref p3), some (.ref p4), o5, some (.ref p6), some (.ref p7), some (.ref p8), o9, o10] s).wp Q := by
  unfold oa3
  simp [-List.map_map]
  refine ⟨isTy_ml h.m3, ?_⟩
  rw [lstAt_ml h.m7, lstP_some, lstAt_ml h.m8, lstP_some]
  refine ⟨two_le_line, ?_⟩
  rw [h.m3, lstP_some]
  refine ⟨by rw [List.length_map, size_line]; omega, ?_⟩
  have eo : os.map obD ++ [D.tup [.tup (gv.map fcD), .tup (nd.map D.str)]] = (os ++ [(gv, nd)]).map obD := by rw [List.map_append]; rfl
  rw [eo]
  exact hQ _ h.s3
theorem oa2_ok {l1 : Nat} (m1 : mlAt s0 l1 = some (names.map D.str)) (h1 : l1 ≠ k) (ne : names ≠ []) (h : ObI s0 s k p3 p4 p6 p7 p8 os st left gv []) (ol : os.length ≤ 100) (hQ : ∀ s' nd o5, nd.length ≤ 3 → (∀ y ∈ nd, y ∈ names) → ObI s0 s' k p3 p4 p6 p7 p8 (os ++ [(gv, nd)]) st left gv nd → Q.nx [some (.ref k), some (.ref l1), o2, some (.ref p3), some (.ref p4), o5, some (.ref p6), some (.ref p7), some (.ref p8), o9, o10] s') :
    ((oa2 take of_) [some (.ref k), some (.ref l1), o2, some (.ref p3), some (.ref p4), o5, some (.ref p6), some (.ref p7), some (.ref p8), o9, o10] s).wp Q := by
  unfold oa2
  rw [z_sCn]
  simp [-List.map_map]
  refine wp_ne (T (h.ef.bag k (by simp) hb) (by decide) (by decide)) ?_
  intro d1 s1 hh1
  obtain ⟨N, rfl, hN, e1⟩ := hh1
  have ec : ((1 : Int) + (N : Int)) = ((1 + N : Nat) : Int) := by omega
  rw [z_addI, ec]
  simp [-List.map_map]
  have h2 := h.eff e1
  refine ⟨by omega, ?_⟩
  refine for_j (xs := rngD 0 (1 + N)) (by rw [rngD_len]; omega) (fun i e s' => ∃ nd o5, nd.length = i ∧ (∀ y ∈ nd, y ∈ names) ∧ ObI s0 s' k p3 p4 p6 p7 p8 os st left gv nd ∧ e = [some (.ref k), some (.ref l1), o2, some (.ref p3), some (.ref p4), o5, some (.ref p6), some (.ref p7), some (.ref p8), o9, o10]) (fun i e s' _ => rng_at) ?_ ⟨[], o5, rfl, by simp, h2, rfl⟩ ?_
  · rintro i d e s2 hd ⟨nd, p5, hi, hnd, h3, rfl⟩
    obtain ⟨him, rfl⟩ := rngD_get hd
    refine ⟨_, rfl, ?_⟩
    unfold oc0
    simp [-List.map_map]
    refine ⟨isTy_ml h3.m8, ?_⟩
    refine of_names T O hn (h3.ef.bag k (by simp) hb) (h3.ef.ml m1 (by simpa using h1)) h1 ne nl fun y s3 hy e3 => ?_
    have h4 := h3.eff e3
    rw [h4.m8, lstP_some]
    refine ⟨by rw [List.length_map, size_line]; omega, ?_⟩
    have en : nd.map D.str ++ [D.str y] = (nd ++ [y]).map D.str := by rw [List.map_append]; rfl
    rw [en]
    refine ⟨nd ++ [y], by simp [hi], fun z hz => ?_, h4.s8⟩
    rcases List.mem_append.mp hz with hz | hz
    · exact hnd z hz
    · rw [List.mem_singleton.mp hz]; exact hy
  · rintro e s2 ⟨nd, p5, hi, hnd, h3, rfl⟩
    rw [rngD_len] at hi
    dsimp only
    rw [z_nxt]
    exact oa3_ok T O hb hn nn nl h3 ol fun s' h' => hQ s' nd _ (by omega) hnd h'
theorem oa1_ok {l1 : Nat} (m1 : mlAt s0 l1 = some (names.map D.str)) (h1 : l1 ≠ k) (ne : names ≠ []) (h : ObI s0 s k p3 p4 p6 p7 p8 os st left [] []) (P : ObP names os st left []) (ol : os.length ≤ 10) (sl : st.length ≤ 50) (hQ : ∀ s' st' left' gv nd o5 o9 o10, gv.length ≤ 2 → st'.length ≤ st.length + 2 → nd.length ≤ 3 → (∀ y ∈ nd, y ∈ names) → ObP names os st' left' gv → ObI s0 s' k p3 p4 p6 p7 p8 (os ++ [(gv, nd)]) st' left' gv nd → Q.nx [some (.ref k), some (.ref l1), o2, some (.ref p3), some (.ref p4), o5, some (.ref p6), some (.ref p7), some (.ref p8), o9, o10] s') :
    ((oa1 take of_) [some (.ref k), some (.ref l1), o2, some (.ref p3), some (.ref p4), o5, some (.ref p6), some (.ref p7), some (.ref p8), o9, o10] s).wp Q := by
  have ll : left.length ≤ 1000 := by have := P.pm.length_eq; simp at this; omega
  unfold oa1
  rw [z_sCn]
  simp [-List.map_map]
  rw [lstAt_ml h.m6, lstP_some, List.length_map]
  obtain ⟨M, eM, hM0, hM3, hML⟩ : ∃ M : Nat, (if (left.length : Int) + 1 < 3 then (left.length : Int) + 1 else 3) = (M : Int) ∧ 0 < M ∧ M ≤ 3 ∧ M ≤ left.length + 1 := by
    by_cases c : (left.length : Int) + 1 < 3
    · exact ⟨left.length + 1, by rw [if_pos c]; omega, by omega, by omega, by omega⟩
    · exact ⟨3, by rw [if_neg c]; rfl, by omega, by omega, by omega⟩
  rw [eM]
  refine wp_ne (T (h.ef.bag k (by simp) hb) (by omega) (by omega)) ?_
  intro d1 s1 hh1
  obtain ⟨N, rfl, hN, e1⟩ := hh1
  have h2 := h.eff e1
  refine ⟨N, rfl, by omega, ?_⟩
  refine for_j (xs := rngD 0 N) (by rw [rngD_len]; omega) (fun i e s' => ∃ st' left' gv o5 o9 o10, gv.length = i ∧ st'.length ≤ st.length + i ∧ left'.length + i = left.length ∧ ObP names os st' left' gv ∧ ObI s0 s' k p3 p4 p6 p7 p8 os st' left' gv [] ∧ e = [some (.ref k), some (.ref l1), o2, some (.ref p3), some (.ref p4), o5, some (.ref p6), some (.ref p7), some (.ref p8), o9, o10]) (fun i e s' _ => rng_at) ?_ ⟨st, left, [], o5, o9, o10, rfl, by omega, by omega, P, h2, rfl⟩ ?_
  · rintro i d e s2 hd ⟨st', left', gv, p5, p9, p10, hi, hst, hle, P3, h3, rfl⟩
    obtain ⟨him, rfl⟩ := rngD_get hd
    refine ⟨_, rfl, ?_⟩
    refine ob0_ok T O hb hn nn nl h3 P3 (by omega) (by omega) (by omega) fun s4 st4 left4 gv4 q9 q10 h4 P4 g4 t4 l4 => ?_
    exact ⟨st4, left4, gv4, _, _, _, by omega, by omega, by omega, P4, h4, rfl⟩
  · rintro e s2 ⟨st', left', gv, p5, p9, p10, hi, hst, hle, P3, h3, rfl⟩
    rw [rngD_len] at hi hst hle
    dsimp only
    rw [z_nxt]
    exact oa2_ok T O hb hn nn nl m1 h1 ne h3 (by omega) fun s' nd q5 hnd hin h' => hQ s' st' left' gv nd _ _ _ (by omega) (by omega) hnd hin P3 h'
end
/-- the objects drawn so far -/
structure ObsW (names : List Str) (os : List ObA) : Prop where
  ob : ∀ o ∈ os, ObOk o
  st : (strongsO os).Nodup
  sub : ∀ o ∈ os, (∀ p ∈ o.1, p.1 ∈ names) ∧ ∀ x ∈ o.2, x ∈ names
  l1 : ∀ o ∈ os, o.1.length ≤ 2 ∧ o.2.length ≤ 3
theorem strongs_snoc (os : List ObA) (o : ObA) : strongsO (os ++ [o]) = strongsO os ++ (o.1.filter fun p => decide (p.2 = ("strong" : Str))).map (·.1) := by
  unfold strongsO
  rw [List.flatMap_append]
  simp
theorem ObsW.snoc {names : List Str} (hn : ∀ x ∈ names, IsName x) (nn : names.Nodup) {os : List ObA} (h : ObsW names os) {st left : List Str} {gv : List (Str × Str)} {nd : List Str} (P : ObP names os st left gv) (hg : gv.length ≤ 2) (hl : nd.length ≤ 3) (hd : ∀ y ∈ nd, y ∈ names) : ObsW names (os ++ [(gv, nd)]) ∧ st = strongsO (os ++ [(gv, nd)]) := by
  have e : st = strongsO (os ++ [(gv, nd)]) := by rw [strongs_snoc]; exact P.se
  have sub : ∀ p ∈ gv, p.1 ∈ names := fun p hp => P.pm.mem_iff.mp (List.mem_append_left _ (List.mem_map_of_mem hp))
  have gnd : (gv.map (·.1)).Nodup := (List.nodup_append.mp (P.pm.nodup_iff.mpr nn)).1
  refine ⟨⟨fun o ho => ?_, e ▸ P.sn, fun o ho => ?_, fun o ho => ?_⟩, e⟩
  · rcases List.mem_append.mp ho with ho | ho
    · exact h.ob o ho
    · rw [List.mem_singleton.mp ho]
      exact ⟨fun p hp => hn _ (sub p hp), P.kd, gnd, fun x hx => hn x (hd x hx), by show gv.length ≤ 100; omega, by show nd.length ≤ 100; omega⟩
  · rcases List.mem_append.mp ho with ho | ho
    · exact h.sub o ho
    · rw [List.mem_singleton.mp ho]
      exact ⟨sub, hd⟩
  · rcases List.mem_append.mp ho with ho | ho
    · exact h.l1 o ho
    · rw [List.mem_singleton.mp ho]
      exact ⟨hg, hl⟩
theorem ObsW.lens {names : List Str} : ∀ {os : List ObA}, ObsW names os → (defsO os).length ≤ 2 * os.length ∧ (wantsO os).length ≤ 3 * os.length := by
  intro os h
  replace h := h.l1
  induction os with
  | nil => exact ⟨Nat.le_refl _, Nat.le_refl _⟩
  | cons o os ih =>
    obtain ⟨i1, i2⟩ := ih fun x hx => h x (List.mem_cons_of_mem _ hx)
    obtain ⟨j1, j2⟩ := h o (by simp)
    unfold defsO wantsO at *
    rw [List.flatMap_cons, List.flatMap_cons, List.length_append, List.length_append, List.length_cons]
    omega
theorem ObsW.ok {names : List Str} {os : List ObA} (h : ObsW names os) (hl : os.length ≤ 100) : ObsOk os := by
  obtain ⟨h1, h2⟩ := h.lens
  exact ⟨h.ob, h.st, by omega⟩
section
variable {take of_ : MF} (T : TakeOk take) (O : OfOk of_) {s : Sto} {k l1 : Nat} {names : List Str} (hb : Bag s k) (hn : ∀ x ∈ names, IsName x) (nn : names.Nodup) (nl : names.length ≤ 1000) (m1 : mlAt s l1 = some (names.map D.str)) (h1 : l1 ≠ k) (ne : names ≠ [])
include T O hb hn nn nl m1 h1 ne
theorem objects_ok : (fnM 2 11 (tObjectsW take of_) [.ref k, .ref l1] s).wp fun d s' => Eff [k] s s' ∧ ∃ os, d = .tup (os.map obD) ∧ ObsW names os ∧ os.length ≤ 3 := by
  refine wp_of fun Pd hP => ?_
  have hk := hb.lt
  unfold tObjectsW
  rw [z_fnM (by rfl), z_sCn]
  simp [-List.map_map]
  have ea : Eff [k] s (s ++ [SO.lst [], SO.lst []]) := Eff.app
  have g3 : mlAt (s ++ [SO.lst [], SO.lst []]) s.length = some [] := mlAt_some (by rw [app_at (j := 0) (by omega)]; rfl)
  have g4 : mlAt (s ++ [SO.lst [], SO.lst []]) (s.length + 1) = some [] := mlAt_some (by rw [app_at (j := 1) rfl]; rfl)
  generalize s ++ [SO.lst [], SO.lst []] = s1 at ea g3 g4 ⊢
  rw [z_nxt]
  unfold ox1
  rw [z_sCn]
  simp [-List.map_map]
  refine wp_ne (T (ea.bag k (by simp) hb) (by decide) (by decide)) ?_
  intro d2 s2 hh2
  obtain ⟨N, rfl, hN, e2⟩ := hh2
  have ec : ((1 : Int) + (N : Int)) = ((1 + N : Nat) : Int) := by omega
  rw [z_addI, ec]
  simp [-List.map_map]
  refine ⟨by omega, ?_⟩
  refine for_j (xs := rngD 0 (1 + N)) (by rw [rngD_len]; omega) (fun i e s' => ∃ os o2 o5 o6 o7 o8 o9 o10, os.length = i ∧ Eff [k] s s' ∧ mlAt s' s.length = some (os.map obD) ∧ mlAt s' (s.length + 1) = some ((strongsO os).map D.str) ∧ ObsW names os ∧ e = [some (.ref k), some (.ref l1), o2, some (.ref s.length), some (.ref (s.length + 1)), o5, o6, o7, o8, o9, o10]) (fun i e s' _ => rng_at) ?_ ⟨[], none, none, none, none, none, none, none, rfl, ea.trans e2, e2.ml g3 (by simp; omega), e2.ml g4 (by simp; omega), ⟨by simp, List.nodup_nil, by simp, by simp⟩, rfl⟩ ?_
  · rintro i d e s3 hd ⟨os, p2, p5, p6, p7, p8, p9, p10, hi, e3, q3, q4, W, rfl⟩
    obtain ⟨him, rfl⟩ := rngD_get hd
    refine ⟨_, rfl, ?_⟩
    unfold oa0
    rw [z_sCn]
    simp [-List.map_map]
    have n1 := e3.ml m1 (by simpa using h1)
    rw [lstAt_ml n1, lstP_some]
    refine ⟨by rw [List.length_map, size_line]; omega, ?_⟩
    refine ⟨_, _, _, ⟨rfl, rfl, rfl⟩, ?_⟩
    rw [z_nxt]
    have eb : Eff [k] s3 (s3 ++ [SO.lst (names.map D.str), SO.lst [], SO.lst []]) := Eff.app
    have g6 : mlAt (s3 ++ [SO.lst (names.map D.str), SO.lst [], SO.lst []]) s3.length = some (names.map D.str) := mlAt_some (by rw [app_at (j := 0) (by omega)]; rfl)
    have g7 : mlAt (s3 ++ [SO.lst (names.map D.str), SO.lst [], SO.lst []]) (s3.length + 1) = some [] := mlAt_some (by rw [app_at (j := 1) rfl]; rfl)
    have g8 : mlAt (s3 ++ [SO.lst (names.map D.str), SO.lst [], SO.lst []]) (s3.length + 1 + 1) = some [] := mlAt_some (by rw [app_at (j := 2) rfl]; rfl)
    generalize s3 ++ [SO.lst (names.map D.str), SO.lst [], SO.lst []] = s4 at eb g6 g7 g8 ⊢
    have hl4 := lstAt_lt (lstAt_ml q4)
    have hl3 : s.length ≤ s3.length := e3.le
    have I : ObI s s4 k s.length (s.length + 1) s3.length (s3.length + 1) (s3.length + 1 + 1) os (strongsO os) names [] [] := ⟨e3.trans eb, eb.ml q3 (by simp; omega), eb.ml q4 (by simp; omega), g6, g7, g8, by omega⟩
    have P : ObP names os (strongsO os) names [] := ⟨by simp, by simp, by simp, W.st, fun y hy => by
      obtain ⟨o, ho, hy⟩ := List.mem_flatMap.mp hy
      obtain ⟨p, hp, rfl⟩ := List.mem_map.mp hy
      exact (W.sub o ho).1 p (List.mem_filter.mp hp).1⟩
    have sl := strongs_len os
    have ln := W.lens
    refine oa1_ok T O hb hn nn nl m1 h1 ne I P (by omega) (by omega) fun s5 st' left' gv nd q5 q9 q10 hg hst hnd hin P5 I5 => ?_
    obtain ⟨W5, es⟩ := W.snoc hn nn P5 hg hnd hin
    refine ⟨os ++ [(gv, nd)], by simp [hi], I5.ef, I5.m3, by rw [← es]; exact I5.m4, W5, _, _, _, _, _, _, _, rfl⟩
  · rintro e s3 ⟨os, p2, p5, p6, p7, p8, p9, p10, hi, e3, q3, q4, W, rfl⟩
    rw [rngD_len] at hi
    dsimp only
    rw [z_nxt]
    unfold ox2
    simp [-List.map_map]
    rw [lstAt_ml q3, lstP_some]
    exact hP _ _ ⟨e3, os, rfl, W, by omega⟩
end
end Z

set_option Elab.async false
set_option linter.all false
set_option maxRecDepth 100000
set_option maxHeartbeats 4000000
namespace Z
open PySem PySem.Spec PyProof.Rows L2 TL
open PySem.PyData (strOk)
/-! ### face_of, where its answer is a plain tuple -/
def fv6T : SM := (sR (mN fTuple (aC (mN fSortI (aC (mV 3) aN)) aN)))
def fv5T (c : D) : SM := (sC (sF (iSq (mC c)) (gN 4) fo5b) fv6T)
def fv4T (c : D) : SM := (sC (sA 3 (mDc2 (iSq (mV 0)) (gT [(gN 6), (gN 7)]) tY (iSq (mV 7)) (gN 5) tY (mV 5) (mC (.str "wanted")) [6, 7, 5] [5])) (fv5T c))
def fv3T (st : SM) (c : D) : SM := (sC (sI (toB (m2 dNotN2 (mV 2) (mC .non))) st sN) (fv4T c))
def fv2T (FT : MF) (st : SM) (c : D) : SM := (sC (sA 2 (mN FT (aC (mV 1) aN))) (fv3T st c))
def fv1T (FT : MF) (st : SM) (c : D) : SM := (sC (sA 1 (mN fSortA (aC (mL2 (iSq (mV 0)) (gT [(gN 6), (gN 7)]) tY (iSq (mV 6)) (gT [(gN 5), (gN 4)]) (toB (m2 dEq (mV 4) (mC (.str "strong")))) (mV 5) [6, 7, 5, 4] [5, 4]) aN))) (fv2T FT st c))
def tFaceOfV (LO FT : MF) (st : SM) (c : D) : SM := (sC (sE (mN LO (aC (mV 0) aN))) (fv1T FT st c))
section
variable {os : List ObA} {d : D} {s : Sto} {Q : En} {o1 o2 o4 o5 o6 o7 o8 : Option D} (h : ObsOk os)
include h
theorem fv6_ok {l : Nat} (hl : s[l]? = some (.dict false (facePs (wordsO os)))) (hQ : ∀ s', Eff [] s s' → Q.rt (.tup (faceDs (faceO os))) s') :
    (fv6T [some d, o1, o2, some (.ref l), o4, o5, o6, o7, o8] s).wp Q := by
  obtain ⟨h1, h2, h3⟩ := h.words
  have ok : ∀ p ∈ wordsO os, okF p := fun p hp => ⟨(h1 p hp).ok, (by decide +kernel : ∀ w ∈ wordL, strOk w = true) _ (h2 p hp)⟩
  unfold fv6T
  simp [-List.map_map]
  rw [sortI_face hl ok]
  have e1 : Eff [] s (s ++ [SO.lst ((sortF (wordsO os)).map fcD)]) := Eff.push
  have m1 : mlAt (s ++ [SO.lst ((sortF (wordsO os)).map fcD)]) s.length = some ((sortF (wordsO os)).map fcD) := mlAt_push
  generalize s ++ [SO.lst ((sortF (wordsO os)).map fcD)] = s1 at e1 m1 ⊢
  rw [z_tupL, lstAt_ml m1, lstP_some]
  exact hQ _ e1
theorem fv4_ok (hd : SeqOf s d (os.map obD)) (o3 : Option D) (hQ : ∀ s', Eff [] s s' → Q.rt (.tup (faceDs (faceO os))) s') :
    (fv4T (.tup [.str "weak", .str "common", .str "strong"]) [some d, o1, o2, o3, o4, o5, o6, o7, o8] s).wp Q := by
  have hlen := h.len
  obtain ⟨j, hi, hj⟩ := iSq_of (e := [some d, o1, o2, o3, o4, o5, o6, o7, o8]) (i := 0) rfl hd
  have dc := dc2_pure (mi := iSq (mV 0)) (g := gT [(gN 6), (gN 7)]) (t := tY) (mi1 := iSq (mV 7)) (g1 := gN 5) (t1 := tY) (mk := mV 5) (mv := mC (.str "wanted")) (vs := [6, 7, 5]) (vs1 := [5]) (e := [some d, o1, o2, o3, o4, o5, o6, o7, o8]) (Zs := obWs) (F := fun _ z => some (z, D.str "wanted")) (s0 := s) (j := j) (xs := os.map obD) hi hj (fun x hx => by
    obtain ⟨o, ho, rfl⟩ := List.mem_map.mp hx
    refine ⟨_, rfl, fun s => rfl, fun s => rfl, fun z hz => ?_⟩
    obtain ⟨p, hp, rfl⟩ := List.mem_map.mp (show z ∈ o.2.map D.str from hz)
    exact ⟨_, rfl, fun s => ⟨rfl, rfl, rfl, rfl⟩⟩) (by rw [flat_obWs, size_line]; omega)
  rw [ents0_D, show (mergeD [] (facePs (ents0 os))) = facePs (mergeF [] (ents0 os)) from mergeD_face _ []] at dc
  have l0 : (mergeF [] (ents0 os)).length ≤ 1000 := by
    have := mergeF_len (ents0 os) []
    have h2 : (ents0 os).length = (wantsO os).length := by
      unfold ents0 wantsO
      rw [List.length_flatMap, List.length_flatMap]
      congr 1
      exact List.map_congr_left fun o _ => List.length_map _
    rw [List.length_nil] at this
    omega
  unfold fv4T
  rw [z_sCn]
  simp [-List.map_map]
  rw [dc, z_ok]
  have e1 : Eff [] s (s ++ [SO.dict false (facePs (mergeF [] (ents0 os)))]) := Eff.push
  have i1 : (s ++ [SO.dict false (facePs (mergeF [] (ents0 os)))])[s.length]? = some (.dict false (facePs (mergeF [] (ents0 os)))) := by simp
  have hl1 : (s ++ [SO.dict false (facePs (mergeF [] (ents0 os)))]).length = s.length + 1 := by simp
  generalize s ++ [SO.dict false (facePs (mergeF [] (ents0 os)))] = s1 at e1 i1 hl1 ⊢
  rw [z_nxt]
  unfold fv5T
  rw [z_sCn]
  simp [-List.map_map]
  have kl : ∀ k : Str, (mergeF [] (entsK os k)).length ≤ 1000 := fun k => by
    have := mergeF_len (entsK os k) []
    have h2 : (entsK os k).length ≤ (defsO os).length := entsK_len os k
    rw [List.length_nil] at this
    omega
  have fl : ∀ i, ((kinds.take i).foldl (fun w k => mergeF w (mergeF [] (entsK os k))) (mergeF [] (ents0 os))).length ≤ 10000 := by
    intro i
    have : ∀ (ks : List Str) (f : FaceA), (ks.foldl (fun w k => mergeF w (mergeF [] (entsK os k))) f).length ≤ f.length + 1000 * ks.length := by
      intro ks
      induction ks with
      | nil => intro f; exact Nat.le_refl _
      | cons k ks ih =>
        intro f
        have h1 := ih (mergeF f (mergeF [] (entsK os k)))
        have h2 := mergeF_len (mergeF [] (entsK os k)) f
        have h3 := kl k
        rw [List.foldl_cons, List.length_cons]
        omega
    have h1 := this (kinds.take i) (mergeF [] (ents0 os))
    have h2 : (kinds.take i).length ≤ 3 := by rw [List.length_take]; exact Nat.min_le_right _ _
    omega
  refine for_j (xs := kinds.map D.str) rfl (fun i e s' => s'[s.length]? = some (.dict false (facePs ((kinds.take i).foldl (fun w k => mergeF w (mergeF [] (entsK os k))) (mergeF [] (ents0 os))))) ∧ s1.length ≤ s'.length ∧ (∀ i, i < s1.length → i ≠ s.length → s'[i]? = s1[i]?) ∧ ∃ o4 o5 o6 o7 o8, e = [some d, o1, o2, some (.ref s.length), o4, o5, o6, o7, o8]) (fun i e s' hI => rfl) ?_ ⟨i1, Nat.le_refl _, fun _ _ _ => rfl, _, _, _, _, _, rfl⟩ ?_
  · rintro i dd e s5 hd5 ⟨g5, hl5, k5, p4, p5, p6, p7, p8, rfl⟩
    rw [List.getElem?_map, Option.map_eq_some_iff] at hd5
    obtain ⟨k, hk, rfl⟩ := hd5
    refine ⟨_, rfl, ?_⟩
    have hs5 : SeqOf s5 d (os.map obD) := by
      rcases hd with hd | ⟨n, hd1, hd2⟩
      · exact .inl hd
      · refine .inr ⟨n, hd1, ?_⟩
        have hn := lstAt_lt hd2
        have h1 := e1.lst hd2 (by simp)
        unfold lstAt at h1 ⊢
        rw [k5 n (by omega) (by omega)]
        exact h1
    refine fo5b_ok h (kinds_ok (List.mem_of_getElem? hk)) hs5 g5 (fl i) fun s6 q4 q5 q6 q7 q8 k6 hl6 g6 => ⟨?_, by omega, fun i hi hne => by rw [k6 i (by omega) hne, k5 i hi hne], _, _, _, _, _, rfl⟩
    rw [List.take_add_one, hk, List.foldl_append]
    exact g6
  · rintro e s5 ⟨g5, hl5, k5, p4, p5, p6, p7, p8, rfl⟩
    rw [List.length_map, List.take_length] at g5
    show nxt _ _ _ _
    rw [z_nxt]
    refine fv6_ok h g5 fun s' e' => hQ s' ?_
    refine Eff.trans ⟨by omega, fun i hi _ => ?_, fun k hk => by simp at hk⟩ e'
    rw [k5 i (by omega) (by omega)]
    exact e1.eq i hi (by simp)
theorem face_of_okV {LO FT : MF} {st : SM} {Sq : Sto → D → List D → Prop} (hsq : ∀ {s d xs}, Sq s d xs → SeqOf s d xs) (hL : ∀ {os : List ObA}, (∀ o ∈ os, ObOk o) → ∀ {s : Sto} {d : D}, Sq s d (os.map obD) → (LO [d] s).wp fun d s' => Eff [] s s') (hT : TwiceOk FT) (hd : Sq s d (os.map obD)) :
    (fnM 1 9 (tFaceOfV LO FT st (.tup [.str "weak", .str "common", .str "strong"])) [d] s).wp fun d' s' => Eff [] s s' ∧ d' = .tup (faceDs (faceO os)) := by
  refine wp_of fun P hP => ?_
  have hlen := h.len
  unfold tFaceOfV
  rw [z_fnM (by rfl), z_sCn]
  simp [-List.map_map]
  refine wp_ne (hL h.ob hd) ?_
  rintro _ s1 e1
  have hd1 := (hsq hd).eff0 e1
  show nxt _ _ _ _
  rw [z_nxt]
  unfold fv1T
  rw [z_sCn]
  simp [-List.map_map, -z_iSq]
  refine z_iSqS rfl hd1 fun j hj => ?_
  have sl := strongs_len os
  refine wp_ne (lc2RR (β := Str × Str) (ks := []) (fun d o => d = obD o) (fun o => ((o.1.filter fun p => decide (p.2 = ("strong" : Str))).map (·.1)).map D.str) (as := os) AllR.of_map (hj) (fun _ z => by simp at z) (by
    rw [size_line]
    have e : (os.flatMap fun o : ObA => ((o.1.filter fun p => decide (p.2 = ("strong" : Str))).map (·.1)).map D.str) = (strongsO os).map D.str := by unfold strongsO; rw [List.map_flatMap]
    rw [e, List.length_map]
    omega) fun dd o s2 hdo ho ef _ _ => ?_) ?_
  · subst hdo
    refine ⟨_, rfl, ?_⟩
    simp [-List.map_map, obD]
    refine ⟨Eff.refl, o.1.map fcD, o.1, fun d p => d = fcD p, AllR.of_map, fun p => if p.2 = ("strong" : Str) then some (.str p.1) else none, ?_, jok_tup (by simp), fun d2 a b s3 hd2 hm e3 hl3 => ?_⟩
    · clear ho hd hj
      induction o.1 with
      | nil => rfl
      | cons p ps ih =>
        rw [List.filter_cons, List.filterMap_cons]
        by_cases c : p.2 = ("strong" : Str)
        · rw [if_pos (decide_eq_true c), if_pos c, List.map_cons, List.map_cons, ih]
        · rw [if_neg (by simpa using c), if_neg c, ih]
    · subst hd2
      refine ⟨_, rfl, ?_⟩
      simp [-List.map_map, fcD]
      by_cases c : b = ("strong" : Str)
      · simp [c]
        exact Eff.refl
      · simp [c]
        exact Eff.refl
  rintro _ s2 ⟨rfl, e2, hlt2, m2⟩
  have es : (os.flatMap fun o : ObA => ((o.1.filter fun p => decide (p.2 = ("strong" : Str))).map (·.1)).map D.str) = (strongsO os).map D.str := by unfold strongsO; rw [List.map_flatMap]
  rw [es] at m2
  have so : ∀ x ∈ strongsO os, strOk x = true := fun x hx => by
    unfold strongsO at hx
    obtain ⟨o, ho, hx⟩ := List.mem_flatMap.mp hx
    obtain ⟨p, hp, rfl⟩ := List.mem_map.mp hx
    exact ((h.ob o ho).nm p (List.mem_filter.mp hp).1).ok
  obtain ⟨c1, c2⟩ := sortD_strs (s := s2) so
  rw [z_sortL, lstAt_ml m2, lstP_some]
  refine ⟨c1, ?_⟩
  rw [c2]
  have e3 : Eff [] s2 (s2 ++ [SO.lst ((sortS (strongsO os)).map D.str)]) := Eff.push
  have m3 : mlAt (s2 ++ [SO.lst ((sortS (strongsO os)).map D.str)]) s2.length = some ((sortS (strongsO os)).map D.str) := mlAt_push
  generalize s2 ++ [SO.lst ((sortS (strongsO os)).map D.str)] = s3 at e3 m3 ⊢
  rw [z_nxt]
  unfold fv2T
  rw [z_sCn]
  simp [-List.map_map]
  have sp := sortS_perm (strongsO os)
  refine wp_ne (hT (lstAt_ml m3) (sp.nodup_iff.mpr h.st) (fun x hx => so x (sp.mem_iff.mp hx)) (by rw [sp.length_eq]; omega)) ?_
  rintro _ s4 ⟨rfl, e4⟩
  rw [z_nxt]
  unfold fv3T
  rw [z_sCn]
  simp [-List.map_map]
  show nxt _ _ _ _
  rw [z_nxt]
  have e14 := ((e1.trans e2).trans e3).trans e4
  exact fv4_ok h ((hsq hd).eff0 e14) none fun s' e' => hP _ _ ⟨e14.trans e', rfl⟩
end
end Z

namespace Z
open PySem PySem.Spec PyProof.Rows L2
def c_KINDS : D := .tup [.str "weak", .str "common", .str "strong"]
def c_WORDS : D := .tup [.str "wanted", .str "weak", .str "common", .str "strong"]
abbrev itb : Itb := []
def s__law_bag : SM := (sC (sA 2 (mIf (toB (m2 dLt (mV 1) (mN fLen (aC (mV 0) aN)))) (m2 dIx (mV 0) (mV 1)) (mC (.int 0)))) (sC (sA 3 (m2 dAdd (m2 dMul2 (mC (.int 4447)) (mV 1)) (mC (.int 829)))) (sC (sF (iEn (aC (mSl dSl (mV 0) oN (oS (mC (.int 60)))) aN)) (gT [(gN 4), (gN 5)]) (sA 3 (m2 dMod (mN fInt (aC (m2 dAdd (m2 dAdd (m2 dMul2 (mV 3) (mC (.int 40014))) (m2 dMod (mN fInt (aC (mV 5) aN)) (mC (.int 2147483563)))) (m2 dMul2 (mC (.int 331)) (mV 4))) aN)) (mC (.int 2147483399))))) (sR (mN fLst (aC (mIf (toB (m2 dGe (mN fAbs (aC (mV 2) aN)) (m2 dPow (mC (.int 10)) (mC (.int 18))))) (mN fAbs (aC (mV 2) aN)) (mC (.int 0))) (aC (mV 3) aN)))))))
def m__law_bag : MF := fnM 2 6 s__law_bag
def s__law_face : SM := (sC (sP 1 2 (aC mDN (aC (mN fLst (aC (mC (.str "wanted")) (aC (mC (.str "weak")) (aC (mC (.str "common")) (aC (mC (.str "strong")) aN))))) aN))) (sC (sF (iSq (mV 0)) (gT [(gN 3), (gN 4)]) (sF (iSq (m2 dAdd (mL (iSq (mV 4)) (gN 5) tY (mN fTup (aC (mV 5) (aC (mC (.str "wanted")) aN))) [5]) (mN fList (aC (mV 3) aN)))) (gT [(gN 5), (gN 6)]) (sI (toB (m2 dGe (mBM "list" fIdxL (mV 2) (aC (mV 6) aN)) (mBM "list" fIdxL (mV 2) (aC (mGet2 (mV 1) (mV 5) (mC (.str "wanted"))) aN)))) (sX xSetD (mV 1) (mV 5) (mV 6)) sN))) (sR (mN fTuple (aC (mN fSortI (aC (mV 1) aN)) aN)))))
def m__law_face : MF := fnM 1 7 s__law_face
def s__law_few : SM := (sR (mIf (toB (m2 dNe (mV 0) (mN fLst aN))) (mV 1) (mN fMin2 (aC (mV 1) (aC (mC (.int 2)) aN)))))
def m__law_few : MF := fnM 2 2 s__law_few
def s__law_take : SM := (sC (sI (toB (m2 dGt (m2 dIx (mV 0) (mC (.int 0))) (mC (.int 0)))) (sC (sA 2 (m2 dMod (mN fInt (aC (m2 dIx (mV 0) (mC (.int 0))) aN)) (mV 1))) (sC (sX xSetL (mV 0) (mC (.int 0)) (m2 dDiv (m2 dIx (mV 0) (mC (.int 0))) (mV 1))) (sR (mV 2)))) sN) (sC (sX xSetL (mV 0) (mC (.int 1)) (m2 dMod (mN fInt (aC (m2 dAdd (m2 dMul2 (m2 dIx (mV 0) (mC (.int 1))) (mC (.int 48271))) (mC (.int 90001))) aN)) (mC (.int 2147483629)))) (sR (m2 dMod (m2 dDiv (m2 dMod (mN fInt (aC (m2 dMul2 (m2 dDiv (m2 dIx (mV 0) (mC (.int 1))) (mC (.int 11))) (mC (.int 39373))) aN)) (mC (.int 2147483647))) (mC (.int 64))) (mV 1)))))
def m__law_take : MF := fnM 2 3 s__law_take
def s__law_of : SM := (sR (m2 dIx (mV 1) (mN m__law_take (aC (mV 0) (aC (mN fLen (aC (mV 1) aN)) aN)))))
def m__law_of : MF := fnM 2 2 s__law_of
def s__law_names : SM := (sC (sP 3 4 (aC (mN (fListZ fList) (aC (mC (.str "abcdefghijklmnopqrstuvwxyz")) aN)) (aC (mN fLst aN) aN))) (sC (sP 5 6 (aC (mC (.str "")) (aC (m2 dEq (mN m__law_take (aC (mV 0) (aC (mC (.int 2)) aN))) (mC (.int 0))) aN))) (sC (sF (iR1 (aC (mN m__law_take (aC (mV 0) (aC (mC (.int 8)) aN))) aN)) (gN 2) (sA 5 (m2 dAdd (mV 5) (mN m__law_of (aC (mV 0) (aC (mN fLst (aC (mC (.str "a")) (aC (mC (.str "z")) (aC (mC (.str "q")) (aC (mC (.str "m")) aN))))) aN)))))) (sC (sF (iR1 (aC (mV 1) aN)) (gN 2) (sC (sA 7 (mBM "list" (mtL lPopAt) (mV 3) (aC (mN m__law_take (aC (mV 0) (aC (mN fLen (aC (mV 3) aN)) aN))) aN))) (sE (mBM "list" (mtL lAppend) (mV 4) (aC (mIf (toT (mV 6)) (m2 dAdd (mV 7) (mV 5)) (m2 dAdd (mV 5) (mV 7))) aN))))) (sR (mV 4))))))
def m__law_names : MF := fnM 2 8 s__law_names
def s__law_objects : SM := (sC (sP 3 4 (aC (mN fLst aN) (aC (mN fLst aN) aN))) (sC (sF (iR1 (aC (m2 dAdd (mC (.int 1)) (mN m__law_take (aC (mV 0) (aC (mC (.int 3)) aN)))) aN)) (gN 2) (sC (sP3 6 7 8 (aC (mN fList (aC (mV 1) aN)) (aC (mN fLst aN) (aC (mN fLst aN) aN)))) (sC (sF (iR1 (aC (mN m__law_take (aC (mV 0) (aC (mN fMin2 (aC (mC (.int 3)) (aC (m2 dAdd (mN fLen (aC (mV 6) aN)) (mC (.int 1))) aN))) aN))) aN)) (gN 5) (sC (sP 10 9 (aC (mBM "list" (mtL lPopAt) (mV 6) (aC (mN m__law_take (aC (mV 0) (aC (mN fLen (aC (mV 6) aN)) aN))) aN)) (aC (mN m__law_of (aC (mV 0) (aC (mN fLst (aC (mC (.str "weak")) (aC (mC (.str "common")) (aC (mC (.str "strong")) aN)))) aN))) aN))) (sC (sA 9 (mIf (toB (m2 (dInB false) (mV 10) (mV 4))) (mC (.str "weak")) (mV 9))) (sC (sE (mBM "list" (mtL lAppend) (mV 7) (aC (mN fTup (aC (mV 10) (aC (mV 9) aN))) aN))) (sI (toB (m2 dEq (mV 9) (mC (.str "strong")))) (sE (mBM "list" (mtL lAppend) (mV 4) (aC (mV 10) aN))) sN))))) (sC (sF (iR1 (aC (m2 dAdd (mC (.int 1)) (mN m__law_take (aC (mV 0) (aC (mC (.int 3)) aN)))) aN)) (gN 5) (sE (mBM "list" (mtL lAppend) (mV 8) (aC (mN m__law_of (aC (mV 0) (aC (mV 1) aN))) aN)))) (sE (mBM "list" (mtL lAppend) (mV 3) (aC (mN fTup (aC (mN fTuple (aC (mV 7) aN)) (aC (mN fTuple (aC (mV 8) aN)) aN))) aN))))))) (sR (mN fTuple (aC (mV 3) aN)))))
def m__law_objects : MF := fnM 2 11 s__law_objects
def s__law_parted : SM := (sC (sA 1 (mN fLst aN)) (sC (sF (iSq (mV 0)) (gT [(gN 2), (gN 3)]) (sC (sE (mBM "list" lExtend (mV 1) (aC (mL (iSq (mV 2)) (gN 4) tY (mN fTup (aC (mN fTup (aC (mV 4) aN)) (aC (mN fTup aN) aN))) [4]) aN))) (sE (mBM "list" lExtend (mV 1) (aC (mL (iSq (mV 3)) (gN 5) tY (mN fTup (aC (mN fTup aN) (aC (mN fTup (aC (mV 5) aN)) aN))) [5]) aN))))) (sR (mV 1))))
def m__law_parted : MF := fnM 1 6 s__law_parted
def s__law_turned : SM := (sC (sP 2 3 (aC (mN fList (aC (mV 1) aN)) (aC (mN fLst aN) aN))) (sC (sW 1000 (toB (m2 dNe (mV 2) (mN fLst aN))) (sE (mBM "list" (mtL lAppend) (mV 3) (aC (mBM "list" (mtL lPopAt) (mV 2) (aC (mN m__law_take (aC (mV 0) (aC (mN fLen (aC (mV 2) aN)) aN))) aN)) aN)))) (sR (mV 3))))
def m__law_turned : MF := fnM 2 4 s__law_turned
def s_is_kind : SM := (sR (mAnd (mIsi "str" (mV 0)) (m2 (dInB false) (mV 0) (mC c_KINDS))))
def m_is_kind : MF := fnM 1 1 s_is_kind
def s_is_name : SM := (sC (sI (bOr (bNot (toT (mIsi "str" (mV 0)))) (bNot (toB (mCh dLe dLe (mC (.int 1)) (mN fLen (aC (mV 0) aN)) (mC (.int 8)))))) (sR (mC (.bl false))) sN) (sR (mN (fAllAny true) (aC (mL (iAny itb (mV 0)) (gN 1) tY (m2 (dInB false) (mV 1) (mC (.str "abcdefghijklmnopqrstuvwxyz"))) [1]) aN))))
def m_is_name : MF := fnM 1 2 s_is_name
def s_are_defines : SM := (sC (sI (bOr (bNot (toT (mIsi "tuple" (mV 0)))) (bNot (toT (mN (fAllAny true) (aC (mL (iSq (mV 0)) (gN 3) tY (mAnd (mIsi "tuple" (mV 3)) (m2 dEq (mN fLen (aC (mV 3) aN)) (mC (.int 2)))) [3]) aN))))) (sR (mC (.bl false))) sN) (sR (mN (fAllAny true) (aC (mL (iSq (mV 0)) (gT [(gN 1), (gN 2)]) tY (mAnd (mN m_is_name (aC (mV 1) aN)) (mN m_is_kind (aC (mV 2) aN))) [1, 2]) aN))))
def m_are_defines : MF := fnM 1 4 s_are_defines
def s_twice_in : SM := (sC (sA 1 (mN fLst aN)) (sC (sF (iSq (mV 0)) (gN 2) (sC (sI (toB (m2 (dInB false) (mV 2) (mV 1))) (sR (mV 2)) sN) (sE (mBM "list" (mtL lAppend) (mV 1) (aC (mV 2) aN))))) (sR (mC .non))))
def m_twice_in : MF := fnM 1 3 s_twice_in
def s_is_object : SM := (sC (sI (bOr (bNot (toT (mIsi "tuple" (mV 0)))) (toB (m2 dNe (mN fLen (aC (mV 0) aN)) (mC (.int 2))))) (sR (mC (.bl false))) sN) (sC (sG (gT [(gN 1), (gN 2)]) (mV 0)) (sC (sI (bOr (bNot (toT (mN m_are_defines (aC (mV 1) aN)))) (bOr (bNot (toT (mIsi "tuple" (mV 2)))) (bNot (toT (mN (fAllAny true) (aC (mL (iSq (mV 2)) (gN 4) tY (mN m_is_name (aC (mV 4) aN)) [4]) aN)))))) (sR (mC (.bl false))) sN) (sR (m2 dIsN2 (mN m_twice_in (aC (mL (iSq (mV 1)) (gN 3) tY (m2 dIx (mV 3) (mC (.int 0))) [3]) aN)) (mC .non))))))
def m_is_object : MF := fnM 1 5 s_is_object
def s_look_objects : SM := (sC (sI (bNot (toT (mIsLT (mV 0)))) sNo sN) (sF (iEnB (aC (mV 0) aN)) (gT [(gN 1), (gN 2)]) (sI (bNot (toT (mN m_is_object (aC (mV 2) aN)))) sNo sN)))
def m_look_objects : MF := fnM 1 3 s_look_objects
def s_face_of : SM := (sC (sE (mN m_look_objects (aC (mV 0) aN))) (sC (sA 1 (mN fSortA (aC (mL2 (iSq (mV 0)) (gT [(gN 6), (gN 7)]) tY (iSq (mV 6)) (gT [(gN 5), (gN 4)]) (toB (m2 dEq (mV 4) (mC (.str "strong")))) (mV 5) [6, 7, 5, 4] [5, 4]) aN))) (sC (sA 2 (mN m_twice_in (aC (mV 1) aN))) (sC (sI (toB (m2 dNotN2 (mV 2) (mC .non))) sNo sN) (sC (sA 3 (mDc2 (iSq (mV 0)) (gT [(gN 6), (gN 7)]) tY (iSq (mV 7)) (gN 5) tY (mV 5) (mC (.str "wanted")) [6, 7, 5] [5])) (sC (sF (iSq (mC c_KINDS)) (gN 4) (sE (mBM "dict" fUpdD (mV 3) (aC (mDc2 (iSq (mV 0)) (gT [(gN 6), (gN 7)]) tY (iSq (mV 6)) (gT [(gN 5), (gN 8)]) (toB (m2 dEq (mV 8) (mV 4))) (mV 5) (mV 4) [6, 7, 5, 8] [5, 8]) aN)))) (sR (mN fTuple (aC (mN fSortI (aC (mV 3) aN)) aN)))))))))
def m_face_of : MF := fnM 1 9 s_face_of
def s_is_face : SM := (sC (sI (bOr (bNot (toT (mIsi "tuple" (mV 0)))) (bNot (toT (mN (fAllAny true) (aC (mL (iSq (mV 0)) (gN 2) tY (mAnd (mIsi "tuple" (mV 2)) (m2 dEq (mN fLen (aC (mV 2) aN)) (mC (.int 2)))) [2]) aN))))) (sR (mC (.bl false))) sN) (sC (sI (bNot (toT (mN (fAllAny true) (aC (mL (iSq (mV 0)) (gT [(gN 3), (gN 4)]) tY (mAnd (mN m_is_name (aC (mV 3) aN)) (mAnd (mIsi "str" (mV 4)) (m2 (dInB false) (mV 4) (mC c_WORDS)))) [3, 4]) aN)))) (sR (mC (.bl false))) sN) (sC (sA 1 (mL (iSq (mV 0)) (gN 2) tY (m2 dIx (mV 2) (mC (.int 0))) [2])) (sR (mAnd (m2 dEq (mV 1) (mN fSortA (aC (mV 1) aN))) (m2 dIsN2 (mN m_twice_in (aC (mV 1) aN)) (mC .non)))))))
def m_is_face : MF := fnM 1 5 s_is_face
def s_look_face : SM := (sC (sI (bNot (toT (mN m_is_face (aC (mV 0) aN)))) sNo sN) (sR (mV 0)))
def m_look_face : MF := fnM 1 1 s_look_face
def s_law : SM := (sC (sF (iR1 (aC (mN fMax2 (aC (mC (.int 1)) (aC (mN fMin2 (aC (mC (.int 5)) (aC (mN fLen (aC (mV 0) aN)) aN))) aN))) aN)) (gN 1) (sC (sA 2 (mN m__law_bag (aC (mV 0) (aC (mV 1) aN)))) (sC (sA 3 (mN m__law_names (aC (mV 2) (aC (m2 dAdd (mC (.int 1)) (mN m__law_take (aC (mV 2) (aC (mC (.int 7)) aN)))) aN)))) (sF (iR1 (aC (mN m__law_few (aC (mV 0) (aC (mC (.int 4)) aN))) aN)) (gN 4) (sC (sA 5 (mN m__law_objects (aC (mV 2) (aC (mV 3) aN)))) (sC (sP 9 10 (aC (mN m__law_face (aC (mV 5) aN)) (aC (mN fList (aC (mV 5) aN)) aN))) (sC (sA 6 (mN m_face_of (aC (mV 10) aN))) (sC (sI (bOr (toB (m2 dNe (mN fRepr (aC (mV 6) aN)) (mN fRepr (aC (mV 9) aN)))) (bOr (toB (m2 dNe (mV 10) (mN fList (aC (mV 5) aN)))) (toB (m2 dNe (mN m_face_of (aC (mV 5) aN)) (mV 9))))) (sR (mC (.bl false))) sN) (sC (sI (toB (m2 dNe (mN m_face_of (aC (mN m__law_turned (aC (mV 2) (aC (mN m__law_parted (aC (mV 5) aN)) aN))) aN)) (mV 9))) (sR (mC (.bl false))) sN) (sC (sA 7 (mN fTuple (aC (mL (iSq (mV 9)) (gN 11) (toB (m2 dNe (m2 dIx (mV 11) (mC (.int 1))) (mC (.str "wanted")))) (mV 11) [11]) aN))) (sC (sA 7 (mN fTup (aC (mV 7) (aC (mN fTuple (aC (mL (iSq (mV 9)) (gN 11) (toB (m2 dEq (m2 dIx (mV 11) (mC (.int 1))) (mC (.str "wanted")))) (m2 dIx (mV 11) (mC (.int 0))) [11]) aN)) aN)))) (sC (sI (bOr (toB (m2 dNe (mN m_face_of (aC (mN fLst (aC (mV 7) aN)) aN)) (mV 9))) (bOr (toB (m2 dNe (mN m_face_of (aC (mN fTup (aC (mV 7) aN)) aN)) (mV 9))) (toB (m2 dNe (mN m_look_face (aC (mV 9) aN)) (mV 9))))) (sR (mC (.bl false))) sN) (sC (sA 8 (mN fTuple (aC (mL (iSq (mV 9)) (gN 11) tY (mN fTup (aC (mN fTup aN) (aC (mN fTup (aC (m2 dIx (mV 11) (mC (.int 0))) aN)) aN))) [11]) aN))) (sC (sI (bOr (toB (m2 dNe (mN m_face_of (aC (m2 dAdd (mV 8) (mV 5)) aN)) (mV 9))) (toB (m2 dNe (mN m_face_of (aC (mV 8) aN)) (mN fTuple (aC (mL (iSq (mV 9)) (gN 11) tY (mN fTup (aC (m2 dIx (mV 11) (mC (.int 0))) (aC (mC (.str "wanted")) aN))) [11]) aN))))) (sR (mC (.bl false))) sN) (sC (sE (mBM "list" (mtL lAppend) (mV 10) (aC (mN fTup (aC (mN fTup (aC (mN fTup (aC (mC (.str "q")) (aC (mC (.str "weak")) aN))) aN)) (aC (mN fTup aN) aN))) aN))) (sI (bOr (toB (m2 dNe (mV 6) (mV 9))) (bAnd (toB (m2 dEq (mN m_face_of (aC (mV 10) aN)) (mV 9))) (toB (m2 (dInB true) (mC (.str "q")) (mV 3))))) (sR (mC (.bl false))) sN)))))))))))))))) (sR (mAnd (m2 dEq (mN m_face_of (aC (mN fLst aN) aN)) (mN fTup aN)) (mAnd (m2 dEq (mN m_face_of (aC (mN fTup aN) aN)) (mN fTup aN)) (m2 dEq (mN m_face_of (aC (mN fLst (aC (mN fTup (aC (mN fTup aN) (aC (mN fTup aN) aN))) aN)) aN)) (mN fTup aN))))))
def m_law : MF := fnM 1 12 s_law
end Z
set_option Elab.async false
set_option linter.all false
set_option maxRecDepth 100000
set_option maxHeartbeats 4000000
namespace Z
open PySem PySem.Spec PyProof.Rows L2 TL
open PySem.PyData (strOk)
theorem isn_ok {s : Sto} {d : D} (h : ObjD s d) : (m_is_name [d] s).wp fun d' s' => d' = .bl (isNm d) ∧ Eff [] s s' := is_nameX (itb := itb) letters_str h
theorem is_name_ok : IsNameOk m_is_name := fun {s x} h => by
  have := isn_ok (s := s) (obj_name h)
  rwa [nm_is h] at this
theorem twice_ok : TwiceOk m_twice_in := twice_gen
theorem take_ok : TakeOk m__law_take := take_gen (c1 := 48271) (c2 := 90001) (M := 2147483629) (d1 := 11) (c3 := 39373) (M2 := 2147483647) (d2 := 64) (by decide) (by decide) (by decide) (by decide) (by decide) (by decide)
theorem of_ok : OfOk m__law_of := of_gen take_ok
theorem names_ok : NamesOk m__law_names := names_genA take_ok of_ok
theorem few_ok {s : Sto} {ns : List Int} {m : Nat} (hns : lstAt s 0 = some (ns.map D.int)) : (m__law_few [.ref 0, .int m] s).wp fun d s' => ∃ N : Nat, d = .int N ∧ N ≤ m ∧ Eff [] s s' := few_gen hns
theorem bag_ok {s : Sto} {n : Nat} {ns : List Int} {a : Nat} (hx : lstAt s n = some (ns.map D.int)) : (m__law_bag [.ref n, .int a] s).wp fun d s' => ∃ k, d = .ref k ∧ s.length ≤ k ∧ Bag s' k ∧ Eff [] s s' :=
  bag_gen (c0 := 4447) (c1 := 829) (z := 60) (upd := updA 40014 2147483563 331) (M := 2147483399) (p := 18) (by decide) (by decide) (by unfold cPow; decide) (updA_ok (by decide) (by decide) (by decide)) hx
end Z

set_option Elab.async false
set_option linter.all false
set_option maxRecDepth 100000
set_option maxHeartbeats 4000000
namespace Z
open PySem PySem.Spec PyProof.Rows L2 TL
open PySem.PyData (strOk)
/-! ### the walked parts; the due face -/
theorem is_kind_l {s : Sto} {k : Str} (h : k ∈ kinds) : (m_is_kind [.str k] s).wp fun d s' => d = .bl true ∧ Eff [] s s' := is_kind_gen ⟨k, rfl, h⟩
theorem are_def_l {o : ObA} {s : Sto} (h : ObOk o) : (m_are_defines [.tup (o.1.map fcD)] s).wp fun d s' => d = .bl true ∧ Eff [] s s' := are_def_ok (FN := m_is_name) (FK := m_is_kind) is_name_ok is_kind_l h
theorem is_object_l {o : ObA} {s : Sto} (h : ObOk o) : (m_is_object [obD o] s).wp fun d s' => d = .bl true ∧ Eff [] s s' := is_object_ok (FA := m_are_defines) (FN := m_is_name) (FT := m_twice_in) is_name_ok are_def_l twice_ok h
theorem look_objects_l {os : List ObA} (h : ∀ o ∈ os, ObOk o) {s : Sto} {d : D} (hd : SeqOf s d (os.map obD)) : (m_look_objects [d] s).wp fun d s' => Eff [] s s' := look_objects_ok (FO := m_is_object) enOk_B id is_object_l h hd
theorem face_of_l {os : List ObA} (h : ObsOk os) {s : Sto} {d : D} (hd : SeqOf s d (os.map obD)) : (m_face_of [d] s).wp fun d' s' => Eff [] s s' ∧ d' = .tup (faceDs (faceO os)) :=
  face_of_okV (LO := m_look_objects) (FT := m_twice_in) h (Sq := SeqOf) id look_objects_l twice_ok hd
theorem objects_l {s : Sto} {k l1 : Nat} {names : List Str} (hb : Bag s k) (hn : ∀ x ∈ names, IsName x) (nn : names.Nodup) (nl : names.length ≤ 1000) (m1 : mlAt s l1 = some (names.map D.str)) (h1 : l1 ≠ k) (ne : names ≠ []) :
    (m__law_objects [.ref k, .ref l1] s).wp fun d s' => Eff [k] s s' ∧ ∃ os, d = .tup (os.map obD) ∧ ObsW names os ∧ os.length ≤ 3 := objects_ok take_ok of_ok hb hn nn nl m1 h1 ne
/-! the greatest word of a name -/
def wIx (x : Str) : Nat := wordL.idxOf x
def stepX (w : FaceA) (q : Str × Str) : FaceA := if wIx ((lookF w q.1).getD "wanted") ≤ wIx q.2 then putFd w q.1 q.2 else w
def pairsX (o : ObA) : List (Str × Str) := o.2.map (fun x => (x, ("wanted" : Str))) ++ o.1
theorem wIx_w : wIx "wanted" = 0 := by decide +kernel
structure MaxI (qs : List (Str × Str)) (w : FaceA) : Prop where
  nd : (w.map (·.1)).Nodup
  mx : ∀ y v, lookF w y = some v → (y, v) ∈ qs ∧ ∀ v', (y, v') ∈ qs → wIx v' ≤ wIx v
  all : ∀ q ∈ qs, lookF w q.1 ≠ none
theorem MaxI.nil : MaxI [] [] := ⟨List.nodup_nil, fun y v h => (by cases h), fun q h => (by cases h)⟩
theorem MaxI.step {qs : List (Str × Str)} {w : FaceA} (h : MaxI qs w) (q : Str × Str) : MaxI (qs ++ [q]) (stepX w q) := by
  unfold stepX
  have putc : (∀ v', (q.1, v') ∈ qs → wIx v' ≤ wIx q.2) → MaxI (qs ++ [q]) (putFd w q.1 q.2) := fun hv => by
    refine ⟨putFd_nd h.nd, fun y v e => ?_, fun p hp => ?_⟩
    · rw [lookF_put h.nd] at e
      split at e
      · rename_i c
        subst c
        cases e
        refine ⟨by simp, fun v' hv' => ?_⟩
        rcases List.mem_append.mp hv' with hv' | hv'
        · exact hv v' hv'
        · rw [show v' = q.2 from congrArg Prod.snd (List.mem_singleton.mp hv')]
          exact Nat.le_refl _
      · rename_i c
        obtain ⟨h1, h2⟩ := h.mx y v e
        refine ⟨List.mem_append_left _ h1, fun v' hv' => ?_⟩
        rcases List.mem_append.mp hv' with hv' | hv'
        · exact h2 v' hv'
        · exact absurd (congrArg Prod.fst (List.mem_singleton.mp hv')) c
    · rw [lookF_put h.nd]
      split
      · exact fun z => by cases z
      · rename_i c
        rcases List.mem_append.mp hp with hp | hp
        · exact h.all p hp
        · exact absurd (by rw [List.mem_singleton.mp hp]) c
  cases c : lookF w q.1 with
  | none =>
    have hz : ∀ v', (q.1, v') ∈ qs → wIx v' ≤ wIx q.2 := fun v' hv' => absurd c (h.all (q.1, v') hv')
    rw [if_pos (by show wIx "wanted" ≤ _; rw [wIx_w]; exact Nat.zero_le _)]
    exact putc hz
  | some v =>
    obtain ⟨h1, h2⟩ := h.mx _ _ c
    show MaxI _ (if wIx v ≤ wIx q.2 then _ else _)
    by_cases d : wIx v ≤ wIx q.2
    · rw [if_pos d]
      exact putc fun v' hv' => Nat.le_trans (h2 v' hv') d
    · rw [if_neg d]
      refine ⟨h.nd, fun y u e => ?_, fun p hp => ?_⟩
      · obtain ⟨g1, g2⟩ := h.mx y u e
        refine ⟨List.mem_append_left _ g1, fun v' hv' => ?_⟩
        rcases List.mem_append.mp hv' with hv' | hv'
        · exact g2 v' hv'
        · have e2 := List.mem_singleton.mp hv'
          have e3 : y = q.1 := congrArg Prod.fst e2
          have e4 : v' = q.2 := congrArg Prod.snd e2
          rw [e3] at e
          rw [c] at e
          cases e
          rw [e4]
          omega
      · rcases List.mem_append.mp hp with hp | hp
        · exact h.all p hp
        · rw [List.mem_singleton.mp hp, c]
          exact fun z => by cases z
theorem MaxI.fold : ∀ {ps qs : List (Str × Str)} {w : FaceA}, MaxI qs w → MaxI (qs ++ ps) (ps.foldl stepX w)
  | [], qs, w, h => by rw [List.append_nil]; exact h
  | p :: ps, qs, w, h => by
    have := (h.step p).fold (ps := ps)
    rw [List.append_assoc] at this
    exact this
def pairsO (os : List ObA) : List (Str × Str) := os.flatMap pairsX
def wordsX (os : List ObA) : FaceA := (pairsO os).foldl stepX []
theorem wordsX_max (os : List ObA) : MaxI (pairsO os) (wordsX os) := by
  have := MaxI.nil.fold (ps := pairsO os)
  exact this
theorem pairsO_mem {os : List ObA} {y v : Str} : (y, v) ∈ pairsO os ↔ (y, v) ∈ defsO os ∨ (v = ("wanted" : Str) ∧ y ∈ wantsO os) := by
  unfold pairsO pairsX defsO wantsO
  simp only [List.mem_flatMap, List.mem_append, List.mem_map]
  constructor
  · rintro ⟨o, ho, ⟨x, hx, e⟩ | h⟩
    · cases e
      exact .inr ⟨rfl, o, ho, hx⟩
    · exact .inl ⟨o, ho, h⟩
  · rintro (⟨o, ho, h⟩ | ⟨rfl, o, ho, h⟩)
    · exact ⟨o, ho, .inr h⟩
    · exact ⟨o, ho, .inl ⟨y, h, rfl⟩⟩
theorem wordsX_look {os : List ObA} (O : ObsOk os) (y : Str) : lookF (wordsX os) y = wordOf os y := by
  have M := wordsX_max os
  have ixs : wIx "wanted" = 0 ∧ wIx "weak" = 1 ∧ wIx "common" = 2 ∧ wIx "strong" = 3 := by decide +kernel
  have kk : ∀ k, (y, k) ∈ defsO os → k = "weak" ∨ k = "common" ∨ k = "strong" := fun k hk => by
    have := O.kdD _ hk
    unfold kinds at this
    simpa using this
  have up : ∀ k, (y, k) ∈ defsO os → (y, k) ∈ pairsO os := fun k hk => pairsO_mem.mpr (.inl hk)
  cases c : lookF (wordsX os) y with
  | none =>
    have no : ∀ v, (y, v) ∉ pairsO os := fun v hv => M.all _ hv c
    unfold wordOf
    rw [if_neg fun z => no _ (up _ z), if_neg fun z => no _ (up _ z), if_neg fun z => no _ (up _ z), if_neg fun z => no _ (pairsO_mem.mpr (.inr ⟨rfl, z⟩))]
  | some v =>
    obtain ⟨h1, h2⟩ := M.mx _ _ c
    have le : ∀ k, (y, k) ∈ defsO os → wIx k ≤ wIx v := fun k hk => h2 _ (up _ hk)
    have nw : ("wanted" : Str) ≠ "weak" ∧ ("wanted" : Str) ≠ "common" ∧ ("wanted" : Str) ≠ "strong" := by decide +kernel
    have back : ∀ k, k ∈ (["weak", "common", "strong"] : List Str) → v = k → (y, k) ∈ defsO os := fun k hk e => by
      subst e
      rcases pairsO_mem.mp h1 with h | ⟨h, _⟩
      · exact h
      · exact absurd (h ▸ hk) (by decide +kernel)
    have hv : v = "wanted" ∨ v = "weak" ∨ v = "common" ∨ v = "strong" := by
      rcases pairsO_mem.mp h1 with h | ⟨h, _⟩
      · exact .inr (kk v h)
      · exact .inl h
    unfold wordOf
    rcases hv with rfl | rfl | rfl | rfl
    · have n1 : (y, ("strong" : Str)) ∉ defsO os := fun z => by have := le _ z; omega
      have n2 : (y, ("common" : Str)) ∉ defsO os := fun z => by have := le _ z; omega
      have n3 : (y, ("weak" : Str)) ∉ defsO os := fun z => by have := le _ z; omega
      have n4 : y ∈ wantsO os := by
        rcases pairsO_mem.mp h1 with h | ⟨_, h⟩
        · rcases kk _ h with e | e | e
          · exact absurd e nw.1
          · exact absurd e nw.2.1
          · exact absurd e nw.2.2
        · exact h
      rw [if_neg n1, if_neg n2, if_neg n3, if_pos n4]
    · have n1 : (y, ("strong" : Str)) ∉ defsO os := fun z => by have := le _ z; omega
      have n2 : (y, ("common" : Str)) ∉ defsO os := fun z => by have := le _ z; omega
      rw [if_neg n1, if_neg n2, if_pos (back _ (by simp) rfl)]
    · have n1 : (y, ("strong" : Str)) ∉ defsO os := fun z => by have := le _ z; omega
      rw [if_neg n1, if_pos (back _ (by simp) rfl)]
    · rw [if_pos (back _ (by simp) rfl)]
theorem face_same {f g : FaceA} (F : FaceOk f) (G : FaceOk g) (h : ∀ p, p ∈ f ↔ p ∈ g) : f = g := by
  have hk : f.map (·.1) = g.map (·.1) := by
    rw [← F.so, ← G.so]
    refine sortS_same F.nd G.nd fun y => ?_
    constructor <;> intro hy <;> obtain ⟨p, hp, rfl⟩ := List.mem_map.mp hy
    · exact List.mem_map_of_mem ((h p).mp hp)
    · exact List.mem_map_of_mem ((h p).mpr hp)
  have hl : f.length = g.length := by
    have := congrArg List.length hk
    rwa [List.length_map, List.length_map] at this
  refine List.ext_getElem hl fun i h1 h2 => ?_
  have e1 : f[i].1 = g[i].1 := by
    have a : (f.map (·.1))[i]'(by rw [List.length_map]; exact h1) = (g.map (·.1))[i]'(by rw [List.length_map]; exact h2) := by simp only [hk]
    rwa [List.getElem_map, List.getElem_map] at a
  exact uniq_name (g := fun p : Str × Str => p.1) G.nd ((h _).mp (List.getElem_mem h1)) (List.getElem_mem h2) e1
theorem wordsX_in {os : List ObA} : ∀ p ∈ wordsX os, p ∈ pairsO os := fun p hp => by
  have M := wordsX_max os
  exact (M.mx p.1 p.2 ((lookF_mem M.nd).mpr hp)).1
theorem wordsX_ok {os : List ObA} (O : ObsOk os) : (∀ p ∈ wordsX os, IsName p.1) ∧ (∀ p ∈ wordsX os, p.2 ∈ wordL) ∧ (wordsX os).length ≤ 1000 := by
  have M := wordsX_max os
  refine ⟨fun p hp => ?_, fun p hp => ?_, ?_⟩
  · rcases pairsO_mem.mp (show (p.1, p.2) ∈ _ from wordsX_in p hp) with h | ⟨_, h⟩
    · exact O.nmD (p.1, p.2) h
    · exact O.nmW _ h
  · have := (lookF_mem M.nd).mpr (show (p.1, p.2) ∈ _ from hp)
    rw [wordsX_look O] at this
    exact wordOf_word this
  · have := List.Nodup.length_le_of_subset M.nd (l₂ := (defsO os).map (·.1) ++ wantsO os) fun y hy => by
      obtain ⟨p, hp, rfl⟩ := List.mem_map.mp hy
      rcases pairsO_mem.mp (show (p.1, p.2) ∈ _ from wordsX_in p hp) with h | ⟨_, h⟩
      · exact List.mem_append_left _ (List.mem_map_of_mem (f := (·.1)) h)
      · exact List.mem_append_right _ h
    rw [List.length_map, List.length_append, List.length_map] at this
    have := O.len
    omega
theorem sortX {os : List ObA} (O : ObsOk os) : sortF (wordsX os) = faceO os := by
  obtain ⟨h1, h2, h3⟩ := wordsX_ok O
  have M := wordsX_max os
  refine face_same (sortF_ok h1 h2 M.nd h3) (faceO_ok O) fun p => ?_
  rw [(sortF_perm _).mem_iff]
  show (p.1, p.2) ∈ _ ↔ (p.1, p.2) ∈ _
  rw [faceO_mem, ← wordsX_look O, lookF_mem M.nd]
end Z

set_option Elab.async false
set_option linter.all false
set_option maxRecDepth 100000
set_option maxHeartbeats 4000000
namespace Z
open PySem PySem.Spec PyProof.Rows L2 TL
open PySem.PyData (strOk)
/-! ### _law_face -/
def lf1b0b0 : SM := (sI (toB (m2 dGe (mBM "list" fIdxL (mV 2) (aC (mV 6) aN)) (mBM "list" fIdxL (mV 2) (aC (mGet2 (mV 1) (mV 5) (mC (.str "wanted"))) aN)))) (sX xSetD (mV 1) (mV 5) (mV 6)) sN)
def lf1b0 : SM := (sF (iSq (m2 dAdd (mL (iSq (mV 4)) (gN 5) tY (mN fTup (aC (mV 5) (aC (mC (.str "wanted")) aN))) [5]) (mN fList (aC (mV 3) aN)))) (gT [(gN 5), (gN 6)]) lf1b0b0)
def lf2 : SM := (sR (mN fTuple (aC (mN fSortI (aC (mV 1) aN)) aN)))
def lf1 : SM := (sC (sF (iSq (mV 0)) (gT [(gN 3), (gN 4)]) lf1b0) lf2)
def lf0 : SM := (sC (sP 1 2 (aC mDN (aC (mN fLst (aC (mC (.str "wanted")) (aC (mC (.str "weak")) (aC (mC (.str "common")) (aC (mC (.str "strong")) aN))))) aN))) lf1)
theorem lf_eq : s__law_face = lf0 := rfl
structure FaI (s0 s : Sto) (p1 p2 : Nat) (w : FaceA) : Prop where
  ef : Eff [] s0 s
  m1 : s[p1]? = some (.dict false (facePs w))
  m2 : mlAt s p2 = some (wordL.map D.str)
  lo : s0.length ≤ p1
theorem FaI.eff {s0 s t : Sto} {p1 p2 : Nat} {w : FaceA} (h : FaI s0 s p1 p2 w) (e : Eff [] s t) : FaI s0 t p1 p2 w := ⟨h.ef.trans e, e.get h.m1 (by simp), e.ml h.m2 (by simp), h.lo⟩
theorem FaI.put {s0 s : Sto} {p1 p2 : Nat} {w w' : FaceA} (h : FaI s0 s p1 p2 w) : FaI s0 (s.set p1 (.dict false (facePs w'))) p1 p2 w' := by
  have hl := (List.getElem?_eq_some_iff.mp h.m1).1
  have ne : p1 ≠ p2 := ne_kind h.m1 (mlAt_get h.m2) (fun z => nomatch z)
  exact ⟨h.ef.set h.lo, List.getElem?_set_self hl, by rw [mlAt_set_ne ne]; exact h.m2, h.lo⟩
section
variable {s0 s : Sto} {p1 p2 : Nat} {w : FaceA} {Q : En} {o0 o3 o4 o5 o6 : Option D}
theorem stepX_ok (h : FaI s0 s p1 p2 w) {qs : List (Str × Str)} (M : MaxI qs w) (wl : ∀ p ∈ qs, p.2 ∈ wordL) (hl : w.length ≤ 10000) {q : Str × Str} (hk : q.2 ∈ wordL) (hQ : ∀ s', FaI s0 s' p1 p2 (stepX w q) → s.length ≤ s'.length → (∀ i, i < s.length → i ≠ p1 → s'[i]? = s[i]?) → Q.nx [o0, some (.ref p1), some (.ref p2), o3, o4, some (.str q.1), some (.str q.2)] s') :
    (lf1b0b0 [o0, some (.ref p1), some (.ref p2), o3, o4, some (.str q.1), some (.str q.2)] s).wp Q := by
  have k1 : ∀ x : Str, keyD (D.str x) = some (.inr x) := fun x => rfl
  have hv : (lookF w q.1).getD "wanted" ∈ wordL := by
    cases c : lookF w q.1 with
    | none => decide +kernel
    | some v => exact wl _ (M.mx _ _ c).1
  unfold lf1b0b0
  simp [-List.map_map]
  refine ⟨isTy_ml h.m2, ?_⟩
  rw [z_idxL (lstAt_ml h.m2) hk]
  refine ⟨isTy_ml h.m2, ?_⟩
  rw [dctAt_dict h.m1, optP_some, k1, optP_some, optP_some]
  have gv : (getK (facePs w) (.inr q.1)).getD (D.str (Str.ofString "wanted")) = .str ((lookF w q.1).getD "wanted") := by
    rw [getK_face]
    cases lookF w q.1 <;> rfl
  rw [gv, z_idxL (lstAt_ml h.m2) hv]
  simp [-List.map_map]
  by_cases c : wIx ((lookF w q.1).getD "wanted") ≤ wIx q.2
  · rw [if_pos (by exact c), h.m1, dctP_some]
    refine ⟨by unfold facePs; rw [List.length_map, size_line]; omega, ?_⟩
    rw [putKd_face]
    have e : stepX w q = putFd w q.1 q.2 := by unfold stepX; rw [if_pos c]
    rw [← e]
    exact hQ _ h.put (by simp) fun i hi hne => List.getElem?_set_ne (Ne.symm hne)
  · rw [if_neg (by exact c)]
    have e : stepX w q = w := by unfold stepX; rw [if_neg c]
    exact hQ _ (by rw [e]; exact h) (Nat.le_refl _) fun i hi hne => rfl
theorem stepX_len (w : FaceA) (q : Str × Str) : (stepX w q).length ≤ w.length + 1 := by
  unfold stepX
  split
  · unfold putFd
    split
    · rw [List.length_map]; omega
    · rw [List.length_append]; exact Nat.le_refl _
  · omega
theorem foldX_len : ∀ (qs : List (Str × Str)) (w : FaceA), (qs.foldl stepX w).length ≤ w.length + qs.length
  | [], w => Nat.le_refl _
  | q :: qs, w => by
    have := foldX_len qs (stepX w q)
    have := stepX_len w q
    rw [List.foldl_cons, List.length_cons]
    omega
theorem facePairs_ok (h : FaI s0 s p1 p2 w) {qs : List (Str × Str)} (M : MaxI qs w) (wl : ∀ p ∈ qs, p.2 ∈ wordL) (hl : w.length ≤ 5000) {o : ObA} (ho : ObOk o)
    (hQ : ∀ s' o5 o6, FaI s0 s' p1 p2 ((pairsX o).foldl stepX w) → s.length ≤ s'.length → Q.nx [o0, some (.ref p1), some (.ref p2), some (.tup (o.1.map fcD)), some (.tup (o.2.map D.str)), o5, o6] s') :
    (lf1b0 [o0, some (.ref p1), some (.ref p2), some (.tup (o.1.map fcD)), some (.tup (o.2.map D.str)), o5, o6] s).wp Q := by
  have l1 := ho.l1
  have l2 := ho.l2
  unfold lf1b0
  simp [-List.map_map]
  refine wp_ne (lc_mapR (ks := []) (fun d x => d = .str x) (fun x => fcD (x, "wanted")) (as := o.2) (xs := o.2.map D.str) AllR.of_map (it_tup (by simp)) bags_nil (by rw [size_line]; omega) fun d x s2 hd hx ef _ => ?_) ?_
  · subst hd
    refine ⟨_, rfl, ?_⟩
    simp [-List.map_map]
    exact ⟨two_le_line, Eff.refl, rfl⟩
  rintro _ s2 ⟨rfl, e2, hlt2, m2⟩
  refine ⟨by rw [size_line]; omega, ?_⟩
  have e3 : Eff [] s2 (s2 ++ [SO.lst (o.1.map fcD)]) := Eff.push
  have m3 : mlAt (s2 ++ [SO.lst (o.1.map fcD)]) s2.length = some (o.1.map fcD) := mlAt_push
  generalize s2 ++ [SO.lst (o.1.map fcD)] = s3 at e3 m3 ⊢
  have m23 := e3.ml m2 (by simp)
  rw [z_addL, m23, lstP_some, m3, lstP_some]
  refine ⟨by rw [List.length_map, List.length_map, size_line]; omega, ?_⟩
  have ep : (o.2.map fun x => fcD (x, "wanted")) ++ o.1.map fcD = (pairsX o).map fcD := by
    unfold pairsX
    rw [List.map_append, List.map_map]
    rfl
  rw [ep]
  have e4 : Eff [] s3 (s3 ++ [SO.lst ((pairsX o).map fcD)]) := Eff.push
  have m4 : mlAt (s3 ++ [SO.lst ((pairsX o).map fcD)]) s3.length = some ((pairsX o).map fcD) := mlAt_push
  have hl4 : (s3 ++ [SO.lst ((pairsX o).map fcD)]).length = s3.length + 1 := by simp
  generalize s3 ++ [SO.lst ((pairsX o).map fcD)] = s4 at e4 m4 hl4 ⊢
  dsimp only
  rw [lstAt_ml m4, lstP_some]
  have e14 : Eff [] s s4 := (e2.trans e3).trans e4
  have l14 := e14.le
  have l3 := (e2.trans e3).le
  have h1 : p1 < s.length := (List.getElem?_eq_some_iff.mp h.m1).1
  have wlX : ∀ p ∈ pairsX o, p.2 ∈ wordL := fun p hp => by
    unfold pairsX at hp
    rcases List.mem_append.mp hp with hp | hp
    · obtain ⟨x, hx, rfl⟩ := List.mem_map.mp hp
      exact (by decide +kernel : ("wanted" : Str) ∈ wordL)
    · exact (by decide +kernel : ∀ k ∈ kinds, k ∈ wordL) _ (ho.kd p hp)
  have pl : (pairsX o).length ≤ 200 := by unfold pairsX; rw [List.length_append, List.length_map]; omega
  generalize pairsX o = rs at m4 hQ wlX pl ⊢
  refine for_j (xs := rs.map fcD) rfl (fun i e s' => FaI s0 s' p1 p2 ((rs.take i).foldl stepX w) ∧ s4.length ≤ s'.length ∧ (∀ i, i < s4.length → i ≠ p1 → s'[i]? = s4[i]?) ∧ ∃ o5 o6, e = [o0, some (.ref p1), some (.ref p2), some (.tup (o.1.map fcD)), some (.tup (o.2.map D.str)), o5, o6]) (fun i e s' hI => jlst_at (lstAt_ml (mlAt_some (by
    rw [hI.2.2.1 _ (by omega) (by omega)]; exact mlAt_get m4)))) ?_ ⟨by rw [List.take_zero]; exact h.eff e14, Nat.le_refl _, fun _ _ _ => rfl, o5, o6, rfl⟩ ?_
  · rintro i d e s5 hd ⟨I5, hl5, k5, p5, p6, rfl⟩
    rw [List.getElem?_map, Option.map_eq_some_iff] at hd
    obtain ⟨q, hq, rfl⟩ := hd
    refine ⟨_, rfl, ?_⟩
    have fl := foldX_len (rs.take i) w
    have tl : (rs.take i).length ≤ rs.length := by rw [List.length_take]; exact Nat.min_le_right _ _
    refine stepX_ok I5 (M.fold (ps := rs.take i)) (fun p hp => ?_) (by omega) (wlX q (List.mem_of_getElem? hq)) fun s6 I6 hl6 k6 => ⟨?_, by omega, fun j hj hne => by rw [k6 j (by omega) hne, k5 j hj hne], _, _, rfl⟩
    · rcases List.mem_append.mp hp with hp | hp
      · exact wl p hp
      · exact wlX p (List.mem_of_mem_take hp)
    · rw [List.take_add_one, hq, List.foldl_append]
      exact I6
  · rintro e s5 ⟨I5, hl5, k5, p5, p6, rfl⟩
    rw [List.length_map, List.take_length] at I5
    exact hQ _ _ _ I5 (by omega)
end
theorem pairsO_snoc (os : List ObA) (o : ObA) : pairsO (os ++ [o]) = pairsO os ++ pairsX o := by
  unfold pairsO
  simp
theorem pairs_word {os : List ObA} (O : ObsOk os) : ∀ p ∈ pairsO os, p.2 ∈ wordL := fun p hp => by
  rcases pairsO_mem.mp (show (p.1, p.2) ∈ _ from hp) with h | ⟨h, _⟩
  · exact (by decide +kernel : ∀ k ∈ kinds, k ∈ wordL) _ (O.kdD (p.1, p.2) h)
  · rw [h]; decide +kernel
theorem pairs_len (os : List ObA) : (pairsO os).length = (defsO os).length + (wantsO os).length := by
  unfold pairsO defsO wantsO
  induction os with
  | nil => rfl
  | cons o os ih =>
    simp only [List.flatMap_cons, List.length_append]
    rw [ih]
    unfold pairsX
    rw [List.length_append, List.length_map]
    omega
theorem due_ok {os : List ObA} (O : ObsOk os) {s : Sto} : (m__law_face [.tup (os.map obD)] s).wp fun d s' => Eff [] s s' ∧ d = .tup (faceDs (faceO os)) := by
  refine wp_of fun P hP => ?_
  have hlen := O.len
  unfold m__law_face
  rw [z_fnM (by rfl), lf_eq]
  show (lf0 [some (.tup (os.map obD)), none, none, none, none, none, none] s).wp _
  unfold lf0
  rw [z_sCn]
  simp [-List.map_map]
  refine ⟨by rw [size_line]; decide, ?_⟩
  have el : wordL.map D.str = [D.str (Str.ofString "wanted"), D.str (Str.ofString "weak"), D.str (Str.ofString "common"), D.str (Str.ofString "strong")] := rfl
  rw [← el]
  have ea : Eff [] s (s ++ [SO.dict false [], SO.lst (wordL.map D.str)]) := Eff.app
  have g0 : (s ++ [SO.dict false [], SO.lst (wordL.map D.str)])[s.length]? = some (.dict false (facePs [])) := by rw [app_at (j := 0) (by omega)]; rfl
  have g1 : mlAt (s ++ [SO.dict false [], SO.lst (wordL.map D.str)]) (s.length + 1) = some (wordL.map D.str) := mlAt_some (by rw [app_at (j := 1) rfl]; rfl)
  generalize s ++ [SO.dict false [], SO.lst (wordL.map D.str)] = s1 at ea g0 g1 ⊢
  rw [z_nxt]
  unfold lf1
  rw [z_sCn]
  simp [-List.map_map]
  refine for_j (xs := os.map obD) (by simp) (fun i e s' => FaI s s' s.length (s.length + 1) ((pairsO (os.take i)).foldl stepX []) ∧ ∃ o3 o4 o5 o6, e = [some (.tup (os.map obD)), some (.ref s.length), some (.ref (s.length + 1)), o3, o4, o5, o6]) (fun i e s' hI => rfl) ?_ ⟨⟨ea, g0, g1, Nat.le_refl _⟩, none, none, none, none, rfl⟩ ?_
  · rintro i dd e s2 hd ⟨I2, p3, p4, p5, p6, rfl⟩
    rw [List.getElem?_map, Option.map_eq_some_iff] at hd
    obtain ⟨o, ho, rfl⟩ := hd
    have hom := List.mem_of_getElem? ho
    refine ⟨_, rfl, ?_⟩
    have lt := lens_take os i
    have fl := foldX_len (pairsO (os.take i)) []
    rw [pairs_len, List.length_nil] at fl
    refine facePairs_ok I2 (wordsX_max (os.take i)) (fun p hp => pairs_word O p ?_) (by omega) (O.ob o hom) fun s3 q5 q6 I3 hl3 => ⟨?_, _, _, _, _, rfl⟩
    · unfold pairsO at hp ⊢
      obtain ⟨o2, ho2, hp⟩ := List.mem_flatMap.mp hp
      exact List.mem_flatMap.mpr ⟨o2, List.mem_of_mem_take ho2, hp⟩
    · have et : os.take (i + 1) = os.take i ++ [o] := by rw [List.take_add_one, ho]; rfl
      rw [et, pairsO_snoc, List.foldl_append]
      exact I3
  · rintro e s2 ⟨I2, p3, p4, p5, p6, rfl⟩
    rw [List.length_map, List.take_length] at I2
    dsimp only
    rw [z_nxt]
    obtain ⟨h1, h2, h3⟩ := wordsX_ok O
    have I2 : FaI s s2 s.length (s.length + 1) (wordsX os) := I2
    unfold lf2
    simp [-List.map_map]
    rw [sortI_face I2.m1 fun p hp => ⟨(h1 p hp).ok, (by decide +kernel : ∀ w ∈ wordL, strOk w = true) _ (h2 p hp)⟩]
    have e5 : Eff [] s2 (s2 ++ [SO.lst ((sortF (wordsX os)).map fcD)]) := Eff.push
    have m5 : mlAt (s2 ++ [SO.lst ((sortF (wordsX os)).map fcD)]) s2.length = some ((sortF (wordsX os)).map fcD) := mlAt_push
    generalize s2 ++ [SO.lst ((sortF (wordsX os)).map fcD)] = s5 at e5 m5 ⊢
    rw [z_tupL, lstAt_ml m5, lstP_some]
    exact hP _ _ ⟨I2.ef.trans e5, by rw [sortX O]; rfl⟩
/-! ### _law_parted, _law_turned -/
def pt1b1 : SM := (sE (mBM "list" lExtend (mV 1) (aC (mL (iSq (mV 3)) (gN 5) tY (mN fTup (aC (mN fTup aN) (aC (mN fTup (aC (mV 5) aN)) aN))) [5]) aN)))
def pt1b0 : SM := (sC (sE (mBM "list" lExtend (mV 1) (aC (mL (iSq (mV 2)) (gN 4) tY (mN fTup (aC (mN fTup (aC (mV 4) aN)) (aC (mN fTup aN) aN))) [4]) aN))) pt1b1)
def pt2 : SM := (sR (mV 1))
def pt1 : SM := (sC (sF (iSq (mV 0)) (gT [(gN 2), (gN 3)]) pt1b0) pt2)
def pt0 : SM := (sC (sA 1 (mN fLst aN)) pt1)
theorem pt_eq : s__law_parted = pt0 := rfl
def partO (o : ObA) : List ObA := o.1.map (fun p => ([p], [])) ++ o.2.map fun x => ([], [x])
def partedO (os : List ObA) : List ObA := os.flatMap partO
theorem parted_ok {os : List ObA} (O : ObsOk os) {s : Sto} : (m__law_parted [.tup (os.map obD)] s).wp fun d s' => Eff [] s s' ∧ ∃ n, d = .ref n ∧ s.length ≤ n ∧ mlAt s' n = some ((partedO os).map obD) := by
  refine wp_of fun P hP => ?_
  have hlen := O.len
  have pl : ∀ i, (partedO (os.take i)).length ≤ 1000 := fun i => by
    have h1 := lens_take os i
    have h2 : (partedO (os.take i)).length = (defsO (os.take i)).length + (wantsO (os.take i)).length := by
      unfold partedO defsO wantsO
      generalize os.take i = xs
      induction xs with
      | nil => rfl
      | cons o os ih =>
        simp only [List.flatMap_cons, List.length_append]
        rw [ih]
        unfold partO
        rw [List.length_append, List.length_map, List.length_map]
        omega
    omega
  unfold m__law_parted
  rw [z_fnM (by rfl), pt_eq]
  show (pt0 [some (.tup (os.map obD)), none, none, none, none, none] s).wp _
  unfold pt0
  rw [z_sCn]
  simp [-List.map_map]
  have e1 : Eff [] s (s ++ [SO.lst []]) := Eff.push
  have m1 : mlAt (s ++ [SO.lst []]) s.length = some [] := mlAt_push
  generalize s ++ [SO.lst []] = s1 at e1 m1 ⊢
  rw [z_nxt]
  unfold pt1
  rw [z_sCn]
  simp [-List.map_map]
  refine for_j (xs := os.map obD) (by simp) (fun i e s' => Eff [] s s' ∧ mlAt s' s.length = some ((partedO (os.take i)).map obD) ∧ ∃ o2 o3 o4 o5, e = [some (.tup (os.map obD)), some (.ref s.length), o2, o3, o4, o5]) (fun i e s' hI => rfl) ?_ ⟨e1, m1, none, none, none, none, rfl⟩ ?_
  · rintro i dd e s2 hd ⟨e2, m2, p2, p3, p4, p5, rfl⟩
    rw [List.getElem?_map, Option.map_eq_some_iff] at hd
    obtain ⟨o, ho, rfl⟩ := hd
    have hom := List.mem_of_getElem? ho
    have hi := (List.getElem?_eq_some_iff.mp ho).1
    have oo := O.ob o hom
    have l1 := oo.l1
    have l2 := oo.l2
    have pli := pl i
    refine ⟨_, rfl, ?_⟩
    have sl : s.length < s2.length := lstAt_lt (lstAt_ml m2)
    unfold pt1b0
    rw [z_sCn]
    simp [-List.map_map]
    refine ⟨isTy_ml m2, ?_⟩
    refine wp_ne (lc_mapR (ks := []) (fun d x => d = fcD x) (fun p => obD ([p], [])) (as := o.1) (xs := o.1.map fcD) AllR.of_map (it_tup (by simp)) bags_nil (by rw [size_line]; omega) fun d x s3 hd hx ef _ => ?_) ?_
    · subst hd
      refine ⟨_, rfl, ?_⟩
      simp [-List.map_map]
      exact ⟨by rw [size_line]; decide, two_le_line, Eff.refl, rfl⟩
    rintro _ s3 ⟨rfl, e3, hlt3, m3⟩
    have n2 := e3.ml m2 (by simp)
    rw [z_extend (k := 0), n2, lstP_some, seqD_ref, lstAt_ml m3, optP_some]
    refine ⟨by rw [List.length_map, List.length_map, size_line]; omega, ?_⟩
    have e3s := (e2.trans e3).set (n := s.length) (o := .lst ((partedO (os.take i)).map obD ++ o.1.map fun p => obD ([p], []))) (Nat.le_refl _)
    have q2 : mlAt (s3.set s.length (.lst ((partedO (os.take i)).map obD ++ o.1.map fun p => obD ([p], [])))) s.length = some ((partedO (os.take i)).map obD ++ o.1.map fun p => obD ([p], [])) := mlAt_set_self (lstAt_lt (lstAt_ml n2))
    generalize s3.set s.length (.lst ((partedO (os.take i)).map obD ++ o.1.map fun p => obD ([p], []))) = s4 at e3s q2 ⊢
    rw [z_nxt]
    unfold pt1b1
    simp [-List.map_map]
    refine ⟨isTy_ml q2, ?_⟩
    refine wp_ne (lc_mapR (ks := []) (fun d x => d = .str x) (fun x => obD ([], [x])) (as := o.2) (xs := o.2.map D.str) AllR.of_map (it_tup (by simp)) bags_nil (by rw [size_line]; omega) fun d x s5 hd hx ef _ => ?_) ?_
    · subst hd
      refine ⟨_, rfl, ?_⟩
      simp [-List.map_map]
      exact ⟨by rw [size_line]; decide, two_le_line, Eff.refl, rfl⟩
    rintro _ s5 ⟨rfl, e5, hlt5, m5⟩
    have n5 := e5.ml q2 (by simp)
    rw [z_extend (k := 0), n5, lstP_some, seqD_ref, lstAt_ml m5, optP_some]
    refine ⟨by rw [List.length_append, List.length_map, List.length_map, List.length_map, size_line]; omega, ?_⟩
    refine ⟨(e3s.trans e5).set (Nat.le_refl _), ?_⟩
    rw [mlAt_set_self (lstAt_lt (lstAt_ml n5))]
    have et : os.take (i + 1) = os.take i ++ [o] := by rw [List.take_add_one, ho]; rfl
    rw [et]
    unfold partedO partO
    simp [List.flatMap_append, List.map_append, List.map_map, Function.comp_def]
  · rintro e s2 ⟨e2, m2, p2, p3, p4, p5, rfl⟩
    rw [List.length_map, List.take_length] at m2
    dsimp only
    rw [z_nxt]
    unfold pt2
    simp
    exact hP _ _ ⟨e2, _, rfl, Nat.le_refl _, m2⟩
end Z

set_option Elab.async false
set_option linter.all false
set_option maxRecDepth 100000
set_option maxHeartbeats 4000000
namespace Z
open PySem PySem.Spec PyProof.Rows L2 TL
open PySem.PyData (strOk)
structure Sm (B : Nat) (d : D) : Prop where
  sh : (enc d).showable = true
  iz : (enc d).intsShort 13 = true
  wt : (enc d).weight ≤ B
theorem sm_str {B : Nat} {x : Str} (h : x.length ≤ B) : Sm B (.str x) := ⟨by simp [enc, PyData.showable], by simp [enc, PyData.intsShort], by rw [w_str]; exact h⟩
theorem sm_alls : ∀ {xs : List D} {B : Nat}, (∀ d ∈ xs, Sm B d) → PyData.showableAll (encs xs) = true ∧ PyData.intsShortAll 13 (encs xs) = true ∧ PyData.weightAll (encs xs) ≤ xs.length * (B + 1)
  | [], _, _ => by simp [encs, PyData.showableAll, PyData.intsShortAll, PyData.weightAll]
  | x :: xs, B, h => by
    have hx := h x (by simp)
    obtain ⟨h1, h2, h3⟩ := sm_alls (xs := xs) fun d hd => h d (by simp [hd])
    rw [encs, PyData.showableAll, PyData.intsShortAll, PyData.weightAll, hx.sh, hx.iz, h1, h2]
    refine ⟨rfl, rfl, ?_⟩
    have := hx.wt
    rw [List.length_cons, Nat.add_mul, Nat.one_mul]
    omega
theorem sm_tup {xs : List D} {B : Nat} (h : ∀ d ∈ xs, Sm B d) : Sm (xs.length * (B + 1)) (.tup xs) := by
  obtain ⟨h1, h2, h3⟩ := sm_alls h
  exact ⟨by rw [enc, PyData.showable]; exact h1, by rw [enc, PyData.intsShort]; exact h2, by rw [enc, PyData.weight]; exact h3⟩
theorem repr_sm {P : D → Sto → Prop} {E : Str → Str → D → Sto → Prop} {s : Sto} {d : D} {B : Nat} (h : Sm B d) (hp : plain 20 d = true) (hB : B ≤ 2 ^ 20) (hP : P (.str (enc d).shown) s) : (fRepr [d] s).wp P E := by
  rw [z_repr]
  obtain ⟨h3, h4⟩ := canLay_plain 20 d hp
  refine ⟨_, shp_plain hp, ⟨h.sh, ?_⟩, hP⟩
  have := PyProof.Rows.shown_le13 (d := enc d) (by
    unfold PyData.layable0
    rw [h3]
    simp only [Bool.true_and, Bool.and_eq_true, decide_eq_true_eq]
    exact ⟨by omega, Nat.le_trans h.wt hB⟩) h.iz
  rw [size_line]
  omega
theorem ne_no {s : Sto} {k k' : Nat} {xs : List D} (m : mlAt s k = some xs) (m' : mlAt s k' = some xs) (h1 : plains 20 xs = true) {P : D → Sto → Prop} {E : Str → Str → D → Sto → Prop} (hP : P (.bl false) s) : (dNe (.ref k) (.ref k') s).wp P E := by
  rw [z_neL_no (lstAt_ml m) (lstAt_ml m') h1]
  exact hP
structure PopI (s0 s : Sto) (k p2 p3 : Nat) (L left out : List ObA) : Prop where
  ef : Eff [k] s0 s
  m2 : mlAt s p2 = some (left.map obD)
  m3 : mlAt s p3 = some (out.map obD)
  pm : (out ++ left).Perm L
  lo : k < s0.length ∧ s0.length ≤ p2 ∧ p2 < p3
theorem obD_plain {o : ObA} (h : ObOk o) : plain 20 (obD o) = true := by
  unfold obD
  rw [plain, plains_iff]
  intro y hy
  simp only [List.mem_cons, List.not_mem_nil, or_false] at hy
  rcases hy with rfl | rfl
  · rw [plain, plains_iff]
    intro z hz
    obtain ⟨p, hp, rfl⟩ := List.mem_map.mp hz
    exact plain_fcD (n := 17) ⟨(h.nm p hp).ok, kinds_ok (h.kd p hp)⟩
  · rw [plain]
    exact plains_strs (n := 18) fun x hx => (h.wn x hx).ok
theorem perm_word {L L' : List ObA} (p : L.Perm L') (y : Str) : wordOf L y = wordOf L' y := by
  have e1 : ∀ q, q ∈ defsO L ↔ q ∈ defsO L' := fun q => by
    unfold defsO
    simp only [List.mem_flatMap, p.mem_iff]
  have e2 : ∀ q, q ∈ wantsO L ↔ q ∈ wantsO L' := fun q => by
    unfold wantsO
    simp only [List.mem_flatMap, p.mem_iff]
  unfold wordOf
  simp only [e1, e2]
theorem perm_ok {L L' : List ObA} (p : L.Perm L') (h : ObsOk L) : ObsOk L' := by
  refine ⟨fun o ho => h.ob o (p.mem_iff.mpr ho), ?_, ?_⟩
  · exact ((p.flatMap_right _).nodup_iff).mp h.st
  · have h1 : (defsO L).length = (defsO L').length := (p.flatMap_right _).length_eq
    have h2 : (wantsO L).length = (wantsO L').length := (p.flatMap_right _).length_eq
    have := h.len
    omega
theorem face_words {L L' : List ObA} (h : ObsOk L) (h' : ObsOk L') (e : ∀ y, wordOf L y = wordOf L' y) : faceO L = faceO L' :=
  face_same (faceO_ok h) (faceO_ok h') fun p => by
    show (p.1, p.2) ∈ _ ↔ (p.1, p.2) ∈ _
    rw [faceO_mem, faceO_mem, e]
/-! ### _law_turned -/
def tn1b : SM := (sE (mBM "list" (mtL lAppend) (mV 3) (aC (mBM "list" (mtL lPopAt) (mV 2) (aC (mN m__law_take (aC (mV 0) (aC (mN fLen (aC (mV 2) aN)) aN))) aN)) aN)))
def tn2 : SM := (sR (mV 3))
def tn1 : SM := (sC (sW 1000 (toB (m2 dNe (mV 2) (mN fLst aN))) tn1b) tn2)
def tn0 : SM := (sC (sP 2 3 (aC (mN fList (aC (mV 1) aN)) (aC (mN fLst aN) aN))) tn1)
theorem tn_eq : s__law_turned = tn0 := rfl
theorem turned_ok {s : Sto} {k l : Nat} {L : List ObA} (hb : Bag s k) (ml : mlAt s l = some (L.map obD)) (hL : ∀ o ∈ L, ObOk o) (ll : L.length ≤ 900) :
    (m__law_turned [.ref k, .ref l] s).wp fun d s' => Eff [k] s s' ∧ ∃ (n : Nat) (L' : List ObA), d = .ref n ∧ mlAt s' n = some (L'.map obD) ∧ L'.Perm L := by
  refine wp_of fun Pd hP => ?_
  have hk := hb.lt
  unfold m__law_turned
  rw [z_fnM (by rfl), tn_eq]
  show (tn0 [some (.ref k), some (.ref l), none, none] s).wp _
  unfold tn0
  rw [z_sCn]
  simp [-List.map_map]
  rw [lstAt_ml ml, lstP_some]
  refine ⟨by rw [List.length_map, size_line]; omega, ?_⟩
  have ea : Eff [k] s (s ++ [SO.lst (L.map obD), SO.lst []]) := Eff.app
  have g2 : mlAt (s ++ [SO.lst (L.map obD), SO.lst []]) s.length = some (L.map obD) := mlAt_some (by rw [app_at (j := 0) (by omega)]; rfl)
  have g3 : mlAt (s ++ [SO.lst (L.map obD), SO.lst []]) (s.length + 1) = some (([] : List ObA).map obD) := mlAt_some (by rw [app_at (j := 1) rfl]; rfl)
  generalize s ++ [SO.lst (L.map obD), SO.lst []] = s1 at ea g2 g3 ⊢
  rw [z_nxt]
  unfold tn1
  rw [z_sCn]
  refine sW_wp (m := L.length) (fun m e s' => ∃ left out, PopI s s' k s.length (s.length + 1) L left out ∧ left.length = m ∧ e = [some (.ref k), some (.ref l), some (.ref s.length), some (.ref (s.length + 1))]) ?_ (by omega) ⟨L, [], ⟨ea, g2, g3, List.Perm.refl _, hk, Nat.le_refl _, Nat.lt_succ_self _⟩, rfl, rfl⟩
  rintro m e s4 ⟨left, out, h4, hm, rfl⟩
  have hpl : ∀ o ∈ left, ObOk o := fun o ho => hL o (h4.pm.mem_iff.mp (List.mem_append_right _ ho))
  have pp : plains 20 (left.map obD) = true := plains_iff.mpr fun d hd => by
    obtain ⟨o, ho, rfl⟩ := List.mem_map.mp hd
    exact obD_plain (hpl o ho)
  simp [-List.map_map]
  refine ne_nil h4.m2 pp fun s5 e5 => ?_
  obtain ⟨l0, l1, l2⟩ := h4.lo
  have h5 : PopI s s5 k s.length (s.length + 1) L left out := ⟨h4.ef.trans e5.nil, e5.ml h4.m2 (by simp), e5.ml h4.m3 (by simp), h4.pm, h4.lo⟩
  have hlen := h4.pm.length_eq
  rw [List.length_append] at hlen
  rw [blP_bl]
  by_cases c : left.map obD = []
  · rw [decide_eq_true c, if_neg (by decide)]
    have hl : left = [] := List.map_eq_nil_iff.mp c
    show nxt _ _ _ _
    rw [z_nxt]
    unfold tn2
    simp
    have pm := h5.pm
    rw [hl, List.append_nil] at pm
    exact hP _ _ ⟨h5.ef, _, out, rfl, h5.m3, pm⟩
  · rw [decide_eq_false c, if_pos (by decide)]
    have hne : left ≠ [] := fun z => c (by rw [z]; rfl)
    have hpos : 0 < left.length := List.length_pos_iff.mpr hne
    refine ⟨m - 1, by omega, ?_⟩
    unfold tn1b
    simp [-List.map_map]
    refine ⟨isTy_ml h5.m3, isTy_ml h5.m2, ?_⟩
    rw [lstAt_ml h5.m2, lstP_some, List.length_map]
    refine wp_ne (take_ok (n := (left.length : Int)) (h5.ef.bag k (by simp) hb) (by omega) (by omega)) ?_
    intro d6 s6 hh6
    obtain ⟨j, rfl, hj, e6⟩ := hh6
    have q2 := e6.ml h5.m2 (by simp; omega)
    have q3 := e6.ml h5.m3 (by simp; omega)
    have hjl : j < left.length := by omega
    have hxj : (left.map obD)[j]? = some (obD left[j]) := by rw [List.getElem?_map, List.getElem?_eq_getElem hjl]; rfl
    rw [z_popN q2 hxj (by rw [List.length_map]; omega), eraseIdx_map]
    have l6 := e6.le
    have r3 : mlAt (s6.set s.length (.lst ((left.eraseIdx j).map obD))) (s.length + 1) = some (out.map obD) := by rw [mlAt_set_ne (by omega)]; exact q3
    have r2 : mlAt (s6.set s.length (.lst ((left.eraseIdx j).map obD))) s.length = some ((left.eraseIdx j).map obD) := mlAt_set_self (lstAt_lt (lstAt_ml q2))
    have ef6 : Eff [k] s (s6.set s.length (.lst ((left.eraseIdx j).map obD))) := (h5.ef.trans e6).set (Nat.le_refl _)
    generalize s6.set s.length (.lst ((left.eraseIdx j).map obD)) = s7 at r3 r2 ef6 ⊢
    rw [r3, lstP_some]
    refine ⟨by rw [List.length_map, size_line]; omega, left.eraseIdx j, ⟨out ++ [left[j]], ef6.set (by omega), ?_, ?_, (pop_perm (List.getElem?_eq_getElem hjl)).trans h5.pm, h5.lo⟩, by rw [List.length_eraseIdx_of_lt hjl]; omega⟩
    · rw [mlAt_set_ne (by omega)]; exact r2
    · rw [mlAt_set_self (lstAt_lt (lstAt_ml r3)), List.map_append]; rfl
/-! ### programs with the same face -/
theorem defs_parted (os : List ObA) : defsO (partedO os) = defsO os := by
  unfold defsO partedO
  induction os with
  | nil => rfl
  | cons o os ih =>
    rw [List.flatMap_cons, List.flatMap_append, ih, List.flatMap_cons]
    congr 1
    unfold partO
    rw [List.flatMap_append, List.flatMap_map, List.flatMap_map]
    have h1 : ∀ xs : List (Str × Str), (xs.flatMap fun p => ((([p], []) : ObA)).1) = xs := fun xs => by
      induction xs with
      | nil => rfl
      | cons x xs ih => rw [List.flatMap_cons, ih]; rfl
    have h2 : ∀ xs : List Str, (xs.flatMap fun x => ((([], [x]) : ObA)).1) = [] := fun xs => by
      induction xs with
      | nil => rfl
      | cons x xs ih => rw [List.flatMap_cons, ih]; rfl
    rw [h1, h2, List.append_nil]
theorem wants_parted (os : List ObA) : wantsO (partedO os) = wantsO os := by
  unfold wantsO partedO
  induction os with
  | nil => rfl
  | cons o os ih =>
    rw [List.flatMap_cons, List.flatMap_append, ih, List.flatMap_cons]
    congr 1
    unfold partO
    rw [List.flatMap_append, List.flatMap_map, List.flatMap_map]
    have h1 : ∀ xs : List (Str × Str), (xs.flatMap fun p => ((([p], []) : ObA)).2) = [] := fun xs => by
      induction xs with
      | nil => rfl
      | cons x xs ih => rw [List.flatMap_cons, ih]; rfl
    have h2 : ∀ xs : List Str, (xs.flatMap fun x => ((([], [x]) : ObA)).2) = xs := fun xs => by
      induction xs with
      | nil => rfl
      | cons x xs ih => rw [List.flatMap_cons, ih]; rfl
    rw [h1, h2, List.nil_append]
theorem parted_obs {os : List ObA} (O : ObsOk os) : ObsOk (partedO os) := by
  refine ⟨fun o ho => ?_, ?_, by rw [defs_parted, wants_parted]; exact O.len⟩
  · obtain ⟨q, hq, ho⟩ := List.mem_flatMap.mp ho
    have h := O.ob q hq
    unfold partO at ho
    rcases List.mem_append.mp ho with ho | ho
    · obtain ⟨p, hp, rfl⟩ := List.mem_map.mp ho
      exact ⟨by simpa using h.nm p hp, by simpa using h.kd p hp, by simp, by simp, by simp, by simp⟩
    · obtain ⟨x, hx, rfl⟩ := List.mem_map.mp ho
      exact ⟨by simp, by simp, by simp, by simpa using h.wn x hx, by simp, by simp⟩
  · rw [strongs_flat, defs_parted, ← strongs_flat]
    exact O.st
theorem parted_word (os : List ObA) (y : Str) : wordOf (partedO os) y = wordOf os y := by
  unfold wordOf
  rw [defs_parted, wants_parted]
theorem faceO_len {os : List ObA} (O : ObsOk os) : (faceO os).length ≤ (defsO os).length + (wantsO os).length := by
  have := List.Nodup.length_le_of_subset (faceO_ok O).nd (l₂ := (defsO os).map (·.1) ++ wantsO os) fun y hy => by
    obtain ⟨p, hp, rfl⟩ := List.mem_map.mp hy
    rcases wordOf_in (faceO_mem.mp (show (p.1, p.2) ∈ _ from hp)) with ⟨k, hk⟩ | h
    · exact List.mem_append_left _ (List.mem_map_of_mem (f := (·.1)) hk)
    · exact List.mem_append_right _ h
  rwa [List.length_map, List.length_append, List.length_map] at this
def ownP (f : FaceA) : List (Str × Str) := f.filter fun p => !decide (p.2 = ("wanted" : Str))
def ownN (f : FaceA) : List Str := (f.filter fun p => decide (p.2 = ("wanted" : Str))).map (·.1)
theorem own_defs {f : FaceA} : defsO [(ownP f, ownN f)] = ownP f := by unfold defsO; simp
theorem own_wants {f : FaceA} : wantsO [(ownP f, ownN f)] = ownN f := by unfold wantsO; simp
theorem own_obs {f : FaceA} (F : FaceOk f) (l : f.length ≤ 100) : ObsOk [(ownP f, ownN f)] := by
  have kd : ∀ p ∈ ownP f, p.2 ∈ kinds := fun p hp => by
    obtain ⟨h1, h2⟩ := List.mem_filter.mp hp
    have h3 := F.wd p h1
    have h2 : ¬ p.2 = ("wanted" : Str) := by simpa using h2
    unfold wordL at h3
    simp only [List.mem_cons, List.not_mem_nil, or_false] at h3
    rcases h3 with e | e | e | e
    · exact absurd e h2
    · rw [e]; decide +kernel
    · rw [e]; decide +kernel
    · rw [e]; decide +kernel
  have nd : ((ownP f).map (·.1)).Nodup := F.nd.sublist (List.filter_sublist.map _)
  have l1 : (ownP f).length ≤ f.length := List.length_filter_le _ _
  have l2 : (ownN f).length ≤ f.length := by unfold ownN; rw [List.length_map]; exact List.length_filter_le _ _
  refine ⟨fun o ho => ?_, ?_, by rw [own_defs, own_wants]; omega⟩
  · rw [List.mem_singleton.mp ho]
    exact ⟨fun p hp => F.nm p (List.mem_filter.mp hp).1, kd, nd, fun x hx => by
      obtain ⟨p, hp, rfl⟩ := List.mem_map.mp hx
      exact F.nm p (List.mem_filter.mp hp).1, by show (ownP f).length ≤ 100; omega, by show (ownN f).length ≤ 100; omega⟩
  · rw [strongs_flat, own_defs]
    exact nd.sublist (List.filter_sublist.map _)
theorem own_word {os : List ObA} (O : ObsOk os) (y : Str) : wordOf [(ownP (faceO os), ownN (faceO os))] y = wordOf os y := by
  have d : ∀ k, (y, k) ∈ ownP (faceO os) ↔ wordOf os y = some k ∧ k ≠ ("wanted" : Str) := fun k => by
    unfold ownP
    rw [List.mem_filter, faceO_mem]
    simp
  have n : y ∈ ownN (faceO os) ↔ wordOf os y = some ("wanted" : Str) := by
    unfold ownN
    rw [List.mem_map]
    constructor
    · rintro ⟨p, hp, rfl⟩
      obtain ⟨h1, h2⟩ := List.mem_filter.mp hp
      have h2 := of_decide_eq_true h2
      rw [← h2]
      exact faceO_mem.mp h1
    · intro h
      exact ⟨_, List.mem_filter.mpr ⟨faceO_mem.mpr h, by simp⟩, rfl⟩
  have nw : ("strong" : Str) ≠ "wanted" ∧ ("common" : Str) ≠ "wanted" ∧ ("weak" : Str) ≠ "wanted" ∧ ("strong" : Str) ≠ "common" ∧ ("strong" : Str) ≠ "weak" ∧ ("common" : Str) ≠ "weak" := by decide +kernel
  obtain ⟨n1, n2, n3, n4, n5, n6⟩ := nw
  have e : wordOf [(ownP (faceO os), ownN (faceO os))] y = if wordOf os y = some ("strong" : Str) then some ("strong" : Str) else if wordOf os y = some ("common" : Str) then some ("common" : Str) else if wordOf os y = some ("weak" : Str) then some ("weak" : Str) else if wordOf os y = some ("wanted" : Str) then some ("wanted" : Str) else none := by
    conv => lhs; unfold wordOf
    rw [own_defs, own_wants]
    simp only [d, n]
    simp only [n1, n2, n3, ne_eq, not_false_eq_true, and_true]
  rw [e]
  cases c : wordOf os y with
  | none => simp
  | some v =>
    have hv := wordOf_word c
    unfold wordL at hv
    simp only [List.mem_cons, List.not_mem_nil, or_false] at hv
    rcases hv with rfl | rfl | rfl | rfl
    · simp [n1.symm, n2.symm, n3.symm]
    · simp [n5.symm, n6.symm]
    · simp [n4.symm]
    · simp
def wishO (f : FaceA) : List ObA := f.map fun p => ([], [p.1])
theorem wish_defs (f : FaceA) : defsO (wishO f) = [] := by
  unfold defsO wishO
  rw [List.flatMap_map]
  induction f with
  | nil => rfl
  | cons p f ih => rw [List.flatMap_cons, ih]; rfl
theorem wish_wants (f : FaceA) : wantsO (wishO f) = f.map (·.1) := by
  unfold wantsO wishO
  rw [List.flatMap_map]
  induction f with
  | nil => rfl
  | cons p f ih => rw [List.flatMap_cons, ih]; rfl
theorem wish_ob {f : FaceA} (F : FaceOk f) : ∀ o ∈ wishO f, ObOk o := fun o ho => by
  obtain ⟨p, hp, rfl⟩ := List.mem_map.mp ho
  exact ⟨by simp, by simp, by simp, by simpa using F.nm p hp, by simp, by simp⟩
theorem wish_obs {f : FaceA} (F : FaceOk f) : ObsOk (wishO f) := ⟨wish_ob F, by rw [strongs_flat, wish_defs]; exact List.nodup_nil, by rw [wish_defs, wish_wants, List.length_map]; have := F.len; simp; omega⟩
theorem app_defs (a b : List ObA) : defsO (a ++ b) = defsO a ++ defsO b := by unfold defsO; rw [List.flatMap_append]
theorem app_wants (a b : List ObA) : wantsO (a ++ b) = wantsO a ++ wantsO b := by unfold wantsO; rw [List.flatMap_append]
theorem wish_app {os : List ObA} (O : ObsOk os) (l : (defsO os).length + (wantsO os).length ≤ 100) : ObsOk (wishO (faceO os) ++ os) := by
  have fl := faceO_len O
  refine ⟨fun o ho => ?_, ?_, ?_⟩
  · rcases List.mem_append.mp ho with ho | ho
    · exact wish_ob (faceO_ok O) o ho
    · exact O.ob o ho
  · rw [strongs_flat, app_defs, wish_defs, List.nil_append, ← strongs_flat]
    exact O.st
  · rw [app_defs, app_wants, wish_defs, wish_wants, List.length_append, List.length_append, List.length_map]
    simp
    omega
theorem wish_app_word {os : List ObA} (y : Str) : wordOf (wishO (faceO os) ++ os) y = wordOf os y := by
  unfold wordOf
  rw [app_defs, app_wants, wish_defs, wish_wants, List.nil_append]
  by_cases c1 : (y, ("strong" : Str)) ∈ defsO os
  · rw [if_pos c1, if_pos c1]
  rw [if_neg c1, if_neg c1]
  by_cases c2 : (y, ("common" : Str)) ∈ defsO os
  · rw [if_pos c2, if_pos c2]
  rw [if_neg c2, if_neg c2]
  by_cases c3 : (y, ("weak" : Str)) ∈ defsO os
  · rw [if_pos c3, if_pos c3]
  rw [if_neg c3, if_neg c3]
  by_cases c4 : y ∈ wantsO os
  · rw [if_pos c4, if_pos (List.mem_append_right _ c4)]
  · rw [if_neg c4, if_neg]
    intro z
    rcases List.mem_append.mp z with z | z
    · obtain ⟨p, hp, rfl⟩ := List.mem_map.mp z
      have := faceO_mem.mp (show (p.1, p.2) ∈ _ from hp)
      unfold wordOf at this
      rw [if_neg c1, if_neg c2, if_neg c3, if_neg c4] at this
      cases this
    · exact c4 z
theorem wish_face {f : FaceA} (F : FaceOk f) : faceO (wishO f) = f.map fun p => (p.1, ("wanted" : Str)) := by
  have e : (f.map fun p => (p.1, ("wanted" : Str))).map (·.1) = f.map (·.1) := by rw [List.map_map]; rfl
  have G : FaceOk (f.map fun p => (p.1, ("wanted" : Str))) := by
    refine ⟨fun p hp => ?_, fun p hp => ?_, by rw [e]; exact F.nd, by rw [e]; exact F.so, by rw [List.length_map]; exact F.len⟩
    · obtain ⟨q, hq, rfl⟩ := List.mem_map.mp hp
      exact F.nm q hq
    · obtain ⟨q, hq, rfl⟩ := List.mem_map.mp hp
      exact (by decide +kernel : ("wanted" : Str) ∈ wordL)
  refine face_same (faceO_ok (wish_obs F)) G fun p => ?_
  show (p.1, p.2) ∈ _ ↔ _
  rw [faceO_mem]
  unfold wordOf
  rw [wish_defs, wish_wants]
  simp only [List.not_mem_nil, if_false]
  constructor
  · intro h
    split at h
    · rename_i c
      obtain ⟨q, hq, e1⟩ := List.mem_map.mp c
      have e2 := Option.some.inj h
      exact List.mem_map.mpr ⟨q, hq, Prod.ext e1 e2⟩
    · cases h
  · intro h
    obtain ⟨q, hq, e1⟩ := List.mem_map.mp h
    rw [← e1]
    rw [if_pos (List.mem_map_of_mem (f := (·.1)) hq)]
theorem face_none {os : List ObA} (h1 : defsO os = []) (h2 : wantsO os = []) : faceO os = [] := by
  refine List.eq_nil_iff_forall_not_mem.mpr fun p hp => ?_
  have := faceO_mem.mp (show (p.1, p.2) ∈ _ from hp)
  unfold wordOf at this
  rw [h1, h2] at this
  simp at this
end Z

set_option Elab.async false
set_option linter.all false
set_option maxRecDepth 100000
set_option maxHeartbeats 4000000
namespace Z
open PySem PySem.Spec PyProof.Rows L2 TL
open PySem.PyData (strOk)
/-! ### the law's turn -/
def lw0b2b11 : SM := (sI (bOr (toB (m2 dNe (mV 6) (mV 9))) (bAnd (toB (m2 dEq (mN m_face_of (aC (mV 10) aN)) (mV 9))) (toB (m2 (dInB true) (mC (.str "q")) (mV 3))))) (sR (mC (.bl false))) sN)
def lw0b2b10 : SM := (sC (sE (mBM "list" (mtL lAppend) (mV 10) (aC (mN fTup (aC (mN fTup (aC (mN fTup (aC (mC (.str "q")) (aC (mC (.str "weak")) aN))) aN)) (aC (mN fTup aN) aN))) aN))) lw0b2b11)
def lw0b2b9 : SM := (sC (sI (bOr (toB (m2 dNe (mN m_face_of (aC (m2 dAdd (mV 8) (mV 5)) aN)) (mV 9))) (toB (m2 dNe (mN m_face_of (aC (mV 8) aN)) (mN fTuple (aC (mL (iSq (mV 9)) (gN 11) tY (mN fTup (aC (m2 dIx (mV 11) (mC (.int 0))) (aC (mC (.str "wanted")) aN))) [11]) aN))))) (sR (mC (.bl false))) sN) lw0b2b10)
def lw0b2b8 : SM := (sC (sA 8 (mN fTuple (aC (mL (iSq (mV 9)) (gN 11) tY (mN fTup (aC (mN fTup aN) (aC (mN fTup (aC (m2 dIx (mV 11) (mC (.int 0))) aN)) aN))) [11]) aN))) lw0b2b9)
def lw0b2b7 : SM := (sC (sI (bOr (toB (m2 dNe (mN m_face_of (aC (mN fLst (aC (mV 7) aN)) aN)) (mV 9))) (bOr (toB (m2 dNe (mN m_face_of (aC (mN fTup (aC (mV 7) aN)) aN)) (mV 9))) (toB (m2 dNe (mN m_look_face (aC (mV 9) aN)) (mV 9))))) (sR (mC (.bl false))) sN) lw0b2b8)
def lw0b2b6 : SM := (sC (sA 7 (mN fTup (aC (mV 7) (aC (mN fTuple (aC (mL (iSq (mV 9)) (gN 11) (toB (m2 dEq (m2 dIx (mV 11) (mC (.int 1))) (mC (.str "wanted")))) (m2 dIx (mV 11) (mC (.int 0))) [11]) aN)) aN)))) lw0b2b7)
def lw0b2b5 : SM := (sC (sA 7 (mN fTuple (aC (mL (iSq (mV 9)) (gN 11) (toB (m2 dNe (m2 dIx (mV 11) (mC (.int 1))) (mC (.str "wanted")))) (mV 11) [11]) aN))) lw0b2b6)
def lw0b2b4 : SM := (sC (sI (toB (m2 dNe (mN m_face_of (aC (mN m__law_turned (aC (mV 2) (aC (mN m__law_parted (aC (mV 5) aN)) aN))) aN)) (mV 9))) (sR (mC (.bl false))) sN) lw0b2b5)
def lw0b2b3 : SM := (sC (sI (bOr (toB (m2 dNe (mN fRepr (aC (mV 6) aN)) (mN fRepr (aC (mV 9) aN)))) (bOr (toB (m2 dNe (mV 10) (mN fList (aC (mV 5) aN)))) (toB (m2 dNe (mN m_face_of (aC (mV 5) aN)) (mV 9))))) (sR (mC (.bl false))) sN) lw0b2b4)
def lw0b2b2 : SM := (sC (sA 6 (mN m_face_of (aC (mV 10) aN))) lw0b2b3)
def lw0b2b1 : SM := (sC (sP 9 10 (aC (mN m__law_face (aC (mV 5) aN)) (aC (mN fList (aC (mV 5) aN)) aN))) lw0b2b2)
def lw0b2b0 : SM := (sC (sA 5 (mN m__law_objects (aC (mV 2) (aC (mV 3) aN)))) lw0b2b1)

def qO : ObA := ([(("q" : Str), ("weak" : Str))], [])
theorem Sm.mono {B C : Nat} {d : D} (h : Sm B d) (hl : B ≤ C) : Sm C d := ⟨h.sh, h.iz, Nat.le_trans h.wt hl⟩
theorem face_plain {f : FaceA} (F : FaceOk f) : plain 20 (D.tup (faceDs f)) = true := by
  rw [plain, face_fc, plains_iff]
  intro y hy
  obtain ⟨p, hp, rfl⟩ := List.mem_map.mp hy
  exact plain_fcD (n := 18) (F.okF p hp)
theorem face_sm {f : FaceA} (F : FaceOk f) : Sm (1000 * (2 * (16 + 1) + 1)) (D.tup (faceDs f)) := by
  have hw : ∀ w ∈ wordL, w.length ≤ 16 := by decide +kernel
  refine (sm_tup (xs := faceDs f) (B := 2 * (16 + 1)) fun d hd => ?_).mono ?_
  · rw [face_fc] at hd
    obtain ⟨p, hp, rfl⟩ := List.mem_map.mp hd
    refine (sm_tup (xs := [.str p.1, .str p.2]) (B := 16) fun d hd => ?_).mono (by simp)
    simp only [List.mem_cons, List.not_mem_nil, or_false] at hd
    rcases hd with rfl | rfl
    · exact sm_str (by have := (F.nm p hp).l8; omega)
    · exact sm_str (hw _ (F.wd p hp))
  · have := F.len
    rw [face_fc, List.length_map]
    exact Nat.mul_le_mul_right _ this
theorem obs_plains {os : List ObA} (h : ∀ o ∈ os, ObOk o) : plains 20 (os.map obD) = true := plains_iff.mpr fun d hd => by
  obtain ⟨o, ho, rfl⟩ := List.mem_map.mp hd
  exact obD_plain (h o ho)
theorem look_face_v {f : FaceA} (F : FaceOk f) {s : Sto} : (m_look_face [.tup (faceDs f)] s).wp fun d s' => d = .tup (faceDs f) ∧ Eff [] s s' := by
  refine wp_of fun P hP => ?_
  have nm_l : NmOk m_is_name := nm_X (itb := itb) letters_str
  have is_face_l : IsFaceOk m_is_face := is_face_gen (FN := m_is_name) (FT := m_twice_in) nm_l rfl
  unfold m_look_face s_look_face
  rw [z_fnM (by rfl), z_sCn]
  simp
  rw [face_rows]
  refine wp_ne (is_face_l F.rows) ?_
  rintro _ s1 ⟨rfl, e1⟩
  rw [F.isB]
  simp [trD]
  show nxt _ _ _ _
  rw [z_nxt]
  simp
  exact hP _ _ ⟨by rw [face_rows], e1⟩
section
variable {names : List Str} (hn : ∀ x ∈ names, IsName x) {os : List ObA} (W : ObsW names os) (O : ObsOk os) (ol : os.length ≤ 3) {kb l3 l10 : Nat} {s : Sto} {Q : En} {o0 o1 o2 o3 o4 o5 o6 o7 o8 o9 o10 o11 : Option D}
include hn W O ol
theorem b11_ok (m3 : mlAt s l3 = some (names.map D.str)) (m10 : mlAt s l10 = some ((os ++ [qO]).map obD)) (hQ : ∀ s', Eff [] s s' → Q.nx [o0, o1, some (.ref kb), some (.ref l3), o4, some (.tup (os.map obD)), some (.tup (faceDs (faceO os))), o7, o8, some (.tup (faceDs (faceO os))), some (.ref l10), o11] s') :
    (lw0b2b11 [o0, o1, some (.ref kb), some (.ref l3), o4, some (.tup (os.map obD)), some (.tup (faceDs (faceO os))), o7, o8, some (.tup (faceDs (faceO os))), some (.ref l10), o11] s).wp Q := by
  have ln := W.lens
  have qn : IsName "q" := nmB_iff.mp (by decide +kernel)
  have O2 : ObsOk (os ++ [qO]) := by
    refine ⟨fun o ho => ?_, ?_, ?_⟩
    · rcases List.mem_append.mp ho with ho | ho
      · exact O.ob o ho
      · rw [List.mem_singleton.mp ho]
        exact ⟨by simpa [qO] using qn, by simp [qO]; decide +kernel, by simp [qO], by simp [qO], by simp [qO], by simp [qO]⟩
    · rw [strongs_flat, app_defs]
      have e : defsO [qO] = [(("q" : Str), ("weak" : Str))] := rfl
      rw [e, List.filter_append]
      have e2 : ([(("q" : Str), ("weak" : Str))].filter fun p => decide (p.2 = ("strong" : Str))) = [] := by decide +kernel
      rw [e2, List.append_nil, ← strongs_flat]
      exact O.st
    · rw [app_defs, app_wants, List.length_append, List.length_append]
      have e : defsO [qO] = [(("q" : Str), ("weak" : Str))] := rfl
      have e2 : wantsO [qO] = [] := rfl
      rw [e, e2]
      simp
      omega
  have inq : faceO (os ++ [qO]) = faceO os → ("q" : Str) ∈ names := fun e => by
    have hd : (("q" : Str), ("weak" : Str)) ∈ defsO (os ++ [qO]) := by
      rw [app_defs]
      exact List.mem_append_right _ (by simp [defsO, qO])
    have hw : ∃ v, wordOf (os ++ [qO]) "q" = some v := by
      unfold wordOf
      split
      · exact ⟨_, rfl⟩
      split
      · exact ⟨_, rfl⟩
      exact ⟨_, rfl⟩
    obtain ⟨v, hv⟩ := hw
    have := faceO_mem.mpr hv
    rw [e] at this
    exact faceO_in O (fun p hp => by
      obtain ⟨o, ho, hp⟩ := List.mem_flatMap.mp hp
      exact (W.sub o ho).1 p hp) (fun x hx => by
      obtain ⟨o, ho, hx⟩ := List.mem_flatMap.mp hx
      exact (W.sub o ho).2 x hx) _ this
  have pf := face_plain (faceO_ok O)
  have pf2 := face_plain (faceO_ok O2)
  unfold lw0b2b11
  simp [-List.map_map]
  rw [z_ne_no pf, blP_bl, if_neg Bool.false_ne_true]
  refine wp_ne (face_of_l O2 (.inr ⟨l10, rfl, lstAt_ml m10⟩)) ?_
  rintro _ s1 ⟨e1, rfl⟩
  by_cases c : faceO (os ++ [qO]) = faceO os
  · rw [c, z_eq_yes pf, blP_bl, if_pos rfl]
    have hq := inq c
    rw [z_inL_yes (show plain 20 (D.str "q") = true by rw [plain]; exact qn.ok) (lstAt_ml (e1.ml m3 (by simp))) (plains_strs (n := 20) fun x hx => (hn x hx).ok) (List.mem_map_of_mem hq), blP_bl, if_neg (by decide)]
    exact hQ _ e1
  · rw [z_eq_no pf2 pf (fun e => c ?_), blP_bl, if_neg (by decide)]
    · exact hQ _ e1
    · injection e with e
      have inj : ∀ f g : FaceA, faceDs f = faceDs g → f = g := by
        intro f
        induction f with
        | nil => intro g h; cases g with
          | nil => rfl
          | cons _ _ => cases h
        | cons p f ih => intro g h; cases g with
          | nil => cases h
          | cons q g =>
            rw [face_fc, face_fc, List.map_cons, List.map_cons, List.cons.injEq] at h
            obtain ⟨h1, h2⟩ := h
            unfold fcD at h1
            injection h1 with h1
            injection h1 with h1 h3
            injection h3 with h3 _
            injection h1 with h1
            injection h3 with h3
            rw [ih g h2, show p = q from Prod.ext h1 h3]
      exact inj _ _ e
theorem b10_ok (m3 : mlAt s l3 = some (names.map D.str)) (m10 : mlAt s l10 = some (os.map obD)) {s0 : Sto} (ef : Eff [kb] s0 s) (h10 : s0.length ≤ l10) (h3 : l3 < s0.length) (hQ : ∀ s', Eff [kb] s0 s' → Q.nx [o0, o1, some (.ref kb), some (.ref l3), o4, some (.tup (os.map obD)), some (.tup (faceDs (faceO os))), o7, o8, some (.tup (faceDs (faceO os))), some (.ref l10), o11] s') :
    (lw0b2b10 [o0, o1, some (.ref kb), some (.ref l3), o4, some (.tup (os.map obD)), some (.tup (faceDs (faceO os))), o7, o8, some (.tup (faceDs (faceO os))), some (.ref l10), o11] s).wp Q := by
  unfold lw0b2b10
  rw [z_sCn]
  simp [-List.map_map]
  refine ⟨isTy_ml m10, two_le_line, by rw [size_line]; decide, two_le_line, ?_⟩
  rw [m10, lstP_some]
  refine ⟨by rw [List.length_map, size_line]; omega, ?_⟩
  have eo : os.map obD ++ [D.tup [D.tup [D.tup [.str (Str.ofString "q"), .str (Str.ofString "weak")]], D.tup []]] = (os ++ [qO]).map obD := by rw [List.map_append]; rfl
  rw [eo]
  have e1 : Eff [kb] s0 (s.set l10 (.lst ((os ++ [qO]).map obD))) := ef.set h10
  have m1 : mlAt (s.set l10 (.lst ((os ++ [qO]).map obD))) l10 = some ((os ++ [qO]).map obD) := mlAt_set_self (lstAt_lt (lstAt_ml m10))
  have n3 : mlAt (s.set l10 (.lst ((os ++ [qO]).map obD))) l3 = some (names.map D.str) := by rw [mlAt_set_ne (by omega)]; exact m3
  generalize s.set l10 (.lst ((os ++ [qO]).map obD)) = s1 at e1 m1 n3 ⊢
  rw [z_nxt]
  exact b11_ok hn W O ol n3 m1 fun s' e' => hQ s' (e1.trans e'.nil)
theorem b9_ok (hQ : ∀ s', Eff [] s s' → (lw0b2b10 [o0, o1, some (.ref kb), some (.ref l3), o4, some (.tup (os.map obD)), some (.tup (faceDs (faceO os))), o7, some (.tup ((wishO (faceO os)).map obD)), some (.tup (faceDs (faceO os))), some (.ref l10), o11] s').wp Q) :
    (lw0b2b9 [o0, o1, some (.ref kb), some (.ref l3), o4, some (.tup (os.map obD)), some (.tup (faceDs (faceO os))), o7, some (.tup ((wishO (faceO os)).map obD)), some (.tup (faceDs (faceO os))), some (.ref l10), o11] s).wp Q := by
  have ln := W.lens
  have F := faceO_ok O
  have fl := faceO_len O
  have OW := wish_app O (by omega)
  have pf := face_plain F
  unfold lw0b2b9
  rw [z_sCn]
  simp [-List.map_map]
  refine ⟨by unfold wishO; simp only [List.length_map]; rw [size_line]; omega, ?_⟩
  rw [← List.map_append]
  refine wp_ne (face_of_l OW (.inl rfl)) ?_
  rintro _ s1 ⟨e1, rfl⟩
  rw [face_words OW O wish_app_word, z_ne_no pf, blP_bl, if_neg Bool.false_ne_true]
  refine wp_ne (face_of_l (wish_obs F) (.inl rfl)) ?_
  rintro _ s2 ⟨e2, rfl⟩
  rw [wish_face F]
  refine wp_ne (lc_mapR (ks := []) (fun d p => d = fcD p) (fun p => fcD (p.1, "wanted")) (as := faceO os) (xs := faceDs (faceO os)) AllR.of_map (it_tup (by simp [face_fc])) bags_nil (by rw [size_line]; omega) fun d x s3 hd hx ef _ => ?_) ?_
  · subst hd
    refine ⟨_, rfl, ?_⟩
    simp [fcD, show ∀ (a b : D), atI [a, b] 0 = some a from fun _ _ => rfl]
    exact ⟨two_le_line, Eff.refl⟩
  rintro _ s3 ⟨rfl, e3, hlt3, m3⟩
  rw [z_tupL, lstAt_ml m3, lstP_some]
  have ee : (faceO os).map (fun p => fcD (p.1, "wanted")) = faceDs ((faceO os).map fun p => (p.1, ("wanted" : Str))) := by rw [face_fc, List.map_map]; rfl
  have pw : plain 20 (D.tup (faceDs ((faceO os).map fun p => (p.1, ("wanted" : Str))))) = true := by
    rw [← wish_face F]
    exact face_plain (faceO_ok (wish_obs F))
  rw [ee, z_ne_no pw, blP_bl, if_neg Bool.false_ne_true]
  show nxt _ _ _ _
  rw [z_nxt]
  exact hQ _ ((e1.trans e2).trans e3)
theorem b8_ok (hQ : ∀ s', Eff [] s s' → (lw0b2b9 [o0, o1, some (.ref kb), some (.ref l3), o4, some (.tup (os.map obD)), some (.tup (faceDs (faceO os))), o7, some (.tup ((wishO (faceO os)).map obD)), some (.tup (faceDs (faceO os))), some (.ref l10), o11] s').wp Q) :
    (lw0b2b8 [o0, o1, some (.ref kb), some (.ref l3), o4, some (.tup (os.map obD)), some (.tup (faceDs (faceO os))), o7, o8, some (.tup (faceDs (faceO os))), some (.ref l10), o11] s).wp Q := by
  have ln := W.lens
  have fl := faceO_len O
  unfold lw0b2b8
  rw [z_sCn]
  simp [-List.map_map]
  refine wp_ne (lc_mapR (ks := []) (fun d p => d = fcD p) (fun p => obD ([], [p.1])) (as := faceO os) (xs := faceDs (faceO os)) AllR.of_map (it_tup (by simp [face_fc])) bags_nil (by rw [size_line]; omega) fun d x s3 hd hx ef _ => ?_) ?_
  · subst hd
    refine ⟨_, rfl, ?_⟩
    simp [fcD, obD, show ∀ (a b : D), atI [a, b] 0 = some a from fun _ _ => rfl]
    exact ⟨by rw [size_line]; decide, two_le_line, Eff.refl⟩
  rintro _ s3 ⟨rfl, e3, hlt3, m3⟩
  rw [z_tupL, lstAt_ml m3, lstP_some]
  have ee : (faceO os).map (fun p => obD ([], [p.1])) = (wishO (faceO os)).map obD := by unfold wishO; rw [List.map_map]; rfl
  rw [ee, z_nxt]
  exact hQ _ e3
theorem b7_ok (hQ : ∀ s', Eff [] s s' → (lw0b2b8 [o0, o1, some (.ref kb), some (.ref l3), o4, some (.tup (os.map obD)), some (.tup (faceDs (faceO os))), some (obD (ownP (faceO os), ownN (faceO os))), o8, some (.tup (faceDs (faceO os))), some (.ref l10), o11] s').wp Q) :
    (lw0b2b7 [o0, o1, some (.ref kb), some (.ref l3), o4, some (.tup (os.map obD)), some (.tup (faceDs (faceO os))), some (obD (ownP (faceO os), ownN (faceO os))), o8, some (.tup (faceDs (faceO os))), some (.ref l10), o11] s).wp Q := by
  have ln := W.lens
  have F := faceO_ok O
  have fl := faceO_len O
  have pf := face_plain F
  have OW := own_obs F (by omega)
  have ew : faceO [(ownP (faceO os), ownN (faceO os))] = faceO os := face_words OW O (own_word O)
  unfold lw0b2b7
  rw [z_sCn]
  simp [-List.map_map]
  refine ⟨by rw [size_line]; decide, ?_⟩
  have e0 : Eff [] s (s ++ [SO.lst [obD (ownP (faceO os), ownN (faceO os))]]) := Eff.push
  have m0 : mlAt (s ++ [SO.lst [obD (ownP (faceO os), ownN (faceO os))]]) s.length = some ([(ownP (faceO os), ownN (faceO os))].map obD) := mlAt_push
  generalize s ++ [SO.lst [obD (ownP (faceO os), ownN (faceO os))]] = s0 at e0 m0 ⊢
  refine wp_ne (face_of_l OW (.inr ⟨_, rfl, lstAt_ml m0⟩)) ?_
  rintro _ s1 ⟨e1, rfl⟩
  rw [ew, z_ne_no pf, blP_bl, if_neg Bool.false_ne_true]
  refine ⟨by rw [size_line]; decide, ?_⟩
  refine wp_ne (face_of_l (d := .tup [obD (ownP (faceO os), ownN (faceO os))]) OW (.inl rfl)) ?_
  rintro _ s2 ⟨e2, rfl⟩
  rw [ew, z_ne_no pf, blP_bl, if_neg Bool.false_ne_true]
  refine wp_ne (look_face_v F) ?_
  rintro _ s3 ⟨rfl, e3⟩
  rw [z_ne_no pf, blP_bl, if_neg Bool.false_ne_true]
  show nxt _ _ _ _
  rw [z_nxt]
  exact hQ _ (((e0.trans e1).trans e2).trans e3)
theorem b5_ok (hQ : ∀ s', Eff [] s s' → (lw0b2b7 [o0, o1, some (.ref kb), some (.ref l3), o4, some (.tup (os.map obD)), some (.tup (faceDs (faceO os))), some (obD (ownP (faceO os), ownN (faceO os))), o8, some (.tup (faceDs (faceO os))), some (.ref l10), o11] s').wp Q) :
    (lw0b2b5 [o0, o1, some (.ref kb), some (.ref l3), o4, some (.tup (os.map obD)), some (.tup (faceDs (faceO os))), o7, o8, some (.tup (faceDs (faceO os))), some (.ref l10), o11] s).wp Q := by
  have ln := W.lens
  have fl := faceO_len O
  unfold lw0b2b5
  rw [z_sCn]
  simp [-List.map_map]
  refine wp_ne (lc_filtR (ks := []) (fun d p => d = fcD p) (fun d p => d = fcD p) (fun p : Str × Str => !decide (p.2 = ("wanted" : Str))) (as := faceO os) (xs := faceDs (faceO os)) AllR.of_map (it_tup (by simp [face_fc])) bags_nil (by rw [size_line]; omega) fun d p s3 hd hr ef3 _ => ?_) ?_
  · subst hd
    refine ⟨_, rfl, ?_⟩
    simp [fcD, show ∀ (a b : D), atI [a, b] 1 = some b from fun _ _ => rfl]
    exact ⟨Eff.refl, fun _ => Eff.refl⟩
  rintro _ s3 ⟨rfl, e3, hlt3, ys, m3, hR⟩
  have hy : ys = (ownP (faceO os)).map fcD := AllR.eq_map (f := fcD) hR
  subst hy
  rw [z_tupL, lstAt_ml m3, lstP_some, z_nxt]
  unfold lw0b2b6
  rw [z_sCn]
  simp [-List.map_map]
  refine wp_ne (lc_filtR (ks := []) (fun d p => d = fcD p) (fun d p => d = .str p.1) (fun p : Str × Str => decide (p.2 = ("wanted" : Str))) (as := faceO os) (xs := faceDs (faceO os)) AllR.of_map (it_tup (by simp [face_fc])) bags_nil (by rw [size_line]; omega) fun d p s4 hd hr ef4 _ => ?_) ?_
  · subst hd
    refine ⟨_, rfl, ?_⟩
    simp [fcD, show ∀ (a b : D), atI [a, b] 1 = some b from fun _ _ => rfl, show ∀ (a b : D), atI [a, b] 0 = some a from fun _ _ => rfl]
    exact ⟨Eff.refl, fun _ => Eff.refl⟩
  rintro _ s4 ⟨rfl, e4, hlt4, ys, m4, hR4⟩
  have hy4 : ys = (ownN (faceO os)).map D.str := by
    have := AllR.eq_map (f := fun p : Str × Str => D.str p.1) hR4
    rw [this]
    unfold ownN
    rw [List.map_map]
    rfl
  subst hy4
  rw [z_tupL, lstAt_ml m4, lstP_some]
  refine ⟨two_le_line, ?_⟩
  rw [z_nxt]
  exact hQ _ (e3.trans e4)
theorem b3_ok (hb : Bag s kb) (m10 : mlAt s l10 = some (os.map obD)) (h10 : l10 ≠ kb) (hQ : ∀ s', Eff [kb] s s' → (lw0b2b5 [o0, o1, some (.ref kb), some (.ref l3), o4, some (.tup (os.map obD)), some (.tup (faceDs (faceO os))), o7, o8, some (.tup (faceDs (faceO os))), some (.ref l10), o11] s').wp Q) :
    (lw0b2b3 [o0, o1, some (.ref kb), some (.ref l3), o4, some (.tup (os.map obD)), some (.tup (faceDs (faceO os))), o7, o8, some (.tup (faceDs (faceO os))), some (.ref l10), o11] s).wp Q := by
  have ln := W.lens
  have F := faceO_ok O
  have pf := face_plain F
  unfold lw0b2b3
  rw [z_sCn]
  simp [-List.map_map]
  refine repr_sm (face_sm F) pf (by decide) ?_
  refine repr_sm (face_sm F) pf (by decide) ?_
  rw [z_neS, decide_eq_true rfl, Bool.not_true, blP_bl, if_neg Bool.false_ne_true]
  refine ⟨by rw [size_line]; omega, ?_⟩
  have e1 : Eff [] s (s ++ [SO.lst (os.map obD)]) := Eff.push
  have m1 : mlAt (s ++ [SO.lst (os.map obD)]) s.length = some (os.map obD) := mlAt_push
  generalize s ++ [SO.lst (os.map obD)] = s1 at e1 m1 ⊢
  refine ne_no (e1.ml m10 (by simp)) m1 (obs_plains O.ob) ?_
  rw [blP_bl, if_neg Bool.false_ne_true]
  refine wp_ne (face_of_l O (.inl rfl)) ?_
  rintro _ s2 ⟨e2, rfl⟩
  rw [z_ne_no pf, blP_bl, if_neg Bool.false_ne_true]
  show nxt _ _ _ _
  rw [z_nxt]
  unfold lw0b2b4
  rw [z_sCn]
  simp [-List.map_map]
  refine wp_ne (parted_ok O) ?_
  rintro _ s3 ⟨e3, l, rfl, hl, m3⟩
  have e13 := (e1.trans e2).trans e3
  have pl : (partedO os).length ≤ 900 := by
    have : ∀ xs : List ObA, (partedO xs).length = (defsO xs).length + (wantsO xs).length := by
      intro xs
      unfold partedO defsO wantsO
      induction xs with
      | nil => rfl
      | cons o os ih =>
        simp only [List.flatMap_cons, List.length_append]
        rw [ih]
        unfold partO
        rw [List.length_append, List.length_map, List.length_map]
        omega
    rw [this]
    omega
  have PO := parted_obs O
  refine wp_ne (turned_ok ((e13.nil (js := [kb])).bag kb (by simp) hb) m3 PO.ob pl) ?_
  rintro _ s4 ⟨e4, n, L', rfl, m4, pm⟩
  have LO := perm_ok pm.symm PO
  refine wp_ne (face_of_l LO (.inr ⟨n, rfl, lstAt_ml m4⟩)) ?_
  rintro _ s5 ⟨e5, rfl⟩
  rw [face_words LO O fun y => by rw [perm_word pm y, parted_word], z_ne_no pf, blP_bl, if_neg Bool.false_ne_true]
  show nxt _ _ _ _
  rw [z_nxt]
  exact hQ _ ((e13.nil.trans e4).trans e5.nil)
end
section
variable {names : List Str} (hn : ∀ x ∈ names, IsName x) (nn : names.Nodup) (nl : names.length ≤ 1000) (ne : names ≠ []) {kb l3 : Nat} {s : Sto} {Q : En} {o0 o1 o2 o3 o4 o5 o6 o7 o8 o9 o10 o11 : Option D}
include hn nn nl ne
theorem b0_ok (hb : Bag s kb) (m3 : mlAt s l3 = some (names.map D.str)) (h3 : l3 ≠ kb) (hQ : ∀ s' o5 o6 o7 o8 o9 o10 o11, Eff [kb] s s' → Q.nx [o0, o1, some (.ref kb), some (.ref l3), o4, o5, o6, o7, o8, o9, o10, o11] s') :
    (lw0b2b0 [o0, o1, some (.ref kb), some (.ref l3), o4, o5, o6, o7, o8, o9, o10, o11] s).wp Q := by
  have hkl := hb.lt
  have hl3 := lstAt_lt (lstAt_ml m3)
  unfold lw0b2b0
  rw [z_sCn]
  simp [-List.map_map]
  refine wp_ne (objects_l hb hn nn nl m3 h3 ne) ?_
  rintro _ s1 ⟨e1, os, rfl, W, ol⟩
  have O := W.ok (by omega)
  rw [z_nxt]
  unfold lw0b2b1
  rw [z_sCn]
  simp [-List.map_map]
  refine wp_ne (due_ok O) ?_
  rintro _ s2 ⟨e2, rfl⟩
  refine ⟨by rw [size_line]; omega, ?_⟩
  have e3 : Eff [] s2 (s2 ++ [SO.lst (os.map obD)]) := Eff.push
  have m10 : mlAt (s2 ++ [SO.lst (os.map obD)]) s2.length = some (os.map obD) := mlAt_push
  have hl2 : s.length ≤ s2.length := (e1.trans e2.nil).le
  generalize s2 ++ [SO.lst (os.map obD)] = s3 at e3 m10 ⊢
  generalize s2.length = l10 at m10 hl2 ⊢
  have e13 := (e1.trans e2.nil).trans e3.nil
  rw [z_nxt]
  unfold lw0b2b2
  rw [z_sCn]
  simp [-List.map_map]
  refine wp_ne (face_of_l O (.inr ⟨l10, rfl, lstAt_ml m10⟩)) ?_
  rintro _ s4 ⟨e4, rfl⟩
  have e14 := e13.trans e4.nil
  have n10 := e4.ml m10 (by simp)
  have h10 : l10 ≠ kb := by omega
  rw [z_nxt]
  refine b3_ok hn W O ol (e14.bag kb (by simp) hb) n10 h10 fun s5 e5 => ?_
  refine b5_ok hn W O ol fun s6 e6 => ?_
  refine b7_ok hn W O ol fun s7 e7 => ?_
  refine b8_ok hn W O ol fun s8 e8 => ?_
  refine b9_ok hn W O ol fun s9 e9 => ?_
  have e59 : Eff [kb] s4 s9 := (((e5.trans e6.nil).trans e7.nil).trans e8.nil).trans e9.nil
  have e19 := e14.trans e59
  exact b10_ok hn W O ol (e19.ml m3 (by simpa using h3)) (e59.ml n10 (by simpa using h10)) e19 hl2 hl3 fun s' e' => hQ s' _ _ _ _ _ _ _ e'
end
end Z

set_option Elab.async false
set_option linter.all false
set_option maxRecDepth 100000
set_option maxHeartbeats 4000000
namespace Z
open PySem PySem.Spec PyProof.Rows L2 TL
open PySem.PyData (strOk)
def lw0b2 : SM := (sF (iR1 (aC (mN m__law_few (aC (mV 0) (aC (mC (.int 4)) aN))) aN)) (gN 4) lw0b2b0)
def lw0b1 : SM := (sC (sA 3 (mN m__law_names (aC (mV 2) (aC (m2 dAdd (mC (.int 1)) (mN m__law_take (aC (mV 2) (aC (mC (.int 7)) aN)))) aN)))) lw0b2)
def lw0b0 : SM := (sC (sA 2 (mN m__law_bag (aC (mV 0) (aC (mV 1) aN)))) lw0b1)
def lw1 : SM := (sR (mAnd (m2 dEq (mN m_face_of (aC (mN fLst aN) aN)) (mN fTup aN)) (mAnd (m2 dEq (mN m_face_of (aC (mN fTup aN) aN)) (mN fTup aN)) (m2 dEq (mN m_face_of (aC (mN fLst (aC (mN fTup (aC (mN fTup aN) (aC (mN fTup aN) aN))) aN)) aN)) (mN fTup aN)))))
def lw0 : SM := (sC (sF (iR1 (aC (mN fMax2 (aC (mC (.int 1)) (aC (mN fMin2 (aC (mC (.int 5)) (aC (mN fLen (aC (mV 0) aN)) aN))) aN))) aN)) (gN 1) lw0b0) lw1)
theorem lw_eq : s_law = lw0 := rfl
theorem lw0b2_ok {ns : List Int} {names : List Str} (hn : ∀ x ∈ names, IsName x) (nn : names.Nodup) (nl : names.length ≤ 1000) (ne : names ≠ []) {kb l3 : Nat} {s : Sto} {Q : En} {o1 o4 o5 o6 o7 o8 o9 o10 o11 : Option D} (hns : lstAt s 0 = some (ns.map D.int)) (hb : Bag s kb) (m3 : mlAt s l3 = some (names.map D.str)) (h3 : l3 ≠ kb) (hQ : ∀ s' o4 o5 o6 o7 o8 o9 o10 o11, Eff [kb] s s' → Q.nx [some (.ref 0), o1, some (.ref kb), some (.ref l3), o4, o5, o6, o7, o8, o9, o10, o11] s') :
    (lw0b2 [some (.ref 0), o1, some (.ref kb), some (.ref l3), o4, o5, o6, o7, o8, o9, o10, o11] s).wp Q := by
  unfold lw0b2
  simp [-List.map_map]
  refine wp_ne (few_ok (m := 4) hns) ?_
  rintro _ s1 ⟨M, rfl, hM, e1⟩
  simp [-List.map_map]
  refine ⟨by omega, ?_⟩
  refine for_j (xs := rngD 0 M) (by rw [rngD_len]) (fun i e s' => Eff [kb] s s' ∧ ∃ o4 o5 o6 o7 o8 o9 o10 o11, e = [some (.ref 0), o1, some (.ref kb), some (.ref l3), o4, o5, o6, o7, o8, o9, o10, o11]) (fun i e s' _ => rng_at) ?_ ⟨e1.nil, _, _, _, _, _, _, _, _, rfl⟩ ?_
  · rintro i dd e s2 hd ⟨e2, p4, p5, p6, p7, p8, p9, p10, p11, rfl⟩
    refine ⟨_, rfl, ?_⟩
    exact b0_ok hn nn nl ne (e2.bag kb (by simp) hb) (e2.ml m3 (by simpa using h3)) h3 fun s' q5 q6 q7 q8 q9 q10 q11 e' => ⟨e2.trans e', _, _, _, _, _, _, _, _, rfl⟩
  · rintro e s2 ⟨e2, p4, p5, p6, p7, p8, p9, p10, p11, rfl⟩
    exact hQ _ _ _ _ _ _ _ _ _ e2
theorem lw0b0_ok {ns : List Int} (a : Nat) (r : Ev) (s : Sto) (hr : r.length = 10) (hns : lstAt s 0 = some (ns.map D.int)) :
    (lw0b0 (some (.ref 0) :: some (.int a) :: r) s).wp { nx := fun e s' => Eff [] s s' ∧ ∃ o r', e = some (.ref 0) :: o :: r' ∧ r'.length = 10, rt := fun _ _ => False } := by
  match r, hr with
  | [o2, o3, o4, o5, o6, o7, o8, o9, o10, o11], _ =>
    unfold lw0b0
    rw [z_sCn]
    simp [-List.map_map]
    refine wp_ne (bag_ok hns) ?_
    rintro _ s1 ⟨kb, rfl, hk, hb, ef1⟩
    have hs0 : 0 < s.length := lstAt_lt hns
    have hk0 : kb ≠ 0 := by omega
    have hkl := hb.lt
    show nxt _ _ _ _
    rw [z_nxt]
    unfold lw0b1
    rw [z_sCn]
    simp [-List.map_map]
    refine wp_ne (take_ok hb (by decide) (by decide)) ?_
    intro d2 s2 hh2
    match d2, hh2 with
    | _, ⟨t, rfl, ht, e2⟩ =>
    rw [z_addI]
    have ec : ((1 : Int) + (t : Int)) = ((1 + t : Nat) : Int) := by omega
    rw [ec]
    refine wp_ne (names_ok (n := 1 + t) (e2.bag kb (by simp) hb) (by omega)) ?_
    rintro _ s3 ⟨l3, names, rfl, hl3, m3, len3, nd3, nm3, e3⟩
    have e23 := e2.trans e3
    have hb3 := e23.bag kb (by simp) hb
    have l2 := e2.le
    have h3 : l3 ≠ kb := by omega
    show nxt _ _ _ _
    rw [z_nxt]
    exact lw0b2_ok nm3 nd3 (by omega) (fun z => by rw [z] at len3; simp at len3; omega) (e23.lst (ef1.lst hns (by simp)) (by simp; omega)) hb3 m3 h3 fun s' p4 p5 p6 p7 p8 p9 p10 p11 e' => ⟨ef1.drop (e23.trans e') hk, _, _, rfl, rfl⟩
theorem fin_ok (o : Option D) (r : Ev) (s : Sto) (hr : r.length = 10) : (lw1 (some (.ref 0) :: o :: r) s).wp { nx := fun _ _ => False, rt := fun d s' => d = .bl true } := by
  have n0 : ObsOk [] := ⟨by simp, List.nodup_nil, by simp [defsO, wantsO]⟩
  have n1 : ObsOk [(([], []) : ObA)] := ⟨fun o ho => by rw [List.mem_singleton.mp ho]; exact ⟨by simp, by simp, by simp, by simp, by simp, by simp⟩, by simp [strongsO], by simp [defsO, wantsO]⟩
  have f0 : faceO [] = [] := face_none rfl rfl
  have f1 : faceO [(([], []) : ObA)] = [] := face_none rfl rfl
  unfold lw1
  simp
  have e0 : Eff [] s (s ++ [SO.lst []]) := Eff.push
  have m0 : mlAt (s ++ [SO.lst []]) s.length = some (([] : List ObA).map obD) := mlAt_push
  generalize s ++ [SO.lst []] = s0 at e0 m0 ⊢
  refine wp_ne (face_of_l n0 (.inr ⟨_, rfl, lstAt_ml m0⟩)) ?_
  rintro _ s1 ⟨e1, rfl⟩
  rw [f0]
  have pe : plain 20 (D.tup []) = true := by decide +kernel
  have ed : faceDs [] = [] := rfl
  rw [ed, z_eq_yes pe, blP_bl]
  refine ⟨rfl, ?_⟩
  refine wp_ne (face_of_l (d := .tup []) n0 (.inl rfl)) ?_
  rintro _ s2 ⟨e2, rfl⟩
  rw [f0, ed, z_eq_yes pe, blP_bl]
  refine ⟨rfl, two_le_line, by rw [size_line]; decide, ?_⟩
  have e3 : Eff [] s2 (s2 ++ [SO.lst [D.tup [D.tup [], D.tup []]]]) := Eff.push
  have m3 : mlAt (s2 ++ [SO.lst [D.tup [D.tup [], D.tup []]]]) s2.length = some ([(([], []) : ObA)].map obD) := mlAt_push
  generalize s2 ++ [SO.lst [D.tup [D.tup [], D.tup []]]] = s3 at e3 m3 ⊢
  refine wp_ne (face_of_l n1 (.inr ⟨_, rfl, lstAt_ml m3⟩)) ?_
  rintro _ s4 ⟨e4, rfl⟩
  rw [f1, ed, z_eq_yes pe]
theorem plain_law (ns : List Int) (h : ns.length ≤ 63) : ∃ s', m_law [.ref 0] [.frz (ns.map D.int)] = .ok (.bl true) s' := by
  have h1 : m_law = fnM 1 12 (tLawF 5 lw0b0 lw1) := by
    unfold m_law
    rw [lw_eq]
    rfl
  rw [h1]
  exact law_frame (M := 5) (n := 10) (turn := lw0b0) (fin := lw1) (by decide) (fun a r s hr hns => lw0b0_ok a r s hr hns) fun o r s hr ef => fin_ok o r s hr
end Z

namespace Z
open PySem PySem.Spec PyProof.Rows L2
def clsBody : Stmt → List Stmt
  | .ClassDef _ _ _ b _ _ _ _ _ _ _ => b
  | _ => []
def mth (i j : Nat) : Stmt := (clsBody (top i)).getD j (.Pass ⟨0, 0, 0, 0⟩)
theorem ck_ok {K : PySem.W.Frag} (h : ck K = true) : chkAll fa tb K = true ∧ clsAll K cls = true ∧ (xb.all fun b => b K) = true := ⟨(He.ba h).1, (He.ba (He.ba h).2).1, (He.ba (He.ba h).2).2⟩
structure Txt (K : PySem.W.Frag) (mg : Str → Option Value) : Prop where
  g__law_bag : mg "_law_bag" = some (.ref (He.ga K "_law_bag"))
  k__law_bag : PySem.W.keepIn K (.ref (He.ga K "_law_bag")) = true
  g__law_face : mg "_law_face" = some (.ref (He.ga K "_law_face"))
  k__law_face : PySem.W.keepIn K (.ref (He.ga K "_law_face")) = true
  g__law_few : mg "_law_few" = some (.ref (He.ga K "_law_few"))
  k__law_few : PySem.W.keepIn K (.ref (He.ga K "_law_few")) = true
  g__law_take : mg "_law_take" = some (.ref (He.ga K "_law_take"))
  k__law_take : PySem.W.keepIn K (.ref (He.ga K "_law_take")) = true
  g__law_of : mg "_law_of" = some (.ref (He.ga K "_law_of"))
  k__law_of : PySem.W.keepIn K (.ref (He.ga K "_law_of")) = true
  g__law_names : mg "_law_names" = some (.ref (He.ga K "_law_names"))
  k__law_names : PySem.W.keepIn K (.ref (He.ga K "_law_names")) = true
  g__law_objects : mg "_law_objects" = some (.ref (He.ga K "_law_objects"))
  k__law_objects : PySem.W.keepIn K (.ref (He.ga K "_law_objects")) = true
  g__law_parted : mg "_law_parted" = some (.ref (He.ga K "_law_parted"))
  k__law_parted : PySem.W.keepIn K (.ref (He.ga K "_law_parted")) = true
  g__law_turned : mg "_law_turned" = some (.ref (He.ga K "_law_turned"))
  k__law_turned : PySem.W.keepIn K (.ref (He.ga K "_law_turned")) = true
  g_is_kind : mg "is_kind" = some (.ref (He.ga K "is_kind"))
  k_is_kind : PySem.W.keepIn K (.ref (He.ga K "is_kind")) = true
  g_is_name : mg "is_name" = some (.ref (He.ga K "is_name"))
  k_is_name : PySem.W.keepIn K (.ref (He.ga K "is_name")) = true
  g_are_defines : mg "are_defines" = some (.ref (He.ga K "are_defines"))
  k_are_defines : PySem.W.keepIn K (.ref (He.ga K "are_defines")) = true
  g_twice_in : mg "twice_in" = some (.ref (He.ga K "twice_in"))
  k_twice_in : PySem.W.keepIn K (.ref (He.ga K "twice_in")) = true
  g_is_object : mg "is_object" = some (.ref (He.ga K "is_object"))
  k_is_object : PySem.W.keepIn K (.ref (He.ga K "is_object")) = true
  g_look_objects : mg "look_objects" = some (.ref (He.ga K "look_objects"))
  k_look_objects : PySem.W.keepIn K (.ref (He.ga K "look_objects")) = true
  g_face_of : mg "face_of" = some (.ref (He.ga K "face_of"))
  k_face_of : PySem.W.keepIn K (.ref (He.ga K "face_of")) = true
  g_is_face : mg "is_face" = some (.ref (He.ga K "is_face"))
  k_is_face : PySem.W.keepIn K (.ref (He.ga K "is_face")) = true
  g_look_face : mg "look_face" = some (.ref (He.ga K "look_face"))
  k_look_face : PySem.W.keepIn K (.ref (He.ga K "look_face")) = true
  n_abs : mg "abs" = none
  n_all : mg "all" = none
  n_enumerate : mg "enumerate" = none
  n_int : mg "int" = none
  n_isinstance : mg "isinstance" = none
  n_len : mg "len" = none
  n_list : mg "list" = none
  n_max : mg "max" = none
  n_min : mg "min" = none
  n_range : mg "range" = none
  n_repr : mg "repr" = none
  n_sorted : mg "sorted" = none
  n_str : mg "str" = none
  n_tuple : mg "tuple" = none
  c_KINDS : TupC K mg "KINDS" [.str "weak", .str "common", .str "strong"]
  c_LETTERS : ∃ t, mg "LETTERS" = some (.str "abcdefghijklmnopqrstuvwxyz" t)
  c_MOST_LETTERS : ∃ t, mg "MOST_LETTERS" = some (.int 8 t)
  c_STRONG : ∃ t, mg "STRONG" = some (.str "strong" t)
  c_WANTED : ∃ t, mg "WANTED" = some (.str "wanted" t)
  c_WORDS : TupC K mg "WORDS" [.str "wanted", .str "weak", .str "common", .str "strong"]
  cl : ClsF K mg cls
section RowS
variable [Row]
theorem txt {K : PySem.W.Frag} {hp : Heap} {mg : Str → Option Value} (X : K.In hp) (G : hp.Ns mainGlobals mg) (h0 : ck K = true) : Txt K mg :=
  have h := ck_ok h0
  ⟨He.glo_ok X G (chk_fa h.1 0),
   He.keep_ok (chk_fa h.1 1),
   He.glo_ok X G (chk_fa h.1 2),
   He.keep_ok (chk_fa h.1 3),
   He.glo_ok X G (chk_fa h.1 4),
   He.keep_ok (chk_fa h.1 5),
   He.glo_ok X G (chk_fa h.1 6),
   He.keep_ok (chk_fa h.1 7),
   He.glo_ok X G (chk_fa h.1 8),
   He.keep_ok (chk_fa h.1 9),
   He.glo_ok X G (chk_fa h.1 10),
   He.keep_ok (chk_fa h.1 11),
   He.glo_ok X G (chk_fa h.1 12),
   He.keep_ok (chk_fa h.1 13),
   He.glo_ok X G (chk_fa h.1 14),
   He.keep_ok (chk_fa h.1 15),
   He.glo_ok X G (chk_fa h.1 16),
   He.keep_ok (chk_fa h.1 17),
   He.glo_ok X G (chk_fa h.1 18),
   He.keep_ok (chk_fa h.1 19),
   He.glo_ok X G (chk_fa h.1 20),
   He.keep_ok (chk_fa h.1 21),
   He.glo_ok X G (chk_fa h.1 22),
   He.keep_ok (chk_fa h.1 23),
   He.glo_ok X G (chk_fa h.1 24),
   He.keep_ok (chk_fa h.1 25),
   He.glo_ok X G (chk_fa h.1 26),
   He.keep_ok (chk_fa h.1 27),
   He.glo_ok X G (chk_fa h.1 28),
   He.keep_ok (chk_fa h.1 29),
   He.glo_ok X G (chk_fa h.1 30),
   He.keep_ok (chk_fa h.1 31),
   He.glo_ok X G (chk_fa h.1 32),
   He.keep_ok (chk_fa h.1 33),
   He.glo_ok X G (chk_fa h.1 34),
   He.keep_ok (chk_fa h.1 35),
   He.free_ok X G (chk_fa h.1 37),
   He.free_ok X G (chk_fa h.1 38),
   He.free_ok X G (chk_fa h.1 39),
   He.free_ok X G (chk_fa h.1 40),
   He.free_ok X G (chk_fa h.1 41),
   He.free_ok X G (chk_fa h.1 42),
   He.free_ok X G (chk_fa h.1 43),
   He.free_ok X G (chk_fa h.1 44),
   He.free_ok X G (chk_fa h.1 45),
   He.free_ok X G (chk_fa h.1 46),
   He.free_ok X G (chk_fa h.1 47),
   He.free_ok X G (chk_fa h.1 48),
   He.free_ok X G (chk_fa h.1 49),
   He.free_ok X G (chk_fa h.1 50),
   chk_tup h.1 X G 0 51,
   He.str_ok X G (chk_fa h.1 52),
   He.int_ok X G (chk_fa h.1 53),
   He.str_ok X G (chk_fa h.1 54),
   He.str_ok X G (chk_fa h.1 55),
   chk_tup h.1 X G 1 56,
   clsF_of X G h.2.1⟩
section
variable {K : PySem.W.Frag} {mg : Str → Option Value} {base : Heap}
theorem itb_ok (c : SaysZ ck fn K) (T : Txt K mg) : ITab Row.prog Row.w K mg base 1 itb := itab_nil
abbrev N__law_bag : List Str := ["_law_script", "_law_at", "_law_cell", "_law_mixed", "_law_k", "_law_each"]
theorem sc__law_bag : FnScope N__law_bag ["_law_script", "_law_at"] (defScope (top 22)) := ⟨rfl, rfl, rfl, by decide +kernel, rfl, by decide +kernel, by decide +kernel⟩
theorem b__law_bag (c : SaysZ ck fn K) (T : Txt K mg) : Body Row.prog Row.w K mg base 6 N__law_bag "_law_bag" (defScope (top 22)) (He.ga K "_law_bag") (defBody (top 22)) s__law_bag := by
  intro cdv A outer s H E hcv hr
  exact (js_cons (js_set (i := 2) sc__law_bag.nd rfl (Or.inl rfl) (je_if (jt_cmp op_lt pr_lt (je_v 1) (je_cb call_lens pn_len rfl T.n_len boot_len (ja_cons (je_v 0) ja_nil)) (nomark _)) (je_ix ix_seq pr_ix (je_v 0) (je_v 1)) je_int))
 (js_cons (js_set (i := 3) sc__law_bag.nd rfl (Or.inl rfl) (je_op op_adds pr_add (je_op op_muls pr_mul2 je_int (je_v 1)) je_int))
 (js_cons (js_for (passes_of rfl) rfl (ji_en rfl T.n_enumerate (ja_cons (je_sl sl_all ps_sl (je_v 0) jo_none (jo_some je_int)) ja_nil)) (pg_tup (n := 2) rfl (pgs_cons (pg_name (i := 4) sc__law_bag.nd rfl (by first | exact Or.inl rfl | exact Or.inr rfl)) (pgs_cons (pg_name (i := 5) sc__law_bag.nd rfl (by first | exact Or.inl rfl | exact Or.inr rfl)) pgs_nil))) (gq_t (gqs_cons gq_n (gqs_cons gq_n gqs_nil))) (js_one (js_set (i := 3) sc__law_bag.nd rfl (Or.inl rfl) (je_op op_mod pr_mod (je_ct call_int1 pn_int rfl T.n_int boot_int (ja_cons (je_op op_adds pr_add (je_op op_adds pr_add (je_op op_muls pr_mul2 (je_v 3) je_int) (je_op op_mod pr_mod (je_ct call_int1 pn_int rfl T.n_int boot_int (ja_cons (je_v 5) ja_nil)) je_int)) (je_op op_muls pr_mul2 je_int (je_v 4))) ja_nil)) je_int))))
 (js_one (js_ret (je_lst (ja_cons (je_if (jt_cmp op_ge pr_ge (je_cb call_abs pn_abs rfl T.n_abs boot_abs (ja_cons (je_v 2) ja_nil)) (je_op op_pow pr_pow je_int je_int) (nomark _)) (je_cb call_abs pn_abs rfl T.n_abs boot_abs (ja_cons (je_v 2) ja_nil)) je_int) (ja_cons (je_v 3) ja_nil))))))))
theorem p__law_bag (c : SaysZ ck fn K) (T : Txt K mg) : FS Row.prog Row.w K mg base 7 (He.ga K "_law_bag") m__law_bag := by
  obtain ⟨fd, F⟩ := c.def_ 0
  exact fs_pos F sc__law_bag (b__law_bag c T) (fun _ _ _ _ _ _ us hl => match us, hl with | [_, _], _ => rfl)
abbrev N__law_face : List Str := ["_law_objects_here", "_law_words", "_law_order", "_law_gives", "_law_needs", "_law_name", "_law_word"]
theorem sc__law_face : FnScope N__law_face ["_law_objects_here"] (defScope (top 28)) := ⟨rfl, rfl, rfl, by decide +kernel, rfl, by decide +kernel, by decide +kernel⟩
theorem b__law_face (c : SaysZ ck fn K) (T : Txt K mg) : Body Row.prog Row.w K mg base 6 N__law_face "_law_face" (defScope (top 28)) (He.ga K "_law_face") (defBody (top 28)) s__law_face := by
  intro cdv A outer s H E hcv hr
  exact (js_cons (js_par (i := 1) (j := 2) rfl sc__law_face.nd rfl rfl (by decide) rfl rfl (ja_cons je_dnew (ja_cons (je_lst (ja_cons je_str (ja_cons je_str (ja_cons je_str (ja_cons je_str ja_nil))))) ja_nil)) (by rfl))
 (js_cons (js_for (passes_of rfl) rfl (ji_sq (je_v 0)) (pg_tup (n := 2) rfl (pgs_cons (pg_name (i := 3) sc__law_face.nd rfl (by first | exact Or.inl rfl | exact Or.inr rfl)) (pgs_cons (pg_name (i := 4) sc__law_face.nd rfl (by first | exact Or.inl rfl | exact Or.inr rfl)) pgs_nil))) (gq_t (gqs_cons gq_n (gqs_cons gq_n gqs_nil))) (js_one (js_for (passes_of rfl) rfl (ji_sq (je_op op_adds pr_add (je_lc rfl sc__law_face.nd (ji_sq (je_v 4)) (ok := (show BlkOk N__law_face (defScope (top 28)) _ _ from ⟨rfl, by decide +kernel, by decide +kernel, by decide +kernel, by decide +kernel⟩)) (own := [("_law_name", 5)]) (by decide) (fun _ _ _ _ _ => (pg_name (i := 5) sc__law_face.nd rfl (by first | exact Or.inl rfl | exact Or.inr rfl))) gq_n (fun _ _ _ _ _ => jts_nil) (fun _ _ _ _ _ => (je_tup (ja_cons (je_v 5) (ja_cons je_str ja_nil))))) (je_ct call_list_of pn_list rfl T.n_list boot_list (ja_cons (je_v 3) ja_nil)))) (pg_tup (n := 2) rfl (pgs_cons (pg_name (i := 5) sc__law_face.nd rfl (by first | exact Or.inl rfl | exact Or.inr rfl)) (pgs_cons (pg_name (i := 6) sc__law_face.nd rfl (by first | exact Or.inl rfl | exact Or.inr rfl)) pgs_nil))) (gq_t (gqs_cons gq_n (gqs_cons gq_n gqs_nil))) (js_one (js_if (jt_cmp op_ge pr_ge (je_bm PySem.F.plainAttrs_list PySem.F.slot_list_index PySem.F.type_list_index mt_idxS pm_idxS (je_v 2) (ja_cons (je_v 6) ja_nil)) (je_bm PySem.F.plainAttrs_list PySem.F.slot_list_index PySem.F.type_list_index mt_idxS pm_idxS (je_v 2) (ja_cons (je_get2 (hu1 hr.units) (je_v 1) (je_v 5) je_str ⟨rfl, rfl, rfl, rfl⟩) ja_nil)) (nomark _)) (js_one (js_sub (set_dict (hu1 hr.units)) px_setD (je_v 6) (je_v 1) (je_v 5))) js_nil)))))
 (js_one (js_ret (je_ct call_tuple_of pn_tuple rfl T.n_tuple boot_tuple (ja_cons (je_sortI rfl (hu66 hr.units) (je_v 1) rfl T.n_sorted boot_sorted) ja_nil))))))
theorem p__law_face (c : SaysZ ck fn K) (T : Txt K mg) : FS Row.prog Row.w K mg base 7 (He.ga K "_law_face") m__law_face := by
  obtain ⟨fd, F⟩ := c.def_ 1
  exact fs_pos F sc__law_face (b__law_face c T) (fun _ _ _ _ _ _ us hl => match us, hl with | [_], _ => rfl)
abbrev N__law_few : List Str := ["_law_script", "_law_many"]
theorem sc__law_few : FnScope N__law_few ["_law_script", "_law_many"] (defScope (top 25)) := ⟨rfl, rfl, rfl, by decide +kernel, rfl, by decide +kernel, by decide +kernel⟩
theorem b__law_few (c : SaysZ ck fn K) (T : Txt K mg) : Body Row.prog Row.w K mg base 6 N__law_few "_law_few" (defScope (top 25)) (He.ga K "_law_few") (defBody (top 25)) s__law_few := by
  intro cdv A outer s H E hcv hr
  exact (js_one (js_ret (je_if (jt_cmp (op_nes (hu64 hr.units)) pr_ne (je_v 0) (je_lst ja_nil) (nomark _)) (je_v 1) (je_cb (call_min2 rfl) pn_min2 rfl T.n_min boot_min (ja_cons (je_v 1) (ja_cons je_int ja_nil))))))
theorem p__law_few (c : SaysZ ck fn K) (T : Txt K mg) : FS Row.prog Row.w K mg base 7 (He.ga K "_law_few") m__law_few := by
  obtain ⟨fd, F⟩ := c.def_ 2
  exact fs_pos F sc__law_few (b__law_few c T) (fun _ _ _ _ _ _ us hl => match us, hl with | [_, _], _ => rfl)
abbrev N__law_take : List Str := ["_law_bag_here", "_law_many", "_law_digit"]
theorem sc__law_take : FnScope N__law_take ["_law_bag_here", "_law_many"] (defScope (top 23)) := ⟨rfl, rfl, rfl, by decide +kernel, rfl, by decide +kernel, by decide +kernel⟩
theorem b__law_take (c : SaysZ ck fn K) (T : Txt K mg) : Body Row.prog Row.w K mg base 6 N__law_take "_law_take" (defScope (top 23)) (He.ga K "_law_take") (defBody (top 23)) s__law_take := by
  intro cdv A outer s H E hcv hr
  exact (js_cons (js_if (jt_cmp op_gt pr_gt (je_ix ix_seq pr_ix (je_v 0) je_int) je_int (nomark _)) (js_cons (js_set (i := 2) sc__law_take.nd rfl (Or.inl rfl) (je_op op_mod pr_mod (je_ct call_int1 pn_int rfl T.n_int boot_int (ja_cons (je_ix ix_seq pr_ix (je_v 0) je_int) ja_nil)) (je_v 1)))
 (js_cons (js_sub set_list px_setL (je_op op_fdiv pr_div (je_ix ix_seq pr_ix (je_v 0) je_int) (je_v 1)) (je_v 0) je_int)
 (js_one (js_ret (je_v 2))))) js_nil)
 (js_cons (js_sub set_list px_setL (je_op op_mod pr_mod (je_ct call_int1 pn_int rfl T.n_int boot_int (ja_cons (je_op op_adds pr_add (je_op op_muls pr_mul2 (je_ix ix_seq pr_ix (je_v 0) je_int) je_int) je_int) ja_nil)) je_int) (je_v 0) je_int)
 (js_one (js_ret (je_op op_mod pr_mod (je_op op_fdiv pr_div (je_op op_mod pr_mod (je_ct call_int1 pn_int rfl T.n_int boot_int (ja_cons (je_op op_muls pr_mul2 (je_op op_fdiv pr_div (je_ix ix_seq pr_ix (je_v 0) je_int) je_int) je_int) ja_nil)) je_int) je_int) (je_v 1))))))
theorem p__law_take (c : SaysZ ck fn K) (T : Txt K mg) : FS Row.prog Row.w K mg base 7 (He.ga K "_law_take") m__law_take := by
  obtain ⟨fd, F⟩ := c.def_ 3
  exact fs_pos F sc__law_take (b__law_take c T) (fun _ _ _ _ _ _ us hl => match us, hl with | [_, _], _ => rfl)
abbrev N__law_of : List Str := ["_law_bag_here", "_law_some"]
theorem sc__law_of : FnScope N__law_of ["_law_bag_here", "_law_some"] (defScope (top 24)) := ⟨rfl, rfl, rfl, by decide +kernel, rfl, by decide +kernel, by decide +kernel⟩
theorem b__law_of (c : SaysZ ck fn K) (T : Txt K mg) : Body Row.prog Row.w K mg base 12 N__law_of "_law_of" (defScope (top 24)) (He.ga K "_law_of") (defBody (top 24)) s__law_of := by
  intro cdv A outer s H E hcv hr
  exact (js_one (js_ret (je_ix ix_seq pr_ix (je_v 1) (je_call (p__law_take c T) (hr.mono (by decide)) (takes_of rfl rfl rfl rfl) rfl T.g__law_take T.k__law_take (ja_cons (je_v 0) (ja_cons (je_cb call_lens pn_len rfl T.n_len boot_len (ja_cons (je_v 1) ja_nil)) ja_nil))))))
theorem p__law_of (c : SaysZ ck fn K) (T : Txt K mg) : FS Row.prog Row.w K mg base 13 (He.ga K "_law_of") m__law_of := by
  obtain ⟨fd, F⟩ := c.def_ 4
  exact fs_pos F sc__law_of (b__law_of c T) (fun _ _ _ _ _ _ us hl => match us, hl with | [_, _], _ => rfl)
abbrev N__law_names : List Str := ["_law_bag_here", "_law_many", "_law_turn", "_law_left", "_law_found", "_law_stem", "_law_is_ahead", "_law_sign"]
theorem sc__law_names : FnScope N__law_names ["_law_bag_here", "_law_many"] (defScope (top 26)) := ⟨rfl, rfl, rfl, by decide +kernel, rfl, by decide +kernel, by decide +kernel⟩
theorem b__law_names (c : SaysZ ck fn K) (T : Txt K mg) : Body Row.prog Row.w K mg base 18 N__law_names "_law_names" (defScope (top 26)) (He.ga K "_law_names") (defBody (top 26)) s__law_names := by
  intro cdv A outer s H E hcv hr
  exact (js_cons (js_par (i := 3) (j := 4) rfl sc__law_names.nd rfl rfl (by decide) rfl rfl (ja_cons (je_ctd (calld_listZ rfl (calld_of call_list_of pn_list)) rfl T.n_list boot_list (ja_cons je_str ja_nil)) (ja_cons (je_lst ja_nil) ja_nil)) (by rfl))
 (js_cons (js_par (i := 5) (j := 6) rfl sc__law_names.nd rfl rfl (by decide) rfl rfl (ja_cons je_str (ja_cons (je_cmp (op_eqs (hu64 hr.units)) pr_eq (je_call (p__law_take c T) (hr.mono (by decide)) (takes_of rfl rfl rfl rfl) rfl T.g__law_take T.k__law_take (ja_cons (je_v 0) (ja_cons je_int ja_nil))) je_int (nomark _)) ja_nil)) (by rfl))
 (js_cons (js_for (passes_of rfl) rfl (ji_range1 rfl T.n_range (ja_cons (je_call (p__law_take c T) (hr.mono (by decide)) (takes_of rfl rfl rfl rfl) rfl T.g__law_take T.k__law_take (ja_cons (je_v 0) (ja_cons je_int ja_nil))) ja_nil)) (pg_name (i := 2) sc__law_names.nd rfl (by first | exact Or.inl rfl | exact Or.inr rfl)) gq_n (js_one (js_set (i := 5) sc__law_names.nd rfl (Or.inl rfl) (je_op op_adds pr_add (je_v 5) (je_call (p__law_of c T) (hr.mono (by decide)) (takes_of rfl rfl rfl rfl) rfl T.g__law_of T.k__law_of (ja_cons (je_v 0) (ja_cons (je_lst (ja_cons je_str (ja_cons je_str (ja_cons je_str (ja_cons je_str ja_nil))))) ja_nil)))))))
 (js_cons (js_for (passes_of rfl) rfl (ji_range1 rfl T.n_range (ja_cons (je_v 1) ja_nil)) (pg_name (i := 2) sc__law_names.nd rfl (by first | exact Or.inl rfl | exact Or.inr rfl)) gq_n (js_cons (js_set (i := 7) sc__law_names.nd rfl (Or.inl rfl) (je_bm PySem.F.plainAttrs_list PySem.F.slot_list_pop PySem.F.type_list_pop (mt_popAt) pm_popAt (je_v 3) (ja_cons (je_call (p__law_take c T) (hr.mono (by decide)) (takes_of rfl rfl rfl rfl) rfl T.g__law_take T.k__law_take (ja_cons (je_v 0) (ja_cons (je_cb call_lens pn_len rfl T.n_len boot_len (ja_cons (je_v 3) ja_nil)) ja_nil))) ja_nil)))
 (js_one (js_expr (je_bm PySem.F.plainAttrs_list PySem.F.slot_list_append PySem.F.type_list_append (mt_append) pm_append (je_v 4) (ja_cons (je_if (jt_tru (je_v 6)) (je_op op_adds pr_add (je_v 7) (je_v 5)) (je_op op_adds pr_add (je_v 5) (je_v 7))) ja_nil))))))
 (js_one (js_ret (je_v 4)))))))
theorem p__law_names (c : SaysZ ck fn K) (T : Txt K mg) : FS Row.prog Row.w K mg base 19 (He.ga K "_law_names") m__law_names := by
  obtain ⟨fd, F⟩ := c.def_ 5
  exact fs_pos F sc__law_names (b__law_names c T) (fun _ _ _ _ _ _ us hl => match us, hl with | [_, _], _ => rfl)
abbrev N__law_objects : List Str := ["_law_bag_here", "_law_names_here", "_law_turn", "_law_found", "_law_strong", "_law_k", "_law_left", "_law_gives", "_law_needs", "_law_kind", "_law_name"]
theorem sc__law_objects : FnScope N__law_objects ["_law_bag_here", "_law_names_here"] (defScope (top 27)) := ⟨rfl, rfl, rfl, by decide +kernel, rfl, by decide +kernel, by decide +kernel⟩
theorem b__law_objects (c : SaysZ ck fn K) (T : Txt K mg) : Body Row.prog Row.w K mg base 18 N__law_objects "_law_objects" (defScope (top 27)) (He.ga K "_law_objects") (defBody (top 27)) s__law_objects := by
  intro cdv A outer s H E hcv hr
  exact (js_cons (js_par (i := 3) (j := 4) rfl sc__law_objects.nd rfl rfl (by decide) rfl rfl (ja_cons (je_lst ja_nil) (ja_cons (je_lst ja_nil) ja_nil)) (by rfl))
 (js_cons (js_for (passes_of rfl) rfl (ji_range1 rfl T.n_range (ja_cons (je_op op_adds pr_add je_int (je_call (p__law_take c T) (hr.mono (by decide)) (takes_of rfl rfl rfl rfl) rfl T.g__law_take T.k__law_take (ja_cons (je_v 0) (ja_cons je_int ja_nil)))) ja_nil)) (pg_name (i := 2) sc__law_objects.nd rfl (by first | exact Or.inl rfl | exact Or.inr rfl)) gq_n (js_cons (js_par3 (i := 6) (j := 7) (l := 8) rfl sc__law_objects.nd rfl rfl rfl (by decide) (by decide) (by decide) rfl rfl rfl (ja_cons (je_ct call_list_of pn_list rfl T.n_list boot_list (ja_cons (je_v 1) ja_nil)) (ja_cons (je_lst ja_nil) (ja_cons (je_lst ja_nil) ja_nil))) (by rfl))
 (js_cons (js_for (passes_of rfl) rfl (ji_range1 rfl T.n_range (ja_cons (je_call (p__law_take c T) (hr.mono (by decide)) (takes_of rfl rfl rfl rfl) rfl T.g__law_take T.k__law_take (ja_cons (je_v 0) (ja_cons (je_cb (call_min2 rfl) pn_min2 rfl T.n_min boot_min (ja_cons je_int (ja_cons (je_op op_adds pr_add (je_cb call_lens pn_len rfl T.n_len boot_len (ja_cons (je_v 6) ja_nil)) je_int) ja_nil))) ja_nil))) ja_nil)) (pg_name (i := 5) sc__law_objects.nd rfl (by first | exact Or.inl rfl | exact Or.inr rfl)) gq_n (js_cons (js_par (i := 10) (j := 9) rfl sc__law_objects.nd rfl rfl (by decide) rfl rfl (ja_cons (je_bm PySem.F.plainAttrs_list PySem.F.slot_list_pop PySem.F.type_list_pop (mt_popAt) pm_popAt (je_v 6) (ja_cons (je_call (p__law_take c T) (hr.mono (by decide)) (takes_of rfl rfl rfl rfl) rfl T.g__law_take T.k__law_take (ja_cons (je_v 0) (ja_cons (je_cb call_lens pn_len rfl T.n_len boot_len (ja_cons (je_v 6) ja_nil)) ja_nil))) ja_nil)) (ja_cons (je_call (p__law_of c T) (hr.mono (by decide)) (takes_of rfl rfl rfl rfl) rfl T.g__law_of T.k__law_of (ja_cons (je_v 0) (ja_cons (je_lst (ja_cons je_str (ja_cons je_str (ja_cons je_str ja_nil)))) ja_nil))) ja_nil)) (by rfl))
 (js_cons (js_set (i := 9) sc__law_objects.nd rfl (Or.inl rfl) (je_if (jt_cmp (op_ins (hu65 hr.units)) pr_in (je_v 10) (je_v 4) (by rfl)) je_str (je_v 9)))
 (js_cons (js_expr (je_bm PySem.F.plainAttrs_list PySem.F.slot_list_append PySem.F.type_list_append (mt_append) pm_append (je_v 7) (ja_cons (je_tup (ja_cons (je_v 10) (ja_cons (je_v 9) ja_nil))) ja_nil)))
 (js_one (js_if (jt_cmp (op_eqs (hu64 hr.units)) pr_eq (je_v 9) je_str (nomark _)) (js_one (js_expr (je_bm PySem.F.plainAttrs_list PySem.F.slot_list_append PySem.F.type_list_append (mt_append) pm_append (je_v 4) (ja_cons (je_v 10) ja_nil)))) js_nil))))))
 (js_cons (js_for (passes_of rfl) rfl (ji_range1 rfl T.n_range (ja_cons (je_op op_adds pr_add je_int (je_call (p__law_take c T) (hr.mono (by decide)) (takes_of rfl rfl rfl rfl) rfl T.g__law_take T.k__law_take (ja_cons (je_v 0) (ja_cons je_int ja_nil)))) ja_nil)) (pg_name (i := 5) sc__law_objects.nd rfl (by first | exact Or.inl rfl | exact Or.inr rfl)) gq_n (js_one (js_expr (je_bm PySem.F.plainAttrs_list PySem.F.slot_list_append PySem.F.type_list_append (mt_append) pm_append (je_v 8) (ja_cons (je_call (p__law_of c T) (hr.mono (by decide)) (takes_of rfl rfl rfl rfl) rfl T.g__law_of T.k__law_of (ja_cons (je_v 0) (ja_cons (je_v 1) ja_nil))) ja_nil)))))
 (js_one (js_expr (je_bm PySem.F.plainAttrs_list PySem.F.slot_list_append PySem.F.type_list_append (mt_append) pm_append (je_v 3) (ja_cons (je_tup (ja_cons (je_ct call_tuple_of pn_tuple rfl T.n_tuple boot_tuple (ja_cons (je_v 7) ja_nil)) (ja_cons (je_ct call_tuple_of pn_tuple rfl T.n_tuple boot_tuple (ja_cons (je_v 8) ja_nil)) ja_nil))) ja_nil))))))))
 (js_one (js_ret (je_ct call_tuple_of pn_tuple rfl T.n_tuple boot_tuple (ja_cons (je_v 3) ja_nil))))))
theorem p__law_objects (c : SaysZ ck fn K) (T : Txt K mg) : FS Row.prog Row.w K mg base 19 (He.ga K "_law_objects") m__law_objects := by
  obtain ⟨fd, F⟩ := c.def_ 6
  exact fs_pos F sc__law_objects (b__law_objects c T) (fun _ _ _ _ _ _ us hl => match us, hl with | [_, _], _ => rfl)
abbrev N__law_parted : List Str := ["_law_objects_here", "_law_found", "_law_gives", "_law_needs", "_law_row", "_law_name"]
theorem sc__law_parted : FnScope N__law_parted ["_law_objects_here"] (defScope (top 29)) := ⟨rfl, rfl, rfl, by decide +kernel, rfl, by decide +kernel, by decide +kernel⟩
theorem b__law_parted (c : SaysZ ck fn K) (T : Txt K mg) : Body Row.prog Row.w K mg base 6 N__law_parted "_law_parted" (defScope (top 29)) (He.ga K "_law_parted") (defBody (top 29)) s__law_parted := by
  intro cdv A outer s H E hcv hr
  exact (js_cons (js_set (i := 1) sc__law_parted.nd rfl (Or.inl rfl) (je_lst ja_nil))
 (js_cons (js_for (passes_of rfl) rfl (ji_sq (je_v 0)) (pg_tup (n := 2) rfl (pgs_cons (pg_name (i := 2) sc__law_parted.nd rfl (by first | exact Or.inl rfl | exact Or.inr rfl)) (pgs_cons (pg_name (i := 3) sc__law_parted.nd rfl (by first | exact Or.inl rfl | exact Or.inr rfl)) pgs_nil))) (gq_t (gqs_cons gq_n (gqs_cons gq_n gqs_nil))) (js_cons (js_expr (je_bm PySem.F.plainAttrs_list PySem.F.slot_list_extend PySem.F.type_list_extend mt_extA pm_extend (je_v 1) (ja_cons (je_lc rfl sc__law_parted.nd (ji_sq (je_v 2)) (ok := (show BlkOk N__law_parted (defScope (top 29)) _ _ from ⟨rfl, by decide +kernel, by decide +kernel, by decide +kernel, by decide +kernel⟩)) (own := [("_law_row", 4)]) (by decide) (fun _ _ _ _ _ => (pg_name (i := 4) sc__law_parted.nd rfl (by first | exact Or.inl rfl | exact Or.inr rfl))) gq_n (fun _ _ _ _ _ => jts_nil) (fun _ _ _ _ _ => (je_tup (ja_cons (je_tup (ja_cons (je_v 4) ja_nil)) (ja_cons (je_tup ja_nil) ja_nil))))) ja_nil)))
 (js_one (js_expr (je_bm PySem.F.plainAttrs_list PySem.F.slot_list_extend PySem.F.type_list_extend mt_extA pm_extend (je_v 1) (ja_cons (je_lc rfl sc__law_parted.nd (ji_sq (je_v 3)) (ok := (show BlkOk N__law_parted (defScope (top 29)) _ _ from ⟨rfl, by decide +kernel, by decide +kernel, by decide +kernel, by decide +kernel⟩)) (own := [("_law_name", 5)]) (by decide) (fun _ _ _ _ _ => (pg_name (i := 5) sc__law_parted.nd rfl (by first | exact Or.inl rfl | exact Or.inr rfl))) gq_n (fun _ _ _ _ _ => jts_nil) (fun _ _ _ _ _ => (je_tup (ja_cons (je_tup ja_nil) (ja_cons (je_tup (ja_cons (je_v 5) ja_nil)) ja_nil))))) ja_nil))))))
 (js_one (js_ret (je_v 1)))))
theorem p__law_parted (c : SaysZ ck fn K) (T : Txt K mg) : FS Row.prog Row.w K mg base 7 (He.ga K "_law_parted") m__law_parted := by
  obtain ⟨fd, F⟩ := c.def_ 7
  exact fs_pos F sc__law_parted (b__law_parted c T) (fun _ _ _ _ _ _ us hl => match us, hl with | [_], _ => rfl)
abbrev N__law_turned : List Str := ["_law_bag_here", "_law_some", "_law_left", "_law_found"]
theorem sc__law_turned : FnScope N__law_turned ["_law_bag_here", "_law_some"] (defScope (top 30)) := ⟨rfl, rfl, rfl, by decide +kernel, rfl, by decide +kernel, by decide +kernel⟩
theorem b__law_turned (c : SaysZ ck fn K) (T : Txt K mg) : Body Row.prog Row.w K mg base 12 N__law_turned "_law_turned" (defScope (top 30)) (He.ga K "_law_turned") (defBody (top 30)) s__law_turned := by
  intro cdv A outer s H E hcv hr
  exact (js_cons (js_par (i := 2) (j := 3) rfl sc__law_turned.nd rfl rfl (by decide) rfl rfl (ja_cons (je_ct call_list_of pn_list rfl T.n_list boot_list (ja_cons (je_v 1) ja_nil)) (ja_cons (je_lst ja_nil) ja_nil)) (by rfl))
 (js_cons (js_while 1000 (passes_of rfl) (jt_cmp (op_nes (hu64 hr.units)) pr_ne (je_v 2) (je_lst ja_nil) (nomark _)) (js_one (js_expr (je_bm PySem.F.plainAttrs_list PySem.F.slot_list_append PySem.F.type_list_append (mt_append) pm_append (je_v 3) (ja_cons (je_bm PySem.F.plainAttrs_list PySem.F.slot_list_pop PySem.F.type_list_pop (mt_popAt) pm_popAt (je_v 2) (ja_cons (je_call (p__law_take c T) (hr.mono (by decide)) (takes_of rfl rfl rfl rfl) rfl T.g__law_take T.k__law_take (ja_cons (je_v 0) (ja_cons (je_cb call_lens pn_len rfl T.n_len boot_len (ja_cons (je_v 2) ja_nil)) ja_nil))) ja_nil)) ja_nil)))))
 (js_one (js_ret (je_v 3)))))
theorem p__law_turned (c : SaysZ ck fn K) (T : Txt K mg) : FS Row.prog Row.w K mg base 13 (He.ga K "_law_turned") m__law_turned := by
  obtain ⟨fd, F⟩ := c.def_ 8
  exact fs_pos F sc__law_turned (b__law_turned c T) (fun _ _ _ _ _ _ us hl => match us, hl with | [_, _], _ => rfl)
abbrev N_is_kind : List Str := ["thing"]
theorem sc_is_kind : FnScope N_is_kind ["thing"] (defScope (top 9)) := ⟨rfl, rfl, rfl, by decide +kernel, rfl, by decide +kernel, by decide +kernel⟩
theorem b_is_kind (c : SaysZ ck fn K) (T : Txt K mg) : Body Row.prog Row.w K mg base 6 N_is_kind "is_kind" (defScope (top 9)) (He.ga K "is_kind") (defBody (top 9)) s_is_kind := by
  intro cdv A outer s H E hcv hr
  exact (js_one (js_ret (je_and (je_isi rfl T.n_isinstance rfl T.n_str boot_str (je_v 0)) (je_one (je_cmp (op_ins (hu65 hr.units)) pr_in (je_v 0) (je_gt rfl T.c_KINDS) (by rfl))))))
theorem p_is_kind (c : SaysZ ck fn K) (T : Txt K mg) : FS Row.prog Row.w K mg base 7 (He.ga K "is_kind") m_is_kind := by
  obtain ⟨fd, F⟩ := c.def_ 9
  exact fs_pos F sc_is_kind (b_is_kind c T) (fun _ _ _ _ _ _ us hl => match us, hl with | [_], _ => rfl)
abbrev N_is_name : List Str := ["thing", "sign"]
theorem sc_is_name : FnScope N_is_name ["thing"] (defScope (top 8)) := ⟨rfl, rfl, rfl, by decide +kernel, rfl, by decide +kernel, by decide +kernel⟩
theorem b_is_name (c : SaysZ ck fn K) (T : Txt K mg) : Body Row.prog Row.w K mg base 6 N_is_name "is_name" (defScope (top 8)) (He.ga K "is_name") (defBody (top 8)) s_is_name := by
  intro cdv A outer s H E hcv hr
  exact (js_cons (js_if (JW_t (jw_or (jt_not (jt_tru (je_isi rfl T.n_isinstance rfl T.n_str boot_str (je_v 0)))) (jw_or1 (jt_not (jt_ch op_le op_le pr_le pr_le je_int (je_cb call_lens pn_len rfl T.n_len boot_len (ja_cons (je_v 0) ja_nil)) (je_gint rfl T.c_MOST_LETTERS)))))) (js_one (js_ret je_bl)) js_nil)
 (js_one (js_ret (je_cb (cr_all rfl) pn_all rfl T.n_all boot_all (ja_cons (je_lc rfl sc_is_name.nd (ji_any (itb_ok c T) (hr.mono (by decide)) (je_v 0)) (ok := (show BlkOk N_is_name (defScope (top 8)) _ _ from ⟨rfl, by decide +kernel, by decide +kernel, by decide +kernel, by decide +kernel⟩)) (own := [("sign", 1)]) (by decide) (fun _ _ _ _ _ => (pg_name (i := 1) sc_is_name.nd rfl (by first | exact Or.inl rfl | exact Or.inr rfl))) gq_n (fun _ _ _ _ _ => jts_nil) (fun _ _ _ _ _ => (je_cmp (op_ins (hu65 hr.units)) pr_in (je_v 1) (je_gstr rfl T.c_LETTERS) (by rfl)))) ja_nil)))))
theorem p_is_name (c : SaysZ ck fn K) (T : Txt K mg) : FS Row.prog Row.w K mg base 7 (He.ga K "is_name") m_is_name := by
  obtain ⟨fd, F⟩ := c.def_ 10
  exact fs_pos F sc_is_name (b_is_name c T) (fun _ _ _ _ _ _ us hl => match us, hl with | [_], _ => rfl)
abbrev N_are_defines : List Str := ["thing", "name", "kind", "row"]
theorem sc_are_defines : FnScope N_are_defines ["thing"] (defScope (top 15)) := ⟨rfl, rfl, rfl, by decide +kernel, rfl, by decide +kernel, by decide +kernel⟩
theorem b_are_defines (c : SaysZ ck fn K) (T : Txt K mg) : Body Row.prog Row.w K mg base 12 N_are_defines "are_defines" (defScope (top 15)) (He.ga K "are_defines") (defBody (top 15)) s_are_defines := by
  intro cdv A outer s H E hcv hr
  exact (js_cons (js_if (JW_t (jw_or (jt_not (jt_tru (je_isi rfl T.n_isinstance rfl T.n_tuple boot_tuple (je_v 0)))) (jw_or1 (jt_not (jt_tru (je_cb (cr_all rfl) pn_all rfl T.n_all boot_all (ja_cons (je_lc rfl sc_are_defines.nd (ji_sq (je_v 0)) (ok := (show BlkOk N_are_defines (defScope (top 15)) _ _ from ⟨rfl, by decide +kernel, by decide +kernel, by decide +kernel, by decide +kernel⟩)) (own := [("row", 3)]) (by decide) (fun _ _ _ _ _ => (pg_name (i := 3) sc_are_defines.nd rfl (by first | exact Or.inl rfl | exact Or.inr rfl))) gq_n (fun _ _ _ _ _ => jts_nil) (fun _ _ _ _ _ => (je_and (je_isi rfl T.n_isinstance rfl T.n_tuple boot_tuple (je_v 3)) (je_one (je_cmp (op_eqs (hu64 hr.units)) pr_eq (je_cb call_lens pn_len rfl T.n_len boot_len (ja_cons (je_v 3) ja_nil)) je_int (nomark _)))))) ja_nil))))))) (js_one (js_ret je_bl)) js_nil)
 (js_one (js_ret (je_cb (cr_all rfl) pn_all rfl T.n_all boot_all (ja_cons (je_lc rfl sc_are_defines.nd (ji_sq (je_v 0)) (ok := (show BlkOk N_are_defines (defScope (top 15)) _ _ from ⟨rfl, by decide +kernel, by decide +kernel, by decide +kernel, by decide +kernel⟩)) (own := [("name", 1), ("kind", 2)]) (by decide) (fun _ _ _ _ _ => (pg_tup (n := 2) rfl (pgs_cons (pg_name (i := 1) sc_are_defines.nd rfl (by first | exact Or.inl rfl | exact Or.inr rfl)) (pgs_cons (pg_name (i := 2) sc_are_defines.nd rfl (by first | exact Or.inl rfl | exact Or.inr rfl)) pgs_nil)))) (gq_t (gqs_cons gq_n (gqs_cons gq_n gqs_nil))) (fun _ _ _ _ _ => jts_nil) (fun _ _ _ _ _ => (je_and (je_call (p_is_name c T) (hr.mono (by decide)) (takes0) rfl T.g_is_name T.k_is_name (ja_cons (je_v 1) ja_nil)) (je_one (je_call (p_is_kind c T) (hr.mono (by decide)) (takes0) rfl T.g_is_kind T.k_is_kind (ja_cons (je_v 2) ja_nil)))))) ja_nil)))))
theorem p_are_defines (c : SaysZ ck fn K) (T : Txt K mg) : FS Row.prog Row.w K mg base 13 (He.ga K "are_defines") m_are_defines := by
  obtain ⟨fd, F⟩ := c.def_ 11
  exact fs_pos F sc_are_defines (b_are_defines c T) (fun _ _ _ _ _ _ us hl => match us, hl with | [_], _ => rfl)
abbrev N_twice_in : List Str := ["names", "seen", "name"]
theorem sc_twice_in : FnScope N_twice_in ["names"] (defScope (top 10)) := ⟨rfl, rfl, rfl, by decide +kernel, rfl, by decide +kernel, by decide +kernel⟩
theorem b_twice_in (c : SaysZ ck fn K) (T : Txt K mg) : Body Row.prog Row.w K mg base 6 N_twice_in "twice_in" (defScope (top 10)) (He.ga K "twice_in") (defBody (top 10)) s_twice_in := by
  intro cdv A outer s H E hcv hr
  exact (js_cons (js_set (i := 1) sc_twice_in.nd rfl (Or.inl rfl) (je_lst ja_nil))
 (js_cons (js_for (passes_of rfl) rfl (ji_sq (je_v 0)) (pg_name (i := 2) sc_twice_in.nd rfl (by first | exact Or.inl rfl | exact Or.inr rfl)) gq_n (js_cons (js_if (jt_cmp (op_ins (hu65 hr.units)) pr_in (je_v 2) (je_v 1) (by rfl)) (js_one (js_ret (je_v 2))) js_nil)
 (js_one (js_expr (je_bm PySem.F.plainAttrs_list PySem.F.slot_list_append PySem.F.type_list_append (mt_append) pm_append (je_v 1) (ja_cons (je_v 2) ja_nil))))))
 (js_one (js_ret je_non))))
theorem p_twice_in (c : SaysZ ck fn K) (T : Txt K mg) : FS Row.prog Row.w K mg base 7 (He.ga K "twice_in") m_twice_in := by
  obtain ⟨fd, F⟩ := c.def_ 12
  exact fs_pos F sc_twice_in (b_twice_in c T) (fun _ _ _ _ _ _ us hl => match us, hl with | [_], _ => rfl)
abbrev N_is_object : List Str := ["thing", "defines", "wants", "row", "name"]
theorem sc_is_object : FnScope N_is_object ["thing"] (defScope (top 16)) := ⟨rfl, rfl, rfl, by decide +kernel, rfl, by decide +kernel, by decide +kernel⟩
theorem b_is_object (c : SaysZ ck fn K) (T : Txt K mg) : Body Row.prog Row.w K mg base 18 N_is_object "is_object" (defScope (top 16)) (He.ga K "is_object") (defBody (top 16)) s_is_object := by
  intro cdv A outer s H E hcv hr
  exact (js_cons (js_if (JW_t (jw_or (jt_not (jt_tru (je_isi rfl T.n_isinstance rfl T.n_tuple boot_tuple (je_v 0)))) (jw_or1 (jt_cmp (op_nes (hu64 hr.units)) pr_ne (je_cb call_lens pn_len rfl T.n_len boot_len (ja_cons (je_v 0) ja_nil)) je_int (nomark _))))) (js_one (js_ret je_bl)) js_nil)
 (js_cons (js_asg (je_v 0) (pg_tup (n := 2) rfl (pgs_cons (pg_name (i := 1) sc_is_object.nd rfl (by first | exact Or.inl rfl | exact Or.inr rfl)) (pgs_cons (pg_name (i := 2) sc_is_object.nd rfl (by first | exact Or.inl rfl | exact Or.inr rfl)) pgs_nil))) (gq_t (gqs_cons gq_n (gqs_cons gq_n gqs_nil))))
 (js_cons (js_if (JW_t (jw_or (jt_not (jt_tru (je_call (p_are_defines c T) (hr.mono (by decide)) (takes_of rfl rfl rfl rfl) rfl T.g_are_defines T.k_are_defines (ja_cons (je_v 1) ja_nil)))) (jw_or (jt_not (jt_tru (je_isi rfl T.n_isinstance rfl T.n_tuple boot_tuple (je_v 2)))) (jw_or1 (jt_not (jt_tru (je_cb (cr_all rfl) pn_all rfl T.n_all boot_all (ja_cons (je_lc rfl sc_is_object.nd (ji_sq (je_v 2)) (ok := (show BlkOk N_is_object (defScope (top 16)) _ _ from ⟨rfl, by decide +kernel, by decide +kernel, by decide +kernel, by decide +kernel⟩)) (own := [("name", 4)]) (by decide) (fun _ _ _ _ _ => (pg_name (i := 4) sc_is_object.nd rfl (by first | exact Or.inl rfl | exact Or.inr rfl))) gq_n (fun _ _ _ _ _ => jts_nil) (fun _ _ _ _ _ => (je_call (p_is_name c T) (hr.mono (by decide)) (takes0) rfl T.g_is_name T.k_is_name (ja_cons (je_v 4) ja_nil)))) ja_nil)))))))) (js_one (js_ret je_bl)) js_nil)
 (js_one (js_ret (je_cmp op_isN pr_isN2 (je_call (p_twice_in c T) (hr.mono (by decide)) (takes_of rfl rfl rfl rfl) rfl T.g_twice_in T.k_twice_in (ja_cons (je_lc rfl sc_is_object.nd (ji_sq (je_v 1)) (ok := (show BlkOk N_is_object (defScope (top 16)) _ _ from ⟨rfl, by decide +kernel, by decide +kernel, by decide +kernel, by decide +kernel⟩)) (own := [("row", 3)]) (by decide) (fun _ _ _ _ _ => (pg_name (i := 3) sc_is_object.nd rfl (by first | exact Or.inl rfl | exact Or.inr rfl))) gq_n (fun _ _ _ _ _ => jts_nil) (fun _ _ _ _ _ => (je_ix ix_seq pr_ix (je_v 3) je_int))) ja_nil)) je_non (nomark _)))))))
theorem p_is_object (c : SaysZ ck fn K) (T : Txt K mg) : FS Row.prog Row.w K mg base 19 (He.ga K "is_object") m_is_object := by
  obtain ⟨fd, F⟩ := c.def_ 13
  exact fs_pos F sc_is_object (b_is_object c T) (fun _ _ _ _ _ _ us hl => match us, hl with | [_], _ => rfl)
abbrev N_look_objects : List Str := ["objects", "place", "thing"]
theorem sc_look_objects : FnScope N_look_objects ["objects"] (defScope (top 17)) := ⟨rfl, rfl, rfl, by decide +kernel, rfl, by decide +kernel, by decide +kernel⟩
theorem b_look_objects (c : SaysZ ck fn K) (T : Txt K mg) : Body Row.prog Row.w K mg base 24 N_look_objects "look_objects" (defScope (top 17)) (He.ga K "look_objects") (defBody (top 17)) s_look_objects := by
  intro cdv A outer s H E hcv hr
  exact (js_cons (js_if (jt_not (jt_tru (je_isLT rfl T.n_isinstance rfl T.n_list rfl T.n_tuple (je_v 0)))) (js_one js_no) js_nil)
 (js_one (js_for (passes_of rfl) rfl (ji_enB rfl T.n_enumerate (ja_cons (je_v 0) ja_nil)) (pg_tup (n := 2) rfl (pgs_cons (pg_name (i := 1) sc_look_objects.nd rfl (by first | exact Or.inl rfl | exact Or.inr rfl)) (pgs_cons (pg_name (i := 2) sc_look_objects.nd rfl (by first | exact Or.inl rfl | exact Or.inr rfl)) pgs_nil))) (gq_t (gqs_cons gq_n (gqs_cons gq_n gqs_nil))) (js_one (js_if (jt_not (jt_tru (je_call (p_is_object c T) (hr.mono (by decide)) (takes_of rfl rfl rfl rfl) rfl T.g_is_object T.k_is_object (ja_cons (je_v 2) ja_nil)))) (js_one js_no) js_nil)))))
theorem p_look_objects (c : SaysZ ck fn K) (T : Txt K mg) : FS Row.prog Row.w K mg base 25 (He.ga K "look_objects") m_look_objects := by
  obtain ⟨fd, F⟩ := c.def_ 14
  exact fs_pos F sc_look_objects (b_look_objects c T) (fun _ _ _ _ _ _ us hl => match us, hl with | [_], _ => rfl)
abbrev N_face_of : List Str := ["objects", "strong", "again", "words", "kind", "name", "defines", "wants", "own"]
theorem sc_face_of : FnScope N_face_of ["objects"] (defScope (top 18)) := ⟨rfl, rfl, rfl, by decide +kernel, rfl, by decide +kernel, by decide +kernel⟩
theorem b_face_of (c : SaysZ ck fn K) (T : Txt K mg) : Body Row.prog Row.w K mg base 30 N_face_of "face_of" (defScope (top 18)) (He.ga K "face_of") (defBody (top 18)) s_face_of := by
  intro cdv A outer s H E hcv hr
  exact (js_cons (js_expr (je_call (p_look_objects c T) (hr.mono (by decide)) (takes_of rfl rfl rfl rfl) rfl T.g_look_objects T.k_look_objects (ja_cons (je_v 0) ja_nil)))
 (js_cons (js_set (i := 1) sc_face_of.nd rfl (Or.inl rfl) (je_cb call_srtA (pn_sortA (hu66 hr.units)) rfl T.n_sorted boot_sorted (ja_cons (je_lc2 rfl sc_face_of.nd (ji_sq (je_v 0)) (own := [("defines", 6), ("wants", 7), ("name", 5), ("kind", 4)]) (vs1 := [5, 4]) (ok := (show BlkOk N_face_of (defScope (top 18)) _ _ from ⟨rfl, by decide +kernel, by decide +kernel, by decide +kernel, by decide +kernel⟩)) (by decide) (by decide) (by decide) (fun _ _ _ _ _ => (pg_tup (n := 2) rfl (pgs_cons (pg_name (i := 6) sc_face_of.nd rfl (by first | exact Or.inl rfl | exact Or.inr rfl)) (pgs_cons (pg_name (i := 7) sc_face_of.nd rfl (by first | exact Or.inl rfl | exact Or.inr rfl)) pgs_nil)))) (gq_t (gqs_cons gq_n (gqs_cons gq_n gqs_nil))) (fun _ _ _ _ _ => jts_nil) (fun _ _ _ _ _ => (ji_sq (je_v 6))) (fun _ _ _ _ _ => (pg_tup (n := 2) rfl (pgs_cons (pg_name (i := 5) sc_face_of.nd rfl (by first | exact Or.inl rfl | exact Or.inr rfl)) (pgs_cons (pg_name (i := 4) sc_face_of.nd rfl (by first | exact Or.inl rfl | exact Or.inr rfl)) pgs_nil)))) (gq_t (gqs_cons gq_n (gqs_cons gq_n gqs_nil))) (fun _ _ _ _ _ => pts_one (jt_cmp (op_eqs (hu64 hr.units)) pr_eq (je_v 4) (je_gstr rfl T.c_STRONG) (nomark _))) (fun _ _ _ _ _ => (je_v 5))) ja_nil)))
 (js_cons (js_set (i := 2) sc_face_of.nd rfl (Or.inl rfl) (je_call (p_twice_in c T) (hr.mono (by decide)) (takes_of rfl rfl rfl rfl) rfl T.g_twice_in T.k_twice_in (ja_cons (je_v 1) ja_nil)))
 (js_cons (js_if (jt_cmp op_notN pr_notN2 (je_v 2) je_non (nomark _)) (js_one js_no) js_nil)
 (js_cons (js_setDc2 (i := 3) rfl sc_face_of.nd rfl rfl (by rfl) (ji_sq (je_v 0)) (own := [("defines", 6), ("wants", 7), ("name", 5)]) (vs1 := [5]) (ok := (show BlkOk N_face_of (defScope (top 18)) _ _ from ⟨rfl, by decide +kernel, by decide +kernel, by decide +kernel, by decide +kernel⟩)) (by decide) (by decide) (by decide) (fun _ _ _ _ _ => (pg_tup (n := 2) rfl (pgs_cons (pg_name (i := 6) sc_face_of.nd rfl (by first | exact Or.inl rfl | exact Or.inr rfl)) (pgs_cons (pg_name (i := 7) sc_face_of.nd rfl (by first | exact Or.inl rfl | exact Or.inr rfl)) pgs_nil)))) (gq_t (gqs_cons gq_n (gqs_cons gq_n gqs_nil))) (fun _ _ _ _ _ => jts_nil) (fun _ _ _ _ _ => (ji_sq (je_v 7))) (fun _ _ _ _ _ => (pg_name (i := 5) sc_face_of.nd rfl (by first | exact Or.inl rfl | exact Or.inr rfl))) gq_n (fun _ _ _ _ _ => jts_nil) (fun _ _ _ _ _ => (je_v 5)) (fun _ _ _ _ _ => (je_gstr rfl T.c_WANTED)))
 (js_cons (js_for (passes_of rfl) rfl (ji_sq (je_gt rfl T.c_KINDS)) (pg_name (i := 4) sc_face_of.nd rfl (by first | exact Or.inl rfl | exact Or.inr rfl)) gq_n (js_one (js_expr (je_bm PySem.F.plainAttrs_dict PySem.F.slot_dict_update PySem.F.type_dict_update mt_updD pm_updD (je_v 3) (ja_cons (je_dc2 rfl sc_face_of.nd (ji_sq (je_v 0)) (own := [("defines", 6), ("wants", 7), ("name", 5), ("own", 8)]) (vs1 := [5, 8]) (ok := (show BlkOk N_face_of (defScope (top 18)) _ _ from ⟨rfl, by decide +kernel, by decide +kernel, by decide +kernel, by decide +kernel⟩)) (by decide) (by decide) (by decide) (fun _ _ _ _ _ => (pg_tup (n := 2) rfl (pgs_cons (pg_name (i := 6) sc_face_of.nd rfl (by first | exact Or.inl rfl | exact Or.inr rfl)) (pgs_cons (pg_name (i := 7) sc_face_of.nd rfl (by first | exact Or.inl rfl | exact Or.inr rfl)) pgs_nil)))) (gq_t (gqs_cons gq_n (gqs_cons gq_n gqs_nil))) (fun _ _ _ _ _ => jts_nil) (fun _ _ _ _ _ => (ji_sq (je_v 6))) (fun _ _ _ _ _ => (pg_tup (n := 2) rfl (pgs_cons (pg_name (i := 5) sc_face_of.nd rfl (by first | exact Or.inl rfl | exact Or.inr rfl)) (pgs_cons (pg_name (i := 8) sc_face_of.nd rfl (by first | exact Or.inl rfl | exact Or.inr rfl)) pgs_nil)))) (gq_t (gqs_cons gq_n (gqs_cons gq_n gqs_nil))) (fun _ _ _ _ _ => pts_one (jt_cmp (op_eqs (hu64 hr.units)) pr_eq (je_v 8) (je_v 4) (nomark _))) (fun _ _ _ _ _ => (je_v 5)) (fun _ _ _ _ _ => (je_v 4))) ja_nil)))))
 (js_one (js_ret (je_ct call_tuple_of pn_tuple rfl T.n_tuple boot_tuple (ja_cons (je_sortI rfl (hu66 hr.units) (je_v 3) rfl T.n_sorted boot_sorted) ja_nil))))))))))
theorem p_face_of (c : SaysZ ck fn K) (T : Txt K mg) : FS Row.prog Row.w K mg base 31 (He.ga K "face_of") m_face_of := by
  obtain ⟨fd, F⟩ := c.def_ 15
  exact fs_pos F sc_face_of (b_face_of c T) (fun _ _ _ _ _ _ us hl => match us, hl with | [_], _ => rfl)
abbrev N_is_face : List Str := ["thing", "names", "row", "name", "word"]
theorem sc_is_face : FnScope N_is_face ["thing"] (defScope (top 19)) := ⟨rfl, rfl, rfl, by decide +kernel, rfl, by decide +kernel, by decide +kernel⟩
theorem b_is_face (c : SaysZ ck fn K) (T : Txt K mg) : Body Row.prog Row.w K mg base 12 N_is_face "is_face" (defScope (top 19)) (He.ga K "is_face") (defBody (top 19)) s_is_face := by
  intro cdv A outer s H E hcv hr
  exact (js_cons (js_if (JW_t (jw_or (jt_not (jt_tru (je_isi rfl T.n_isinstance rfl T.n_tuple boot_tuple (je_v 0)))) (jw_or1 (jt_not (jt_tru (je_cb (cr_all rfl) pn_all rfl T.n_all boot_all (ja_cons (je_lc rfl sc_is_face.nd (ji_sq (je_v 0)) (ok := (show BlkOk N_is_face (defScope (top 19)) _ _ from ⟨rfl, by decide +kernel, by decide +kernel, by decide +kernel, by decide +kernel⟩)) (own := [("row", 2)]) (by decide) (fun _ _ _ _ _ => (pg_name (i := 2) sc_is_face.nd rfl (by first | exact Or.inl rfl | exact Or.inr rfl))) gq_n (fun _ _ _ _ _ => jts_nil) (fun _ _ _ _ _ => (je_and (je_isi rfl T.n_isinstance rfl T.n_tuple boot_tuple (je_v 2)) (je_one (je_cmp (op_eqs (hu64 hr.units)) pr_eq (je_cb call_lens pn_len rfl T.n_len boot_len (ja_cons (je_v 2) ja_nil)) je_int (nomark _)))))) ja_nil))))))) (js_one (js_ret je_bl)) js_nil)
 (js_cons (js_if (jt_not (jt_tru (je_cb (cr_all rfl) pn_all rfl T.n_all boot_all (ja_cons (je_lc rfl sc_is_face.nd (ji_sq (je_v 0)) (ok := (show BlkOk N_is_face (defScope (top 19)) _ _ from ⟨rfl, by decide +kernel, by decide +kernel, by decide +kernel, by decide +kernel⟩)) (own := [("name", 3), ("word", 4)]) (by decide) (fun _ _ _ _ _ => (pg_tup (n := 2) rfl (pgs_cons (pg_name (i := 3) sc_is_face.nd rfl (by first | exact Or.inl rfl | exact Or.inr rfl)) (pgs_cons (pg_name (i := 4) sc_is_face.nd rfl (by first | exact Or.inl rfl | exact Or.inr rfl)) pgs_nil)))) (gq_t (gqs_cons gq_n (gqs_cons gq_n gqs_nil))) (fun _ _ _ _ _ => jts_nil) (fun _ _ _ _ _ => (je_and (je_call (p_is_name c T) (hr.mono (by decide)) (takes0) rfl T.g_is_name T.k_is_name (ja_cons (je_v 3) ja_nil)) (je_and (je_isi rfl T.n_isinstance rfl T.n_str boot_str (je_v 4)) (je_one (je_cmp (op_ins (hu65 hr.units)) pr_in (je_v 4) (je_gt rfl T.c_WORDS) (by rfl))))))) ja_nil)))) (js_one (js_ret je_bl)) js_nil)
 (js_cons (js_setLc (i := 1) rfl sc_is_face.nd rfl rfl (by rfl) (ji_sq (je_v 0)) (ok := (show BlkOk N_is_face (defScope (top 19)) _ _ from ⟨rfl, by decide +kernel, by decide +kernel, by decide +kernel, by decide +kernel⟩)) (own := [("row", 2)]) (by decide) (fun _ _ _ _ _ => (pg_name (i := 2) sc_is_face.nd rfl (by first | exact Or.inl rfl | exact Or.inr rfl))) gq_n (fun _ _ _ _ _ => jts_nil) (fun _ _ _ _ _ => (je_ix ix_seq pr_ix (je_v 2) je_int)))
 (js_one (js_ret (je_and (je_cmp (op_eqs (hu64 hr.units)) pr_eq (je_v 1) (je_cb call_srtA (pn_sortA (hu66 hr.units)) rfl T.n_sorted boot_sorted (ja_cons (je_v 1) ja_nil)) (nomark _)) (je_one (je_cmp op_isN pr_isN2 (je_call (p_twice_in c T) (hr.mono (by decide)) (takes_of rfl rfl rfl rfl) rfl T.g_twice_in T.k_twice_in (ja_cons (je_v 1) ja_nil)) je_non (nomark _)))))))))
theorem p_is_face (c : SaysZ ck fn K) (T : Txt K mg) : FS Row.prog Row.w K mg base 13 (He.ga K "is_face") m_is_face := by
  obtain ⟨fd, F⟩ := c.def_ 16
  exact fs_pos F sc_is_face (b_is_face c T) (fun _ _ _ _ _ _ us hl => match us, hl with | [_], _ => rfl)
abbrev N_look_face : List Str := ["thing"]
theorem sc_look_face : FnScope N_look_face ["thing"] (defScope (top 20)) := ⟨rfl, rfl, rfl, by decide +kernel, rfl, by decide +kernel, by decide +kernel⟩
theorem b_look_face (c : SaysZ ck fn K) (T : Txt K mg) : Body Row.prog Row.w K mg base 18 N_look_face "look_face" (defScope (top 20)) (He.ga K "look_face") (defBody (top 20)) s_look_face := by
  intro cdv A outer s H E hcv hr
  exact (js_cons (js_if (jt_not (jt_tru (je_call (p_is_face c T) (hr.mono (by decide)) (takes_of rfl rfl rfl rfl) rfl T.g_is_face T.k_is_face (ja_cons (je_v 0) ja_nil)))) (js_one js_no) js_nil)
 (js_one (js_ret (je_v 0))))
theorem p_look_face (c : SaysZ ck fn K) (T : Txt K mg) : FS Row.prog Row.w K mg base 19 (He.ga K "look_face") m_look_face := by
  obtain ⟨fd, F⟩ := c.def_ 17
  exact fs_pos F sc_look_face (b_look_face c T) (fun _ _ _ _ _ _ us hl => match us, hl with | [_], _ => rfl)
abbrev N_law : List Str := ["_law_script", "_law_at", "_law_bag_here", "_law_names_here", "_law_turn", "_law_objects_here", "_law_told", "_law_own", "_law_wishes", "_law_due", "_law_handed", "_law_row"]
theorem sc_law : FnScope N_law ["_law_script"] (defScope (top 31)) := ⟨rfl, rfl, rfl, by decide +kernel, rfl, by decide +kernel, by decide +kernel⟩
theorem b_law (c : SaysZ ck fn K) (T : Txt K mg) : Body Row.prog Row.w K mg base 36 N_law "law" (defScope (top 31)) (He.ga K "law") (defBody (top 31)) s_law := by
  intro cdv A outer s H E hcv hr
  exact (js_cons (js_for (passes_of rfl) rfl (ji_range1 rfl T.n_range (ja_cons (je_cb (call_max2 rfl) pn_max2 rfl T.n_max boot_max (ja_cons je_int (ja_cons (je_cb (call_min2 rfl) pn_min2 rfl T.n_min boot_min (ja_cons je_int (ja_cons (je_cb call_lens pn_len rfl T.n_len boot_len (ja_cons (je_v 0) ja_nil)) ja_nil))) ja_nil))) ja_nil)) (pg_name (i := 1) sc_law.nd rfl (by first | exact Or.inl rfl | exact Or.inr rfl)) gq_n (js_cons (js_set (i := 2) sc_law.nd rfl (Or.inl rfl) (je_call (p__law_bag c T) (hr.mono (by decide)) (takes_of rfl rfl rfl rfl) rfl T.g__law_bag T.k__law_bag (ja_cons (je_v 0) (ja_cons (je_v 1) ja_nil))))
 (js_cons (js_set (i := 3) sc_law.nd rfl (Or.inl rfl) (je_call (p__law_names c T) (hr.mono (by decide)) (takes_of rfl rfl rfl rfl) rfl T.g__law_names T.k__law_names (ja_cons (je_v 2) (ja_cons (je_op op_adds pr_add je_int (je_call (p__law_take c T) (hr.mono (by decide)) (takes_of rfl rfl rfl rfl) rfl T.g__law_take T.k__law_take (ja_cons (je_v 2) (ja_cons je_int ja_nil)))) ja_nil))))
 (js_one (js_for (passes_of rfl) rfl (ji_range1 rfl T.n_range (ja_cons (je_call (p__law_few c T) (hr.mono (by decide)) (takes_of rfl rfl rfl rfl) rfl T.g__law_few T.k__law_few (ja_cons (je_v 0) (ja_cons je_int ja_nil))) ja_nil)) (pg_name (i := 4) sc_law.nd rfl (by first | exact Or.inl rfl | exact Or.inr rfl)) gq_n (js_cons (js_set (i := 5) sc_law.nd rfl (Or.inl rfl) (je_call (p__law_objects c T) (hr.mono (by decide)) (takes_of rfl rfl rfl rfl) rfl T.g__law_objects T.k__law_objects (ja_cons (je_v 2) (ja_cons (je_v 3) ja_nil))))
 (js_cons (js_par (i := 9) (j := 10) rfl sc_law.nd rfl rfl (by decide) rfl rfl (ja_cons (je_call (p__law_face c T) (hr.mono (by decide)) (takes_of rfl rfl rfl rfl) rfl T.g__law_face T.k__law_face (ja_cons (je_v 5) ja_nil)) (ja_cons (je_ct call_list_of pn_list rfl T.n_list boot_list (ja_cons (je_v 5) ja_nil)) ja_nil)) (by rfl))
 (js_cons (js_set (i := 6) sc_law.nd rfl (Or.inl rfl) (je_call (p_face_of c T) (hr.mono (by decide)) (takes_of rfl rfl rfl rfl) rfl T.g_face_of T.k_face_of (ja_cons (je_v 10) ja_nil)))
 (js_cons (js_if (JW_t (jw_or (jt_cmp (op_nes (hu64 hr.units)) pr_ne (je_cb (call_reprD hr.gd (hu66 hr.units)) pn_repr rfl T.n_repr boot_repr (ja_cons (je_v 6) ja_nil)) (je_cb (call_reprD hr.gd (hu66 hr.units)) pn_repr rfl T.n_repr boot_repr (ja_cons (je_v 9) ja_nil)) (nomark _)) (jw_or (jt_cmp (op_nes (hu64 hr.units)) pr_ne (je_v 10) (je_ct call_list_of pn_list rfl T.n_list boot_list (ja_cons (je_v 5) ja_nil)) (nomark _)) (jw_or1 (jt_cmp (op_nes (hu64 hr.units)) pr_ne (je_call (p_face_of c T) (hr.mono (by decide)) (takes_of rfl rfl rfl rfl) rfl T.g_face_of T.k_face_of (ja_cons (je_v 5) ja_nil)) (je_v 9) (nomark _)))))) (js_one (js_ret je_bl)) js_nil)
 (js_cons (js_if (jt_cmp (op_nes (hu64 hr.units)) pr_ne (je_call (p_face_of c T) (hr.mono (by decide)) (takes_of rfl rfl rfl rfl) rfl T.g_face_of T.k_face_of (ja_cons (je_call (p__law_turned c T) (hr.mono (by decide)) (takes_of rfl rfl rfl rfl) rfl T.g__law_turned T.k__law_turned (ja_cons (je_v 2) (ja_cons (je_call (p__law_parted c T) (hr.mono (by decide)) (takes_of rfl rfl rfl rfl) rfl T.g__law_parted T.k__law_parted (ja_cons (je_v 5) ja_nil)) ja_nil))) ja_nil)) (je_v 9) (nomark _)) (js_one (js_ret je_bl)) js_nil)
 (js_cons (js_set (i := 7) sc_law.nd rfl (Or.inl rfl) (je_ct call_tuple_of pn_tuple rfl T.n_tuple boot_tuple (ja_cons (je_lc rfl sc_law.nd (ji_sq (je_v 9)) (ok := (show BlkOk N_law (defScope (top 31)) _ _ from ⟨rfl, by decide +kernel, by decide +kernel, by decide +kernel, by decide +kernel⟩)) (own := [("_law_row", 11)]) (by decide) (fun _ _ _ _ _ => (pg_name (i := 11) sc_law.nd rfl (by first | exact Or.inl rfl | exact Or.inr rfl))) gq_n (fun _ _ _ _ _ => pts_one (jt_cmp (op_nes (hu64 hr.units)) pr_ne (je_ix ix_seq pr_ix (je_v 11) je_int) je_str (nomark _))) (fun _ _ _ _ _ => (je_v 11))) ja_nil)))
 (js_cons (js_set (i := 7) sc_law.nd rfl (Or.inl rfl) (je_tup (ja_cons (je_v 7) (ja_cons (je_ct call_tuple_of pn_tuple rfl T.n_tuple boot_tuple (ja_cons (je_lc rfl sc_law.nd (ji_sq (je_v 9)) (ok := (show BlkOk N_law (defScope (top 31)) _ _ from ⟨rfl, by decide +kernel, by decide +kernel, by decide +kernel, by decide +kernel⟩)) (own := [("_law_row", 11)]) (by decide) (fun _ _ _ _ _ => (pg_name (i := 11) sc_law.nd rfl (by first | exact Or.inl rfl | exact Or.inr rfl))) gq_n (fun _ _ _ _ _ => pts_one (jt_cmp (op_eqs (hu64 hr.units)) pr_eq (je_ix ix_seq pr_ix (je_v 11) je_int) je_str (nomark _))) (fun _ _ _ _ _ => (je_ix ix_seq pr_ix (je_v 11) je_int))) ja_nil)) ja_nil))))
 (js_cons (js_if (JW_t (jw_or (jt_cmp (op_nes (hu64 hr.units)) pr_ne (je_call (p_face_of c T) (hr.mono (by decide)) (takes_of rfl rfl rfl rfl) rfl T.g_face_of T.k_face_of (ja_cons (je_lst (ja_cons (je_v 7) ja_nil)) ja_nil)) (je_v 9) (nomark _)) (jw_or (jt_cmp (op_nes (hu64 hr.units)) pr_ne (je_call (p_face_of c T) (hr.mono (by decide)) (takes_of rfl rfl rfl rfl) rfl T.g_face_of T.k_face_of (ja_cons (je_tup (ja_cons (je_v 7) ja_nil)) ja_nil)) (je_v 9) (nomark _)) (jw_or1 (jt_cmp (op_nes (hu64 hr.units)) pr_ne (je_call (p_look_face c T) (hr.mono (by decide)) (takes_of rfl rfl rfl rfl) rfl T.g_look_face T.k_look_face (ja_cons (je_v 9) ja_nil)) (je_v 9) (nomark _)))))) (js_one (js_ret je_bl)) js_nil)
 (js_cons (js_set (i := 8) sc_law.nd rfl (Or.inl rfl) (je_ct call_tuple_of pn_tuple rfl T.n_tuple boot_tuple (ja_cons (je_lc rfl sc_law.nd (ji_sq (je_v 9)) (ok := (show BlkOk N_law (defScope (top 31)) _ _ from ⟨rfl, by decide +kernel, by decide +kernel, by decide +kernel, by decide +kernel⟩)) (own := [("_law_row", 11)]) (by decide) (fun _ _ _ _ _ => (pg_name (i := 11) sc_law.nd rfl (by first | exact Or.inl rfl | exact Or.inr rfl))) gq_n (fun _ _ _ _ _ => jts_nil) (fun _ _ _ _ _ => (je_tup (ja_cons (je_tup ja_nil) (ja_cons (je_tup (ja_cons (je_ix ix_seq pr_ix (je_v 11) je_int) ja_nil)) ja_nil))))) ja_nil)))
 (js_cons (js_if (JW_t (jw_or (jt_cmp (op_nes (hu64 hr.units)) pr_ne (je_call (p_face_of c T) (hr.mono (by decide)) (takes_of rfl rfl rfl rfl) rfl T.g_face_of T.k_face_of (ja_cons (je_op op_adds pr_add (je_v 8) (je_v 5)) ja_nil)) (je_v 9) (nomark _)) (jw_or1 (jt_cmp (op_nes (hu64 hr.units)) pr_ne (je_call (p_face_of c T) (hr.mono (by decide)) (takes_of rfl rfl rfl rfl) rfl T.g_face_of T.k_face_of (ja_cons (je_v 8) ja_nil)) (je_ct call_tuple_of pn_tuple rfl T.n_tuple boot_tuple (ja_cons (je_lc rfl sc_law.nd (ji_sq (je_v 9)) (ok := (show BlkOk N_law (defScope (top 31)) _ _ from ⟨rfl, by decide +kernel, by decide +kernel, by decide +kernel, by decide +kernel⟩)) (own := [("_law_row", 11)]) (by decide) (fun _ _ _ _ _ => (pg_name (i := 11) sc_law.nd rfl (by first | exact Or.inl rfl | exact Or.inr rfl))) gq_n (fun _ _ _ _ _ => jts_nil) (fun _ _ _ _ _ => (je_tup (ja_cons (je_ix ix_seq pr_ix (je_v 11) je_int) (ja_cons je_str ja_nil))))) ja_nil)) (nomark _))))) (js_one (js_ret je_bl)) js_nil)
 (js_cons (js_expr (je_bm PySem.F.plainAttrs_list PySem.F.slot_list_append PySem.F.type_list_append (mt_append) pm_append (je_v 10) (ja_cons (je_tup (ja_cons (je_tup (ja_cons (je_tup (ja_cons je_str (ja_cons je_str ja_nil))) ja_nil)) (ja_cons (je_tup ja_nil) ja_nil))) ja_nil)))
 (js_one (js_if (JW_t (jw_or (jt_cmp (op_nes (hu64 hr.units)) pr_ne (je_v 6) (je_v 9) (nomark _)) (jw_or1 (JW_t (jw_and (jt_cmp (op_eqs (hu64 hr.units)) pr_eq (je_call (p_face_of c T) (hr.mono (by decide)) (takes_of rfl rfl rfl rfl) rfl T.g_face_of T.k_face_of (ja_cons (je_v 10) ja_nil)) (je_v 9) (nomark _)) (jw_and1 (jt_cmp (op_notIns (hu65 hr.units)) pr_in je_str (je_v 3) (by rfl)))))))) (js_one (js_ret je_bl)) js_nil))))))))))))))))))
 (js_one (js_ret (je_and (je_cmp (op_eqs (hu64 hr.units)) pr_eq (je_call (p_face_of c T) (hr.mono (by decide)) (takes_of rfl rfl rfl rfl) rfl T.g_face_of T.k_face_of (ja_cons (je_lst ja_nil) ja_nil)) (je_tup ja_nil) (nomark _)) (je_and (je_cmp (op_eqs (hu64 hr.units)) pr_eq (je_call (p_face_of c T) (hr.mono (by decide)) (takes_of rfl rfl rfl rfl) rfl T.g_face_of T.k_face_of (ja_cons (je_tup ja_nil) ja_nil)) (je_tup ja_nil) (nomark _)) (je_one (je_cmp (op_eqs (hu64 hr.units)) pr_eq (je_call (p_face_of c T) (hr.mono (by decide)) (takes_of rfl rfl rfl rfl) rfl T.g_face_of T.k_face_of (ja_cons (je_lst (ja_cons (je_tup (ja_cons (je_tup ja_nil) (ja_cons (je_tup ja_nil) ja_nil))) ja_nil)) ja_nil)) (je_tup ja_nil) (nomark _))))))))
theorem p_law (c : SaysZ ck fn K) (T : Txt K mg) : FS Row.prog Row.w K mg base 37 (He.ga K "law") m_law := by
  obtain ⟨fd, F⟩ := c.def_ 18
  exact fs_pos F sc_law (b_law c T) (fun _ _ _ _ _ _ us hl => match us, hl with | [_], _ => rfl)
end
end RowS
set_option maxHeartbeats 0
end Z
open PySem PySem.W PySem.Calls PyProof.Rows
theorem PySem.Challenge.cw_lineoflibraries_k07_faces_of_programs_holds : PySem.Challenge.rw_lineoflibraries_k07_faces_of_programs.Holds := by
  w_on; o_law
  refine HandSHeadRun.head_any (r := OpenLaw.row PySem.Challenge.rw_lineoflibraries_k07_faces_of_programs) (q := view (OpenLaw.row PySem.Challenge.rw_lineoflibraries_k07_faces_of_programs).prog [31]) (H := Z.hk) (ob := Z.ob) (M := 60000) (loose := Z.names) (d := HandSHeadRun.topDef (OpenLaw.row PySem.Challenge.rw_lineoflibraries_k07_faces_of_programs).prog 31) (kwd := []) Z.ob_eq
    (by kernel_rfl) (fun s => by kernel_rfl) Z.run (by kernel_rfl) (by kernel_rfl) (by kernel_rfl) (by rfl) (by first | assumption | decide +kernel) (by decide +kernel) ⟨rfl, rfl, rfl, rfl, rfl, by decide +kernel⟩ ?hw ?hc
  case hw => w_witness2
  case hc =>
    refine Z.walk_law (l := PySem.Challenge.rw_lineoflibraries_k07_faces_of_programs) (n := 63) (k := 37) rfl (by decide) (by kernel_rfl) ⟨rfl, by decide, by decide⟩ ?F
    intro w mg fa h Y G hmg0
    letI : Z.Row := Z.rowOf (PySem.Challenge.rw_lineoflibraries_k07_faces_of_programs).prog w
    obtain ⟨K, KX, c⟩ := Y
    have hmg : mg ("law" : PySem.Str) = some (.ref fa) := by
      have e : (HandSHeadRun.topDef (OpenLaw.row PySem.Challenge.rw_lineoflibraries_k07_faces_of_programs).prog 31).name = ("law" : PySem.Str) := by kernel_rfl
      rw [← e]
      exact hmg0
    have T := Z.txt KX G c.ok_
    have e := hmg.symm.trans (He.glo_ok KX G (Z.chk_fa (Z.ck_ok c.ok_).1 (f := .glo "law") 36))
    cases e
    exact ⟨K, Z.m_law, KX, Z.plain_law, fun base _ _ => @Z.p_law (Z.rowOf _ w) K mg base c T⟩

