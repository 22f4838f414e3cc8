import PyProof.Rows.All
import Wide.All
import OpenK.AllK
import Wide.FinOn
import HandS.SetKeys
import HandS.SetFor
import HandS.ForMost
import HandS.Exc
import HandS.WordsExc
import HandS.Defaults
import HandS.Lambda
import HandS.More
import HandS.Star
import HandS.HeadHook2
import HandS.ExcOwn
import HandS.TupAny
import HandS.Deep
import HandS.IsInst
import HandS.FStr
import HandS.Small
import HandS.RaiseMore
import KE.SortData
import HandS.Sort
import HandS.Iter
import HandS.Zip
import KE.KStateDown
import HandS.Head0
import HandS.Head1
import HandS.Head2
import HandS.HeadEnd
import HandS.Text
import PyProof.Rows.RegFStrParts
import HandS.Property
import HandS.MakeKwOnly
import KE.KOwnIter
import HandS.IterNext
import PyProof.InstNe
import HandS.OwnEq
import PyProof.TupleOfSeq
import HandS.Style
import KE.KExcInit
import HandS.ExcInit
import HandS.TryMany
import HandS.ExcField
import KE.KExcIs
import HandS.EndTab
import HandS.HeadHook4
import HandS.GenList
import PyProof.CodeObjX
import PyProof.GenArm
import KE.KDictIter
import HandS.DictComp
import KE.KDictPairs
import KE.GoesEnum
import KE.DataMinKey
import KE.KIndexOf
import HandS.Conv
import HandS.TupMul
import KE.KDictSum
import PyProof.Rows.Range3
import PyProof.Conv_bool
import KE.KRevSl
import KE.DataFind
import HandS.List
import HandS.Comp
import PyProof.DictUpdate
import HandS.DictTup
import KE.KItemsList
import HandS.ListItems
import PyProof.IsiTupleAll
import HandS.TupSets
import KE.GoesComp
import KE.KAsSuite
import PyProof.FitsReplace
import PySem.Challenge.RW_lineoflibraries_k77_texts_of_faces_and_l
set_option Elab.async false
set_option linter.all false
set_option maxRecDepth 100000
set_option maxHeartbeats 0
namespace Z
open PySem PySem.Spec PyProof.Rows L2 LamX
/-- a def's code object -/
def codeV (K : PySem.W.Frag) (f : Addr) : Value := match K.lookup f with
  | some ⟨_, _, .func fd, _⟩ => fd.code
  | _ => .none
abbrev AlZ : Type := Bool × List He.FnW
/-- the getter of the property m of the class C -/
def prG (K : PySem.W.Frag) (C : Addr) (m : Str) : Addr := match PySem.W.recIn K (He.ma K C m) "property" with
  | some (.ref g :: _) => g
  | _ => 0
/-- a name that begins with @ tells a property's getter -/
def isPm (p : Str × Option Str) : Bool := match p.2 with
  | none => false
  | some m => m.cps[0]? == some 64
/-- where a def stands: a global's, a class's method, a property's getter -/
def fAz (K : PySem.W.Frag) (p : Str × Option Str) : Addr := match isPm p with
  | false => He.fAd K p
  | true => match p.2 with
    | none => 0
    | some m => prG K (He.ga K p.1) ⟨m.cps.extract 1 m.cps.size⟩
/-- what a function at f is of -/
def fnZ (K : PySem.W.Frag) (f : Addr) : He.FnW := match K.lookup f with
  | some o => match o.data with
    | .func fd => some (fd.name, fd.qualname, fd.params, fd.body, fd.scope, fd.globals, fd.closure, fd.builtins)
    | _ => none
  | none => none
def okZ (K : PySem.W.Frag) (f : Addr) (q : Str) (vs : List V) (kvs : List (Str × V)) : Bool := (PySem.W.keepIn K (.ref f) && match K.lookup f with
  | some o => match o.data with
    | .func fd => PySem.W.codeIn K fd.code q && (He.dflB K fd.defaults vs && He.kwdB K fd.kwdefaults kvs)
    | _ => false
  | none => false)
def obsZ (chk : PySem.W.Frag → Bool) (fn : List He.DefD) (K : PySem.W.Frag) : AlZ := (chk K && fn.all fun d => okZ K (fAz K d.at_) d.qual (d.dvs K) (d.kws K), fn.map fun d => fnZ K (fAz K d.at_))
def valZ (fn : List He.DefD) : AlZ := (true, fn.map He.DefD.val)
/-- the checks by number -/
def tupN (K : PySem.W.Frag) (x : Str) : Bool := match K.lookup (He.ga K x) with
  | some ⟨.type t, none, _, _⟩ => decide (t = "tuple")
  | _ => false
def chkAll (fa : List He.Fa) (ts : List (Str × List He.Dv)) (K : PySem.W.Frag) : Bool := (fa.all fun f => f.ok K) && ts.all fun t => He.tupB K t.1 t.2 && tupN K t.1
def tysB : List String := ["NoneType", "bool", "int", "str", "tuple", "list", "dict"]
def clsOne (K : PySem.W.Frag) (cs : List Str) (c : Str) : Bool :=
  (He.Fa.cls c).ok K && (decide (PySem.W.findIn K (.ref (He.ga K c)) "__class__" = some (some (.builtin "object.__class__"))) && (decide (PySem.W.specialIn K (.builtin "object.__class__") "__get__" = some (some (.builtin "getset_descriptor.__get__"))) &&
    (decide (PySem.W.takesIn K (.builtin "object.__class__") = some true) && (decide (PySem.W.mroIn K (He.ga K c) (.type "object") = some true) && ((tysB.all fun T => decide (PySem.W.kitOne K (.ref (He.ga K c)) (.type T) = some false) && (decide (PySem.W.subIn K (.type T) (.ref (He.ga K c)) = some false) && decide (PySem.W.kitOne K (.type T) (.ref (He.ga K c)) = some false))) &&
    (cs.all fun d => decide (PySem.W.kitOne K (.ref (He.ga K c)) (.ref (He.ga K d)) = some (decide (c = d))) && PySem.W.notFirst K (He.ga K c) (.ref (He.ga K d))))))))
def clsAll (K : PySem.W.Frag) (cs : List Str) : Bool := cs.all fun c => (He.Fa.glo c).ok K && clsOne K cs c
structure XBase where
  B : String
  newId : String
  initId : String
  bm : List Value
  F : ExcBaseFacts B newId initId bm
  SF : StoreFacts B bm "object.__setattr__" "object"
def xValue : XBase := ⟨_, _, _, _, F.excBase_ValueError, F.store_ValueError⟩
def xclB (b : XBase) (K : PySem.W.Frag) (C g : Addr) (f : Str) : Bool :=
  PySem.W.excInitIn K C b.bm b.newId && (PySem.W.excOver K C b.bm && (PySem.W.hasDictIn K C && (decide (PySem.W.takerIn K C f = some none) && (decide (PySem.W.findIn K (.ref C) "__setattr__" = some (some (.builtin "object.__setattr__"))) &&
    (decide (PySem.W.findIn K (.ref C) "__init__" = some (some (.ref g))) && (decide (PySem.W.typeIn K (.ref g) = some (.type "function")) && (decide (PySem.W.subIn K (.ref C) (.type "BaseException") = some true) && (decide (PySem.W.typeIn K (.ref C) = some (.type "type")) && PySem.W.keepIn K (.ref C)))))))))
def xisB (K : PySem.W.Frag) (C : Addr) : Bool :=
  (PySem.W.clsIn K C).isSome && (decide (PySem.W.findIn K (.ref C) "__getattribute__" = some (some (.builtin "BaseException.__getattribute__"))) && (decide (PySem.W.findIn K (.ref C) "__getattr__" = some none) && (decide (PySem.W.subIn K (.ref C) (.type "BaseException") = some true) &&
    (PySem.W.hasDictIn K C && (decide (PySem.W.findIn K (.ref C) "__class__" = some (some (.builtin "object.__class__"))) && (decide (PySem.W.specialIn K (.builtin "object.__class__") "__get__" = some (some (.builtin "getset_descriptor.__get__"))) &&
      (decide (PySem.W.takesIn K (.builtin "object.__class__") = some true) && decide (PySem.W.mroIn K C (.type "object") = some true))))))))
def tabAt (K : PySem.W.Frag) (p : Str × Option Str) : Addr × Addr := match codeV K (He.fAd K p) with
  | .ref c => (match K.lookup c with
    | some ⟨_, _, .fields vs, _⟩ => (match vs.getD 11 .none with
      | .ref P => (c, P)
      | _ => (0, 0))
    | _ => (0, 0))
  | _ => (0, 0)
def hdB (vs : Array Value) (q : Addr × Addr) : Bool :=
  decide (vs[11]? = some (.ref q.2)) && (decide (vs.getD 11 .none = .ref q.2) && ((match vs.getD 18 .none with | .str _ _ => true | _ => false) && ((match vs.getD 7 .none with | .int _ _ => true | _ => false) &&
    ((match vs.getD 9 .none with | .bool _ => true | _ => false) && ((match vs.getD 10 .none with | .int _ _ => true | _ => false) && !decide (q.1 = q.2))))))
def codeHdB (K : PySem.W.Frag) (q : Addr × Addr) : Bool := match K.lookup q.1 with
  | some ⟨.type t, _, .fields vs, _⟩ => decide (t = "code") && hdB vs q
  | _ => false
def isTabB (K : PySem.W.Frag) (b : Addr) : Bool := match K.lookup b with
  | some ⟨.none, none, .fields vs, sl⟩ => decide (vs.size = 0) && decide (sl.size = 0)
  | _ => false
/-- without some objects -/
def cut (K : PySem.W.Frag) (ts : List Addr) : PySem.W.Frag := K.filter fun e => !ts.contains e.1
abbrev LL : Type := List ((Str × Option Str) × Str)
def tabsOf (K : PySem.W.Frag) (ls : LL) : List (Addr × Addr) := ls.map fun l => tabAt K l.1
def cutT (K : PySem.W.Frag) (ls : LL) : PySem.W.Frag := cut K ((tabsOf K ls).map (·.2))
def tabsOkB (K : PySem.W.Frag) (ls : LL) : Bool := (ls.all fun l => codeHdB K (tabAt K l.1) && (isTabB K (tabAt K l.1).2 && decide (codeV (cutT K ls) (He.fAd (cutT K ls) l.1) = .ref (tabAt K l.1).1))) &&
  ls.all fun l => ls.all fun m => !decide ((tabAt K l.1).2 = (tabAt K m.1).2) || decide (l.2 = m.2)
def obsT (ls : LL) (chk : PySem.W.Frag → Bool) (fn : List He.DefD) (K : PySem.W.Frag) : AlZ := (tabsOkB K ls && (obsZ chk fn (cutT K ls)).1, (obsZ chk fn (cutT K ls)).2)
def obsTG (n : Nat) (ls : LL) (chk : PySem.W.Frag → Bool) (fn : List He.DefD) (g : Addr → Option Obj) : AlZ := obsT ls chk fn (He.frG g (He.asD g n))
def hookT (n : Nat) (ls : LL) (chk : PySem.W.Frag → Bool) (fn : List He.DefD) : PySem.W.Hook where
  α := AlZ
  obs := fun s => obsTG n ls chk fn s.heap.get?
  val := fun _ => valZ fn
  says := fun _ h => ∃ K : PySem.W.Frag, K.In h ∧ obsT ls chk fn K = valZ fn
  of := fun _ _ e => ⟨_, He.frG_in, e⟩
  keeps := fun _ _ _ ⟨K, hK, c⟩ k => ⟨K, PySem.W.Frag.In.keeps hK k, c⟩
theorem obsTG_eq {n : Nat} {ls : LL} {chk : PySem.W.Frag → Bool} {fn : List He.DefD} {g : Addr → Option Obj} {s : Shared} (h : ∀ a, g a = s.heap.get? a) : obsTG n ls chk fn g = (hookT n ls chk fn).obs s := by
  have e : g = s.heap.get? := funext h
  rw [e] <;> rfl
theorem map_two {α β γ δ : Type} {x : Option α} {f : α → β} {g : α → γ} {h : α → δ} {b : β} {c : γ} {d : δ} (h1 : x.map (fun s => (f s, g s)) = some (b, c)) (h2 : x.map h = some d) : x.map (fun s => (f s, g s, h s)) = some (b, c, d) := by
  cases x with
  | none => cases h1
  | some s =>
    have e1 : (f s, g s) = (b, c) := Option.some.inj h1
    have e2 : h s = d := Option.some.inj h2
    have e3 : f s = b := congrArg (·.1) e1
    have e4 : g s = c := congrArg (·.2) e1
    show some (f s, g s, h s) = some (b, c, d)
    rw [e2, e3, e4]
theorem obsZ_join {chk : PySem.W.Frag → Bool} {fn : List He.DefD} {K : PySem.W.Frag} (h1 : (obsZ chk [] K).1 = true) (h2 : obsZ (fun _ => true) fn K = valZ fn) : obsZ chk fn K = valZ fn := by
  unfold obsZ valZ at *
  obtain ⟨e1, e2⟩ := Prod.mk.inj h2
  have e3 : chk K = true := by simpa using h1
  rw [e3]
  exact Prod.ext e1 e2
theorem obsT_join {ls : LL} {chk : PySem.W.Frag → Bool} {fn : List He.DefD} {K : PySem.W.Frag} (h1 : obsT ls chk [] K = valZ []) (h2 : obsT ls (fun _ => true) fn K = valZ fn) : obsT ls chk fn K = valZ fn := by
  unfold obsT at *
  obtain ⟨e1, e2⟩ := Prod.mk.inj h1
  obtain ⟨e3, e4⟩ := Prod.mk.inj h2
  obtain ⟨a1, a2⟩ := Bool.and_eq_true_iff.mp e1
  obtain ⟨b1, b2⟩ := Bool.and_eq_true_iff.mp e3
  have := obsZ_join a2 (Prod.ext b2 e4 : obsZ (fun _ => true) fn (cutT K ls) = valZ fn)
  rw [this, a1]
  rfl
theorem map_and {α β : Type} {x : Option α} {f g h : α → β} {a b c : β} (h1 : x.map f = some a) (h2 : x.map g = some b) (j : ∀ s, f s = a → g s = b → h s = c) : x.map h = some c := by
  cases x with
  | none => cases h1
  | some s => exact congrArg some (j s (Option.some.inj h1) (Option.some.inj h2))
theorem run_T {r : PySem.W.OpenRow} {q : Program} {M : Nat} {loose : List PySem.Str} {w : World} {n : Nat} {ls : LL} {chk : PySem.W.Frag → Bool} {fn : List He.DefD}
    (h1 : ∀ os, (HandSHeadRun.endF (HandSHeadRun.stepQ (HandSHeadRun.denQ HandSHeadRun.tabQ) r.prog w) M r.prog w os).map (fun s => (HandSHeadRun.looksF r.prog (PySem.W.boot_heap w.params) s.abs, HandSHeadRun.seenQ q loose (importedModules r.prog.main.body) (fun s => PySem.W.xlAt q [] s && PySem.W.recOk r.toRowW.records s) s.abs)) = some (true, PySem.W.openGood q loose))
    (h2 : ∀ os, (HandSHeadRun.endF (HandSHeadRun.stepQ (HandSHeadRun.denQ HandSHeadRun.tabQ) r.prog w) M r.prog w os).map (fun s => obsTG n ls chk [] (HandSHeadRun.getT s)) = some (valZ []))
    (h3 : ∀ os, (HandSHeadRun.endF (HandSHeadRun.stepQ (HandSHeadRun.denQ HandSHeadRun.tabQ) r.prog w) M r.prog w os).map (fun s => obsTG n ls (fun _ => true) fn (HandSHeadRun.getT s)) = some (valZ fn))
    : HandSHeadRun.RunEq r q (hookT n ls chk fn) (fun s => obsTG n ls chk fn (HandSHeadRun.getT s)) M loose w :=
  fun os => map_two (h1 os) (map_and (h2 os) (h3 os) fun s a b => obsT_join a b)
abbrev cls : List Str := []
abbrev xcs : List Str := ["BadText"]
def top (i : Nat) : Stmt := PySem.Challenge.pw_lineoflibraries_k77_texts_of_faces_and_l.main.body.getD i (.Pass ⟨0, 0, 0, 0⟩)
def clsBody : Stmt → List Stmt
  | .ClassDef _ _ _ b _ _ _ _ _ _ _ => b
  | _ => []
def mth (i j : Nat) : Stmt := (clsBody (top i)).getD j (.Pass ⟨0, 0, 0, 0⟩)
def fn0 : List He.DefD := [⟨("_law_bag", none), "_law_bag", "_law_bag", defArgs (top 17), defBody (top 17), defScope (top 17), [], []⟩,
  ⟨("_law_take", none), "_law_take", "_law_take", defArgs (top 18), defBody (top 18), defScope (top 18), [], []⟩,
  ⟨("_law_of", none), "_law_of", "_law_of", defArgs (top 19), defBody (top 19), defScope (top 19), [], []⟩,
  ⟨("_law_bent", none), "_law_bent", "_law_bent", defArgs (top 26), defBody (top 26), defScope (top 26), [], []⟩,
  ⟨("_law_drawn", none), "_law_drawn", "_law_drawn", defArgs (top 21), defBody (top 21), defScope (top 21), [], []⟩,
  ⟨("_law_names", none), "_law_names", "_law_names", defArgs (top 20), defBody (top 20), defScope (top 20), [], []⟩,
  ⟨("_law_is_name", none), "_law_is_name", "_law_is_name", defArgs (top 22), defBody (top 22), defScope (top 22), [], []⟩,
  ⟨("_law_read_face", none), "_law_read_face", "_law_read_face", defArgs (top 23), defBody (top 23), defScope (top 23), [], []⟩,
  ⟨("_law_read_line", none), "_law_read_line", "_law_read_line", defArgs (top 24), defBody (top 24), defScope (top 24), [], []⟩,
  ⟨("is_name", none), "is_name", "is_name", defArgs (top 5), defBody (top 5), defScope (top 5), [], []⟩,
  ⟨("twice_in", none), "twice_in", "twice_in", defArgs (top 6), defBody (top 6), defScope (top 6), [], []⟩,
  ⟨("is_face", none), "is_face", "is_face", defArgs (top 9), defBody (top 9), defScope (top 9), [], []⟩,
  ⟨("look_text", none), "look_text", "look_text", defArgs (top 12), defBody (top 12), defScope (top 12), [], []⟩,
  ⟨("read_face", none), "read_face", "read_face", defArgs (top 13), defBody (top 13), defScope (top 13), [], []⟩,
  ⟨("read_item", none), "read_item", "read_item", defArgs (top 14), defBody (top 14), defScope (top 14), [], []⟩]
def fn1 : List He.DefD := [⟨("read_line", none), "read_line", "read_line", defArgs (top 15), defBody (top 15), defScope (top 15), [], []⟩,
  ⟨("law", none), "law", "law", defArgs (top 27), defBody (top 27), defScope (top 27), [], []⟩,
  ⟨("BadText", some "__init__"), "__init__", "BadText.__init__", defArgs (mth 1 0), defBody (mth 1 0), defScope (mth 1 0), [], []⟩,
  ⟨("_law_outcome", none), "_law_outcome", "_law_outcome", defArgs (top 25), defBody (top 25), defScope (top 25), [], []⟩]
def fn : List He.DefD := fn0 ++ fn1
abbrev lq_law : Str := (("law" : Str) ++ ".<locals>.") ++ "<lambda>"
def lls : LL := [(("law", none), lq_law)]
def fa0 : List He.Fa := [.glo "_law_bag", .keep "_law_bag", .glo "_law_take", .keep "_law_take", .glo "_law_of", .keep "_law_of", .glo "_law_bent", .keep "_law_bent", .glo "_law_drawn", .keep "_law_drawn", .glo "_law_names", .keep "_law_names", .glo "_law_is_name", .keep "_law_is_name", .glo "_law_read_face", .keep "_law_read_face", .glo "_law_read_line", .keep "_law_read_line", .glo "is_name", .keep "is_name", .glo "twice_in", .keep "twice_in", .glo "is_face", .keep "is_face", .glo "look_text", .keep "look_text", .glo "read_face", .keep "read_face", .glo "read_item", .keep "read_item"]
def fa1 : List He.Fa := [.glo "read_line", .keep "read_line", .glo "law", .glo "_law_outcome", .keep "_law_outcome", .glo "BadText", .free "ValueError", .free "abs", .free "all", .free "enumerate", .free "int", .free "isinstance", .free "len", .free "list", .free "max", .free "min", .free "range", .free "repr", .free "set", .free "sorted", .free "str", .free "tuple", .str "LETTERS" "abcdefghijklmnopqrstuvwxyz", .int "MOST_LETTERS" (8), .str "NOTHING" "-", .glo "WORDS"]
def fa : List He.Fa := fa0 ++ fa1
def tb : List (Str × List He.Dv) := [("WORDS", [.str "wanted", .str "weak", .str "common", .str "strong"])]
def xb : List (PySem.W.Frag → Bool) := [fun K => xclB xValue K (He.ga K "BadText") (He.ma K (He.ga K "BadText") "__init__") "line",
  fun K => xisB K (He.ga K "BadText"),
  fun K => decide (PySem.W.findIn K (.ref (He.ga K "BadText")) "line" = some none),
  fun K => decide (PySem.W.kitOne K (.ref (He.ga K "BadText")) (.type "ValueError") = some true),
  fun K => xcs.all fun c => xcs.all fun c2 => decide (PySem.W.exmOne K (.ref (He.ga K c)) (.ref (He.ga K c2)) = some (decide (c = c2)))]
def ck (K : PySem.W.Frag) : Bool := chkAll fa tb K && (clsAll K cls && xb.all fun b => b K)
def names0 : List PySem.Str := ["BadText", "LETTERS", "MOST_LETTERS", "is_name", "twice_in", "WORDS", "is_face", "NOTHING", "look_text", "read_face", "read_item", "read_line", "_law_bag", "_law_take", "_law_of", "_law_names", "_law_drawn", "_law_is_name", "_law_read_face", "_law_read_line", "_law_outcome", "_law_bent"]
def names : List PySem.Str := names0
abbrev R : PySem.W.OpenRow := PySem.W.OpenLaw.row PySem.Challenge.rw_lineoflibraries_k77_texts_of_faces_and_l
def obsTL (as : List Addr) (ls : LL) (chk : PySem.W.Frag → Bool) (fn : List He.DefD) (g : Addr → Option Obj) : AlZ := obsT ls chk fn (He.frG g as)
def hookTL (as : List Addr) (ls : LL) (chk : PySem.W.Frag → Bool) (fn : List He.DefD) : PySem.W.Hook where
  α := AlZ
  obs := fun s => obsTL as ls chk fn s.heap.get?
  val := fun _ => valZ fn
  says := fun _ h => ∃ K : PySem.W.Frag, K.In h ∧ obsT ls chk fn K = valZ fn
  of := fun _ _ e => ⟨_, He.frG_in, e⟩
  keeps := fun _ _ _ ⟨K, hK, c⟩ k => ⟨K, PySem.W.Frag.In.keeps hK k, c⟩
theorem obsTL_eq {as : List Addr} {ls : LL} {chk : PySem.W.Frag → Bool} {fn : List He.DefD} {g : Addr → Option Obj} {s : Shared} (h : ∀ a, g a = s.heap.get? a) : obsTL as ls chk fn g = (hookTL as ls chk fn).obs s := by
  have e : g = s.heap.get? := funext h
  rw [e] <;> rfl
theorem run_TL {r : PySem.W.OpenRow} {q : Program} {M : Nat} {loose : List PySem.Str} {w : World} {as : List Addr} {ls : LL} {chk : PySem.W.Frag → Bool} {fn : List He.DefD}
    (h1 : ∀ os, (HandSHeadRun.endF (HandSHeadRun.stepQ (HandSHeadRun.denQ HandSHeadRun.tabQ) r.prog w) M r.prog w os).map (fun s => (HandSHeadRun.looksF r.prog (PySem.W.boot_heap w.params) s.abs, HandSHeadRun.seenQ q loose (importedModules r.prog.main.body) (fun s => PySem.W.xlAt q [] s && PySem.W.recOk r.toRowW.records s) s.abs)) = some (true, PySem.W.openGood q loose))
    (h2 : ∀ os, (HandSHeadRun.endF (HandSHeadRun.stepQ (HandSHeadRun.denQ HandSHeadRun.tabQ) r.prog w) M r.prog w os).map (fun s => obsTL as ls chk [] (HandSHeadRun.getT s)) = some (valZ []))
    (h3 : ∀ os, (HandSHeadRun.endF (HandSHeadRun.stepQ (HandSHeadRun.denQ HandSHeadRun.tabQ) r.prog w) M r.prog w os).map (fun s => obsTL as ls (fun _ => true) fn (HandSHeadRun.getT s)) = some (valZ fn))
    : HandSHeadRun.RunEq r q (hookTL as ls chk fn) (fun s => obsTL as ls chk fn (HandSHeadRun.getT s)) M loose w :=
  fun os => map_two (h1 os) (map_and (h2 os) (h3 os) fun s a b => obsT_join a b)
def ads0 : List Addr := [3, 6, 4, 31, 39, 46, 47, 52, 59, 64, 69, 74, 81, 88, 95, 100, 107, 112, 117, 122, 129, 136, 141, 0, 30, 38, 45, 51, 58, 63, 68, 73, 80, 87, 94, 99, 106, 111, 116, 121, 128, 135, 140, 28, 29, 32, 35, 36, 37, 40, 41, 42, 43, 44, 48, 49, 50, 53, 54, 55, 56, 57, 60, 61, 62, 65, 66, 67, 70, 71, 72, 75, 76, 77, 78, 79, 82, 83, 84, 85, 86, 89, 90, 91, 92, 93, 96, 97, 98, 101, 102, 103, 104, 105, 108, 109, 110, 113, 114, 115]
def ads1 : List Addr := [118, 119, 120, 123, 124, 125, 126, 127, 130, 131, 132, 133, 134, 137, 138, 139, 27, 22, 23, 24, 25, 26]
def ads : List Addr := ads0 ++ ads1
abbrev hk : PySem.W.Hook := hookTL ads lls ck fn
def ob (s : PySem.W.SharedT) : AlZ := obsTL ads lls ck fn (HandSHeadRun.getT s)
theorem ob_eq (s : PySem.W.SharedT) : ob s = hk.obs s.abs := obsTL_eq (HandSHeadRun.getT_eq s)
theorem run_a (w : World) (os : OsState) : (HandSHeadRun.endF (HandSHeadRun.stepQ (HandSHeadRun.denQ HandSHeadRun.tabQ) R.prog w) 60000 R.prog w os).map (fun s => (HandSHeadRun.looksF R.prog (PySem.W.boot_heap w.params) s.abs, HandSHeadRun.seenQ (PySem.W.view R.prog [27]) names (importedModules R.prog.main.body) (fun s => PySem.W.xlAt (PySem.W.view R.prog [27]) [] s && PySem.W.recOk R.toRowW.records s) s.abs)) = some (true, PySem.W.openGood (PySem.W.view R.prog [27]) names) := by
  kernel_rfl
theorem run_b (w : World) (os : OsState) : (HandSHeadRun.endF (HandSHeadRun.stepQ (HandSHeadRun.denQ HandSHeadRun.tabQ) R.prog w) 60000 R.prog w os).map (fun s => obsTL ads lls ck [] (HandSHeadRun.getT s)) = some (valZ []) := by
  kernel_rfl
theorem run_c (w : World) (os : OsState) : (HandSHeadRun.endF (HandSHeadRun.stepQ (HandSHeadRun.denQ HandSHeadRun.tabQ) R.prog w) 60000 R.prog w os).map (fun s => obsTL ads lls (fun _ => true) fn (HandSHeadRun.getT s)) = some (valZ fn) := by
  kernel_rfl
theorem run (w : World) : HandSHeadRun.RunEq R (PySem.W.view R.prog [27]) hk ob 60000 names w := run_TL (run_a w) (run_b w) (run_c w)
end Z
set_option Elab.async false
set_option linter.all false
set_option maxRecDepth 100000
set_option maxHeartbeats 4000000
namespace Z
open PySem PySem.Spec PyProof.Rows L2
/-! ### sets of keys that can also be walked -/
section
variable {P : Program} {w : World}
/-- no key stands for both -/
def Apart (P : Program) (w : World) (x y : Int × Value) : Prop := ∀ k : Key, keyIs k x.2 = true → keyIs k y.2 = true → False
theorem Apart.symm {x y : Int × Value} (h : Apart P w x y) : Apart P w y x := fun k a b => h k b a
/-- what a table of keys is: the keys told by T, N of them, and the table can be walked -/
structure Tbl (P : Program) (w : World) (D : Array (Int × Value)) (t : SetTable) (T : Key → Bool) (N : Nat) : Prop where
  el : ElemsOf (mixKind P w) D.toList
  mem : ∀ k, T k = true ↔ ∃ x ∈ D.toList, keyIs k x.2 = true
  few : D.size < scanBound
  fit : t.fits D.size = true
  num : D.size = N
  ap : D.toList.Pairwise (Apart P w)
  ris : Ris t.place.toList
  led : w.params.followText "set-order" = true ∨ t.led = true
def SetZ (P : Program) (w : World) (h : Heap) (a : Addr) (T : Key → Bool) (N : Nat) : Prop := ∃ o D ep t, h.get? a = some o ∧ o.ExactSet ∧ o.data = .set D ep t ∧ Tbl P w D t T N
variable {h h' : Heap} {a : Addr} {T T' : Key → Bool} {N : Nat}
theorem SetZ.of (R : SetZ P w h a T N) : h.SetOf (mixKind P w) a T N := by
  obtain ⟨o, D, ep, t, q1, q2, q3, b⟩ := R
  exact ⟨o, D, ep, t, q1, q2, q3, b.el, b.mem, b.few, b.fit, b.num⟩
theorem SetZ.keep (R : SetZ P w h a T N) (k : ∀ o, h.get? a = some o → h'.get? a = some o) : SetZ P w h' a T N := by
  obtain ⟨o, D, ep, t, q1, q⟩ := R
  exact ⟨o, D, ep, t, k o q1, q⟩
theorem SetZ.eq (R : SetZ P w h a T N) (e : ∀ k, T' k = T k) : SetZ P w h a T' N := by rw [show T' = T from funext e]; exact R
theorem Tbl.perm {D D2 : Array (Int × Value)} {t t2 : SetTable} (b : Tbl P w D t T N) (p : D2.toList.Perm D.toList) (hf : t2.fits D2.size = true) (hr : Ris t2.place.toList) (hl : t2.led = t.led) : Tbl P w D2 t2 T N := by
  have e : D2.size = D.size := by have := p.length_eq; rwa [Array.length_toList, Array.length_toList] at this
  exact ⟨b.el.perm p, fun k => (b.mem k).trans ⟨fun ⟨x, h1, h2⟩ => ⟨x, p.mem_iff.mpr h1, h2⟩, fun ⟨x, h1, h2⟩ => ⟨x, p.mem_iff.mp h1, h2⟩⟩, by rw [e]; exact b.few, hf, e.trans b.num,
    (p.pairwise_iff (fun h => h.symm)).mpr b.ap, hr, b.led.imp id fun z => hl.trans z⟩
/-- one key more -/
theorem Tbl.push {D D2 : Array (Int × Value)} {t t2 : SetTable} {k : Key} {x : Value} (b : Tbl P w D t T N) (hx : keyIs k x = true) (hs : x.scannable = true) (hT : T k = false) (room : N + 1 < scanBound)
    (p : D2.toList.Perm (D.toList ++ [((mixKind P w).hash k, x)])) (hf : t2.fits D2.size = true) (hr : Ris t2.place.toList) (hl : t2.led = t.led) : Tbl P w D2 t2 (fun j => T j || decide (j = k)) (N + 1) := by
  have e : D2.size = N + 1 := by
    have := p.length_eq
    rw [Array.length_toList, List.length_append, Array.length_toList, b.num] at this
    exact this
  have one : ∀ j, keyIs j x = true → j = k := fun j hj => (mixKind P w).inj x j k hj hx
  refine ⟨(b.el.push (knd := mixKind P w) hx hs).perm p, fun j => ?_, by rw [e]; exact room, hf, e, (p.pairwise_iff (fun h => h.symm)).mpr ?_, hr, b.led.imp id fun z => hl.trans z⟩
  · rw [Bool.or_eq_true, decide_eq_true_eq, b.mem j]
    constructor
    · rintro (⟨y, h1, h2⟩ | rfl)
      · exact ⟨y, p.mem_iff.mpr (List.mem_append_left _ h1), h2⟩
      · exact ⟨(_, x), p.mem_iff.mpr (List.mem_append_right _ (List.mem_singleton.mpr rfl)), hx⟩
    · rintro ⟨y, h1, h2⟩
      rcases List.mem_append.mp (p.mem_iff.mp h1) with h3 | h3
      · exact .inl ⟨y, h3, h2⟩
      · rw [List.mem_singleton.mp h3] at h2
        exact .inr (one j h2)
  · rw [List.pairwise_append]
    refine ⟨b.ap, List.pairwise_singleton _ _, fun y hy z hz j h1 h2 => ?_⟩
    rw [List.mem_singleton.mp hz] at h2
    rw [one j h2] at h1
    have := (b.mem k).mpr ⟨y, hy, h1⟩
    rw [hT] at this
    cases this
end
section
variable {P : Program} {w : World} {A : Around} {E : Value → Shared → Prop} {s : Shared} {a : Addr} {T : Key → Bool} {N : Nat}
theorem put_at {h : Heap} {o : Obj} {D D2 : Array (Int × Value)} {ep : Nat} {t t2 : SetTable} (ho : h.get? a = some o) (hd : o.data = .set D ep t) : (h.update a (Obj.putSet D2 t2)).get? a = some { o with data := .set D2 (ep + 1) t2 } := by
  have q := Heap.get?_update_self (Obj.putSet D2 t2) ho (by rw [putSet_of D2 t2 hd]; rfl)
  rwa [putSet_of D2 t2 hd] at q
/-- the table is written, and laid anew where it is too full -/
theorem zlay {g : Bool → Sem Unit} (hg : ∀ (b : Bool) (s₁ : Shared) (Z : Unit → Shared → Prop), Z () s₁ → wpAny (model P w) A (g b) Z E s₁) {o : Obj} {D : Array (Int × Value)} {ep : Nat} {t : SetTable}
    (ho : s.heap.get? a = some o) (hx : o.ExactSet) (hd : o.data = .set D ep t) {D1 : Array (Int × Value)} {t2 : SetTable} (b : Tbl P w D1 t2 T N) {dm : Bool} {R : Option Bool → Shared → Prop}
    (hR : ∀ h', Heap.SameBut a s.heap h' → SetZ P w h' a T N → R (some true) { s with heap := h' }) :
    wpAny (model P w) A (do
      storeSet a D1 t2
      if (!dm && t2.tooFull) = true then do
        g (relayAll t2 D1 (SetTable.grown D1.size)).2.2
        storeSet a (relayAll t2 D1 (SetTable.grown D1.size)).1 (relayAll t2 D1 (SetTable.grown D1.size)).2.1
        pure (some true)
      else pure (some true)) R E s := by
  have st1 := put_at (D2 := D1) (t2 := t2) ho hd
  have un1 := Heap.SameBut.update s.heap a (Obj.putSet D1 t2)
  refine wpAny_bind (wpAny_storeSet_of ho hd ?_ (fits_of_scanBound b.few))
  split
  · have k1 := relayAll_perm t2 D1 (SetTable.grown D1.size)
    have k2 := relayAll_fits t2 D1 (SetTable.grown D1.size)
    have k3 := relayAll_ris t2 D1 (SetTable.grown D1.size)
    have k4 := relayAll_led t2 D1 (SetTable.grown D1.size)
    generalize relayAll t2 D1 (SetTable.grown D1.size) = Y at k1 k2 k3 k4 ⊢
    obtain ⟨D2, t3, gave⟩ := Y
    dsimp only at k1 k2 k3 k4 ⊢
    have b2 := b.perm k1 k2 k3 k4
    refine wpAny_bind (hg _ _ _ (wpAny_bind (wpAny_storeSet_of st1 rfl ?_ (fits_of_scanBound b2.few))))
    exact wpAny_pure (hR _ (un1.trans (Heap.SameBut.update _ a _)) ⟨_, D2, _, t3, put_at st1 rfl, hx, rfl, b2⟩)
  · exact wpAny_pure (hR _ un1 ⟨_, D1, _, t2, st1, hx, rfl, b⟩)
theorem zadd_h {k : Key} {x : Value} {Q : Bool → Shared → Prop} (R : SetZ P w s.heap a T N) (hk : keyIs k x = true) (hs : x.scannable = true) (room : N + 1 < scanBound)
    (hQ : ∀ h', Heap.SameBut a s.heap h' → SetZ P w h' a (fun j => T j || decide (j = k)) (if T k = true then N else N + 1) → Q (!T k) { s with heap := h' }) :
    wpAny (model P w) A (setAddHashed a x ((mixKind P w).hash k)) Q E s := by
  obtain ⟨o, D, ep, t, ho, hx, hd, b⟩ := R
  have hsp : ∀ (c : Bool) {s₁ : Shared} {Z : Unit → Shared → Prop}, Z () s₁ → wpAny (model P w) A (match c with | true => rule "set.scan.the-table-gave-way" | false => pure ()) Z E s₁ := by
    intro c s₁ Z q
    cases c
    · exact wpAny_pure q
    · exact wpAny_rule q
  unfold setAddHashed setAddHashedIn
  refine wpAny_holding (wpAny_bind (wpAny_setState_of ho hd b.fit ?_))
  dsimp only
  rw [byScan_of hs b.few b.el]
  simp only [↓reduceIte]
  unfold setAddByScan
  refine wpAny_bind (wpAny_bind (wpAny_rule (wpAny_bind (wpAny_setScan_of (knd := mixKind P w) (k := k) hk ho hd b.fit b.el ?_))))
  cases hfi : List.findIdx? (fun e => (mixKind P w).is k e.2) D.toList with
  | some j =>
    dsimp only
    obtain ⟨hj, pj, _⟩ := List.findIdx?_eq_some_iff_getElem.mp hfi
    have hT : T k = true := (b.mem k).mpr ⟨D.toList[j], List.getElem_mem hj, pj⟩
    have q := hQ s.heap (Heap.SameBut.refl a s.heap) ⟨o, D, ep, t, ho, hx, hd, by
      rw [if_pos hT]
      have : (fun j => T j || decide (j = k)) = T := funext fun i => by
        by_cases e : i = k
        · rw [e, hT, Bool.true_or]
        · rw [decide_eq_false e, Bool.or_false]
      rw [this]
      exact b⟩
    rw [hT] at q
    exact wpAny_pure (wpAny_pure q)
  | none =>
    dsimp only
    have hT : T k = false := by
      cases q : T k with
      | false => rfl
      | true =>
        obtain ⟨y, h1, h2⟩ := (b.mem k).mp q
        have z := List.findIdx?_eq_none_iff.mp hfi y h1
        rw [show (mixKind P w).is k y.2 = true from h2] at z
        cases z
    have k1 := layNew_perm t D ((mixKind P w).hash k) x
    have k2 := layNew_fits t D ((mixKind P w).hash k) x
    have k3 := layNew_ris t D ((mixKind P w).hash k) x b.ris
    have k4 := layNew_led t D ((mixKind P w).hash k) x
    generalize layNew t D ((mixKind P w).hash k) x = Y at k1 k2 k3 k4 ⊢
    obtain ⟨D1, t1, dm, gave⟩ := Y
    dsimp only at k1 k2 k3 k4 ⊢
    rw [Array.toList_push] at k1
    have fin : ∀ h', Heap.SameBut a s.heap h' → SetZ P w h' a (fun j => T j || decide (j = k)) (N + 1) → Q true { s with heap := h' } := fun h' sb r => by
      have q := hQ h' sb
      rw [hT] at q
      exact q r
    refine wpAny_bind (hsp _ ?_)
    split
    · refine wpAny_bind ?_
      rw [hashByValue_scannable 8 hs]
      refine wpAny_pure ?_
      refine zlay ?_ ho hx hd (b.push hk hs hT room k1 ?_ ?_ ?_) fun h' sb r => wpAny_pure (fin h' sb r)
      · intro c s₁ Z q
        cases c
        · exact wpAny_pure q
        · exact wpAny_rule q
      · split
        · exact k2
        · exact SetTable.fits_plain_off k2
      · split <;> exact k3
      · split <;> exact k4
    · refine wpAny_bind (wpAny_pure ?_)
      simp only [↓reduceIte]
      refine zlay ?_ ho hx hd (b.push hk hs hT room k1 k2 k3 k4) fun h' sb r => wpAny_pure (fin h' sb r)
      intro c s₁ Z q
      cases c
      · exact wpAny_pure q
      · exact wpAny_rule q
theorem znew_at {h : Heap} (ho : h.get? a = some { cls := .type "set", dict := none, data := .set #[] 0 (.fresh 0 0 (!w.params.followText "set-order")) }) : SetZ P w h a (fun _ => false) 0 :=
  ⟨_, #[], 0, _, ho, ⟨rfl, rfl, rfl⟩, rfl, fun e he => by simp at he, fun k => by simp, by decide, by rfl, rfl, List.Pairwise.nil, List.Pairwise.nil, by
    show _ ∨ (!w.params.followText "set-order") = true
    cases w.params.followText "set-order" <;> simp⟩
/-! ### set(xs) -/
instance decK (k : Key) (l : List Key) : Decidable (k ∈ l) := decidable_of_iff (l.any (fun j => decide (j = k)) = true) (by simp)
/-- each key once, where it first stands -/
def onceK (ks : List Key) : List Key := ks.foldl (fun acc k => if k ∈ acc then acc else acc ++ [k]) []
theorem onceK_snoc {ks : List Key} {k : Key} : onceK (ks ++ [k]) = if k ∈ onceK ks then onceK ks else onceK ks ++ [k] := by
  unfold onceK
  rw [List.foldl_append]
  rfl
theorem onceK_nodup : ∀ ks : List Key, (onceK ks).Nodup := by
  have key : ∀ (ks acc : List Key), acc.Nodup → (ks.foldl (fun acc k => if k ∈ acc then acc else acc ++ [k]) acc).Nodup := by
    intro ks
    induction ks with
    | nil => intro acc h; exact h
    | cons k ks ih =>
      intro acc h
      rw [List.foldl_cons]
      refine ih _ ?_
      by_cases q : k ∈ acc
      · rw [if_pos q]; exact h
      · rw [if_neg q, List.nodup_append]
        exact ⟨h, by simp, fun a ha b hb e => q (by rw [List.mem_singleton.mp hb] at e; rw [← e]; exact ha)⟩
  exact fun ks => key ks [] List.nodup_nil
theorem onceK_len : ∀ ks : List Key, (onceK ks).length ≤ ks.length := by
  have key : ∀ (ks acc : List Key), (ks.foldl (fun acc k => if k ∈ acc then acc else acc ++ [k]) acc).length ≤ acc.length + ks.length := by
    intro ks
    induction ks with
    | nil => intro acc; exact Nat.le_refl _
    | cons k ks ih =>
      intro acc
      rw [List.foldl_cons, List.length_cons]
      refine Nat.le_trans (ih _) ?_
      split <;> simp <;> omega
  intro ks
  have := key ks []
  simpa [onceK] using this
abbrev SetL (P : Program) (w : World) (h : Heap) (a : Addr) (ks : List Key) : Prop := SetZ P w h a (fun j => decide (j ∈ ks)) ks.length
theorem zloop {I : Addr} {fp wr : List Addr} {G : Array GenState → Array GenState → Prop} {n : Nat} {Pv : Nat → Value → Prop} {St : Nat → Shared → Prop} {R : Result → Shared → Prop}
    (W : WalksS P w A.in1 I fp wr G n Pv St) (S : Addr) (hSf : S ∉ fp) (ks : List Key) (hn : n = ks.length) (room : ks.length + 1 < scanBound) (hv : ∀ i v, Pv i v → ∃ k, ks[i]? = some k ∧ keyIs k v = true ∧ v.scannable = true) :
    ∀ (m i : Nat) (s : Shared), n - i = m → i ≤ n → St i s → SetL P w s.heap S (onceK (ks.take i)) →
      (∀ s', Moved (S :: wr) G s s' → SetL P w s'.heap S (onceK ks) → R (.ok (.ret .none)) s') → codeAny (model P w) A (.builtin "set.update.loop" ⟨[.ref S, .ref I], []⟩) R s := by
  have hSw : S ∉ wr := fun z => hSf (W.sub _ z)
  have wide : ∀ b ∈ wr, b ∈ S :: wr := fun b z => List.mem_cons_of_mem _ z
  intro m
  induction m with
  | zero =>
    intro i s hm hi st hS fin
    have hin : i = n := by omega
    subst hin
    refine codeAny_builtin F.entry_set_update_loop ?_
    rw [Around.under_plainId F.plain_set_update_loop _]
    refine wpAny_bind (W.done s _ _ st fun s' mv => ?_)
    rw [List.take_of_length_le (by omega)] at hS
    exact wpAny_pure (fin s' (mv.mono wide) (hS.keep fun o z => mv.heap S o hSw z))
  | succ m ih =>
    intro i s hm hi st hS fin
    have hlt : i < n := by omega
    refine codeAny_builtin F.entry_set_update_loop ?_
    rw [Around.under_plainId F.plain_set_update_loop _]
    refine wpAny_bind (W.item i s _ _ hlt st fun v s' hP st' mv => ?_)
    obtain ⟨k, hk, hkv, hsv⟩ := hv i v hP
    have hS1 : SetL P w s'.heap S (onceK (ks.take i)) := hS.keep fun o z => mv.heap S o hSw z
    show wpAny _ A.in1 (holding [v] (setAdd S v) >>= _) _ _ s'
    refine wpAny_bind (wpAny_holding ?_)
    unfold setAdd
    refine wpAny_holding (wpAny_bind ((mixKind P w).pyHash hkv ?_))
    have ol := onceK_len (ks.take i)
    rw [List.length_take] at ol
    refine zadd_h (s := { s' with toks := s'.toks + 1 }) hS1 hkv hsv (by omega) fun h' sb hS2 => ?_
    have hS3 : SetL P w h' S (onceK (ks.take (i + 1))) := by
      rw [List.take_add_one, hk]
      show SetL P w h' S (onceK (ks.take i ++ [k]))
      rw [onceK_snoc]
      by_cases q : k ∈ onceK (ks.take i)
      · rw [if_pos (decide_eq_true q)] at hS2
        rw [if_pos q]
        refine hS2.eq fun j => ?_
        by_cases e : j = k
        · rw [e, decide_eq_true q, Bool.true_or]
        · rw [decide_eq_false e, Bool.or_false]
      · rw [if_neg (by simpa using q)] at hS2
        rw [if_neg q]
        have := hS2.eq (T' := fun j => decide (j ∈ onceK (ks.take i) ++ [k])) fun j => by simp [List.mem_append]
        rw [SetL, List.length_append]
        exact this
    have out : ∀ b, b ≠ S → ∀ o, s'.heap.get? b = some o → h'.get? b = some o := fun b z o q => (sb.2 b z).trans q
    refine wpAny_pure ⟨plainId_quiet F.plain_set_update_loop _, ih (i + 1) _ (by omega) hlt (W.frame _ s' _ _ st' (Nat.le_succ _) fun b hb o q => out b (fun z => hSf (z ▸ hb)) o q) hS3 fun s2 mv2 hS4 => ?_⟩
    exact fin s2 (Moved.trans W.gtrans ((mv.mono wide).then_heap (Nat.le_succ _) fun b o hb q => out b (fun z => hb (by rw [z]; exact List.mem_cons_self)) o q) mv2) hS4
abbrev zO (w : World) : Obj := { cls := .type "set", dict := none, data := .set #[] 0 (.fresh 0 0 (!w.params.followText "set-order")) }
/-- list(a set), by a walk through it -/
theorem zcollect {T : Key → Bool} {N : Nat} {Q : List Value → Shared → Prop} (R : SetZ P w s.heap a T N) (hh : A.handled = none)
    (hQ : ∀ s' (out : List Value) (ks : List Key), (∀ b o, s.heap.get? b = some o → s'.heap.get? b = some o) → s.heap.objs.size ≤ s'.heap.objs.size → s'.gens = s.gens → s'.os = s.os → out.length = N → ks.length = N → ks.Nodup → (∀ k, k ∈ ks ↔ T k = true) → (∀ (i : Nat) (v : Value), out[i]? = some v → ∃ k, ks[i]? = some k ∧ keyIs k v = true) → Q out s') :
    wpAny (model P w) A (collect (.ref a)) Q E s := by
  obtain ⟨o, D, ep, t, ho, hx, hd, b⟩ := R
  refine collect_set hh ⟨o, ho, hx.1, hd⟩ b.fit b.few b.ris b.led fun s' out k1 k0 g1 o1 pm => ?_
  have hl : out.length = N := by rw [pm.length_eq, List.length_map, Array.length_toList]; exact b.num
  -- the keys of out, one by one
  have pr : out.Pairwise fun u v => ∀ k : Key, keyIs k u = true → keyIs k v = true → False := by
    refine (pm.pairwise_iff (fun {u v} h k c d => h k d c)).mpr ?_
    exact List.pairwise_map.mpr (b.ap.imp fun h => h)
  have ex : ∀ v ∈ out, ∃ k, keyIs k v = true := fun v hv => by
    obtain ⟨e, he, rfl⟩ := List.mem_map.mp (pm.mem_iff.mp hv)
    obtain ⟨⟨k, h1, _⟩, _⟩ := b.el e he
    exact ⟨k, h1⟩
  have mem : ∀ k, (∃ v ∈ out, keyIs k v = true) ↔ T k = true := fun k => by
    rw [b.mem k]
    constructor
    · rintro ⟨v, hv, h⟩
      obtain ⟨e, he, rfl⟩ := List.mem_map.mp (pm.mem_iff.mp hv)
      exact ⟨e, he, h⟩
    · rintro ⟨e, he, h⟩
      exact ⟨e.2, pm.mem_iff.mpr (List.mem_map_of_mem he), h⟩
  have build : ∀ out : List Value, (∀ v ∈ out, ∃ k, keyIs k v = true) → out.Pairwise (fun u v => ∀ k : Key, keyIs k u = true → keyIs k v = true → False) → ∃ ks : List Key, ks.length = out.length ∧ ks.Nodup ∧ (∀ k, k ∈ ks ↔ ∃ v ∈ out, keyIs k v = true) ∧ ∀ (i : Nat) (v : Value), out[i]? = some v → ∃ k, ks[i]? = some k ∧ keyIs k v = true := by
    intro out
    induction out with
    | nil => exact fun _ _ => ⟨[], rfl, List.nodup_nil, fun k => by simp, fun i v h => by simp at h⟩
    | cons u out ih =>
      intro h1 h2
      obtain ⟨k, hk⟩ := h1 u List.mem_cons_self
      obtain ⟨p1, p2⟩ := List.pairwise_cons.mp h2
      obtain ⟨ks, e1, e2, e3, e4⟩ := ih (fun v hv => h1 v (List.mem_cons_of_mem _ hv)) p2
      have inj : ∀ j, keyIs j u = true → j = k := fun j hj => (mixKind P w).inj u j k hj hk
      refine ⟨k :: ks, by rw [List.length_cons, List.length_cons, e1], List.nodup_cons.mpr ⟨fun hm => ?_, e2⟩, fun j => ?_, fun i v hv => ?_⟩
      · obtain ⟨v, hv, q⟩ := (e3 k).mp hm
        exact p1 v hv k hk q
      · rw [List.mem_cons, e3]
        constructor
        · rintro (rfl | ⟨v, hv, q⟩)
          · exact ⟨u, List.mem_cons_self, hk⟩
          · exact ⟨v, List.mem_cons_of_mem _ hv, q⟩
        · rintro ⟨v, hv, q⟩
          rcases List.mem_cons.mp hv with rfl | hv
          · exact .inl (inj j q)
          · exact .inr ⟨v, hv, q⟩
      · cases i with
        | zero => cases hv; exact ⟨k, rfl, hk⟩
        | succ i => exact e4 i v hv
  obtain ⟨ks, e1, e2, e3, e4⟩ := build out ex pr
  exact hQ s' out ks k1 k0 g1 o1 hl (by rw [e1, hl]) e2 (fun k => (e3 k).trans (mem k)) e4
end
/-! ### such a set as a thing of the heap -/
def SetH (P : Program) (w : World) (a : Addr) (T : Key → Bool) (N : Nat) : HO := .ext fun h => SetZ P w h a T N
theorem setH_ok {P : Program} {w : World} {H : Hp} {h : Heap} {a : Addr} {T : Key → Bool} {N : Nat} (R : SetZ P w h a T N) : ObjOk P w H h a (SetH P w a T N) := ⟨R, R.elim fun o q => by
  obtain ⟨_, _, _, q1, _⟩ := q
  exact ⟨o, q1⟩, fun _ _ p k => p.keep k⟩
section
variable {X : Cx} {pins : List (Addr × Obj)} {σ : L2.St} {H : Hp} {s : Shared} {a : Addr} {T : Key → Bool} {N : Nat}
theorem setH_at (I : Inv X pins σ H s) (ha : H a = some (SetH X.prog X.w a T N)) : SetZ X.prog X.w s.heap a T N := (I.hok a _ ha).1
def rZ0 (P : Program) (w : World) : List V → Hp → VK → Prop := fun xs H Q => xs = [] ∧ ∀ q, H q = none → Q (.ref q) (upd H q (SetH P w q (fun _ => false) 0))
def rZadd (P : Program) (w : World) : V → List V → Hp → VK → Prop := fun x xs H Q => ∃ (a : Addr) (k : Key) (T : Key → Bool) (N : Nat), x = V.ref a ∧ xs = [kV k] ∧ H a = some (SetH P w a T N) ∧ N + 1 < scanBound ∧ Q .non (upd H a (SetH P w a (fun j => T j || decide (j = k)) (if T k = true then N else N + 1)))
def tZadd (P : Program) (w : World) (to : TE) (t : TA) : TE := fun σ H Q => to σ H fun x H1 => (∃ a T N, x = V.ref a ∧ H1 a = some (SetH P w a T N)) ∧ t σ H1 fun xs H2 => rZadd P w x xs H2 Q
def rZin (P : Program) (w : World) (neg : Bool) : V → V → Hp → VK → Prop := fun x y H Q => ∃ (k : Key) (a : Addr) (T : Key → Bool) (N : Nat), x = kV k ∧ y = V.ref a ∧ H a = some (SetH P w a T N) ∧ Q (.bl (if neg then !T k else T k)) H
end
end Z

set_option Elab.async false
set_option linter.all false
set_option maxRecDepth 100000
set_option maxHeartbeats 4000000
namespace Z
open PySem PySem.Spec PyProof.Rows L2
/-- what a run is of: the program, the world, the code tables that may grow with the names of what they make -/
class Row where
  prog : Program
  w : World
  tabs : List (Addr × Str)
variable [Row]

/-! ### data, stores, results -/
/-- a value: tuples are values, lists, dicts, instances are places of the store -/
inductive D where
  | non | bl (b : Bool) | int (i : Int) | str (x : Str) | tup (xs : List D) | ref (n : Nat)

/-- what stands at a place -/
inductive SO where
  | lst (xs : List D)
  | frz (xs : List D)
  | dict (t : Bool) (kvs : List (D × D))
  | ins (c : Str) (fs : List (Str × D))
  | lck (t : Bool) (kvs : List (D × D))
  | set (xs : List D)
  | ptp (xs : List D)
abbrev Sto := List SO
abbrev Ev := List (Option D)

/-- a result: a value, an exception of the class c with its one field f, or stuck -/
inductive Rs (α : Type) where
  | ok (a : α) (s : Sto)
  | ex (c f : Str) (v : D) (s : Sto)
  | no
def Rs.bind {α β : Type} (r : Rs α) (k : α → Sto → Rs β) : Rs β := match r with
  | .ok a s => k a s
  | .ex c f v s => .ex c f v s
  | .no => .no
abbrev EM (α : Type) := Ev → Sto → Rs α
inductive RS where
  | nx (e : Ev) (s : Sto)
  | rt (d : D) (s : Sto)
  | bk (e : Ev) (s : Sto)
  | ct (e : Ev) (s : Sto)
  | ex (c f : Str) (v : D) (e : Ev) (s : Sto)
  | no
abbrev SM := Ev → Sto → RS
/-- an expression's result goes on as a statement -/
def Rs.st {α : Type} (r : Rs α) (e : Ev) (k : α → Sto → RS) : RS := match r with
  | .ok a s => k a s
  | .ex c f v s => .ex c f v e s
  | .no => .no
def RS.seq (r : RS) (k : SM) : RS := match r with
  | .nx e s => k e s
  | r => r

/-! ### what stands for what -/
mutual
def VR (K : PySem.W.Frag) (ρ : Nat → Addr) (n : Nat) (H : Hp) : D → V → Prop
  | .non, v => v = .non
  | .bl b, v => v = .bl b
  | .int i, v => v = .int i
  | .str x, v => v = .str x
  | .tup xs, v => ∃ a vs, v = .ref a ∧ SqT K H a vs ∧ VRs K ρ n H xs vs
  | .ref k, v => k < n ∧ v = .ref (ρ k)
def VRs (K : PySem.W.Frag) (ρ : Nat → Addr) (n : Nat) (H : Hp) : List D → List V → Prop
  | [], vs => vs = []
  | d :: ds, vs => ∃ v r, vs = v :: r ∧ VR K ρ n H d v ∧ VRs K ρ n H ds r
end
/-- the later world bears the earlier one -/
structure Ext (ρ : Nat → Addr) (n : Nat) (H : Hp) (ρ' : Nat → Addr) (n' : Nat) (H' : Hp) : Prop where
  le : n ≤ n'
  ag : ∀ k, k < n → ρ' k = ρ k
  tp : ∀ a vs, Rd H a (.tup vs) → Rd H' a (.tup vs)
  fz : ∀ a o kvs, H a = some (.frz o (.dK kvs)) → H' a = some (.frz o (.dK kvs))
  fzT : ∀ a o kvs, H a = some (.frz o (.dT kvs)) → H' a = some (.frz o (.dT kvs))
theorem Ext.refl {ρ : Nat → Addr} {n : Nat} {H : Hp} : Ext ρ n H ρ n H := ⟨Nat.le_refl _, fun _ _ => rfl, fun _ _ h => h, fun _ _ _ h => h, fun _ _ _ h => h⟩
theorem Ext.trans {ρ ρ1 ρ2 : Nat → Addr} {n n1 n2 : Nat} {H H1 H2 : Hp} (a : Ext ρ n H ρ1 n1 H1) (b : Ext ρ1 n1 H1 ρ2 n2 H2) : Ext ρ n H ρ2 n2 H2 :=
  ⟨Nat.le_trans a.le b.le, fun k h => (b.ag k (Nat.lt_of_lt_of_le h a.le)).trans (a.ag k h), fun p vs h => b.tp p vs (a.tp p vs h), fun p o k h => b.fz p o k (a.fz p o k h), fun p o k h => b.fzT p o k (a.fzT p o k h)⟩
section
variable {K : PySem.W.Frag} {mg : Str → Option Value} {ρ ρ' : Nat → Addr} {n n' : Nat} {H H' : Hp}
theorem Ext.sqt (e : Ext ρ n H ρ' n' H') {a : Addr} {vs : List V} (h : SqT K H a vs) : SqT K H' a vs := h.elim (fun z => .inl (e.tp a vs z)) .inr
mutual
theorem VR.mono (e : Ext ρ n H ρ' n' H') : ∀ {d : D} {v : V}, VR K ρ n H d v → VR K ρ' n' H' d v
  | .non, _, h => h
  | .bl _, _, h => h
  | .int _, _, h => h
  | .str _, _, h => h
  | .tup xs, _, h => by
    rw [VR] at h ⊢
    obtain ⟨a, vs, e1, q, r⟩ := h
    exact ⟨a, vs, e1, e.sqt q, VRs.mono e r⟩
  | .ref k, _, h => by
    rw [VR] at h ⊢
    exact ⟨Nat.lt_of_lt_of_le h.1 e.le, by rw [e.ag k h.1]; exact h.2⟩
theorem VRs.mono (e : Ext ρ n H ρ' n' H') : ∀ {ds : List D} {vs : List V}, VRs K ρ n H ds vs → VRs K ρ' n' H' ds vs
  | [], _, h => h
  | d :: ds, _, h => by
    rw [VRs] at h ⊢
    obtain ⟨v, r, e1, h1, h2⟩ := h
    exact ⟨v, r, e1, VR.mono e h1, VRs.mono e h2⟩
end
theorem VRs.cons {d : D} {v : V} {ds : List D} {vs : List V} (h : VR K ρ n H d v) (t : VRs K ρ n H ds vs) : VRs K ρ n H (d :: ds) (v :: vs) := by
  rw [VRs]
  exact ⟨v, vs, rfl, h, t⟩
theorem VRs.nil : VRs K ρ n H [] [] := by rw [VRs]
theorem VRs.length : ∀ {ds : List D} {vs : List V}, VRs K ρ n H ds vs → vs.length = ds.length
  | [], _, h => by rw [VRs] at h; rw [h] <;> rfl
  | d :: ds, _, h => by
    rw [VRs] at h
    obtain ⟨v, r, e1, h1, h2⟩ := h
    rw [e1, List.length_cons, List.length_cons, VRs.length h2]
theorem VRs.get : ∀ {ds : List D} {vs : List V} {i : Nat} {d : D}, VRs K ρ n H ds vs → ds[i]? = some d → ∃ v, vs[i]? = some v ∧ VR K ρ n H d v
  | [], _, _, _, _, h => by simp at h
  | d :: ds, _, 0, _, h, q => by
    rw [VRs] at h
    obtain ⟨v, r, e1, h1, h2⟩ := h
    simp at q
    subst q e1
    exact ⟨v, rfl, h1⟩
  | d :: ds, _, i + 1, _, h, q => by
    rw [VRs] at h
    obtain ⟨v, r, e1, h1, h2⟩ := h
    subst e1
    simp at q
    obtain ⟨u, hu, hr⟩ := VRs.get h2 q
    exact ⟨u, by simpa using hu, hr⟩
theorem VRs.append : ∀ {ds es : List D} {vs us : List V}, VRs K ρ n H ds vs → VRs K ρ n H es us → VRs K ρ n H (ds ++ es) (vs ++ us)
  | [], _, _, _, h, t => by rw [VRs] at h; subst h; exact t
  | d :: ds, _, _, _, h, t => by
    rw [VRs] at h
    obtain ⟨v, r, e1, h1, h2⟩ := h
    subst e1
    exact VRs.cons h1 (VRs.append h2 t)
theorem VRs.set : ∀ {ds : List D} {vs : List V} {d : D} {v : V} (i : Nat), VRs K ρ n H ds vs → VR K ρ n H d v → VRs K ρ n H (ds.set i d) (vs.set i v)
  | [], _, _, _, _, h, _ => by rw [VRs] at h; subst h; exact VRs.nil
  | d :: ds, _, _, _, 0, h, q => by
    rw [VRs] at h
    obtain ⟨v, r, e1, h1, h2⟩ := h
    subst e1
    exact VRs.cons q h2
  | d :: ds, _, _, _, i + 1, h, q => by
    rw [VRs] at h
    obtain ⟨v, r, e1, h1, h2⟩ := h
    subst e1
    exact VRs.cons h1 (VRs.set i h2 q)
theorem VRs.take : ∀ {ds : List D} {vs : List V} (i : Nat), VRs K ρ n H ds vs → VRs K ρ n H (ds.take i) (vs.take i)
  | [], _, _, h => by rw [VRs] at h; subst h; simpa using VRs.nil
  | d :: ds, _, 0, _ => VRs.nil
  | d :: ds, _, i + 1, h => by
    rw [VRs] at h
    obtain ⟨v, r, e1, h1, h2⟩ := h
    subst e1
    exact VRs.cons h1 (VRs.take i h2)
theorem VRs.drop : ∀ {ds : List D} {vs : List V} (i : Nat), VRs K ρ n H ds vs → VRs K ρ n H (ds.drop i) (vs.drop i)
  | [], _, _, h => by rw [VRs] at h; subst h; simpa using VRs.nil
  | d :: ds, _, 0, h => h
  | d :: ds, _, i + 1, h => by
    rw [VRs] at h
    obtain ⟨v, r, e1, h1, h2⟩ := h
    subst e1
    exact VRs.drop i h2
theorem VRs.reverse : ∀ {ds : List D} {vs : List V}, VRs K ρ n H ds vs → VRs K ρ n H ds.reverse vs.reverse
  | [], _, h => by rw [VRs] at h; subst h; exact VRs.nil
  | d :: ds, _, h => by
    rw [VRs] at h
    obtain ⟨v, r, e1, h1, h2⟩ := h
    subst e1
    rw [List.reverse_cons, List.reverse_cons]
    exact VRs.append (VRs.reverse h2) (VRs.cons h1 VRs.nil)
theorem VRs.one {d : D} {vs : List V} (h : VRs K ρ n H [d] vs) : ∃ v, vs = [v] ∧ VR K ρ n H d v := by
  rw [VRs] at h
  obtain ⟨v, r, e1, h1, h2⟩ := h
  rw [VRs] at h2
  subst h2
  exact ⟨v, e1, h1⟩
theorem VRs.uncons {d : D} {ds : List D} {vs : List V} (h : VRs K ρ n H (d :: ds) vs) : ∃ v r, vs = v :: r ∧ VR K ρ n H d v ∧ VRs K ρ n H ds r := by
  rw [VRs] at h
  exact h

/-- attributes, by name and in order -/
def FR (K : PySem.W.Frag) (ρ : Nat → Addr) (n : Nat) (H : Hp) : List (Str × D) → List (Str × V) → Prop
  | [], vs => vs = []
  | p :: ps, vs => ∃ v r, vs = (p.1, v) :: r ∧ VR K ρ n H p.2 v ∧ FR K ρ n H ps r
theorem FR.mono (e : Ext ρ n H ρ' n' H') : ∀ {ds : List (Str × D)} {vs : List (Str × V)}, FR K ρ n H ds vs → FR K ρ' n' H' ds vs
  | [], _, h => h
  | _ :: _, _, ⟨v, r, e1, h1, h2⟩ => ⟨v, r, e1, h1.mono e, FR.mono e h2⟩
theorem FR.lookup : ∀ {ds : List (Str × D)} {vs : List (Str × V)} {f : Str} {d : D}, FR K ρ n H ds vs → ds.lookup f = some d → ∃ v, vs.lookup f = some v ∧ VR K ρ n H d v
  | [], _, _, _, _, h => by cases h
  | (g, x) :: ps, _, f, d, ⟨v, r, e1, h1, h2⟩, h => by
    subst e1
    rw [List.lookup_cons] at h ⊢
    by_cases q : f == g
    · rw [q] at h
      rw [q]
      cases h
      exact ⟨v, rfl, h1⟩
    · simp only [Bool.not_eq_true] at q
      rw [q] at h
      rw [q]
      exact FR.lookup h2 h
theorem FR.length : ∀ {ds : List (Str × D)} {vs : List (Str × V)}, FR K ρ n H ds vs → vs.length = ds.length
  | [], _, h => by
    have h : _ = ([] : List (Str × V)) := h
    rw [h] <;> rfl
  | _ :: _, _, ⟨v, r, e1, h1, h2⟩ => by rw [e1, List.length_cons, List.length_cons, FR.length h2]
/-- an attribute stored -/
def putD (f : Str) (d : D) : List (Str × D) → List (Str × D)
  | [] => [(f, d)]
  | (g, x) :: r => if g = f then (g, d) :: r else (g, x) :: putD f d r
theorem FR.put {f : Str} {d : D} {v : V} (q : VR K ρ n H d v) : ∀ {ds : List (Str × D)} {vs : List (Str × V)}, FR K ρ n H ds vs → FR K ρ n H (putD f d ds) (putF f v vs)
  | [], _, h => by
    have h : _ = ([] : List (Str × V)) := h
    subst h
    exact ⟨v, [], rfl, q, rfl⟩
  | (g, x) :: ps, _, ⟨u, r, e1, h1, h2⟩ => by
    subst e1
    show FR K ρ n H (if g = f then (g, d) :: ps else (g, x) :: putD f d ps) (if g = f then (g, v) :: r else (g, u) :: putF f v r)
    by_cases e : g = f
    · rw [if_pos e, if_pos e]
      exact ⟨v, r, rfl, q, h2⟩
    · rw [if_neg e, if_neg e]
      exact ⟨u, _, rfl, h1, FR.put q h2⟩

/-- a dict's keys: ints and texts -/
def keyD : D → Option Key
  | .int i => some (.inl i)
  | .str x => some (.inr x)
  | _ => none
def keysD : List D → Option (List Key)
  | [] => some []
  | d :: ds => match keyD d, keysD ds with
    | some k, some ks => some (k :: ks)
    | _, _ => none
def tkeyD : D → Option (List Key)
  | .tup xs => keysD xs
  | _ => none
def KR {κ : Type} (key : D → Option κ) (K : PySem.W.Frag) (ρ : Nat → Addr) (n : Nat) (H : Hp) : List (D × D) → List (κ × V) → Prop
  | [], vs => vs = []
  | p :: ps, vs => ∃ k v r, vs = (k, v) :: r ∧ key p.1 = some k ∧ VR K ρ n H p.2 v ∧ KR key K ρ n H ps r
theorem KR.mono {κ : Type} {key : D → Option κ} (e : Ext ρ n H ρ' n' H') : ∀ {ds : List (D × D)} {vs : List (κ × V)}, KR key K ρ n H ds vs → KR key K ρ' n' H' ds vs
  | [], _, h => h
  | _ :: _, _, ⟨k, v, r, e1, h0, h1, h2⟩ => ⟨k, v, r, e1, h0, h1.mono e, KR.mono e h2⟩

/-- a list known to its object, or of the module: never written -/
def SqF (K : PySem.W.Frag) (H : Hp) (a : Addr) (xs : List V) : Prop :=
  (∃ o, H a = some (.frz o (.lst xs))) ∨
    ∃ (o : Obj) (its : Array Value) (n : Nat), K.lookup a = some o ∧ o.cls = .type "list" ∧ o.dict = none ∧ o.data = .seq its n ∧ its.size ≤ sizeLine ∧ Vals xs its.toList
theorem SqF.sq {a : Addr} {xs : List V} (h : SqF K H a xs) : SqL K H a xs := h.elim (fun z => .inl (.inr z)) .inr
/-- a tuple whose object has no dict: known by its object, or of the module -/
def PlT (K : PySem.W.Frag) (H : Hp) (a : Addr) (xs : List V) : Prop :=
  (∃ o, H a = some (.frz o (.tup xs)) ∧ o.dict = none) ∨
    ∃ (o : Obj) (its : Array Value) (n : Nat), K.lookup a = some o ∧ o.cls = .type "tuple" ∧ o.dict = none ∧ o.data = .seq its n ∧ its.size ≤ sizeLine ∧ Vals xs its.toList
theorem PlT.sq {a : Addr} {xs : List V} (h : PlT K H a xs) : SqT K H a xs := h.elim (fun ⟨o, q, _⟩ => .inl (.inr ⟨o, q⟩)) fun ⟨o, its, n, h1, h2, _, h3⟩ => .inr ⟨o, its, n, h1, h2, h3⟩
/-- a set of keys: what is in it, by a list -/
def SetRl (xs : List D) (S : Key → Bool) (n : Nat) : Prop := n = xs.length ∧ (∃ ks, keysD xs = some ks ∧ ks.Nodup ∧ ∀ k, S k = true ↔ k ∈ ks)
/-- the object at a place -/
def OR (K : PySem.W.Frag) (mg : Str → Option Value) (ρ : Nat → Addr) (n : Nat) (H : Hp) (a : Addr) : SO → Prop
  | .lst xs => ∃ vs, H a = some (.lst vs) ∧ VRs K ρ n H xs vs
  | .frz xs => ∃ vs, SqF K H a vs ∧ VRs K ρ n H xs vs
  | .dict false kvs => ∃ vs, H a = some (.dK vs) ∧ KR keyD K ρ n H kvs vs
  | .dict true kvs => ∃ vs, H a = some (.dT vs) ∧ KR tkeyD K ρ n H kvs vs
  | .ins c fs => ∃ C dx vs, mg c = some (.ref C) ∧ H a = some (.ins C dx vs) ∧ FR K ρ n H fs vs
  | .lck false kvs => ∃ od vs, H a = some (.frz od (.dK vs)) ∧ KR keyD K ρ n H kvs vs
  | .lck true kvs => ∃ od vs, H a = some (.frz od (.dT vs)) ∧ KR tkeyD K ρ n H kvs vs
  | .set xs => ∃ S m, H a = some (SetH Row.prog Row.w a S m) ∧ SetRl xs S m
  | .ptp xs => ∃ vs, PlT K H a vs ∧ VRs K ρ n H xs vs
/-- may be written -/
def mutS : SO → Bool
  | .frz _ => false
  | .ptp _ => false
  | _ => true
/-- may be written now -/
def wrS : SO → Bool
  | .frz _ => false
  | .ptp _ => false
  | .lck _ _ => false
  | _ => true
theorem wrS.mut {o : SO} (h : wrS o = true) : mutS o = true := by cases o <;> first | rfl | cases h
theorem OR.wr {a : Addr} {o : SO} (h : OR K mg ρ n H a o) (m : wrS o = true) : ∃ u, H a = some u ∧ ∀ ob w, u ≠ .frz ob w := by
  cases o with
  | lst xs => obtain ⟨vs, h, _⟩ := h; exact ⟨_, h, fun _ _ z => nomatch z⟩
  | frz xs => cases m
  | ptp xs => cases m
  | dict t kvs => cases t <;> (obtain ⟨vs, h, _⟩ := h; exact ⟨_, h, fun _ _ z => nomatch z⟩)
  | ins c fs => obtain ⟨C, dx, vs, _, h, _⟩ := h; exact ⟨_, h, fun _ _ z => nomatch z⟩
  | lck t kvs => cases m
  | set xs => obtain ⟨S, m, h, _⟩ := h; exact ⟨_, h, fun _ _ z => by cases z⟩
theorem OR.mut {a : Addr} {o : SO} (h : OR K mg ρ n H a o) (m : mutS o = true) : ∃ u, H a = some u ∧ (∀ ob xs, u ≠ .frz ob (.lst xs)) ∧ (∀ ob xs, u ≠ .frz ob (.tup xs)) ∧ (∀ xs, u ≠ .tup xs) ∧ (∀ x, u ≠ .own x) ∧ ∀ ps, u ≠ .tbl ps := by
  have key : ∀ {u : HO}, H a = some u → (match u with | .frz _ (.lst _) => False | .frz _ (.tup _) => False | .tup _ => False | .own _ => False | .tbl _ => False | _ => True) → ∃ u, H a = some u ∧ (∀ ob xs, u ≠ .frz ob (.lst xs)) ∧ (∀ ob xs, u ≠ .frz ob (.tup xs)) ∧ (∀ xs, u ≠ .tup xs) ∧ (∀ x, u ≠ .own x) ∧ ∀ ps, u ≠ .tbl ps := fun {u} h k =>
    ⟨u, h, fun _ _ z => by subst z; exact k, fun _ _ z => by subst z; exact k, fun _ z => by subst z; exact k, fun _ z => by subst z; exact k, fun _ z => by subst z; exact k⟩
  cases o with
  | lst xs => obtain ⟨vs, h, _⟩ := h; exact key h trivial
  | frz xs => cases m
  | ptp xs => cases m
  | dict t kvs => cases t <;> (obtain ⟨vs, h, _⟩ := h; exact key h trivial)
  | ins c fs => obtain ⟨C, dx, vs, _, h, _⟩ := h; exact key h trivial
  | lck t kvs => cases t <;> (obtain ⟨od, vs, h, _⟩ := h; exact key h trivial)
  | set xs => obtain ⟨S, m, h, _⟩ := h; exact key h trivial
/-- the object stands still, the world grows -/
theorem OR.mono (e : Ext ρ n H ρ' n' H') {a : Addr} (ha : ∀ u, H a = some u → H' a = some u) {o : SO} (h : OR K mg ρ n H a o) : OR K mg ρ' n' H' a o := by
  cases o with
  | lst xs => obtain ⟨vs, h, r⟩ := h; exact ⟨vs, ha _ h, r.mono e⟩
  | frz xs =>
    obtain ⟨vs, h, r⟩ := h
    refine ⟨vs, ?_, r.mono e⟩
    rcases h with ⟨o, h⟩ | h
    · exact .inl ⟨o, ha _ h⟩
    · exact .inr h
  | dict t kvs =>
    cases t with
    | false => obtain ⟨vs, h, r⟩ := h; exact ⟨vs, ha _ h, r.mono e⟩
    | true => obtain ⟨vs, h, r⟩ := h; exact ⟨vs, ha _ h, r.mono e⟩
  | ins c fs => obtain ⟨C, dx, vs, g, h, r⟩ := h; exact ⟨C, dx, vs, g, ha _ h, r.mono e⟩
  | lck t kvs =>
    cases t with
    | false => obtain ⟨od, vs, h, r⟩ := h; exact ⟨od, vs, ha _ h, r.mono e⟩
    | true => obtain ⟨od, vs, h, r⟩ := h; exact ⟨od, vs, ha _ h, r.mono e⟩
  | set xs => obtain ⟨S, m, h, r⟩ := h; exact ⟨S, m, ha _ h, r⟩
  | ptp xs => obtain ⟨vs, h, r⟩ := h; exact ⟨vs, h.elim (fun ⟨o, h, q⟩ => .inl ⟨o, ha _ h, q⟩) .inr, r.mono e⟩

/-! only the tuples are kept -/
mutual
theorem VR.tp (e : ∀ a vs, SqT K H a vs → SqT K H' a vs) : ∀ {d : D} {v : V}, VR K ρ n H d v → VR K ρ n H' d v
  | .non, _, h => h
  | .bl _, _, h => h
  | .int _, _, h => h
  | .str _, _, h => h
  | .tup xs, _, h => by
    rw [VR] at h ⊢
    obtain ⟨a, vs, e1, q, r⟩ := h
    exact ⟨a, vs, e1, e _ _ q, VRs.tp e r⟩
  | .ref k, _, h => by
    rw [VR] at h ⊢
    exact h
theorem VRs.tp (e : ∀ a vs, SqT K H a vs → SqT K H' a vs) : ∀ {ds : List D} {vs : List V}, VRs K ρ n H ds vs → VRs K ρ n H' ds vs
  | [], _, h => by rw [VRs] at h ⊢; exact h
  | d :: ds, _, h => by
    rw [VRs] at h ⊢
    obtain ⟨v, r, e1, h1, h2⟩ := h
    exact ⟨v, r, e1, VR.tp e h1, VRs.tp e h2⟩
end
theorem FR.tp (e : ∀ a vs, SqT K H a vs → SqT K H' a vs) : ∀ {ds : List (Str × D)} {vs : List (Str × V)}, FR K ρ n H ds vs → FR K ρ n H' ds vs
  | [], _, h => h
  | _ :: _, _, ⟨v, r, e1, h1, h2⟩ => ⟨v, r, e1, h1.tp e, FR.tp e h2⟩
theorem KR.tp {κ : Type} {key : D → Option κ} (e : ∀ a vs, SqT K H a vs → SqT K H' a vs) : ∀ {ds : List (D × D)} {vs : List (κ × V)}, KR key K ρ n H ds vs → KR key K ρ n H' ds vs
  | [], _, h => h
  | _ :: _, _, ⟨k, v, r, e1, h0, h1, h2⟩ => ⟨k, v, r, e1, h0, h1.tp e, KR.tp e h2⟩
theorem OR.tp (e : ∀ a vs, SqT K H a vs → SqT K H' a vs) {a : Addr} (ha : ∀ u, H a = some u → H' a = some u) {o : SO} (h : OR K mg ρ n H a o) : OR K mg ρ n H' a o := by
  cases o with
  | lst xs => obtain ⟨vs, h, r⟩ := h; exact ⟨vs, ha _ h, r.tp e⟩
  | frz xs =>
    obtain ⟨vs, h, r⟩ := h
    exact ⟨vs, h.elim (fun ⟨o, h⟩ => .inl ⟨o, ha _ h⟩) .inr, r.tp e⟩
  | dict t kvs => cases t <;> (obtain ⟨vs, h, r⟩ := h; exact ⟨vs, ha _ h, r.tp e⟩)
  | ins c fs => obtain ⟨C, dx, vs, g, h, r⟩ := h; exact ⟨C, dx, vs, g, ha _ h, r.tp e⟩
  | lck t kvs => cases t <;> (obtain ⟨od, vs, h, r⟩ := h; exact ⟨od, vs, ha _ h, r.tp e⟩)
  | set xs => obtain ⟨S, m, h, r⟩ := h; exact ⟨S, m, ha _ h, r⟩
  | ptp xs => obtain ⟨vs, h, r⟩ := h; exact ⟨vs, h.elim (fun ⟨o, h, q⟩ => .inl ⟨o, ha _ h, q⟩) .inr, r.tp e⟩

/-- the store stands for the heap -/
structure SR (K : PySem.W.Frag) (mg : Str → Option Value) (ρ : Nat → Addr) (s : Sto) (H : Hp) : Prop where
  inj : ∀ (i j : Nat) oi oj, s[i]? = some oi → s[j]? = some oj → mutS oi = true → mutS oj = true → ρ i = ρ j → i = j
  ob : ∀ (i : Nat) o, s[i]? = some o → OR K mg ρ s.length H (ρ i) o
  tb : LamX.Tabs Row.tabs H
  tc : ∀ p ∈ Row.tabs, ∀ ps pos c, H p.1 = some (.tbl ps) → codeAmong pos ps.toList = some (.ref c) → ∀ (i : Nat) o, s[i]? = some o → mutS o = true → ρ i ≠ c
theorem Ext.same (st : ∀ b o, H b = some o → H' b = some o) : Ext ρ n H ρ n H' :=
  ⟨Nat.le_refl _, fun _ _ => rfl, fun a vs h => h.elim (fun z => .inl (st _ _ z)) fun ⟨o, z⟩ => .inr ⟨o, st _ _ z⟩, fun _ _ _ h => st _ _ h, fun _ _ _ h => st _ _ h⟩
/-- untracked or new things come -/
theorem SR.grow {s : Sto} (h : SR K mg ρ s H) (st : ∀ b o, H b = some o → H' b = some o) : SR K mg ρ s H' :=
  ⟨h.inj, fun i o e => (h.ob i o e).mono (Ext.same st) fun u z => st _ _ z, h.tb.ext st, fun p hp ps pos c e => by
    obtain ⟨ps', e', _⟩ := h.tb p hp
    have e2 := st _ _ e'
    rw [e] at e2
    cases e2
    exact h.tc p hp ps pos c e'⟩
def ρup (ρ : Nat → Addr) (n : Nat) (p : Addr) : Nat → Addr := fun k => if k = n then p else ρ k
theorem ρup_same {p : Addr} : ρup ρ n p n = p := by unfold ρup; rw [if_pos rfl]
theorem ρup_ne {p : Addr} {k : Nat} (h : k ≠ n) : ρup ρ n p k = ρ k := by unfold ρup; rw [if_neg h]
theorem Ext.alloc {p : Addr} (st : ∀ b o, H b = some o → H' b = some o) : Ext ρ n H (ρup ρ n p) (n + 1) H' :=
  ⟨Nat.le_succ _, fun k h => ρup_ne (Nat.ne_of_lt h), (Ext.same (ρ := ρ) (n := n) st).tp, (Ext.same (ρ := ρ) (n := n) st).fz, (Ext.same (ρ := ρ) (n := n) st).fzT⟩
theorem SR.alloc {s : Sto} {p : Addr} {o : SO} (h : SR K mg ρ s H) (hp : H p = none) (st : ∀ b u, H b = some u → H' b = some u)
    (ho : OR K mg (ρup ρ s.length p) (s.length + 1) H' p o) : SR K mg (ρup ρ s.length p) (s ++ [o]) H' := by
  have ext : Ext ρ s.length H (ρup ρ s.length p) (s.length + 1) H' := Ext.alloc st
  have old : ∀ {i : Nat} {oi : SO}, i < s.length → (s ++ [o])[i]? = some oi → s[i]? = some oi := fun hi e => by rwa [List.getElem?_append_left hi] at e
  have new : ∀ {i : Nat} {oi : SO}, ¬ i < s.length → (s ++ [o])[i]? = some oi → i = s.length ∧ oi = o := fun {i oi} hi e => by
    have hl := (List.getElem?_eq_some_iff.mp e).1
    simp only [List.length_append, List.length_cons, List.length_nil] at hl
    have : i = s.length := by omega
    subst this
    simp at e
    exact ⟨rfl, e.symm⟩
  refine ⟨fun i j oi oj e1 e2 m1 m2 q => ?_, fun i oi e => ?_, h.tb.ext st, fun p' hp' ps pos c e ec i o ei mo => ?_⟩
  · by_cases hi : i < s.length
    · by_cases hj : j < s.length
      · rw [ρup_ne (Nat.ne_of_lt hi), ρup_ne (Nat.ne_of_lt hj)] at q
        exact h.inj i j oi oj (old hi e1) (old hj e2) m1 m2 q
      · obtain ⟨rfl, rfl⟩ := new hj e2
        rw [ρup_ne (Nat.ne_of_lt hi), ρup_same] at q
        obtain ⟨u, hu, _⟩ := (h.ob i oi (old hi e1)).mut m1
        rw [q, hp] at hu
        cases hu
    · obtain ⟨rfl, rfl⟩ := new hi e1
      by_cases hj : j < s.length
      · rw [ρup_ne (Nat.ne_of_lt hj), ρup_same] at q
        obtain ⟨u, hu, _⟩ := (h.ob j oj (old hj e2)).mut m2
        rw [← q, hp] at hu
        cases hu
      · exact (new hj e2).1.symm
  · rw [List.length_append]
    by_cases hi : i < s.length
    · rw [ρup_ne (Nat.ne_of_lt hi)]
      exact (h.ob i oi (old hi e)).mono ext fun u z => st _ _ z
    · obtain ⟨rfl, rfl⟩ := new hi e
      rw [ρup_same]
      exact ho
  · obtain ⟨ps', e', _, h3⟩ := h.tb p' hp'
    have e2 := st _ _ e'
    rw [e] at e2
    cases e2
    by_cases hi : i < s.length
    · rw [ρup_ne (Nat.ne_of_lt hi)]
      exact h.tc p' hp' ps pos c e' ec i o (old hi ei) mo
    · obtain ⟨rfl, rfl⟩ := new hi ei
      rw [ρup_same]
      obtain ⟨c2, q1, q2⟩ := h3 pos _ ec
      cases q1
      intro z
      rw [← z, hp] at q2
      cases q2
theorem Ext.write {i : Nat} {o : SO} {u : HO} (h : OR K mg ρ n H (ρ i) o) (m : wrS o = true) : Ext ρ n H ρ n (upd H (ρ i) u) := by
  obtain ⟨w, hw, _, _, nt, _⟩ := h.mut (wrS.mut m)
  obtain ⟨w', hw', nf⟩ := h.wr m
  rw [hw] at hw'
  cases hw'
  have other : ∀ {a : Addr} {ob : Obj} {v : HO}, H a = some (.frz ob v) → upd H (ρ i) u a = some (.frz ob v) := fun {a ob v} r => by
    rw [upd_ne]
    · exact r
    · intro z
      rw [z, hw] at r
      exact nf _ _ (Option.some.inj r)
  refine ⟨Nat.le_refl _, fun _ _ => rfl, fun a vs r => ?_, fun a o k r => other r, fun a o k r => other r⟩
  rcases r with r | ⟨ob, r⟩
  · refine .inl ?_
    rw [upd_ne]
    · exact r
    · intro z
      rw [z, hw] at r
      exact nt vs (Option.some.inj r)
  · exact .inr ⟨ob, other r⟩
theorem Tabs.write {T : List (Addr × Str)} {a : Addr} {w u : HO} (t : LamX.Tabs T H) (hw : H a = some w) (nt : ∀ ps, w ≠ .tbl ps) (ne : ∀ p ∈ T, ∀ ps pos c, H p.1 = some (.tbl ps) → codeAmong pos ps.toList = some (.ref c) → a ≠ c) : LamX.Tabs T (upd H a u) := fun p hp => by
  obtain ⟨ps, h1, h2, h3⟩ := t p hp
  refine ⟨ps, ?_, h2, fun pos cv hc => ?_⟩
  · rw [upd_ne]
    · exact h1
    · intro z
      rw [z, hw] at h1
      exact nt ps (Option.some.inj h1)
  · obtain ⟨c, e1, e2⟩ := h3 pos cv hc
    subst e1
    refine ⟨c, rfl, ?_⟩
    rw [upd_ne]
    · exact e2
    · exact Ne.symm (ne p hp ps pos c h1 hc)
theorem SR.put {s : Sto} {i : Nat} {o o' : SO} {u : HO} (h : SR K mg ρ s H) (e : s[i]? = some o) (m : mutS o = true) (m' : mutS o' = true)
    (ho : OR K mg ρ s.length (upd H (ρ i) u) (ρ i) o') : SR K mg ρ (s.set i o') (upd H (ρ i) u) := by
  have ext : ∀ a vs, SqT K H a vs → SqT K (upd H (ρ i) u) a vs := fun a vs r => by
    obtain ⟨w, hw, _, nf2, nt, _⟩ := (h.ob i o e).mut m
    refine r.elim (fun r => .inl ?_) .inr
    rcases r with r | ⟨ob, r⟩
    · refine .inl ?_
      rw [upd_ne]
      · exact r
      · intro z
        rw [z, hw] at r
        exact nt vs (Option.some.inj r)
    · refine .inr ⟨ob, ?_⟩
      rw [upd_ne]
      · exact r
      · intro z
        rw [z, hw] at r
        exact nf2 _ _ (Option.some.inj r)
  have hi := (List.getElem?_eq_some_iff.mp e).1
  have back : ∀ {j : Nat} {oj : SO}, (s.set i o')[j]? = some oj → (j = i ∧ oj = o') ∨ (j ≠ i ∧ s[j]? = some oj) := fun {j oj} q => by
    by_cases hj : j = i
    · subst hj
      rw [List.getElem?_set_self hi] at q
      exact .inl ⟨rfl, (Option.some.inj q).symm⟩
    · rw [List.getElem?_set_ne (Ne.symm hj)] at q
      exact .inr ⟨hj, q⟩
  obtain ⟨w0, hw0, _, _, _, _, nt0⟩ := (h.ob i o e).mut m
  have tbs := Tabs.write (u := u) h.tb hw0 nt0 fun p hp ps pos c e1 e2 => h.tc p hp ps pos c e1 e2 i o e m
  refine ⟨fun j k oj ok e1 e2 m1 m2 q => ?_, fun j oj q => ?_, tbs, fun p hp ps pos c e1 ec j oj q mj => ?_⟩
  · have t1 : ∃ o1, s[j]? = some o1 ∧ mutS o1 = true := by
      rcases back e1 with ⟨rfl, rfl⟩ | ⟨_, z⟩
      · exact ⟨o, e, m⟩
      · exact ⟨oj, z, m1⟩
    have t2 : ∃ o1, s[k]? = some o1 ∧ mutS o1 = true := by
      rcases back e2 with ⟨rfl, rfl⟩ | ⟨_, z⟩
      · exact ⟨o, e, m⟩
      · exact ⟨ok, z, m2⟩
    obtain ⟨o1, f1, g1⟩ := t1
    obtain ⟨o2, f2, g2⟩ := t2
    exact h.inj j k o1 o2 f1 f2 g1 g2 q
  · rw [List.length_set]
    obtain ⟨w', hw', nf, nf2, nt, _⟩ := (h.ob i o e).mut m
    rcases back q with ⟨rfl, rfl⟩ | ⟨hj, z⟩
    · exact ho
    · cases mj : mutS oj with
      | true =>
        refine (h.ob j oj z).tp ext fun w hw => ?_
        rw [upd_ne]
        · exact hw
        · intro qq
          exact hj (h.inj j i oj o z e mj m qq)
      | false =>
        cases oj with
        | frz xs =>
          obtain ⟨vs, sq, r⟩ := h.ob j _ z
          refine ⟨vs, ?_, r.tp ext⟩
          rcases sq with ⟨ob, sq⟩ | sq
          · refine .inl ⟨ob, ?_⟩
            rw [upd_ne]
            · exact sq
            · intro qq
              rw [qq, hw'] at sq
              exact nf _ _ (Option.some.inj sq)
          · exact .inr sq
        | ptp xs =>
          obtain ⟨vs, sq, r⟩ := h.ob j _ z
          refine ⟨vs, ?_, r.tp ext⟩
          rcases sq with ⟨ob, sq, q0⟩ | sq
          · refine .inl ⟨ob, ?_, q0⟩
            rw [upd_ne]
            · exact sq
            · intro qq
              rw [qq, hw'] at sq
              exact nf2 _ _ (Option.some.inj sq)
          · exact .inr sq
        | _ => cases mj
  · have e3 : H p.1 = some (.tbl ps) := by
      rw [upd_ne] at e1
      · exact e1
      · intro z
        obtain ⟨ps', e', _⟩ := h.tb p hp
        rw [z, hw0] at e'
        exact nt0 _ (Option.some.inj e')
    rcases back q with ⟨rfl, rfl⟩ | ⟨_, z⟩
    · exact h.tc p hp ps pos c e3 ec j o e m
    · exact h.tc p hp ps pos c e3 ec j oj z mj
theorem SR.write {s : Sto} {i : Nat} {o o' : SO} {u : HO} (h : SR K mg ρ s H) (e : s[i]? = some o) (m : wrS o = true) (m' : mutS o' = true)
    (ho : OR K mg ρ s.length (upd H (ρ i) u) (ρ i) o') : SR K mg ρ (s.set i o') (upd H (ρ i) u) := h.put e (wrS.mut m) m' ho
end
end Z

set_option Elab.async false
set_option linter.all false
set_option maxRecDepth 100000
set_option maxHeartbeats 4000000
namespace Z
open PySem PySem.Spec PyProof.Rows L2
variable [Row]

/-- names by slots -/
def EnvR (K : PySem.W.Frag) (ρ : Nat → Addr) (n : Nat) (H : Hp) (env : Ev) (σ : L2.St) : Prop :=
  env.length = σ.length ∧ ∀ (i : Nat) d, env[i]? = some (some d) → ∃ v, σ[i]? = some (some v) ∧ VR K ρ n H d v
section
variable {K : PySem.W.Frag} {mg : Str → Option Value} {ρ ρ' ρ1 : Nat → Addr} {n n' n1 : Nat} {H H' H1 : Hp}
theorem EnvR.mono (e : Ext ρ n H ρ' n' H') {env : Ev} {σ : L2.St} (h : EnvR K ρ n H env σ) : EnvR K ρ' n' H' env σ :=
  ⟨h.1, fun i d q => let ⟨v, e1, r⟩ := h.2 i d q; ⟨v, e1, r.mono e⟩⟩
theorem EnvR.set {env : Ev} {σ : L2.St} (h : EnvR K ρ n H env σ) {i : Nat} {d : D} {v : V} (r : VR K ρ n H d v) : EnvR K ρ n H (env.set i (some d)) (σ.set i (some v)) := by
  refine ⟨by rw [List.length_set, List.length_set]; exact h.1, fun j e q => ?_⟩
  by_cases hj : i = j
  · subst hj
    by_cases hl : i < env.length
    · rw [List.getElem?_set_self hl] at q
      cases q
      exact ⟨v, by rw [List.getElem?_set_self (by rw [← h.1]; exact hl)], r⟩
    · rw [List.getElem?_eq_none (by rw [List.length_set]; omega)] at q
      cases q
  · rw [List.getElem?_set_ne hj] at q
    obtain ⟨u, e1, r1⟩ := h.2 j e q
    exact ⟨u, by rw [List.getElem?_set_ne hj]; exact e1, r1⟩
theorem EnvR.del {env : Ev} {σ : L2.St} (h : EnvR K ρ n H env σ) {i : Nat} : EnvR K ρ n H (env.set i none) (σ.set i none) := by
  refine ⟨by rw [List.length_set, List.length_set]; exact h.1, fun j e q => ?_⟩
  by_cases hj : i = j
  · subst hj
    by_cases hl : i < env.length
    · rw [List.getElem?_set_self hl] at q
      cases q
    · rw [List.getElem?_eq_none (by rw [List.length_set]; omega)] at q
      cases q
  · rw [List.getElem?_set_ne hj] at q
    obtain ⟨u, e1, r1⟩ := h.2 j e q
    exact ⟨u, by rw [List.getElem?_set_ne hj]; exact e1, r1⟩

abbrev Rl (α β : Type) := (Nat → Addr) → Nat → Hp → α → β → Prop
/-- what a result asks -/
def Po {α β : Type} (K : PySem.W.Frag) (mg : Str → Option Value) (R : Rl α β) (W : WX) (σ : L2.St) (ρ : Nat → Addr) (n : Nat) (H : Hp) (r : Rs α) (Q : β → Hp → Prop) : Prop :=
  match r with
  | .ok d s' => ∀ ρ' H' v, Ext ρ n H ρ' s'.length H' → SR K mg ρ' s' H' → R ρ' s'.length H' d v → Q v H'
  | .ex c f d s' => ∀ ρ' H' C dx v, Ext ρ n H ρ' s'.length H' → SR K mg ρ' s' H' → mg c = some (.ref C) → VR K ρ' s'.length H' d v → H' dx = some (.xd [(f, v)]) → W (.ref C) (some dx) σ H'
  | .no => False
theorem Po.rebase {α β : Type} {R : Rl α β} {W : WX} {σ : L2.St} {r : Rs α} {Q : β → Hp → Prop} (h : Po K mg R W σ ρ n H r Q) (e : Ext ρ n H ρ1 n1 H1) : Po K mg R W σ ρ1 n1 H1 r Q := by
  cases r with
  | ok d s => exact fun ρ' H' v e' => h ρ' H' v (e.trans e')
  | ex c f d s => exact fun ρ' H' C dx v e' => h ρ' H' C dx v (e.trans e')
  | no => exact h
/-- behind a part -/
def Mid {α β : Type} (K : PySem.W.Frag) (mg : Str → Option Value) (R : Rl α β) (ρ : Nat → Addr) (n : Nat) (H : Hp) (v : β) (H1 : Hp) (k : (Nat → Addr) → Sto → α → Prop) : Prop :=
  ∃ ρ1 s1 d, Ext ρ n H ρ1 s1.length H1 ∧ SR K mg ρ1 s1 H1 ∧ R ρ1 s1.length H1 d v ∧ k ρ1 s1 d
theorem Po.bind {α β γ δ : Type} {R : Rl α β} {R' : Rl γ δ} {W : WX} {σ : L2.St} {r : Rs α} {k : α → Sto → Rs γ} {Q : δ → Hp → Prop} (h : Po K mg R' W σ ρ n H (r.bind k) Q) :
    Po K mg R W σ ρ n H r (fun v H1 => Mid K mg R ρ n H v H1 fun ρ1 s1 d => Po K mg R' W σ ρ1 s1.length H1 (k d s1) Q) := by
  cases r with
  | ok d s => exact fun ρ' H' v e sr r => ⟨ρ', s, d, e, sr, r, Po.rebase h e⟩
  | ex c f d s => exact h
  | no => exact h
/-- the lifted reading -/
def lG {α β : Type} (K : PySem.W.Frag) (mg : Str → Option Value) (R : Rl α β) (W : WX) (m : EM α) : L2.St → Hp → (β → Hp → Prop) → Prop :=
  fun σ H Q => ∃ ρ env s, SR K mg ρ s H ∧ EnvR K ρ s.length H env σ ∧ Po K mg R W σ ρ s.length H (m env s) Q
abbrev RB : Rl Bool Bool := fun _ _ _ b c => b = c
abbrev lE (K : PySem.W.Frag) (mg : Str → Option Value) : WX → EM D → TE := lG K mg (VR K)
abbrev lA (K : PySem.W.Frag) (mg : Str → Option Value) : WX → EM (List D) → TA := lG K mg (VRs K)
abbrev lT (K : PySem.W.Frag) (mg : Str → Option Value) : WX → EM Bool → TT := lG K mg RB
end

section
variable {X : Cx}
theorem PE_imp {e : Expr} {t t' : TE} (h : PE X e t) (i : ∀ σ H Q, t' σ H Q → t σ H Q) : PE X e t' := ⟨fun p s σ H Q I q => h.run p s σ H Q I (i σ H Q q)⟩
theorem PT_imp {e : Expr} {t t' : TT} (h : PT X e t) (i : ∀ σ H Q, t' σ H Q → t σ H Q) : PT X e t' := ⟨fun p s σ H Q I q => h.run p s σ H Q I (i σ H Q q)⟩
theorem PW_imp {e : Expr} {t t' : TT} (h : PW X e t) (i : ∀ σ H Q, t' σ H Q → t σ H Q) : PW X e t' := ⟨fun w p s σ H Q I q => h.run w p s σ H Q I (i σ H Q q)⟩
theorem PA_imp {e : List Expr} {t t' : TA} (h : PA X e t) (i : ∀ σ H Q, t' σ H Q → t σ H Q) : PA X e t' := ⟨fun p pins s σ H Q I q => h.run p pins s σ H Q I (i σ H Q q)⟩
theorem PS_imp {e : Stmt} {t t' : TS} (h : PS X e t) (i : ∀ σ H Q, t' Q σ H → t Q σ H) : PS X e t' := ⟨fun p s σ H Q I q => h.run p s σ H Q I (i σ H Q q)⟩
theorem PSs_imp {e : List Stmt} {t t' : TS} (h : PSs X e t) (i : ∀ σ H Q, t' Q σ H → t Q σ H) : PSs X e t' := ⟨fun p s σ H Q I q => h.run p s σ H Q I (i σ H Q q)⟩

abbrev JE (X : Cx) (W : WX) (e : Expr) (m : EM D) : Prop := PE X e (lE X.K X.mg W m)
abbrev JT (X : Cx) (W : WX) (e : Expr) (m : EM Bool) : Prop := PT X e (lT X.K X.mg W m)
abbrev JW (X : Cx) (W : WX) (e : Expr) (m : EM Bool) : Prop := PW X e (lT X.K X.mg W m)
abbrev JA (X : Cx) (W : WX) (es : List Expr) (m : EM (List D)) : Prop := PA X es (lA X.K X.mg W m)

variable {W : WX}
/-! ### names, constants -/
def mV (i : Nat) : EM D := fun env s => match env[i]? with
  | some (some d) => .ok d s
  | _ => .no
def mC (d : D) : EM D := fun _ s => .ok d s
theorem je_v (i : Nat) {x : Str} {pos : Pos} (hN : X.N[i]? = some x := by rfl) (hv : Vis X.env.scope x := by first | exact Or.inl rfl | exact Or.inr (Or.inl rfl) | exact Or.inr (Or.inr rfl)) (hd : (x == ("__debug__" : Str)) = false := by decide)
    (hcd : (x == ("__classdict__" : Str)) = false := by decide) : JE X W (.Name x pos) (mV i) := by
  refine PE_imp (pe_var hN hv hd hcd) fun σ H Q ⟨ρ, env, s, sr, er, po⟩ => ?_
  unfold mV at po
  cases h : env[i]? with
  | none => rw [h] at po; exact po.elim
  | some o =>
    rw [h] at po
    cases o with
    | none => exact po.elim
    | some d =>
      obtain ⟨v, e1, r⟩ := er.2 i d h
      exact ⟨v, e1, po ρ H v Ext.refl sr r⟩
/-- a value that the store doesn't matter for -/
def flatD : D → V → Prop
  | .non, v => v = .non
  | .bl b, v => v = .bl b
  | .int i, v => v = .int i
  | .str x, v => v = .str x
  | _, _ => False
theorem flatD.vr {K : PySem.W.Frag} {ρ : Nat → Addr} {n : Nat} {H : Hp} {d : D} {v : V} (h : flatD d v) : VR K ρ n H d v := by
  cases d <;> first | exact h | exact h.elim
theorem je_const {e : Expr} {d : D} {v : V} (h : PE X e (tC v)) (r : flatD d v) : JE X W e (mC d) :=
  PE_imp h fun σ H Q ⟨ρ, env, s, sr, er, po⟩ => po ρ H v Ext.refl sr r.vr
theorem je_int {i j pos} : JE X W (.Constant (.int i) j pos) (mC (.int i)) := je_const pe_int rfl
theorem je_bl {b j pos} : JE X W (.Constant (.bool b) j pos) (mC (.bl b)) := je_const pe_bl rfl
theorem je_non {j pos} : JE X W (.Constant .none j pos) (mC .non) := je_const pe_non rfl
theorem je_str {x j pos} : JE X W (.Constant (.str x) j pos) (mC (.str x)) := je_const pe_str rfl
/-- a module's constant: an int, a text -/
theorem je_gint {x : Str} {i : Int} {pos : Pos} (hg : Gl X x) (hm : ∃ t, X.mg x = some (.int i t)) (hd : (x == ("__debug__" : Str)) = false := by decide) : JE X W (.Name x pos) (mC (.int i)) := by
  obtain ⟨t, hm⟩ := hm
  exact je_const (v := .int i) (pe_glob hg hm ⟨t, rfl⟩ hd) rfl
theorem je_gstr {x z : Str} {pos : Pos} (hg : Gl X x) (hm : ∃ t, X.mg x = some (.str z t)) (hd : (x == ("__debug__" : Str)) = false := by decide) : JE X W (.Name x pos) (mC (.str z)) := by
  obtain ⟨t, hm⟩ := hm
  exact je_const (v := .str z) (pe_glob hg hm ⟨t, rfl⟩ hd) rfl
/-- a module's constant: a tuple of the written part -/
theorem je_gtup {x : Str} {ds : List D} {a : Addr} {vs : List V} {pos : Pos} (hg : Gl X x) (hm : X.mg x = some (.ref a)) (hq : ∀ H, SqT X.K H a vs) (r : ∀ ρ n H, VRs X.K ρ n H ds vs) (hd : (x == ("__debug__" : Str)) = false := by decide) : JE X W (.Name x pos) (mC (.tup ds)) := by
  refine PE_imp (pe_glob hg hm (v := .ref a) rfl hd) fun σ H Q ⟨ρ, env, s, sr, er, po⟩ => po ρ H (.ref a) Ext.refl sr ?_
  rw [VR]
  exact ⟨a, vs, rfl, hq H, r _ _ _⟩

/-! ### operations on values -/
/-- f does what r does -/
def Pr2 (X : Cx) (W : WX) (f : D → D → Sto → Rs D) (r : R2) : Prop :=
  ∀ (ρ : Nat → Addr) (s : Sto) (H : Hp) (σ : L2.St) (x y : D) (vx vy : V) (Q : VK), SR X.K X.mg ρ s H → VR X.K ρ s.length H x vx → VR X.K ρ s.length H y vy → Po X.K X.mg (VR X.K) W σ ρ s.length H (f x y s) Q → r vx vy H Q
def Pr1 (X : Cx) (W : WX) (f : D → Sto → Rs D) (r : V → Hp → VK → Prop) : Prop :=
  ∀ (ρ : Nat → Addr) (s : Sto) (H : Hp) (σ : L2.St) (x : D) (vx : V) (Q : VK), SR X.K X.mg ρ s H → VR X.K ρ s.length H x vx → Po X.K X.mg (VR X.K) W σ ρ s.length H (f x s) Q → r vx H Q
def PrN (X : Cx) (W : WX) (f : List D → Sto → Rs D) (r : List V → Hp → VK → Prop) : Prop :=
  ∀ (ρ : Nat → Addr) (s : Sto) (H : Hp) (σ : L2.St) (xs : List D) (vs : List V) (Q : VK), SR X.K X.mg ρ s H → VRs X.K ρ s.length H xs vs → Po X.K X.mg (VR X.K) W σ ρ s.length H (f xs s) Q → r vs H Q
def PrM (X : Cx) (W : WX) (f : D → List D → Sto → Rs D) (r : V → List V → Hp → VK → Prop) : Prop :=
  ∀ (ρ : Nat → Addr) (s : Sto) (H : Hp) (σ : L2.St) (x : D) (xs : List D) (v : V) (vs : List V) (Q : VK), SR X.K X.mg ρ s H → VR X.K ρ s.length H x v → VRs X.K ρ s.length H xs vs → Po X.K X.mg (VR X.K) W σ ρ s.length H (f x xs s) Q → r v vs H Q
def m2 (f : D → D → Sto → Rs D) (ma mb : EM D) : EM D := fun env s => (ma env s).bind fun x s1 => (mb env s1).bind fun y s2 => f x y s2
def m1 (f : D → Sto → Rs D) (ma : EM D) : EM D := fun env s => (ma env s).bind fun x s1 => f x s1
def mN (f : List D → Sto → Rs D) (ms : EM (List D)) : EM D := fun env s => (ms env s).bind fun xs s1 => f xs s1
def mM (f : D → List D → Sto → Rs D) (ma : EM D) (ms : EM (List D)) : EM D := fun env s => (ma env s).bind fun x s1 => (ms env s1).bind fun xs s2 => f x xs s2
def aN : EM (List D) := fun _ s => .ok [] s
def aC (ma : EM D) (ms : EM (List D)) : EM (List D) := fun env s => (ma env s).bind fun x s1 => (ms env s1).bind fun xs s2 => .ok (x :: xs) s2
theorem Po.imp {α β : Type} {K : PySem.W.Frag} {mg : Str → Option Value} {R : Rl α β} {σ : L2.St} {ρ : Nat → Addr} {n : Nat} {H : Hp} {r : Rs α} {Q Q' : β → Hp → Prop} (h : Po K mg R W σ ρ n H r Q) (i : ∀ v H', Q v H' → Q' v H') : Po K mg R W σ ρ n H r Q' := by
  cases r with
  | ok d s => exact fun ρ' H' v e sr r => i _ _ (h ρ' H' v e sr r)
  | ex c f d s => exact h
  | no => exact h
theorem Po.ite {α β : Type} {K : PySem.W.Frag} {mg : Str → Option Value} {R : Rl α β} {σ : L2.St} {ρ : Nat → Addr} {n : Nat} {H : Hp} {c : Prop} [Decidable c] {r : Rs α} {Q : β → Hp → Prop} (h : Po K mg R W σ ρ n H (if c then r else .no) Q) : c ∧ Po K mg R W σ ρ n H r Q := by
  by_cases hc : c
  · rw [if_pos hc] at h
    exact ⟨hc, h⟩
  · rw [if_neg hc] at h
    exact h.elim
variable {a b c : Expr} {es : List Expr} {ma mb mc : EM D} {ms : EM (List D)} {pos : Pos} {f : D → D → Sto → Rs D} {r : R2}
theorem lop (hp : Pr2 X W f r) {σ : L2.St} {H : Hp} {Q : VK} (h : lE X.K X.mg W (m2 f ma mb) σ H Q) : tOp r (lE X.K X.mg W ma) (lE X.K X.mg W mb) σ H Q :=
  let ⟨ρ, env, s, sr, er, po⟩ := h
  ⟨ρ, env, s, sr, er, (Po.bind po).imp fun _ _ ⟨ρ1, s1, d1, e1, sr1, r1, po1⟩ => ⟨ρ1, env, s1, sr1, er.mono e1, (Po.bind po1).imp fun _ _ ⟨ρ2, s2, d2, e2, sr2, r2, po2⟩ =>
    hp ρ2 s2 _ σ _ _ _ _ Q sr2 (r1.mono e2) r2 po2⟩⟩
theorem lun {f : D → Sto → Rs D} {r : V → Hp → VK → Prop} (hp : Pr1 X W f r) {σ : L2.St} {H : Hp} {Q : VK} (h : lE X.K X.mg W (m1 f ma) σ H Q) : tUn r (lE X.K X.mg W ma) σ H Q :=
  let ⟨ρ, env, s, sr, er, po⟩ := h
  ⟨ρ, env, s, sr, er, (Po.bind po).imp fun _ _ ⟨ρ1, s1, d1, e1, sr1, r1, po1⟩ => hp ρ1 s1 _ σ _ _ Q sr1 r1 po1⟩
theorem lcb {f : List D → Sto → Rs D} {r : List V → Hp → VK → Prop} (hp : PrN X W f r) {σ : L2.St} {H : Hp} {Q : VK} (h : lE X.K X.mg W (mN f ms) σ H Q) : tCB r (lA X.K X.mg W ms) σ H Q :=
  let ⟨ρ, env, s, sr, er, po⟩ := h
  ⟨ρ, env, s, sr, er, (Po.bind po).imp fun _ _ ⟨ρ1, s1, d1, e1, sr1, r1, po1⟩ => hp ρ1 s1 _ σ _ _ Q sr1 r1 po1⟩
theorem ja_nil : JA X W [] aN := PA_imp pa_nil fun σ H Q ⟨ρ, env, s, sr, er, po⟩ => po ρ H [] Ext.refl sr VRs.nil
theorem ja_cons {e : Expr} (h : JE X W e ma) (t : JA X W es ms) (hs : starEach (e :: es) X.env = (false, eval e X.env) :: starEach es X.env := by rfl) : JA X W (e :: es) (aC ma ms) :=
  PA_imp (pa_cons h t hs) fun σ H Q ⟨ρ, env, s, sr, er, po⟩ =>
    ⟨ρ, env, s, sr, er, (Po.bind po).imp fun _ _ ⟨ρ1, s1, d1, e1, sr1, r1, po1⟩ => ⟨ρ1, env, s1, sr1, er.mono e1, (Po.bind po1).imp fun _ _ ⟨ρ2, s2, d2, e2, sr2, r2, po2⟩ =>
      po2 ρ2 _ _ Ext.refl sr2 (VRs.cons (r1.mono e2) r2)⟩⟩
theorem je_op {op : Operator} (ho : OpR X (binaryOp op) r) (hp : Pr2 X W f r) (ha : JE X W a ma) (hb : JE X W b mb) : JE X W (.BinOp a op b pos) (m2 f ma mb) := PE_imp (pe_op ho ha hb) fun _ _ _ => lop hp
theorem je_un {op : UnaryOp} {f : D → Sto → Rs D} {r : V → Hp → VK → Prop} (ho : UnR X (unaryOp op) r) (hp : Pr1 X W f r) (ha : JE X W a ma) : JE X W (.UnaryOp op a pos) (m1 f ma) := PE_imp (pe_un ho ha) fun _ _ _ => lun hp
theorem je_cmp {op : CmpOp} (ho : OpR X (compareOp op) r) (hp : Pr2 X W f r) (ha : JE X W a ma) (hb : JE X W b mb) (hm : behindInMarks op b = false) : JE X W (.Compare a [op] [b] pos) (m2 f ma mb) := PE_imp (pe_cmpR ho ha hb hm) fun _ _ _ => lop hp
/-- a bool as a test -/
def toB (m : EM D) : EM Bool := fun env s => (m env s).bind fun d s1 => match d with
  | .bl b => .ok b s1
  | _ => .no
theorem ltoB {m : EM D} {t : TE} {σ : L2.St} {H : Hp} {Q : Bool → Hp → Prop} (i : ∀ Q, lE X.K X.mg W m σ H Q → t σ H Q) (h : lT X.K X.mg W (toB m) σ H Q) : tTest t σ H Q :=
  let ⟨ρ, env, s, sr, er, po⟩ := h
  i _ ⟨ρ, env, s, sr, er, (Po.bind po).imp fun v H1 ⟨ρ1, s1, d1, e1, sr1, r1, po1⟩ => by
    cases d1 with
    | bl b =>
      have e : v = .bl b := r1
      exact ⟨b, e, po1 ρ1 H1 b Ext.refl sr1 rfl⟩
    | _ => exact po1.elim⟩
theorem jt_cmp {op : CmpOp} (ho : OpR X (compareOp op) r) (hp : Pr2 X W f r) (ha : JE X W a ma) (hb : JE X W b mb) (hm : behindInMarks op b = false) : JT X W (.Compare a [op] [b] pos) (toB (m2 f ma mb)) :=
  PT_imp (pt_cmpR ho ha hb hm) fun _ _ _ h => ltoB (fun _ => lop hp) h
/-! ### and, or, not, if -/
def bAnd (a b : EM Bool) : EM Bool := fun env s => (a env s).bind fun x s1 => if x then b env s1 else .ok false s1
def bOr (a b : EM Bool) : EM Bool := fun env s => (a env s).bind fun x s1 => if x then .ok true s1 else b env s1
def bNot (a : EM Bool) : EM Bool := fun env s => (a env s).bind fun x s1 => .ok (!x) s1
def mIf (t : EM Bool) (a b : EM D) : EM D := fun env s => (t env s).bind fun x s1 => if x then a env s1 else b env s1
/-- a test's value -/
def ofB (t : EM Bool) : EM D := fun env s => (t env s).bind fun x s1 => .ok (.bl x) s1
variable {t u : EM Bool} {rest : List Expr}
theorem jw_and1 (ha : JT X W a t) : JW X W (.BoolOp .And [a] pos) t := pw_and1 ha
theorem jw_or1 (ha : JT X W a t) : JW X W (.BoolOp .Or [a] pos) t := pw_or1 ha
theorem jw_and (ha : JT X W a t) (hb : JW X W (.BoolOp .And (b :: rest) pos) u) : JW X W (.BoolOp .And (a :: b :: rest) pos) (bAnd t u) :=
  PW_imp (pw_and ha hb) fun σ H Q ⟨ρ, env, s, sr, er, po⟩ => ⟨ρ, env, s, sr, er, (Po.bind po).imp fun v H1 ⟨ρ1, s1, d1, e1, sr1, r1, po1⟩ => by
    have e : d1 = v := r1
    subst e
    cases d1 with
    | true => exact ⟨ρ1, env, s1, sr1, er.mono e1, po1⟩
    | false => exact po1 ρ1 H1 false Ext.refl sr1 rfl⟩
theorem jw_or (ha : JT X W a t) (hb : JW X W (.BoolOp .Or (b :: rest) pos) u) : JW X W (.BoolOp .Or (a :: b :: rest) pos) (bOr t u) :=
  PW_imp (pw_or ha hb) fun σ H Q ⟨ρ, env, s, sr, er, po⟩ => ⟨ρ, env, s, sr, er, (Po.bind po).imp fun v H1 ⟨ρ1, s1, d1, e1, sr1, r1, po1⟩ => by
    have e : d1 = v := r1
    subst e
    cases d1 with
    | false => exact ⟨ρ1, env, s1, sr1, er.mono e1, po1⟩
    | true => exact po1 ρ1 H1 true Ext.refl sr1 rfl⟩
theorem JW_t {e : Expr} (h : JW X W e t) : JT X W e t := h.pt
theorem jt_not (ha : JT X W a t) : JT X W (.UnaryOp .Not a pos) (bNot t) :=
  PT_imp (pt_not ha) fun σ H Q ⟨ρ, env, s, sr, er, po⟩ => ⟨ρ, env, s, sr, er, (Po.bind po).imp fun v H1 ⟨ρ1, s1, d1, e1, sr1, r1, po1⟩ => by
    have e : d1 = v := r1
    subst e
    exact po1 ρ1 H1 _ Ext.refl sr1 rfl⟩
theorem je_if (ht : JT X W c t) (ha : JE X W a ma) (hb : JE X W b mb) : JE X W (.IfExp c a b pos) (mIf t ma mb) :=
  PE_imp (pe_ifExp ht ha hb) fun σ H Q ⟨ρ, env, s, sr, er, po⟩ => ⟨ρ, env, s, sr, er, (Po.bind po).imp fun v H1 ⟨ρ1, s1, d1, e1, sr1, r1, po1⟩ => by
    have e : d1 = v := r1
    subst e
    cases d1 with
    | true => exact ⟨ρ1, env, s1, sr1, er.mono e1, po1⟩
    | false => exact ⟨ρ1, env, s1, sr1, er.mono e1, po1⟩⟩
/-- and, or, not as values: the parts are bools -/
def mAnd (a b : EM D) : EM D := fun env s => (a env s).bind fun x s1 => match x with
  | .bl true => b env s1
  | .bl false => .ok (.bl false) s1
  | _ => .no
def mOr (a b : EM D) : EM D := fun env s => (a env s).bind fun x s1 => match x with
  | .bl true => .ok (.bl true) s1
  | .bl false => b env s1
  | _ => .no
def mNot (a : EM D) : EM D := fun env s => (a env s).bind fun x s1 => match x with
  | .bl b => .ok (.bl (!b)) s1
  | _ => .no
theorem je_one {op} (h : JE X W a ma) : JE X W (.BoolOp op [a] pos) ma := pe_one h
theorem je_and (ha : JE X W a ma) (hb : JE X W (.BoolOp .And (b :: rest) pos) mb) : JE X W (.BoolOp .And (a :: b :: rest) pos) (mAnd ma mb) :=
  PE_imp (pe_and ha hb) fun σ H Q ⟨ρ, env, s, sr, er, po⟩ => ⟨ρ, env, s, sr, er, (Po.bind po).imp fun v H1 ⟨ρ1, s1, d1, e1, sr1, r1, po1⟩ => by
    cases d1 with
    | bl q =>
      have e : v = .bl q := r1
      subst e
      cases q with
      | true => exact ⟨true, rfl, ρ1, env, s1, sr1, er.mono e1, po1⟩
      | false => exact ⟨false, rfl, po1 ρ1 H1 _ Ext.refl sr1 rfl⟩
    | _ => exact po1.elim⟩
/-- a chain of two comparisons -/
def mCh (f g : D → D → Sto → Rs D) (ma mb mc : EM D) : EM D := fun env s => (ma env s).bind fun x s1 => (mb env s1).bind fun y s2 => (f x y s2).bind fun z s3 => match z with
  | .bl true => (mc env s3).bind fun w s4 => g y w s4
  | .bl false => .ok (.bl false) s3
  | _ => .no
theorem lch {f g : D → D → Sto → Rs D} {r r' : R2} (hp : Pr2 X W f r) (hp' : Pr2 X W g r') {σ : L2.St} {H : Hp} {Q : VK} (h : lE X.K X.mg W (mCh f g ma mb mc) σ H Q) :
    tChain r r' (lE X.K X.mg W ma) (lE X.K X.mg W mb) (lE X.K X.mg W mc) σ H Q :=
  let ⟨ρ, env, s, sr, er, po⟩ := h
  ⟨ρ, env, s, sr, er, (Po.bind po).imp fun _ _ ⟨ρ1, s1, d1, e1, sr1, r1, po1⟩ => ⟨ρ1, env, s1, sr1, er.mono e1, (Po.bind po1).imp fun _ _ ⟨ρ2, s2, d2, e2, sr2, r2, po2⟩ =>
    hp ρ2 s2 _ σ _ _ _ _ _ sr2 (r1.mono e2) r2 ((Po.bind po2).imp fun v H3 ⟨ρ3, s3, d3, e3, sr3, r3, po3⟩ => by
      cases d3 with
      | bl q =>
        have e : v = .bl q := r3
        subst e
        cases q with
        | true => exact ⟨true, rfl, ρ3, env, s3, sr3, ((er.mono e1).mono e2).mono e3, (Po.bind po3).imp fun _ _ ⟨ρ4, s4, d4, e4, sr4, r4, po4⟩ => hp' ρ4 s4 _ σ _ _ _ _ _ sr4 ((r2.mono e3).mono e4) r4 po4⟩
        | false => exact ⟨false, rfl, po3 ρ3 H3 _ Ext.refl sr3 rfl⟩
      | _ => exact po3.elim)⟩⟩
theorem je_ch {op op' : CmpOp} {f g : D → D → Sto → Rs D} {r r' : R2} (ho : OpR X (compareOp op) r) (ho' : OpR X (compareOp op') r') (hp : Pr2 X W f r) (hp' : Pr2 X W g r') (ha : JE X W a ma) (hb : JE X W b mb) (hc : JE X W c mc)
    (hm : lastMarks [op, op'] [b, c] = false := by with_unfolding_all rfl) : JE X W (.Compare a [op, op'] [b, c] pos) (mCh f g ma mb mc) := PE_imp (pe_chain ho ho' ha hb hc hm) fun _ _ _ => lch hp hp'
theorem jt_ch {op op' : CmpOp} {f g : D → D → Sto → Rs D} {r r' : R2} (ho : OpR X (compareOp op) r) (ho' : OpR X (compareOp op') r') (hp : Pr2 X W f r) (hp' : Pr2 X W g r') (ha : JE X W a ma) (hb : JE X W b mb) (hc : JE X W c mc)
    (hm : lastMarks [op, op'] [b, c] = false := by with_unfolding_all rfl) : JT X W (.Compare a [op, op'] [b, c] pos) (toB (mCh f g ma mb mc)) := PT_imp (pt_chain ho ho' ha hb hc hm) fun _ _ _ h => ltoB (fun _ => lch hp hp') h
/-! ### built-ins by name, methods, subscripts, displays -/
variable {id T : String} {x : Str} {p apos : Pos} {e : Expr}
theorem je_cb {f : List D → Sto → Rs D} {r : List V → Hp → VK → Prop} (hc : CallR X (.builtin id) r) (hp : PrN X W f r) (hg : Gl X x) (hm : X.mg x = none) (hv : bootBuiltins x = some (.builtin id)) (ha : JA X W (e :: es) ms) (hn : x ≠ "__name__" := by decide) (hdb : (x == ("__debug__" : Str)) = false := by decide)
    (he : starEach (e :: es) X.env = (false, eval e X.env) :: starEach es X.env := by rfl) (hpl : (backTo pos (starEach es X.env)).any (·.1) = false := by rfl) : JE X W (.Call (.Name x p) (e :: es) [] pos) (mN f ms) :=
  PE_imp (pe_callB hc hg hm hv ha hn hdb he hpl) fun _ _ _ => lcb hp
theorem je_ct {f : List D → Sto → Rs D} {r : List V → Hp → VK → Prop} (hc : CallR X (.type T) r) (hp : PrN X W f r) (hg : Gl X x) (hm : X.mg x = none) (hv : bootBuiltins x = some (.type T)) (ha : JA X W (e :: es) ms) (hn : x ≠ "__name__" := by decide) (hdb : (x == ("__debug__" : Str)) = false := by decide)
    (he : starEach (e :: es) X.env = (false, eval e X.env) :: starEach es X.env := by rfl) (hpl : (backTo pos (starEach es X.env)).any (·.1) = false := by rfl) : JE X W (.Call (.Name x p) (e :: es) [] pos) (mN f ms) :=
  PE_imp (pe_callTy hc hg hm hv ha hn hdb he hpl) fun _ _ _ => lcb hp
/-- the receiver of a built-in's method is of its type -/
def isTy (T : String) (s : Sto) : D → Bool
  | .str _ => T == "str"
  | .ref n => match s[n]? with
    | some (.lst _) => T == "list"
    | some (.frz _) => T == "list"
    | some (.dict _ _) => T == "dict"
    | _ => false
  | _ => false
def mBM (T : String) (f : D → List D → Sto → Rs D) (ma : EM D) (ms : EM (List D)) : EM D := fun env s => (ma env s).bind fun x s1 => if isTy T s1 x then (ms env s1).bind fun xs s2 => f x xs s2 else .no
theorem isTy_tyV {K : PySem.W.Frag} {mg : Str → Option Value} {ρ : Nat → Addr} {s : Sto} {H : Hp} {d : D} {v : V} (sr : SR K mg ρ s H) (r : VR K ρ s.length H d v) (h : isTy T s d = true) : tyV K T v H := by
  cases d with
  | str y =>
    have e : v = .str y := r
    subst e
    exact eq_of_beq h
  | ref n =>
    rw [VR] at r
    obtain ⟨hn, rfl⟩ := r
    have h2 : (match s[n]? with
      | some (.lst _) => T == "list"
      | some (.frz _) => T == "list"
      | some (.dict _ _) => T == "dict"
      | _ => false) = true := h
    cases e : s[n]? with
    | none => rw [e] at h2; cases h2
    | some o =>
      rw [e] at h2
      have ob := sr.ob n o e
      cases o with
      | lst xs =>
        obtain ⟨vs, q, _⟩ := ob
        exact .inl ⟨eq_of_beq h2, vs, .of q⟩
      | frz xs =>
        obtain ⟨vs, q, _⟩ := ob
        exact .inl ⟨eq_of_beq h2, vs, q.sq⟩
      | dict t kvs =>
        have e2 : T = "dict" := eq_of_beq h2
        cases t with
        | false =>
          obtain ⟨vs, q, _⟩ := ob
          exact .inr (.inr (.inl ⟨e2, .inl ⟨vs, q⟩⟩))
        | true =>
          obtain ⟨vs, q, _⟩ := ob
          exact .inr (.inr (.inl ⟨e2, .inr ⟨vs, q⟩⟩))
      | ins c fs => cases h2
      | lck t kvs => cases h2
      | set xs => cases h2
      | ptp xs => cases h2
  | _ => cases h
variable {o : Expr} {name : Str} {cpos : Pos} {mo : EM D}
theorem lbm {f : D → List D → Sto → Rs D} {r : V → List V → Hp → VK → Prop} (hp : PrM X W f r) {σ : L2.St} {H : Hp} {Q : VK} (h : lE X.K X.mg W (mBM T f mo ms) σ H Q) : tBM X.K T r (lE X.K X.mg W mo) (lA X.K X.mg W ms) σ H Q :=
  let ⟨ρ, env, s, sr, er, po⟩ := h
  ⟨ρ, env, s, sr, er, (Po.bind po).imp fun _ H1 ⟨ρ1, s1, d1, e1, sr1, r1, po1⟩ => by
    dsimp only at po1
    cases hty : isTy T s1 d1 with
    | false =>
      rw [hty, if_neg Bool.false_ne_true] at po1
      exact po1.elim
    | true =>
      rw [hty, if_pos rfl] at po1
      exact ⟨isTy_tyV sr1 r1 hty, ρ1, env, s1, sr1, er.mono e1, (Po.bind po1).imp fun _ _ ⟨ρ2, s2, d2, e2, sr2, r2, po2⟩ => hp ρ2 s2 _ σ _ _ _ _ Q sr2 (r1.mono e2) r2 po2⟩⟩
theorem je_bm {f : D → List D → Sto → Rs D} {r : V → List V → Hp → VK → Prop} (pa : PlainAttrs T) (slot : Slot T name id) (hty : typeOf (.builtin id) = pure (.type "method_descriptor")) (hm : MtR X id r) (hp : PrM X W f r) (ho : JE X W o mo) (ha : JA X W (e :: es) ms)
    (hbase : attributeBase o name X.env (eval o X.env) = eval o X.env := by rfl)
    (hfew : ((backTo cpos (starEach (e :: es) X.env)).all (fun x => !x.1) && (backToKw cpos (keywordEach [] X.env)).all (fun x => x.1.isSome)
      && decide ((e :: es).length + ([] : List Keyword).length + (if ([] : List Keyword).isEmpty then 0 else 1) < 30)) = true := by rfl)
    (hline : (apos.endLine == cpos.line) = true := by rfl) (hs : starEach (e :: es) X.env = (false, eval e X.env) :: starEach es X.env := by rfl) (hplain : (backTo cpos (starEach es X.env)).any (·.1) = false := by rfl) :
    JE X W (.Call (.Attribute o name apos) (e :: es) [] cpos) (mBM T f mo ms) := PE_imp (pe_bm pa slot hty hm ho ha hbase hfew hline hs hplain) fun _ _ _ => lbm hp
theorem je_ix {f : D → D → Sto → Rs D} {r : R2} (hr : IxR X r) (hp : Pr2 X W f r) (ha : JE X W a ma) (hb : JE X W b mb) (hs : PlainIx b := by exact fun _ _ => rfl) : JE X W (.Subscript a b pos) (m2 f ma mb) := PE_imp (pe_ix hr ha hb hs) fun _ _ _ => lop hp
/-! ### slices -/
abbrev RO : Rl (Option Int) (Option Int) := fun _ _ _ b c => b = c
abbrev JO (X : Cx) (W : WX) (e : Option Expr) (m : EM (Option Int)) : Prop := PO X e (lG X.K X.mg RO W m)
def oN : EM (Option Int) := fun _ s => .ok none s
def oS (m : EM D) : EM (Option Int) := fun env s => (m env s).bind fun d s1 => match d with
  | .int i => .ok (some i) s1
  | _ => .no
theorem PO_imp {e : Option Expr} {t t' : TO} (h : PO X e t) (i : ∀ σ H Q, t' σ H Q → t σ H Q) : PO X e t' := ⟨fun p s σ H Q I q => h.run p s σ H Q I (i σ H Q q)⟩
theorem jo_none : JO X W none oN := PO_imp po_none fun σ H Q ⟨ρ, env, s, sr, er, po⟩ => po ρ H _ Ext.refl sr rfl
theorem jo_some (h : JE X W a ma) : JO X W (some a) (oS ma) := PO_imp (po_some h) fun σ H Q ⟨ρ, env, s, sr, er, po⟩ => ⟨ρ, env, s, sr, er, (Po.bind po).imp fun v H1 ⟨ρ1, s1, d1, e1, sr1, r1, po1⟩ => by
  cases d1 with
  | int i =>
    have e : v = .int i := r1
    exact ⟨i, e, po1 ρ1 H1 _ Ext.refl sr1 rfl⟩
  | _ => exact po1.elim⟩
def PrS (X : Cx) (W : WX) (f : D → Option Int → Option Int → Sto → Rs D) (r : V → Option Int → Option Int → Hp → VK → Prop) : Prop :=
  ∀ (ρ : Nat → Addr) (s : Sto) (H : Hp) (σ : L2.St) (x : D) (vx : V) (lo hi : Option Int) (Q : VK), SR X.K X.mg ρ s H → VR X.K ρ s.length H x vx → Po X.K X.mg (VR X.K) W σ ρ s.length H (f x lo hi s) Q → r vx lo hi H Q
def mSl (f : D → Option Int → Option Int → Sto → Rs D) (ma : EM D) (ml mh : EM (Option Int)) : EM D := fun env s => (ma env s).bind fun x s1 => (ml env s1).bind fun lo s2 => (mh env s2).bind fun hi s3 => f x lo hi s3
theorem je_sl {f : D → Option Int → Option Int → Sto → Rs D} {r : V → Option Int → Option Int → Hp → VK → Prop} {lo hi : Option Expr} {ml mh : EM (Option Int)} {p2 : Pos} (hr : SlR X r) (hp : PrS X W f r) (he : JE X W a ma) (hl : JO X W lo ml) (hu : JO X W hi mh) :
    JE X W (.Subscript a (.Slice lo hi none p2) pos) (mSl f ma ml mh) := PE_imp (pe_slice hr he hl hu) fun σ H Q ⟨ρ, env, s, sr, er, po⟩ =>
  ⟨ρ, env, s, sr, er, (Po.bind po).imp fun _ _ ⟨ρ1, s1, d1, e1, sr1, r1, po1⟩ => ⟨ρ1, env, s1, sr1, er.mono e1, (Po.bind po1).imp fun _ _ ⟨ρ2, s2, d2, e2, sr2, r2, po2⟩ =>
    ⟨ρ2, env, s2, sr2, (er.mono e1).mono e2, (Po.bind po2).imp fun _ _ ⟨ρ3, s3, d3, e3, sr3, r3, po3⟩ => by
      cases r2
      cases r3
      exact hp ρ3 s3 _ σ _ _ _ _ Q sr3 ((r1.mono e2).mono e3) po3⟩⟩⟩
/-! ### displays -/
theorem new_tup {K : PySem.W.Frag} {mg : Str → Option Value} {ρ : Nat → Addr} {s : Sto} {H : Hp} {ds : List D} {vs : List V} {q : Addr} (sr : SR K mg ρ s H) (hq : H q = none) (r : VRs K ρ s.length H ds vs) :
    Ext ρ s.length H ρ s.length (upd H q (.tup vs)) ∧ SR K mg ρ s (upd H q (.tup vs)) ∧ VR K ρ s.length (upd H q (.tup vs)) (.tup ds) (.ref q) := by
  have st : ∀ b o, H b = some o → upd H q (.tup vs) b = some o := fun b o e => by rw [upd_ne (ne_of_none e hq)]; exact e
  refine ⟨Ext.same st, sr.grow st, ?_⟩
  rw [VR]
  exact ⟨q, vs, rfl, .of upd_same, r.mono (Ext.same st)⟩
theorem new_lst {K : PySem.W.Frag} {mg : Str → Option Value} {ρ : Nat → Addr} {s : Sto} {H : Hp} {ds : List D} {vs : List V} {q : Addr} (sr : SR K mg ρ s H) (hq : H q = none) (r : VRs K ρ s.length H ds vs) :
    Ext ρ s.length H (ρup ρ s.length q) (s ++ [SO.lst ds]).length (upd H q (.lst vs)) ∧ SR K mg (ρup ρ s.length q) (s ++ [.lst ds]) (upd H q (.lst vs)) ∧ VR K (ρup ρ s.length q) (s ++ [SO.lst ds]).length (upd H q (.lst vs)) (.ref s.length) (.ref q) := by
  have st : ∀ b o, H b = some o → upd H q (.lst vs) b = some o := fun b o e => by rw [upd_ne (ne_of_none e hq)]; exact e
  rw [List.length_append]
  refine ⟨Ext.alloc st, sr.alloc hq st ⟨vs, upd_same, r.mono (Ext.alloc st)⟩, ?_⟩
  rw [VR]
  exact ⟨by simp, by rw [ρup_same]⟩
def fTup : List D → Sto → Rs D := fun ds s => if ds.length ≤ sizeLine then .ok (.tup ds) s else .no
def fLst : List D → Sto → Rs D := fun ds s => if ds.length ≤ sizeLine then .ok (.ref s.length) (s ++ [.lst ds]) else .no
theorem je_tup {k : Nat} (h : JA X W es ms) : JE X W (.Tuple es k pos) (mN fTup ms) := PE_imp (pe_tup h) fun σ H Q ⟨ρ, env, s, sr, er, po⟩ => ⟨ρ, env, s, sr, er, (Po.bind po).imp fun _ H1 ⟨ρ1, s1, d1, e1, sr1, r1, po1⟩ => by
  obtain ⟨hl, po1⟩ := Po.ite (c := d1.length ≤ sizeLine) po1
  · refine ⟨by rw [r1.length]; exact hl, fun q hq => ?_⟩
    obtain ⟨e2, sr2, r2⟩ := new_tup sr1 hq r1
    exact po1 ρ1 _ _ e2 sr2 r2⟩
theorem je_lst (h : JA X W es ms) : JE X W (.List es pos) (mN fLst ms) := PE_imp (pe_lst h) fun σ H Q ⟨ρ, env, s, sr, er, po⟩ => ⟨ρ, env, s, sr, er, (Po.bind po).imp fun _ H1 ⟨ρ1, s1, d1, e1, sr1, r1, po1⟩ => by
  obtain ⟨hl, po1⟩ := Po.ite (c := d1.length ≤ sizeLine) po1
  · refine ⟨by rw [r1.length]; exact hl, fun q hq => ?_⟩
    obtain ⟨e2, sr2, r2⟩ := new_lst sr1 hq r1
    exact po1 _ _ _ e2 sr2 r2⟩
end
end Z

set_option Elab.async false
set_option linter.all false
set_option maxRecDepth 100000
set_option maxHeartbeats 4000000
namespace Z
open PySem PySem.Spec PyProof.Rows L2
variable [Row]

/-! ### statements -/
def PoS (K : PySem.W.Frag) (mg : Str → Option Value) (W : WX) (D : Ends) (ρ : Nat → Addr) (n : Nat) (H : Hp) (r : RS) : Prop :=
  match r with
  | .nx e s' => ∀ ρ' H' σ', Ext ρ n H ρ' s'.length H' → SR K mg ρ' s' H' → EnvR K ρ' s'.length H' e σ' → D.nx σ' H'
  | .rt d s' => ∀ ρ' H' v, Ext ρ n H ρ' s'.length H' → SR K mg ρ' s' H' → VR K ρ' s'.length H' d v → D.rt v H'
  | .bk e s' => ∀ ρ' H' σ', Ext ρ n H ρ' s'.length H' → SR K mg ρ' s' H' → EnvR K ρ' s'.length H' e σ' → D.bk σ' H'
  | .ct e s' => ∀ ρ' H' σ', Ext ρ n H ρ' s'.length H' → SR K mg ρ' s' H' → EnvR K ρ' s'.length H' e σ' → D.ct σ' H'
  | .ex c f d e s' => ∀ ρ' H' σ' C dx v, Ext ρ n H ρ' s'.length H' → SR K mg ρ' s' H' → EnvR K ρ' s'.length H' e σ' → mg c = some (.ref C) → VR K ρ' s'.length H' d v → H' dx = some (.xd [(f, v)]) → W (.ref C) (some dx) σ' H'
  | .no => False
section
variable {K : PySem.W.Frag} {mg : Str → Option Value} {ρ ρ' ρ1 : Nat → Addr} {n n' n1 : Nat} {H H' H1 : Hp} {W : WX} {D : Ends}
theorem PoS.rebase {r : RS} (h : PoS K mg W D ρ n H r) (e : Ext ρ n H ρ1 n1 H1) : PoS K mg W D ρ1 n1 H1 r := by
  cases r with
  | nx env s => exact fun ρ' H' σ' e' => h ρ' H' σ' (e.trans e')
  | rt d s => exact fun ρ' H' v e' => h ρ' H' v (e.trans e')
  | bk env s => exact fun ρ' H' σ' e' => h ρ' H' σ' (e.trans e')
  | ct env s => exact fun ρ' H' σ' e' => h ρ' H' σ' (e.trans e')
  | ex c f d env s => exact fun ρ' H' σ' C dx v e' => h ρ' H' σ' C dx v (e.trans e')
  | no => exact h
def MidS (K : PySem.W.Frag) (mg : Str → Option Value) (ρ : Nat → Addr) (n : Nat) (H : Hp) (σ : L2.St) (H1 : Hp) (k : (Nat → Addr) → Ev → Sto → Prop) : Prop :=
  ∃ ρ1 env1 s1, Ext ρ n H ρ1 s1.length H1 ∧ SR K mg ρ1 s1 H1 ∧ EnvR K ρ1 s1.length H1 env1 σ ∧ k ρ1 env1 s1
theorem PoS.imp {D' : Ends} {r : RS} (h : PoS K mg W D ρ n H r) (h1 : ∀ σ H, D.nx σ H → D'.nx σ H) (h2 : ∀ v H, D.rt v H → D'.rt v H) (h3 : ∀ σ H, D.bk σ H → D'.bk σ H) (h4 : ∀ σ H, D.ct σ H → D'.ct σ H) : PoS K mg W D' ρ n H r := by
  cases r with
  | nx env s => exact fun ρ' H' σ' e sr er => h1 _ _ (h ρ' H' σ' e sr er)
  | rt d s => exact fun ρ' H' v e sr r => h2 _ _ (h ρ' H' v e sr r)
  | bk env s => exact fun ρ' H' σ' e sr er => h3 _ _ (h ρ' H' σ' e sr er)
  | ct env s => exact fun ρ' H' σ' e sr er => h4 _ _ (h ρ' H' σ' e sr er)
  | ex c f d env s => exact h
  | no => exact h
theorem PoS.seq {r : RS} {k : SM} (h : PoS K mg W D ρ n H (r.seq k)) :
    PoS K mg W { D with nx := fun σ H1 => MidS K mg ρ n H σ H1 fun ρ1 env1 s1 => PoS K mg W D ρ1 s1.length H1 (k env1 s1) } ρ n H r := by
  cases r with
  | nx env s => exact fun ρ' H' σ' e sr er => ⟨ρ', env, s, e, sr, er, PoS.rebase h e⟩
  | _ => exact h
theorem PoS.st {α β : Type} {R : Rl α β} {σ : L2.St} {r : Rs α} {env : Ev} {k : α → Sto → RS} (er : EnvR K ρ n H env σ) (h : PoS K mg W D ρ n H (r.st env k)) :
    Po K mg R W σ ρ n H r (fun v H1 => Mid K mg R ρ n H v H1 fun ρ1 s1 d => EnvR K ρ1 s1.length H1 env σ ∧ PoS K mg W D ρ1 s1.length H1 (k d s1)) := by
  cases r with
  | ok d s => exact fun ρ' H' v e sr r => ⟨ρ', s, d, e, sr, r, er.mono e, PoS.rebase h e⟩
  | ex c f d s => exact fun ρ' H' C dx v e sr => h ρ' H' σ C dx v e sr (er.mono e)
  | no => exact h
end
def lS (K : PySem.W.Frag) (mg : Str → Option Value) (W : WX) (m : SM) : TS :=
  fun D σ H => ∃ ρ env s, SR K mg ρ s H ∧ EnvR K ρ s.length H env σ ∧ PoS K mg W D ρ s.length H (m env s)
abbrev JS (X : Cx) (W : WX) (st : Stmt) (m : SM) : Prop := PS X st (lS X.K X.mg W m)
abbrev JSs (X : Cx) (W : WX) (st : List Stmt) (m : SM) : Prop := PSs X st (lS X.K X.mg W m)
def sN : SM := fun e s => .nx e s
def sC (a b : SM) : SM := fun e s => (a e s).seq b
def sA (i : Nat) (m : EM D) : SM := fun e s => (m e s).st e fun d s1 => .nx (e.set i (some d)) s1
def sE (m : EM D) : SM := fun e s => (m e s).st e fun _ s1 => .nx e s1
def sR (m : EM D) : SM := fun e s => (m e s).st e fun d s1 => .rt d s1
def sR0 : SM := fun _ s => .rt .non s
def sI (t : EM Bool) (a b : SM) : SM := fun e s => (t e s).st e fun q s1 => if q then a e s1 else b e s1
def sNo : SM := fun _ _ => .no
section
variable {X : Cx} {W : WX} {st : Stmt} {rest : List Stmt} {a b : SM} {e : Expr} {m : EM D} {pos : Pos}
theorem js_nil : JSs X W [] sN := PSs_imp pss_nil fun σ H D ⟨ρ, env, s, sr, er, po⟩ => po ρ H σ Ext.refl sr er
theorem js_cons (h1 : JS X W st a) (h2 : JSs X W rest b) : JSs X W (st :: rest) (sC a b) := PSs_imp (pss_cons h1 h2) fun σ H D ⟨ρ, env, s, sr, er, po⟩ =>
  ⟨ρ, env, s, sr, er, (PoS.seq po).imp (fun σ1 H1 ⟨ρ1, env1, s1, e1, sr1, er1, po1⟩ => ⟨ρ1, env1, s1, sr1, er1, po1⟩) (fun _ _ h => h) (fun _ _ h => h) fun _ _ h => h⟩
theorem js_one (h1 : JS X W st a) : JSs X W [st] a := pss_one h1
theorem js_expr (he : JE X W e m) (hs : swapsWith e none pos.line X.env = pure false := by rfl) : JS X W (.Expr e pos) (sE m) := PS_imp (ps_expr he hs) fun σ H D ⟨ρ, env, s, sr, er, po⟩ =>
  ⟨ρ, env, s, sr, er, (PoS.st (R := VR X.K) er po).imp fun v H1 ⟨ρ1, s1, d1, e1, sr1, r1, er1, po1⟩ => po1 ρ1 H1 σ Ext.refl sr1 er1⟩
theorem js_ret (he : JE X W e m) : JS X W (.Return (some e) pos) (sR m) := PS_imp (ps_ret he) fun σ H D ⟨ρ, env, s, sr, er, po⟩ =>
  ⟨ρ, env, s, sr, er, (PoS.st (R := VR X.K) er po).imp fun v H1 ⟨ρ1, s1, d1, e1, sr1, r1, er1, po1⟩ => po1 ρ1 H1 v Ext.refl sr1 r1⟩
theorem js_if {c : Expr} {t : EM Bool} {as bs : List Stmt} (ht : JT X W c t) (ha : JSs X W as a) (hb : JSs X W bs b) : JS X W (.If c as bs pos) (sI t a b) := PS_imp (ps_if ht ha hb) fun σ H D ⟨ρ, env, s, sr, er, po⟩ =>
  ⟨ρ, env, s, sr, er, (PoS.st (R := RB) er po).imp fun v H1 ⟨ρ1, s1, d1, e1, sr1, r1, er1, po1⟩ => by
    have q : d1 = v := r1
    subst q
    cases d1 with
    | true => exact ⟨ρ1, env, s1, sr1, er1, po1⟩
    | false => exact ⟨ρ1, env, s1, sr1, er1, po1⟩⟩
/-! ### assignments -/
/-- a target's store -/
abbrev GM := D → Ev → Sto → Option (Ev × Sto)
def PrG (X : Cx) (g : TG) (f : GM) : Prop :=
  ∀ (ρ : Nat → Addr) (s : Sto) (H : Hp) (σ : L2.St) (env : Ev) (x : D) (vx : V) (Q : L2.St → Hp → Prop) (env' : Ev) (s' : Sto), SR X.K X.mg ρ s H → EnvR X.K ρ s.length H env σ → VR X.K ρ s.length H x vx → f x env s = some (env', s') →
    (∀ ρ' H' σ', Ext ρ s.length H ρ' s'.length H' → SR X.K X.mg ρ' s' H' → EnvR X.K ρ' s'.length H' env' σ' → Q σ' H') → g vx σ H Q
/-- targets that keep the store: names, tuples of names -/
abbrev GN := D → Ev → Option Ev
def gN (i : Nat) : GN := fun d e => some (e.set i (some d))
def gTs : List GN → List D → Ev → Option Ev
  | [], [], e => some e
  | g :: gs, d :: ds, e => (g d e).bind fun e' => gTs gs ds e'
  | _, _, _ => none
def gT (gs : List GN) : GN := fun d e => match d with
  | .tup ds => gTs gs ds e
  | _ => none
theorem wipe_set {σ : L2.St} {i : Nat} {v : Option V} : ∀ {vs : List Nat}, i ∈ vs → wipe (σ.set i v) vs = wipe σ vs
  | [], h => by simp at h
  | w :: vs, h => by
    show (wipe (σ.set i v) vs).set w none = (wipe σ vs).set w none
    by_cases hm : i ∈ vs
    · rw [wipe_set hm]
    · have hw : i = w := by
        rcases List.mem_cons.mp h with h | h
        · exact h
        · exact absurd h hm
      subst hw
      have out : ∀ {us : List Nat}, i ∉ us → wipe (σ.set i v) us = (wipe σ us).set i v := by
        intro us
        induction us with
        | nil => intro _; rfl
        | cons u us ih =>
          intro hu
          simp only [List.mem_cons, not_or] at hu
          show (wipe (σ.set i v) us).set u none = ((wipe σ us).set u none).set i v
          rw [ih hu.2, List.set_comm _ _ hu.1]
      rw [out hm, List.set_set]
/-- a target's reading: it sets the slots at is alone -/
def GQ (K : PySem.W.Frag) (f : GN) (is : List Nat) (g : TG) : Prop :=
  ∀ (ρ : Nat → Addr) (s : Sto) (H : Hp) (σ : L2.St) (env env' : Ev) (x : D) (vx : V) (Q : L2.St → Hp → Prop), EnvR K ρ s.length H env σ → VR K ρ s.length H x vx → f x env = some env' →
    (∀ σ', EnvR K ρ s.length H env' σ' → (∀ vs, (∀ i ∈ is, i ∈ vs) → wipe σ' vs = wipe σ vs) → Q σ' H) → g vx σ H Q
def GQs (K : PySem.W.Frag) (fs : List GN) (is : List Nat) (g : TGs) : Prop :=
  ∀ (ρ : Nat → Addr) (s : Sto) (H : Hp) (σ : L2.St) (env env' : Ev) (xs : List D) (vs : List V) (Q : L2.St → Hp → Prop), EnvR K ρ s.length H env σ → VRs K ρ s.length H xs vs → gTs fs xs env = some env' →
    (∀ σ', EnvR K ρ s.length H env' σ' → (∀ vs, (∀ i ∈ is, i ∈ vs) → wipe σ' vs = wipe σ vs) → Q σ' H) → g vs σ H Q
theorem gq_n {K : PySem.W.Frag} {i : Nat} : GQ K (gN i) [i] (gName i) := fun ρ s H σ env env' x vx Q er r e q => by
  cases e
  exact q _ (er.set r) fun vs h => wipe_set (h i (by simp))
theorem gqs_nil {K : PySem.W.Frag} : GQs K [] [] gNil := fun ρ s H σ env env' xs vs Q er r e q => by
  cases xs with
  | nil =>
    rw [VRs] at r
    subst r
    cases e
    exact ⟨rfl, q _ er fun _ _ => rfl⟩
  | cons _ _ => cases e
theorem gqs_cons {K : PySem.W.Frag} {f : GN} {fs : List GN} {is js : List Nat} {g : TG} {gs : TGs} (h : GQ K f is g) (hs : GQs K fs js gs) : GQs K (f :: fs) (is ++ js) (gCons g gs) := fun ρ s H σ env env' xs vs Q er r e k => by
  cases xs with
  | nil => cases e
  | cons x xs =>
    obtain ⟨v, vr, rfl, r1, r2⟩ := r.uncons
    obtain ⟨e1, h1, h2⟩ := Option.bind_eq_some_iff.mp e
    exact ⟨v, vr, rfl, h ρ s H σ env e1 x v _ er r1 h1 fun σ' er' w1 => hs ρ s H σ' e1 env' xs vr Q er' r2 h2 fun σ2 er2 w2 => k σ2 er2 fun vs hv => (w2 vs fun i hi => hv i (List.mem_append_right _ hi)).trans (w1 vs fun i hi => hv i (List.mem_append_left _ hi))⟩
theorem gTs_len : ∀ {fs : List GN} {xs : List D} {e e' : Ev}, gTs fs xs e = some e' → xs.length = fs.length
  | [], [], _, _, _ => rfl
  | [], _ :: _, _, _, h => by cases h
  | _ :: _, [], _, _, h => by cases h
  | f :: fs, x :: xs, e, e', h => by
    obtain ⟨e1, h1, h2⟩ := Option.bind_eq_some_iff.mp h
    rw [List.length_cons, List.length_cons, gTs_len h2]
theorem gq_t {K : PySem.W.Frag} {fs : List GN} {is : List Nat} {gs : TGs} {n : Nat} (h : GQs K fs is gs) (hn : fs.length = n := by rfl) : GQ K (gT fs) is (gTup K n gs) := fun ρ s H σ env env' x vx Q er r e k => by
  cases x with
  | tup ds =>
    rw [VR] at r
    obtain ⟨a, vs, rfl, sq, r⟩ := r
    exact ⟨a, vs, rfl, sq, by rw [r.length, gTs_len e, hn], h ρ s H σ env env' ds vs Q er r e k⟩
  | _ => cases e
/-- target = e -/
def sG (g : GN) (m : EM D) : SM := fun e s => (m e s).st e fun d s1 => match g d e with
  | some e' => .nx e' s1
  | none => .no
theorem js_asg {tg : Expr} {g : GN} {g' : TG} {is : List Nat} (he : JE X W e m) (hg' : PG X tg g') (q : GQ X.K g is g') (hs : swapsWithSole [tg] e pos.line X.env = pure false := by rfl) (hw : swappedStores [tg] e X.env = pure none := by rfl)
    (h1 : (assignEach [tg] X.env).map (·.2) = [assign tg X.env] := by rfl) : JS X W (.Assign [tg] e pos) (sG g m) := by
  refine PS_imp (ps_asg he hg' hs hw h1) fun σ H D ⟨ρ, env, s, sr, er, po⟩ => ⟨ρ, env, s, sr, er, (PoS.st (R := VR X.K) er po).imp fun v H1 ⟨ρ1, s1, d1, e1, sr1, r1, er1, po1⟩ => ?_⟩
  cases hq : g d1 env with
  | none => rw [hq] at po1; exact po1.elim
  | some env' =>
    rw [hq] at po1
    exact q ρ1 s1 H1 σ env env' d1 v _ er1 r1 hq fun σ' er' _ => po1 ρ1 H1 σ' Ext.refl sr1 er'
theorem js_set {i : Nat} {x : Str} {pos' : Pos} (hN : X.N.Nodup) (hi : X.N[i]? = some x) (hx : Loc X.env.scope x) (he : JE X W e m) (hs : swapsWith e (some (.Name x pos')) pos.line X.env = pure false := by rfl) (hf : X.fn x = true ∨ X.env.scope.names.lookup x = some .local := by first | exact .inl rfl | exact .inr rfl | assumption) :
    JS X W (.Assign [.Name x pos'] e pos) (sA i m) := PS_imp (ps_set hN hi hx he hs hf) fun σ H D ⟨ρ, env, s, sr, er, po⟩ =>
  ⟨ρ, env, s, sr, er, (PoS.st (R := VR X.K) er po).imp fun v H1 ⟨ρ1, s1, d1, e1, sr1, r1, er1, po1⟩ => po1 ρ1 H1 _ Ext.refl sr1 (er1.set r1)⟩
/-- a, b = x, y -/
def sP (i j : Nat) (ms : EM (List D)) : SM := fun e s => (ms e s).st e fun ds s1 => match ds with
  | [x, y] => .nx ((e.set i (some x)).set j (some y)) s1
  | _ => .no
theorem js_par {i j : Nat} {x y : Str} {ea eb : Expr} {ms : EM (List D)} {px py pt : Pos} {kt k2 pt2} (hc : X.calm = true) (hN : X.N.Nodup) (hi : X.N[i]? = some x) (hj : X.N[j]? = some y) (hij : i ≠ j)
    (hx : X.env.scope.names.lookup x = some .local) (hy : X.env.scope.names.lookup y = some .local) (ha : JA X W [ea, eb] ms)
    (hw : swappedStores [.Tuple [.Name x px, .Name y py] kt pt] (.Tuple [ea, eb] k2 pt2) X.env = pure (some [x, y]))
    (hs : swapsWithSole [.Tuple [.Name x px, .Name y py] kt pt] (.Tuple [ea, eb] k2 pt2) pos.line X.env = pure false := by rfl) :
    JS X W (.Assign [.Tuple [.Name x px, .Name y py] kt pt] (.Tuple [ea, eb] k2 pt2) pos) (sP i j ms) := PS_imp (ps_par hc hN hi hj hij hx hy ha hw hs) fun σ H D ⟨ρ, env, s, sr, er, po⟩ =>
  ⟨ρ, env, s, sr, er, (PoS.st (R := VRs X.K) er po).imp fun v H1 ⟨ρ1, s1, d1, e1, sr1, r1, er1, po1⟩ => by
    split at po1
    · rename_i x y
      obtain ⟨v1, vr, rfl, r2, r3⟩ := r1.uncons
      obtain ⟨v2, rfl, r4⟩ := r3.one
      exact ⟨v1, v2, rfl, po1 ρ1 H1 _ Ext.refl sr1 ((er1.set r2).set r4)⟩
    · exact po1.elim⟩
/-- o[i] = e -/
def PrSet (X : Cx) (f : D → D → D → Sto → Option Sto) (t : TSet) : Prop :=
  ∀ (ρ : Nat → Addr) (s s' : Sto) (H : Hp) (o i x : D) (vo vi vx : V) (Q : Hp → Prop), SR X.K X.mg ρ s H → VR X.K ρ s.length H o vo → VR X.K ρ s.length H i vi → VR X.K ρ s.length H x vx → f o i x s = some s' →
    (∀ ρ' H', Ext ρ s.length H ρ' s'.length H' → SR X.K X.mg ρ' s' H' → Q H') → t vo vi vx H Q
def sX (f : D → D → D → Sto → Option Sto) (mo mi m : EM D) : SM := fun e s => (m e s).st e fun x s1 => (mo e s1).st e fun o s2 => (mi e s2).st e fun i s3 => match f o i x s3 with
  | some s4 => .nx e s4
  | none => .no
theorem js_sub {o i : Expr} {mo mi : EM D} {f : D → D → D → Sto → Option Sto} {t : TSet} {spos : Pos} (ht : PSet X t) (hp : PrSet X f t) (he : JE X W e m) (ho : JE X W o mo) (hi : JE X W i mi)
    (ha : ∀ v, assign (.Subscript o i spos) X.env v = (do
      let ov ← holding [v] (eval o X.env)
      let iv ← holding [v, ov] (eval i X.env)
      standAt spos
      holding [v, ov, iv] (setItem ov iv v)
      release [v, ov, iv] []) := by intro _; rfl)
    (hs : swapsWithSole [.Subscript o i spos] e pos.line X.env = pure false := by rfl) (hw : swappedStores [.Subscript o i spos] e X.env = pure none := by rfl)
    (h1 : (assignEach [.Subscript o i spos] X.env).map (·.2) = [assign (.Subscript o i spos) X.env] := by rfl) : JS X W (.Assign [.Subscript o i spos] e pos) (sX f mo mi m) :=
  PS_imp (ps_asg he (pg_sub ho hi ht ha) hs hw h1) fun σ H D ⟨ρ, env, s, sr, er, po⟩ => ⟨ρ, env, s, sr, er, (PoS.st (R := VR X.K) er po).imp fun v H1 ⟨ρ1, s1, d1, e1, sr1, r1, er1, po1⟩ =>
    ⟨ρ1, env, s1, sr1, er1, (PoS.st (R := VR X.K) er1 po1).imp fun v2 H2 ⟨ρ2, s2, d2, e2, sr2, r2, er2, po2⟩ =>
      ⟨ρ2, env, s2, sr2, er2, (PoS.st (R := VR X.K) er2 po2).imp fun v3 H3 ⟨ρ3, s3, d3, e3, sr3, r3, er3, po3⟩ => by
        cases hq : f d2 d3 d1 s3 with
        | none => rw [hq] at po3; exact po3.elim
        | some s4 =>
          rw [hq] at po3
          exact hp ρ3 s3 s4 H3 d2 d3 d1 v2 v3 v _ sr3 (r2.mono e3) r3 ((r1.mono e2).mono e3) hq fun ρ' H' e4 sr4 => po3 ρ' H' σ e4 sr4 (er3.mono e4)⟩⟩⟩
end
end Z

set_option Elab.async false
set_option linter.all false
set_option maxRecDepth 100000
set_option maxHeartbeats 4000000
namespace Z
open PySem PySem.Spec PyProof.Rows L2
variable [Row]

/-! ### what is walked: at turn i over the store: none: stuck; some none: the end; else the item -/
abbrev Stp := Nat → Sto → Option (Option D)
def RI (K : PySem.W.Frag) (mg : Str → Option Value) : Rl (Nat × Stp) It := fun ρ n H jt J =>
  ∀ (ρ' : Nat → Addr) (s' : Sto) (H' : Hp) (i : Nat), Ext ρ n H ρ' s'.length H' → SR K mg ρ' s' H' → match jt.2 i s' with
    | none => True
    | some none => J.stop i H'
    | some (some d) => J.go i H' ∧ ∀ x H'', J.yld i H' x H'' → Ext ρ' s'.length H' ρ' s'.length H'' ∧ SR K mg ρ' s' H'' ∧ VR K ρ' s'.length H'' d x
abbrev JI (X : Cx) (W : WX) (tg iter : Expr) (mi : EM (Nat × Stp)) : Prop := PI X tg iter (lG X.K X.mg (RI X.K X.mg) W mi)
theorem PI_imp {X : Cx} {tg e : Expr} {t t' : TI} (h : PI X tg e t) (i : ∀ σ H Q, t' σ H Q → t σ H Q) : PI X tg e t' := ⟨fun p s σ H Q I q => h.run p s σ H Q I (i σ H Q q)⟩
def jLst (n : Nat) : Stp := fun i s => match s[n]? with
  | some (.lst xs) => some xs[i]?
  | some (.frz xs) => some xs[i]?
  | _ => none
def jTup (ds : List D) : Stp := fun i _ => some ds[i]?
def jRng (lo : Int) (n : Nat) : Stp := fun i _ => some (if i < n then some (.int (lo + i)) else none)
/-- a list or a tuple -/
def iSq (m : EM D) : EM (Nat × Stp) := fun e s => (m e s).bind fun d s1 => match d with
  | .tup ds => .ok (ds.length, jTup ds) s1
  | .ref n => match s1[n]? with
    | some (.lst xs) => .ok (xs.length, jLst n) s1
    | some (.frz xs) => .ok (xs.length, jLst n) s1
    | _ => .no
  | _ => .no
section
variable {K : PySem.W.Frag} {mg : Str → Option Value} {ρ : Nat → Addr} {s : Sto} {H : Hp}
/-- a place that is a list is read -/
def lstAt (s : Sto) (n : Nat) : Option (List D) := match s[n]? with
  | some (.lst xs) => some xs
  | some (.frz xs) => some xs
  | _ => none
theorem SR.lst (sr : SR K mg ρ s H) {n : Nat} {xs : List D} (h : lstAt s n = some xs) : ∃ vs, SqL K H (ρ n) vs ∧ VRs K ρ s.length H xs vs := by
  unfold lstAt at h
  cases e : s[n]? with
  | none => rw [e] at h; cases h
  | some o =>
    rw [e] at h
    have ob := sr.ob n o e
    cases o with
    | lst ys =>
      cases h
      obtain ⟨vs, q, r⟩ := ob
      exact ⟨vs, .of q, r⟩
    | frz ys =>
      cases h
      obtain ⟨vs, q, r⟩ := ob
      exact ⟨vs, q.sq, r⟩
    | _ => cases h
omit [Row] in
theorem lstAt_lt {n : Nat} {xs : List D} (h : lstAt s n = some xs) : n < s.length := by
  unfold lstAt at h
  cases e : s[n]? with
  | none => rw [e] at h; cases h
  | some o => exact (List.getElem?_eq_some_iff.mp e).1
omit [Row] in
theorem jLst_eq (n i : Nat) (s : Sto) : jLst n i s = (lstAt s n).map fun xs => xs[i]? := by
  unfold jLst lstAt
  cases s[n]? with
  | none => rfl
  | some o => cases o <;> rfl
end
section
variable {X : Cx} {W : WX} {pos : Pos}
/-- the list walked: what is yielded is its item -/
theorem ri_lst {ρ : Nat → Addr} {n m : Nat} {H : Hp} {N : Nat} (hm : m < n) : RI X.K X.mg ρ n H (N, jLst m) (Itl X.K (ρ m)) := by
  intro ρ' s' H' i e sr
  show match jLst m i s' with
    | none => True
    | some none => _
    | some (some d) => _
  rw [jLst_eq]
  cases h : lstAt s' m with
  | none => trivial
  | some xs =>
    obtain ⟨vs, sq, r⟩ := sr.lst h
    rw [e.ag m hm] at sq
    cases hx : xs[i]? with
    | none =>
      simp only [Option.map, hx]
      exact ⟨vs, sq, by rw [r.length]; exact List.getElem?_eq_none_iff.mp hx⟩
    | some d =>
      simp only [Option.map, hx]
      obtain ⟨v, hv, rv⟩ := r.get hx
      refine ⟨⟨vs, v, sq, hv⟩, fun x H'' y => ?_⟩
      obtain ⟨rfl, y⟩ := y
      have q := y vs sq
      rw [hv] at q
      cases q
      exact ⟨Ext.refl, sr, rv⟩
theorem ri_tup {ρ : Nat → Addr} {n : Nat} {H : Hp} {N : Nat} {ds : List D} {vs : List V} {a : Addr} (sq : SqT X.K H a vs) (r : VRs X.K ρ n H ds vs) : RI X.K X.mg ρ n H (N, jTup ds) (Itt X.K a) := by
  intro ρ' s' H' i e sr
  show match some ds[i]? with
    | none => True
    | some none => _
    | some (some d) => _
  have r' := r.mono e
  have sq' := e.sqt sq
  cases hx : ds[i]? with
  | none => exact ⟨vs, sq', by rw [r'.length]; exact List.getElem?_eq_none_iff.mp hx⟩
  | some d =>
    obtain ⟨v, hv, rv⟩ := r'.get hx
    refine ⟨⟨vs, v, sq', hv⟩, fun x H'' y => ?_⟩
    obtain ⟨rfl, y⟩ := y
    have q := y vs sq'
    rw [hv] at q
    cases q
    exact ⟨Ext.refl, sr, rv⟩
theorem ri_rng {ρ : Nat → Addr} {n : Nat} {H : Hp} {N : Nat} {lo : Int} {k : Nat} : RI X.K X.mg ρ n H (N, jRng lo k) (Itr lo k) := by
  intro ρ' s' H' i e sr
  show match some (if i < k then some (D.int (lo + i)) else none) with
    | none => True
    | some none => _
    | some (some d) => _
  by_cases h : i < k
  · rw [if_pos h]
    refine ⟨h, fun x H'' y => ?_⟩
    obtain ⟨rfl, rfl⟩ := y
    exact ⟨Ext.refl, sr, rfl⟩
  · rw [if_neg h]
    exact Nat.le_of_not_lt h
variable {tg l : Expr} {m : EM D}
/-- the walk's two kinds -/
def iLsT (K : PySem.W.Frag) (tl : TE) : TI := fun σ H R => tl σ H fun x H1 => ∃ a, x = .ref a ∧ ((∃ xs, SqL K H1 a xs) ∧ R (Itl K a) H1 ∨ (∃ xs, SqT K H1 a xs) ∧ R (Itt K a) H1)
theorem pi_sq {tl : TE} (hl : PE X l tl) : PI X tg l (iLsT X.K tl) := by
  refine ⟨fun pins s σ H R I h => ?_⟩
  refine thn (hl.run pins s σ H _ I h) fun v s1 ⟨x, H1, I1, r1, q1⟩ => ?_
  obtain ⟨a, e, q⟩ := q1
  subst e
  cases r1
  rcases q with ⟨⟨xs, hq⟩, q⟩ | ⟨⟨xs, hq⟩, q⟩
  · obtain ⟨its, rv, p, hz⟩ := I1.list hq
    refine wpAny_pyIter_list p.isList ?_
    refine ⟨s1.heap.objs.size, [s1.heap.objs.size], _, _, H1, rfl, I1.kept (t' := s1.toks) fun b o e => Heap.get?_push_of_some _ e, turn_list a _, ⟨_, Heap.get?_push_size _ rfl, rfl, rfl⟩, fun b hb => ?_, q⟩
    have e : b = s1.heap.objs.size := by simpa using hb
    subst e
    exact I1.fpOk (Nat.le_refl _) (I1.hok.fresh (Nat.le_refl _))
  · obtain ⟨its, rv, p, hz⟩ := I1.tuple hq
    refine wpAny_pyIter_tuple (show s1.heap.IsTuple a its.toArray from p) ?_
    refine ⟨s1.heap.objs.size, [s1.heap.objs.size], _, _, H1, rfl, I1.kept (t' := s1.toks) fun b o e => Heap.get?_push_of_some _ e, turn_tuple a _, ⟨_, Heap.get?_push_size _ rfl, rfl, rfl⟩, fun b hb => ?_, q⟩
    have e : b = s1.heap.objs.size := by simpa using hb
    subst e
    exact I1.fpOk (Nat.le_refl _) (I1.hok.fresh (Nat.le_refl _))
theorem ji_sq (hl : JE X W l m) : JI X W tg l (iSq m) := PI_imp (pi_sq hl) fun σ H Q ⟨ρ, env, s, sr, er, po⟩ => ⟨ρ, env, s, sr, er, (Po.bind po).imp fun v H1 ⟨ρ1, s1, d1, e1, sr1, r1, po1⟩ => by
  cases d1 with
  | tup ds =>
    rw [VR] at r1
    obtain ⟨a, vs, rfl, sq, r⟩ := r1
    exact ⟨a, rfl, .inr ⟨⟨vs, sq⟩, po1 ρ1 H1 _ Ext.refl sr1 (ri_tup sq r)⟩⟩
  | ref n =>
    rw [VR] at r1
    obtain ⟨hn, rfl⟩ := r1
    have po2 : Po X.K X.mg (RI X.K X.mg) W σ ρ1 s1.length H1 (match s1[n]? with
      | some (.lst xs) => .ok (xs.length, jLst n) s1
      | some (.frz xs) => .ok (xs.length, jLst n) s1
      | _ => .no) Q := po1
    cases e : s1[n]? with
    | none => rw [e] at po2; exact po2.elim
    | some o =>
      rw [e] at po2
      cases o with
      | lst xs =>
        obtain ⟨vs, sq, _⟩ := sr1.lst (n := n) (xs := xs) (by unfold lstAt; rw [e])
        exact ⟨_, rfl, .inl ⟨⟨vs, sq⟩, po2 ρ1 H1 _ Ext.refl sr1 (ri_lst hn)⟩⟩
      | frz xs =>
        obtain ⟨vs, sq, _⟩ := sr1.lst (n := n) (xs := xs) (by unfold lstAt; rw [e])
        exact ⟨_, rfl, .inl ⟨⟨vs, sq⟩, po2 ρ1 H1 _ Ext.refl sr1 (ri_lst hn)⟩⟩
      | _ => exact po2.elim
  | _ => exact po1.elim⟩
/-- range(n), range(a, b) -/
def iR1 (ms : EM (List D)) : EM (Nat × Stp) := fun e s => (ms e s).bind fun ds s1 => match ds with
  | [.int j] => if -(2 ^ 62) ≤ j ∧ j < 2 ^ 62 then .ok (j.toNat, jRng 0 j.toNat) s1 else .no
  | _ => .no
def iR2 (ms : EM (List D)) : EM (Nat × Stp) := fun e s => (ms e s).bind fun ds s1 => match ds with
  | [.int i, .int j] => if -(2 ^ 62) ≤ i ∧ i < 2 ^ 62 ∧ -(2 ^ 62) ≤ j ∧ j < 2 ^ 62 then .ok ((j - i).toNat, jRng i (j - i).toNat) s1 else .no
  | _ => .no
variable {a b : Expr} {ms : EM (List D)} {p : Pos}
theorem ji_range1 (hg : Gl X "range") (hm : X.mg "range" = none) (ha : JA X W [a] ms) (hs : starEach [a] X.env = [(false, eval a X.env)] := by rfl) : JI X W tg (.Call (.Name "range" p) [a] [] pos) (iR1 ms) :=
  PI_imp (pi_range1 hg hm ha hs) fun σ H Q ⟨ρ, env, s, sr, er, po⟩ => ⟨ρ, env, s, sr, er, (Po.bind po).imp fun v H1 ⟨ρ1, s1, d1, e1, sr1, r1, po1⟩ => by
    dsimp only at po1
    split at po1
    · rename_i j
      obtain ⟨u, rfl, ru⟩ := r1.one
      obtain rfl : u = .int j := ru
      obtain ⟨⟨h1, h2⟩, po1⟩ := Po.ite po1
      exact ⟨j, rfl, h1, h2, po1 ρ1 H1 _ Ext.refl sr1 ri_rng⟩
    · exact po1.elim⟩
end

/-! ### for, while -/
def forL (j : Stp) (g : GN) (body : SM) : Nat → Nat → Ev → Sto → RS
  | 0, i, e, s => match j i s with
    | some none => .nx e s
    | _ => .no
  | f + 1, i, e, s => match j i s with
    | none => .no
    | some none => .nx e s
    | some (some d) => match g d e with
      | none => .no
      | some e1 => match body e1 s with
        | .nx e2 s2 => forL j g body f (i + 1) e2 s2
        | .ct e2 s2 => forL j g body f (i + 1) e2 s2
        | .bk e2 s2 => .nx e2 s2
        | r => r
def sF (mi : EM (Nat × Stp)) (g : GN) (body : SM) : SM := fun e s => (mi e s).st e fun jt s1 => forL jt.2 g body jt.1 0 e s1
def whL (t : EM Bool) (body : SM) : Nat → Ev → Sto → RS
  | 0, _, _ => .no
  | f + 1, e, s => (t e s).st e fun q s1 => if q then match body e s1 with
      | .nx e2 s2 => whL t body f e2 s2
      | .ct e2 s2 => whL t body f e2 s2
      | .bk e2 s2 => .nx e2 s2
      | r => r
    else .nx e s1
def sW (f : Nat) (t : EM Bool) (body : SM) : SM := fun e s => whL t body f e s
section
variable {X : Cx} {W : WX} {pos : Pos}
theorem js_for {tg iter : Expr} {body : List Stmt} {mi : EM (Nat × Stp)} {g : GN} {g' : TG} {is : List Nat} {mb : SM} (hp : PassesOwn (model X.prog X.w) X.A X.env X.xe) (hc : X.calm = true) (hi : JI X W tg iter mi) (hg' : PG X tg g') (gq : GQ X.K g is g') (hb : JSs X W body mb)
    (hs : ∀ x, foldedSetIterable iter X.env x = pure x := by intro _; rfl) : JS X W (.For tg iter body [] pos) (sF mi g mb) := by
  refine PS_imp (ps_for hp hc hi hg' hb hs) fun σ H D ⟨ρ, env, s, sr, er, po⟩ => ⟨ρ, env, s, sr, er, (PoS.st (R := RI X.K X.mg) er po).imp fun J H1 ⟨ρ1, s1, jt, e1, sr1, ri, er1, po1⟩ => ?_⟩
  refine ⟨fun i m σ2 H2 => ∃ ρ2 env2 s2, Ext ρ1 s1.length H1 ρ2 s2.length H2 ∧ SR X.K X.mg ρ2 s2 H2 ∧ EnvR X.K ρ2 s2.length H2 env2 σ2 ∧ PoS X.K X.mg W D ρ2 s2.length H2 (forL jt.2 g mb m i env2 s2), ⟨jt.1, ρ1, env, s1, Ext.refl, sr1, er1, po1⟩, ?_⟩
  rintro i m σ2 H2 ⟨ρ2, env2, s2, x2, sr2, er2, po2⟩
  have hj := ri ρ2 s2 H2 i x2 sr2
  cases m with
  | zero =>
    rw [forL] at po2
    cases e : jt.2 i s2 with
    | none => rw [e] at po2; exact po2.elim
    | some o =>
      rw [e] at po2 hj
      cases o with
      | none => exact .inl ⟨hj, po2 ρ2 H2 σ2 Ext.refl sr2 er2⟩
      | some d => exact po2.elim
  | succ f =>
    rw [forL] at po2
    cases e : jt.2 i s2 with
    | none => rw [e] at po2; exact po2.elim
    | some o =>
      rw [e] at po2 hj
      cases o with
      | none => exact .inl ⟨hj, po2 ρ2 H2 σ2 Ext.refl sr2 er2⟩
      | some d =>
        dsimp only at po2 hj
        obtain ⟨go, yl⟩ := hj
        refine .inr ⟨go, _, fun σ' H' w => ⟨f, Nat.lt_succ_self f, w⟩, fun x H' y => ?_⟩
        obtain ⟨x3, sr3, r3⟩ := yl x H' y
        cases hgd : g d env2 with
        | none => rw [hgd] at po2; exact po2.elim
        | some e4 =>
          rw [hgd] at po2
          dsimp only at po2
          refine gq ρ2 s2 H' σ2 env2 e4 d x _ (er2.mono x3) r3 hgd fun σ4 er4 _ => ⟨ρ2, e4, s2, sr3, er4, ?_⟩
          have po3 := po2.rebase x3
          have x5 := x2.trans x3
          cases hb2 : mb e4 s2 with
          | nx e6 s6 =>
            rw [hb2] at po3
            intro ρ6 H6 σ6 x6 sr6 er6
            exact ⟨ρ6, e6, s6, x5.trans x6, sr6, er6, po3.rebase x6⟩
          | ct e6 s6 =>
            rw [hb2] at po3
            intro ρ6 H6 σ6 x6 sr6 er6
            exact ⟨ρ6, e6, s6, x5.trans x6, sr6, er6, po3.rebase x6⟩
          | bk e6 s6 =>
            rw [hb2] at po3
            exact po3
          | rt d6 s6 =>
            rw [hb2] at po3
            exact po3
          | ex c f d6 e6 s6 =>
            rw [hb2] at po3
            exact po3
          | no =>
            rw [hb2] at po3
            exact po3
end

/-! ### list comprehensions -/
def Rs.nox {α : Type} (r : Rs α) : Rs α := match r with
  | .ok a s => .ok a s
  | _ => .no
def wipeD (e : Ev) : List Nat → Ev
  | [] => e
  | v :: vs => (wipeD e vs).set v none
def lcL (j : Stp) (g : GN) (t : EM Bool) (m : EM D) (l : Nat) : Nat → Nat → Ev → Sto → Rs D
  | 0, i, e, s => match j i s with
    | some none => .ok (.ref l) s
    | _ => .no
  | f + 1, i, e, s => match j i s with
    | none => .no
    | some none => .ok (.ref l) s
    | some (some d) => match g d e with
      | none => .no
      | some e1 => (t e1 s).nox.bind fun q s1 => if q then (m e1 s1).nox.bind fun y s2 => match s2[l]? with
          | some (.lst acc) => if acc.length < sizeLine then lcL j g t m l f (i + 1) e (s2.set l (.lst (acc ++ [y]))) else .no
          | _ => .no
        else lcL j g t m l f (i + 1) e s1
def mL (mi : EM (Nat × Stp)) (g : GN) (t : EM Bool) (m : EM D) (vs : List Nat) : EM D := fun e s => (mi e s).bind fun jt s1 => lcL jt.2 g t m s1.length jt.1 0 (wipeD e vs) (s1 ++ [.lst []])
def tY : EM Bool := fun _ s => .ok true s
abbrev WF : WX := fun _ _ _ _ => False
section
variable {K : PySem.W.Frag} {mg : Str → Option Value} {ρ : Nat → Addr} {n : Nat} {H : Hp}
theorem EnvR.wipe {env : Ev} {σ : L2.St} (h : EnvR K ρ n H env σ) : ∀ vs, EnvR K ρ n H (wipeD env vs) (L2.wipe σ vs)
  | [] => h
  | v :: vs => EnvR.del (EnvR.wipe h vs)
theorem Po.nox {α β : Type} {R : Rl α β} {W W' : WX} {σ σ' : L2.St} {r : Rs α} {Q : β → Hp → Prop} (h : Po K mg R W σ ρ n H r.nox Q) : Po K mg R W' σ' ρ n H r Q := by
  cases r with
  | ok a s => exact h
  | _ => exact h.elim
theorem Po.bindx {α β γ δ : Type} {R : Rl α β} {R' : Rl γ δ} {W W' : WX} {σ σ' : L2.St} {r : Rs α} {k : α → Sto → Rs γ} {Q : δ → Hp → Prop} (h : Po K mg R' W σ ρ n H (r.nox.bind k) Q) :
    Po K mg R W' σ' ρ n H r (fun v H1 => Mid K mg R ρ n H v H1 fun ρ1 s1 d => Po K mg R' W σ ρ1 s1.length H1 (k d s1) Q) := Po.nox (W := W) (σ := σ) (Po.bind h)
end
section
variable {X : Cx} {W : WX} {pos : Pos} {elt tg iter : Expr} {ifs : List Expr} {scope : Scope} {own : List (Str × Nat)} {mi : EM (Nat × Stp)} {g : GN} {is : List Nat} {t : EM Bool} {m : EM D}
theorem llc {K : PySem.W.Frag} {mg : Str → Option Value} {vs : List Nat} {g' : TG} {tt : TT} {te : TE} (his : ∀ i ∈ is, i ∈ vs)
    (gq : GQ K g is g')
    (ht : ∀ σ H Q, lT K mg WF t σ H Q → tt σ H Q) (he : ∀ σ H Q, lE K mg WF m σ H Q → te σ H Q) {σ : L2.St} {H : Hp} {Q : VK} (h : lE K mg W (mL mi g t m vs) σ H Q) : tLc (lG K mg (RI K mg) W mi) g' tt te vs σ H Q := by
  obtain ⟨ρ, env, s, sr, er, po⟩ := h
  refine ⟨ρ, env, s, sr, er, (Po.bind po).imp fun J H1 ⟨ρ1, s1, jt, e1, sr1, ri, po1⟩ => fun Dl hDl => ?_⟩
  obtain ⟨x2, sr2, r2⟩ := new_lst sr1 hDl (VRs.nil (K := K) (ρ := ρ1) (n := s1.length) (H := H1))
  refine ⟨fun i m2 H2 => ∃ ρ2 s2, Ext (ρup ρ1 s1.length Dl) (s1 ++ [SO.lst []]).length (upd H1 Dl (.lst [])) ρ2 s2.length H2 ∧ SR K mg ρ2 s2 H2 ∧ Po K mg (VR K) W σ ρ2 s2.length H2 (lcL jt.2 g t m s1.length m2 i (wipeD env vs) s2) Q, ⟨jt.1, ρup ρ1 s1.length Dl, _, Ext.refl, sr2, po1.rebase x2⟩, ?_⟩
  rintro i m2 H2 ⟨ρ2, s2, x3, sr3, po2⟩
  have x23 := x2.trans x3
  have hj := ri ρ2 s2 H2 i x23 sr3
  have lt1 : s1.length < (s1 ++ [SO.lst []]).length := by simp
  have rD : VR K ρ2 s2.length H2 (.ref s1.length) (.ref Dl) := r2.mono x3
  have eD : ρ2 s1.length = Dl := by
    rw [x3.ag _ lt1, ρup_same]
  cases m2 with
  | zero =>
    rw [lcL] at po2
    cases e : jt.2 i s2 with
    | none => rw [e] at po2; exact po2.elim
    | some o =>
      rw [e] at po2 hj
      cases o with
      | none => exact .inl ⟨hj, po2 ρ2 H2 _ Ext.refl sr3 rD⟩
      | some d => exact po2.elim
  | succ f =>
    rw [lcL] at po2
    cases e : jt.2 i s2 with
    | none => rw [e] at po2; exact po2.elim
    | some o =>
      rw [e] at po2 hj
      cases o with
      | none => exact .inl ⟨hj, po2 ρ2 H2 _ Ext.refl sr3 rD⟩
      | some d =>
        dsimp only at po2 hj
        obtain ⟨go, yl⟩ := hj
        refine .inr ⟨go, _, fun H' w => ⟨f, Nat.lt_succ_self f, w⟩, fun x H' y => ?_⟩
        obtain ⟨x4, sr4, r4⟩ := yl x H' y
        cases hgd : g d (wipeD env vs) with
        | none => rw [hgd] at po2; exact po2.elim
        | some e4 =>
          rw [hgd] at po2
          dsimp only at po2
          have erw : EnvR K ρ2 s2.length H' (wipeD env vs) (wipe σ vs) := ((er.mono e1).mono (x23.trans x4)).wipe vs
          refine gq ρ2 s2 H' _ _ e4 d x _ erw r4 hgd fun σ4 er4 hw => ⟨?_, ?_⟩
          · rw [hw vs his]
            have ww : ∀ us : List Nat, (∀ u ∈ us, u ∈ vs) → wipe (wipe σ vs) us = wipe σ vs := by
              intro us
              induction us with
              | nil => intro _; rfl
              | cons u us ih =>
                intro hu
                show (wipe (wipe σ vs) us).set u none = wipe σ vs
                rw [ih fun z hz => hu z (List.mem_cons_of_mem _ hz)]
                have key : ∀ ws : List Nat, u ∈ ws → (wipe σ ws).set u none = wipe σ ws := by
                  intro ws
                  induction ws with
                  | nil => intro h; simp at h
                  | cons w ws ihw =>
                    intro h
                    show ((wipe σ ws).set w none).set u none = (wipe σ ws).set w none
                    by_cases q : u = w
                    · subst q
                      rw [List.set_set]
                    · rw [List.set_comm _ _ (Ne.symm q), ihw ((List.mem_cons.mp h).resolve_left q)]
                exact key vs (hu u List.mem_cons_self)
            exact ww vs fun _ h => h
          · refine ht _ _ _ ⟨ρ2, e4, s2, sr4, er4, (Po.bindx (po2.rebase x4)).imp fun q H5 ⟨ρ5, s5, q5, x5, sr5, r5, po5⟩ => ?_⟩
            have eq : q5 = q := r5
            subst eq
            have x35 := (x3.trans x4).trans x5
            cases q5 with
            | false => exact ⟨ρ5, s5, x35, sr5, po5⟩
            | true =>
              rw [if_pos rfl] at po5 ⊢
              refine he _ _ _ ⟨ρ5, e4, s5, sr5, er4.mono x5, (Po.bindx po5).imp fun y6 H6 ⟨ρ6, s6, d6, x6, sr6, r6, po6⟩ => ?_⟩
              have x36 := x35.trans x6
              have eD6 : ρ6 s1.length = Dl := by
                rw [x36.ag _ lt1, ρup_same]
              dsimp only at po6
              cases el : s6[s1.length]? with
              | none => rw [el] at po6; exact po6.elim
              | some o =>
                rw [el] at po6
                cases o with
                | lst acc =>
                  obtain ⟨hl, po7⟩ := Po.ite po6
                  obtain ⟨av, hav, rav⟩ := sr6.ob _ _ el
                  rw [eD6] at hav
                  have ob' := sr6.ob _ _ el
                  have xw : Ext ρ6 s6.length H6 ρ6 s6.length (upd H6 (ρ6 s1.length) (.lst (av ++ [y6]))) := Ext.write (u := .lst (av ++ [y6])) ob' rfl
                  refine ⟨av, hav, by rw [rav.length]; exact hl, ρ6, s6.set s1.length (.lst (acc ++ [d6])), ?_, ?_, ?_⟩
                  · rw [List.length_set]
                    have x7 := x36.trans xw
                    rw [eD6] at x7
                    exact x7
                  · rw [← eD6]
                    exact sr6.write el rfl rfl ⟨av ++ [y6], upd_same, (rav.append (VRs.cons r6 VRs.nil)).mono xw⟩
                  · rw [List.length_set, ← eD6]
                    exact po7.rebase xw
                | _ => exact po6.elim
theorem je_lc {g' : TG} (hc : X.calm = true) (hN : X.N.Nodup) (hi : JI X W tg iter mi) (ok : BlkOk X.N X.env.scope scope own) (his : ∀ i ∈ is, i ∈ own.map (·.2))
    (hg' : ∀ (s : Shared) (H : Hp) (C : Addr) (cl : List (Str × Addr)) (fp : List Addr), PG (X.blk s H scope (compEnvC scope cl C X.env) fp) tg g') (gq : GQ X.K g is g')
    (ht : ∀ (s : Shared) (H : Hp) (C : Addr) (cl : List (Str × Addr)) (fp : List Addr), PTs (X.blk s H scope (compEnvC scope cl C X.env) fp) ifs (lT X.K X.mg WF t))
    (he : ∀ (s : Shared) (H : Hp) (C : Addr) (cl : List (Str × Addr)) (fp : List Addr), JE (X.blk s H scope (compEnvC scope cl C X.env) fp) WF elt m) (hs : ∀ x, foldedSetIterable iter X.env x = pure x := by intro _; rfl) :
    JE X W (.ListComp elt [⟨tg, iter, ifs, 0⟩] scope pos) (mL mi g t m (own.map (·.2))) := by
  exact PE_imp (pe_lc hc hN hi ok hg' ht he hs) fun σ H Q h => llc his gq (fun _ _ _ z => z) (fun _ _ _ z => z) h
end
end Z

set_option Elab.async false
set_option linter.all false
set_option maxRecDepth 100000
set_option maxHeartbeats 4000000
namespace Z
open PySem PySem.Spec PyProof.Rows L2
variable [Row]

/-! ### functions -/
/-- room for a call; no collection is being shown -/
structure Rm (k : Nat) (A : Around) : Prop where
  room : Room k A
  gd : A.guards = some []
theorem Rm.mono {j k : Nat} {A : Around} (r : Rm k A) (h : j ≤ k) : Rm j A := ⟨r.room.mono h, r.gd⟩
theorem Rm.deeper {k : Nat} {A : Around} (r : Rm (k + 1) A) (env : Env) : Rm k (A.deeper env) := ⟨r.room.deeper env, r.gd⟩
theorem Rm.units {k : Nat} {A : Around} (r : Rm k A) : A.units + 100 < cLine := by have := r.room.un; omega
/-- what is called at f keeps the promise sp, for positional values and keywords named ks -/
def FnG (P : Program) (w : World) (K : PySem.W.Frag) (mg : Str → Option Value) (base : Heap) (k : Nat) (f : Addr) (n : Option Nat) (ks : List Str) (sp : Sp) : Prop :=
  ∀ (A : Around) (outer : List Env) (st : Shared) (H : Hp) (us ws : List Value) (vs zs : List V) (Q : VK) (E : XK), Rm k A → Env0 P w K mg base A outer st H → Vals vs us → Vals zs ws → (∀ m, n = some m → us.length = m) → ws.length = ks.length → sp (vs ++ zs) H Q E →
    codeAny (model P w) A (.call (.ref f) ⟨us, ks.zip ws⟩) (CR (L2.CX P w) outer P w H st Q E) st
/-- the promise: what F says -/
def spF (K : PySem.W.Frag) (mg : Str → Option Value) (F : List D → Sto → Rs D) : Sp := fun vs H Q E => ∃ ρ s ds, SR K mg ρ s H ∧ VRs K ρ s.length H ds vs ∧ Po K mg (VR K) (fun c d _ H => E c d H) [] ρ s.length H (F ds s) Q
/-- positional calls; calls of n positional values and keywords ks -/
abbrev FS (P : Program) (w : World) (K : PySem.W.Frag) (mg : Str → Option Value) (base : Heap) (k : Nat) (f : Addr) (F : List D → Sto → Rs D) : Prop := FnG P w K mg base k f none [] (spF K mg F)
abbrev FSk (P : Program) (w : World) (K : PySem.W.Frag) (mg : Str → Option Value) (base : Heap) (k : Nat) (f : Addr) (n : Nat) (ks : List Str) (F : List D → Sto → Rs D) : Prop := FnG P w K mg base k f (some n) ks (spF K mg F)
theorem FnG.mono {P : Program} {w : World} {K : PySem.W.Frag} {mg : Str → Option Value} {base : Heap} {j k : Nat} {f : Addr} {n : Option Nat} {ks : List Str} {sp : Sp} (F : FnG P w K mg base j f n ks sp) (h : j ≤ k) : FnG P w K mg base k f n ks sp :=
  fun A outer st H us ws vs zs Q E hr => F A outer st H us ws vs zs Q E (hr.mono h)
def RS.fin (r : RS) : Rs D := match r with
  | .nx _ s' => .ok .non s'
  | .rt d s' => .ok d s'
  | .ex c f d _ s' => .ex c f d s'
  | _ => .no
def fnM (ps n : Nat) (m : SM) : List D → Sto → Rs D := fun ds s => if ds.length = ps then (m (ds.map some ++ List.replicate (n - ds.length) none) s).fin else .no
section
variable {P : Program} {w : World} {K : PySem.W.Frag} {mg : Str → Option Value} {base : Heap} {k : Nat} {f : Addr} {fd : FuncData} {x qual : Str} {params : Arguments} {body : List Stmt} {scope : Scope} {dvs : List V} {kws : List (Str × V)} {N ps : List Str} {m : SM}
theorem envR_start {ρ : Nat → Addr} {n : Nat} {H : Hp} {N : List Str} {ds : List D} {vs : List V} (r : VRs K ρ n H ds vs) : EnvR K ρ n H (ds.map some ++ List.replicate (N.length - ds.length) none) (L2.start N vs) := by
  unfold L2.start
  have hl := r.length
  refine ⟨by simp [hl], fun i d h => ?_⟩
  by_cases hi : i < ds.length
  · rw [List.getElem?_append_left (by simpa using hi), List.getElem?_map] at h
    cases e : ds[i]? with
    | none => rw [e] at h; cases h
    | some d' =>
      rw [e] at h
      cases h
      obtain ⟨v, hv, rv⟩ := r.get e
      refine ⟨v, ?_, rv⟩
      rw [List.getElem?_append_left (by simp [hl]; exact hi), List.getElem?_map, hv]
      rfl
  · rw [List.getElem?_append_right (by simpa using hi), List.getElem?_replicate] at h
    split at h <;> cases h
theorem PoS.fin {ρ : Nat → Addr} {n : Nat} {H : Hp} {σ : L2.St} {r : RS} {Q : VK} {E : XK} (h : Po K mg (VR K) (fun c d _ H => E c d H) σ ρ n H r.fin Q) : PoS K mg (fun c d _ H => E c d H) { nx := fun _ H' => Q .non H', rt := Q } ρ n H r := by
  cases r with
  | nx e s => exact fun ρ' H' σ' x sr er => h ρ' H' .non x sr rfl
  | rt d s => exact h
  | ex c f d e s => exact fun ρ' H' σ' C dx v x sr er => h ρ' H' C dx v x sr
  | _ => exact h.elim
/-- a body does m -/
abbrev Body (P : Program) (w : World) (K : PySem.W.Frag) (mg : Str → Option Value) (base : Heap) (k : Nat) (N : List Str) (qual : Str) (scope : Scope) (f : Addr) (body : List Stmt) (m : SM) : Prop :=
  ∀ (cdv : Value) (A : Around) (outer : List Env) (s : Shared) (H : Hp) (E : XK), cdv = codeV K f → Rm k (A.deeper (envOfC qual scope s.heap.objs.size f cdv)) → JSs (cxOf (L2.CX P w) P w K mg base N qual scope f cdv A outer s H E) (fun c d _ H => E c d H) body m
/-- how the values come to the parameters: positional us, keywords' ws give g us ws -/
structure Bnd (K : PySem.W.Frag) (fd : FuncData) (ps : List Str) (n : Nat) (ks : List Str) (g : List Value → List Value → List Value) (gV : List V → List V → List V) (gD : List D → List D → List D) : Prop where
  to : ∀ (st : Shared) (us ws : List Value), K.In st.heap → us.length = n → ws.length = ks.length → BindsTo st fd ⟨us, ks.zip ws⟩ (ps.zip (g us ws))
  rel : ∀ {vs : List V} {us : List Value} {zs : List V} {ws : List Value}, Vals vs us → Vals zs ws → Vals (gV vs zs) (g us ws)
  len : ∀ us ws : List Value, us.length = n → ws.length = ks.length → (g us ws).length = ps.length
  dat : ∀ {ρ : Nat → Addr} {m : Nat} {H : Hp} {ds es : List D} {vs zs : List V}, VRs K ρ m H ds vs → VRs K ρ m H es zs → VRs K ρ m H (gD ds es) (gV vs zs)
/-- the function of a call by g -/
def callF (n : Nat) (gD : List D → List D → List D) (F : List D → Sto → Rs D) : List D → Sto → Rs D := fun ds s => F (gD (ds.take n) (ds.drop n)) s
/-- THE RULE: a def whose body does m, however it is called -/
theorem fs_ok {n : Nat} {ks : List Str} {g : List Value → List Value → List Value} {gV : List V → List V → List V} {gD : List D → List D → List D} (F : FunD K x qual params body scope dvs kws f fd) (S : FnScope N ps scope) (hb : Body P w K mg base k N qual scope f body m)
    (B : Bnd K fd ps n ks g gV gD) : FSk P w K mg base (k + 1) f n ks (callF n gD (fnM ps.length N.length m)) := by
  obtain ⟨oc, od, dV, kV, doc, pm, an, cdv, ct, osl, rfl, lk, hcd, _, _⟩ := F.ex
  intro A outer st H us ws vs zs Q E hr e0 rv rz hn hks ⟨ρ, s, ds, sr, rd, po⟩
  have hn := hn n rfl
  have r1 : VRs K ρ s.length H (ds.take n) vs := by
    have := rd.take n
    rwa [List.take_left' (by rw [rv.length]; exact hn)] at this
  have r2 : VRs K ρ s.length H (ds.drop n) zs := by
    have := rd.drop n
    rwa [List.drop_left' (by rw [rv.length]; exact hn)] at this
  have rr := B.rel rv rz
  have rD := B.dat r1 r2
  have inK : K.In st.heap := e0.mod.kin.keeps fun b o e => (e0.bs b o e).1
  have noL : st.heap.NoLimit := e0.mod.nolimit.keeps fun b o e => (e0.bs b o e).1
  have kinds : ∀ y ∈ ps.zip (g us ws), scope.names.lookup y.1 = some .local ∨ (scope.names.lookup y.1 = some .cell ∧ ((cellsFrom (st.heap.objs.size + 1) scope.names []).lookup y.1).isSome = true) := by
    rintro ⟨z, u⟩ hz
    rcases S.par z (List.of_mem_zip hz).1 with q | q
    · exact .inl q
    · exact .inr ⟨q, PySem.W.cellsFrom_some _ _ _ (.inl q)⟩
  refine codeAny_call_function hr.room.depth (inK _ _ lk) rfl S.co S.gen rfl (PySem.W.codeRec_of inK hcd) (B.to st us ws inK hn hks _ _ _ _ ?_)
  refine wpAny_newFunctionEnv_cells S.kind kinds fun env he st1 xx => ?_
  subst he
  refine ⟨noL.keeps xx.toInCall.keep, codeAny_func ?_⟩
  have I := inv_start (CX := L2.CX P w) (E := E) S hr.room.hd e0 (by rw [rr.length]; exact B.len us ws hn hks) rr xx
  refine wpAny_mono ((hb cdv A outer st H E (by unfold codeV; rw [lk]) (hr.deeper _)).run [] st1 _ H { nx := fun _ H' => Q .non H', rt := Q } I ⟨ρ, _, s, sr, envR_start rD, PoS.fin (σ := []) (Po.ite po).2⟩) (fun fl st2 hs => ?_) fun e st2 hs => hs
  cases fl with
  | ret u =>
    obtain ⟨v, σ', H', J, rv', q⟩ := hs
    exact ⟨v, H', J.os, J.bare, J.base, J.hok, rv', q⟩
  | next =>
    obtain ⟨σ', H', J, q⟩ := hs
    exact ⟨V.non, H', J.os, J.bare, J.base, J.hok, rfl, q⟩
  | brk =>
    obtain ⟨_, _, _, q⟩ := hs
    exact False.elim q
  | cont =>
    obtain ⟨_, _, _, q⟩ := hs
    exact False.elim q
/-- a plain def, called by position -/
theorem fs_pos (F : FunD K x qual params body scope [] [] f fd) (S : FnScope N ps scope) (hb : Body P w K mg base k N qual scope f body m)
    (h : ∀ (kV doc pm : Value) (an : Option Addr) (cdv ct : Value) (us : List Value), us.length = ps.length → bindArgs (PySem.W.fnOf x qual params body scope .none kV doc pm an cdv ct) ⟨us, []⟩ = pure (ps.zip us)) :
    FS P w K mg base (k + 1) f (fnM ps.length N.length m) := by
  have B : Bnd K fd ps ps.length [] (fun us _ => us) (fun vs _ => vs) (fun ds _ => ds) := by
    refine ⟨fun st us ws _ h1 h2 => ?_, fun h _ => h, fun _ _ h _ => h, fun h _ => h⟩
    obtain ⟨oc, od, dV, kV, doc, pm, an, cdv, ct, osl, rfl, lk, hcd, hD, hK⟩ := F.ex
    rcases hD with ⟨_, rfl⟩ | ⟨e, _⟩
    · exact .of_eq (h kV doc pm an cdv ct us h1)
    · exact absurd rfl e
  intro A outer st H us ws vs zs Q E hr e0 rv rz _ hks ⟨ρ, s, ds, sr, rd, po⟩
  have hz : zs = [] := by
    have e1 := rz.length
    rw [hks] at e1
    exact List.eq_nil_of_length_eq_zero e1
  subst hz
  rw [List.append_nil] at rd
  have hl := (Po.ite (c := ds.length = ps.length) po).1
  refine fs_ok F S hb B A outer st H us ws vs [] Q E hr e0 rv rz (fun m hm => ?_) hks ⟨ρ, s, ds, sr, by rw [List.append_nil]; exact rd, ?_⟩
  · cases hm
    rw [← rv.length, rd.length]
    exact hl
  · unfold callF
    have e : ds.take ps.length = ds := by rw [← hl, List.take_length]
    rw [e]
    exact po
theorem Po.congr {α β : Type} {R : Rl α β} {W W' : WX} {σ σ' : L2.St} {ρ : Nat → Addr} {n : Nat} {H : Hp} {r : Rs α} {Q : β → Hp → Prop} (h : Po K mg R W σ ρ n H r Q) (i : ∀ c d H, W c d σ H → W' c d σ' H) : Po K mg R W' σ' ρ n H r Q := by
  cases r with
  | ok a s => exact h
  | ex c f d s => exact fun ρ' H' C dx v e sr hm r hx => i _ _ _ (h ρ' H' C dx v e sr hm r hx)
  | no => exact h
end
section
variable {X : Cx} {W : WX} {k : Nat} {f : Addr} {F : List D → Sto → Rs D} {x : Str} {p pos apos : Pos} {e o : Expr} {es : List Expr} {ms mk : EM (List D)} {sp : Sp} {E : L2.St → XK} {n : Option Nat} {ks : List Str} {kws : List Keyword}
theorem run_at {pins : List (Addr × Obj)} {σ : L2.St} {H : Hp} {s : Shared} {Q : VK} {us ws : List Value} {vs zs : List V} (F : FnG X.prog X.w X.K X.mg X.base k f n ks sp) (hr : Rm k X.A) (hx : PassesAt (L2.CX X.prog X.w) X σ (E σ))
    (I : Inv X pins σ H s) (r : Vals vs us) (rz : Vals zs ws) (hn : ∀ m, n = some m → us.length = m) (hks : ws.length = ks.length) (h : sp (vs ++ zs) H Q (E σ)) : wpAny (model X.prog X.w) X.A (call (.ref f) us (ks.zip ws)) (EP X pins σ Q) X.xe s := by
  refine wpAny_call (codeAny_mono (F X.A X.stack s H us ws vs zs Q (E σ) hr I.env0 r rz hn hks h) fun r s' hq => ?_)
  cases r with
  | error e => exact hx pins H s e s' I hq
  | ok fl =>
    cases fl with
    | ret u => exact I.after hq
    | next => exact False.elim hq
    | brk => exact False.elim hq
    | cont => exact False.elim hq
/-- f(e, ..) -/
theorem je_call (F' : FS X.prog X.w X.K X.mg X.base k f F) (hr : Rm k X.A) (tk : Takes X W) (hg : Gl X x) (hm : X.mg x = some (.ref f)) (hk : PySem.W.keepIn X.K (.ref f) = true)
    (ha : JA X W (e :: es) ms) (hdb : (x == ("__debug__" : Str)) = false := by decide) (he : starEach (e :: es) X.env = (false, eval e X.env) :: starEach es X.env := by rfl) (hpl : (backTo pos (starEach es X.env)).any (·.1) = false := by rfl) :
    JE X W (.Call (.Name x p) (e :: es) [] pos) (mN F ms) := by
  refine ⟨fun pins s σ H Q I ⟨ρ, env, st, sr, er, po⟩ => ?_⟩
  refine wpAny_Call_Name_kw (ld_glob I hg hm ?_ hdb)
  refine PySem.W.callWith_K (h₀ := X.base) I.ok.mod.kin hk (thn (ha.run pos pins s σ H _ I ⟨ρ, env, st, sr, er, Po.bind po⟩) fun us s1 ⟨vs, H1, I1, r, ρ1, s2, ds, e1, sr1, r1, po1⟩ => ⟨I1.kIn, ?_⟩) he hpl
  exact run_at (E := WE W) (ws := []) (zs := []) F' hr (passAt tk σ) I1 r .nil (fun _ h => nomatch h) rfl ⟨ρ1, s2, ds, sr1, by rw [List.append_nil]; exact r1, po1.congr fun _ _ _ z => z⟩
/-! ### keywords: F takes the positional values, then the keywords' -/
abbrev JK (X : Cx) (W : WX) (kws : List Keyword) (m : EM (List D)) : Prop := PK X kws (lA X.K X.mg W m)
/-- positional values, then keywords' -/
def mNk (n m : Nat) (F : List D → Sto → Rs D) (ms mk : EM (List D)) : EM D := fun e s => (ms e s).bind fun xs s1 => (mk e s1).bind fun ys s2 => if xs.length = n ∧ ys.length = m then F (xs ++ ys) s2 else .no
end
/-! ### the law's own call -/
section
variable {P : Program} {w : World} {K : PySem.W.Frag} {mg mb : Str → Option Value} {k : Nat} {fa a : Addr} {s₁ : Shared} {vs : List Value} {ns : List Int} {F : List D → Sto → Rs D}
theorem rm_caller {k : Nat} (h : Room k callerA) : Rm k callerA := ⟨h, rfl⟩
end
/-- the row's own run -/
abbrev rowOf (P : Program) (w : World) : Row := ⟨P, w, []⟩
end Z

set_option Elab.async false
set_option linter.all false
set_option maxRecDepth 100000
set_option maxHeartbeats 4000000
namespace Z
open PySem PySem.Spec PyProof.Rows L2
variable [Row]

section
variable {X : Cx} {W : WX}
/-! ### ints -/
def dI (g : Int → Int → D) (x y : D) (s : Sto) : Rs D := match x, y with
  | .int i, .int j => .ok (g i j) s
  | _, _ => .no
def dIc (C : Int → Int → Prop) [∀ i j, Decidable (C i j)] (g : Int → Int → D) (x y : D) (s : Sto) : Rs D := match x, y with
  | .int i, .int j => if C i j then .ok (g i j) s else .no
  | _, _ => .no
theorem pr_I {g : Int → Int → D} {g' : Int → Int → V} (h : ∀ i j, flatD (g i j) (g' i j)) : Pr2 X W (dI g) (rI0 g') := by
  intro ρ s H σ x y vx vy Q sr r1 r2 po
  cases x with
  | int i =>
    cases y with
    | int j =>
      obtain rfl : vx = .int i := r1
      obtain rfl : vy = .int j := r2
      exact ⟨i, j, rfl, rfl, po ρ H _ Ext.refl sr (h i j).vr⟩
    | _ => exact po.elim
  | _ => exact po.elim
theorem pr_Ic {C C' : Int → Int → Prop} [∀ i j, Decidable (C i j)] {g : Int → Int → D} {g' : Int → Int → V} (hc : ∀ i j, C i j → C' i j) (h : ∀ i j, flatD (g i j) (g' i j)) : Pr2 X W (dIc C g) (rI C' g') := by
  intro ρ s H σ x y vx vy Q sr r1 r2 po
  cases x with
  | int i =>
    cases y with
    | int j =>
      obtain rfl : vx = .int i := r1
      obtain rfl : vy = .int j := r2
      obtain ⟨h1, po⟩ := Po.ite (c := C i j) po
      exact ⟨i, j, rfl, rfl, hc i j h1, po ρ H _ Ext.refl sr (h i j).vr⟩
    | _ => exact po.elim
  | _ => exact po.elim
def cDiv (i j : Int) : Prop := 0 < j ∧ j < 1073741824
instance (i j : Int) : Decidable (cDiv i j) := inferInstanceAs (Decidable (_ ∧ _))
def cMul (i j : Int) : Prop := (-(2 ^ 64) < i ∧ i < 2 ^ 64) ∨ (-(2 ^ 64) < j ∧ j < 2 ^ 64)
instance (i j : Int) : Decidable (cMul i j) := inferInstanceAs (Decidable (_ ∨ _))
def cMod (i j : Int) : Prop := 0 < j
instance (i j : Int) : Decidable (cMod i j) := inferInstanceAs (Decidable (0 < j))
def cPow (i j : Int) : Prop := 0 ≤ j ∧ j ≤ 1000000 ∧ i.natAbs < 2 ^ 64
instance (i j : Int) : Decidable (cPow i j) := inferInstanceAs (Decidable (_ ∧ _ ∧ _))
def dSub := dI fun i j => .int (i - j)
def dMul := dIc cMul fun i j => .int (i * j)
def dDiv := dIc cDiv fun i j => .int (i / j)
def dMod := dIc cMod fun i j => .int (i % j)
def dPow := dIc cPow fun i j => .int (i ^ j.toNat)
def dLt := dI fun i j => .bl (decide (i < j))
def dLe := dI fun i j => .bl (decide (i ≤ j))
def dGt := dI fun i j => .bl (decide (j < i))
def dGe := dI fun i j => .bl (decide (j ≤ i))
theorem pr_div : Pr2 X W dDiv (rI CDiv fun i j => .int (i / j)) := pr_Ic (fun _ _ h => h) fun _ _ => rfl
theorem pr_mod : Pr2 X W dMod (rI (fun _ j => 0 < j) fun i j => .int (i % j)) := pr_Ic (fun _ _ h => h) fun _ _ => rfl
theorem pr_pow : Pr2 X W dPow (rI CPow fun i j => .int (i ^ j.toNat)) := pr_Ic (fun _ _ h => h) fun _ _ => rfl
theorem pr_lt : Pr2 X W dLt (rI0 fun i j => .bl (decide (i < j))) := pr_I fun _ _ => rfl
theorem pr_le : Pr2 X W dLe (rI0 fun i j => .bl (decide (i ≤ j))) := pr_I fun _ _ => rfl
theorem pr_gt : Pr2 X W dGt (rI0 fun i j => .bl (decide (j < i))) := pr_I fun _ _ => rfl
theorem pr_ge : Pr2 X W dGe (rI0 fun i j => .bl (decide (j ≤ i))) := pr_I fun _ _ => rfl
def dNeg (x : D) (s : Sto) : Rs D := match x with
  | .int i => .ok (.int (-i)) s
  | _ => .no
theorem pr_neg : Pr1 X W dNeg (rU fun i => .int (-i)) := by
  intro ρ s H σ x vx Q sr r1 po
  cases x with
  | int i =>
    obtain rfl : vx = .int i := r1
    exact ⟨i, rfl, po ρ H _ Ext.refl sr rfl⟩
  | _ => exact po.elim

/-! ### + -/
def dAdd (x y : D) (s : Sto) : Rs D := match x, y with
  | .int i, .int j => .ok (.int (i + j)) s
  | .str a, .str b => if a.length + b.length ≤ sizeLine then .ok (.str (a ++ b)) s else .no
  | .tup a, .tup b => if a.length + b.length ≤ sizeLine then .ok (.tup (a ++ b)) s else .no
  | .ref a, .ref b => match s[a]?, s[b]? with
    | some (.lst xs), some (.lst ys) => if xs.length + ys.length ≤ sizeLine then .ok (.ref s.length) (s ++ [.lst (xs ++ ys)]) else .no
    | _, _ => .no
  | _, _ => .no
def rAdds (K : PySem.W.Frag) : R2 := fun x y H Q => (∃ i j, x = .int i ∧ y = .int j ∧ Q (.int (i + j)) H) ∨ (∃ i j, x = .str i ∧ y = .str j ∧ i.length + j.length ≤ sizeLine ∧ Q (.str (i ++ j)) H) ∨ rCatA K x y H Q ∨ rCat x y H Q
theorem op_adds : OpR X (binaryOp .Add) (rAdds X.K) := op_add.or (op_add_str.or (op_catA.or op_cat))
theorem pr_add : Pr2 X W dAdd (rAdds X.K) := by
  intro ρ s H σ x y vx vy Q sr r1 r2 po
  cases x with
  | int i =>
    cases y with
    | int j => exact .inl ⟨i, j, r1, r2, po ρ H _ Ext.refl sr rfl⟩
    | _ => exact po.elim
  | str i =>
    cases y with
    | str j =>
      obtain ⟨h1, po⟩ := Po.ite (c := i.length + j.length ≤ sizeLine) po
      exact .inr (.inl ⟨i, j, r1, r2, h1, po ρ H _ Ext.refl sr rfl⟩)
    | _ => exact po.elim
  | tup i =>
    cases y with
    | tup j =>
      obtain ⟨h1, po⟩ := Po.ite (c := i.length + j.length ≤ sizeLine) po
      have q1 := r1
      have q2 := r2
      rw [VR] at r1 r2
      obtain ⟨a, vs, e1, sq1, rr1⟩ := r1
      obtain ⟨b, us, e2, sq2, rr2⟩ := r2
      subst e1 e2
      refine .inr (.inr (.inl ⟨a, b, vs, us, rfl, rfl, sq1, sq2, by rw [rr1.length, rr2.length]; exact h1, fun e => ?_, fun _ e => ?_, fun _ _ p hp => ?_⟩))
      · subst e
        have e' : i = [] := List.eq_nil_of_length_eq_zero rr1.length.symm
        subst e'
        exact po ρ H _ Ext.refl sr q2
      · subst e
        have e' : j = [] := List.eq_nil_of_length_eq_zero rr2.length.symm
        subst e'
        rw [List.append_nil] at po
        exact po ρ H _ Ext.refl sr q1
      · obtain ⟨x1, sr1, v1⟩ := new_tup sr hp (rr1.append rr2)
        exact po ρ _ _ x1 sr1 v1
    | _ => exact po.elim
  | ref a =>
    cases y with
    | ref b =>
      have po2 : Po X.K X.mg (VR X.K) W σ ρ s.length H (match s[a]?, s[b]? with
        | some (.lst xs), some (.lst ys) => if xs.length + ys.length ≤ sizeLine then Rs.ok (.ref s.length) (s ++ [.lst (xs ++ ys)]) else .no
        | _, _ => .no) Q := po
      rw [VR] at r1 r2
      obtain ⟨h1, rfl⟩ := r1
      obtain ⟨h2, rfl⟩ := r2
      split at po2
      · rename_i xs ys e1 e2
        obtain ⟨vs, hv, rv⟩ := sr.ob _ _ e1
        obtain ⟨us, hu, ru⟩ := sr.ob _ _ e2
        obtain ⟨hl, po3⟩ := Po.ite po2
        refine .inr (.inr (.inr ⟨_, _, vs, us, rfl, rfl, hv, hu, by rw [rv.length, ru.length]; exact hl, fun p hp => ?_⟩))
        obtain ⟨x1, sr1, v1⟩ := new_lst sr hp (rv.append ru)
        exact po3 _ _ _ x1 sr1 v1
      · exact po2.elim
    | _ => exact po.elim
  | _ => exact po.elim

/-! ### data: none, bools, ints, texts, lists, tuples -/
def pyd : Nat → Sto → D → Option PyData
  | 0, _, _ => none
  | _ + 1, _, .non => some .none
  | _ + 1, _, .bl b => some (.bool b)
  | _ + 1, _, .int i => some (.int i)
  | _ + 1, _, .str x => some (.str x)
  | n + 1, s, .tup xs => (xs.mapM (pyd n s)).map .tuple
  | n + 1, s, .ref k => (lstAt s k).bind fun xs => (xs.mapM (pyd n s)).map .list
theorem pyd_dp {K : PySem.W.Frag} {mg : Str → Option Value} {ρ : Nat → Addr} {s : Sto} {H : Hp} (sr : SR K mg ρ s H) : ∀ (n : Nat) (d : D) (v : V) (p : PyData), pyd n s d = some p → VR K ρ s.length H d v → Dp K H v p := by
  intro n
  induction n with
  | zero => intro d v p h; cases h
  | succ n ih =>
    have all : ∀ (ds : List D) (vs : List V) (ps : List PyData), ds.mapM (pyd n s) = some ps → VRs K ρ s.length H ds vs → DpAll K H vs ps := by
      intro ds
      induction ds with
      | nil =>
        intro vs ps h r
        rw [VRs] at r
        subst r
        simp at h
        subst h
        exact .nil
      | cons d ds ihd =>
        intro vs ps h r
        obtain ⟨v, vr, rfl, r1, r2⟩ := r.uncons
        rw [List.mapM_cons] at h
        obtain ⟨p, h1, h⟩ := Option.bind_eq_some_iff.mp h
        obtain ⟨qs, h2, h⟩ := Option.bind_eq_some_iff.mp h
        cases h
        exact .cons (ih d v p h1 r1) (ihd vr qs h2 r2)
    intro d v p h r
    cases d with
    | non =>
      cases h
      obtain rfl : v = .non := r
      exact .non
    | bl b =>
      cases h
      obtain rfl : v = .bl b := r
      exact .bl b
    | int i =>
      cases h
      obtain rfl : v = .int i := r
      exact .int i
    | str x =>
      cases h
      obtain rfl : v = .str x := r
      exact .str x
    | tup xs =>
      rw [pyd] at h
      obtain ⟨ps, h1, rfl⟩ := Option.map_eq_some_iff.mp h
      rw [VR] at r
      obtain ⟨a, vs, rfl, sq, rr⟩ := r
      exact .tup sq (all xs vs ps h1 rr)
    | ref k =>
      rw [pyd] at h
      obtain ⟨xs, h1, h⟩ := Option.bind_eq_some_iff.mp h
      obtain ⟨ps, h2, rfl⟩ := Option.map_eq_some_iff.mp h
      rw [VR] at r
      obtain ⟨hk, rfl⟩ := r
      obtain ⟨vs, sq, rr⟩ := sr.lst h1
      exact .lst sq (all xs vs ps h2 rr)
/-- the data of a value that == and repr take -/
def shp (s : Sto) (d : D) : Option PyData := match pyd 30 s d with
  | some p => if SeqAt.shaped p = true then some p else none
  | none => none
theorem shp_dp {K : PySem.W.Frag} {mg : Str → Option Value} {ρ : Nat → Addr} {s : Sto} {H : Hp} (sr : SR K mg ρ s H) {d : D} {v : V} {p : PyData} (h : shp s d = some p) (r : VR K ρ s.length H d v) : Dp K H v p ∧ SeqAt.shaped p = true := by
  unfold shp at h
  cases e : pyd 30 s d with
  | none => rw [e] at h; cases h
  | some q =>
    rw [e] at h
    by_cases hs : SeqAt.shaped q = true
    · simp only [hs, if_true] at h
      obtain rfl : q = p := Option.some.inj h
      exact ⟨pyd_dp sr 30 d v q e r, hs⟩
    · simp only [hs] at h
      cases h
/-- == of texts, of data -/
def dEqB (neg : Bool) (x y : D) (s : Sto) : Rs D := match x, y with
  | .str a, .str b => .ok (.bl (neg ^^ decide (a = b))) s
  | x, y => match shp s x, shp s y with
    | some p, some q => .ok (.bl (neg ^^ PyData.eqv p q)) s
    | _, _ => .no
def dEq := dEqB false
def dNe := dEqB true
def rEqs (K : PySem.W.Frag) : R2 := fun x y H Q => rEq x y H Q ∨ rEqD K x y H Q
def rNes (K : PySem.W.Frag) : R2 := fun x y H Q => rNe x y H Q ∨ rNeD K x y H Q
theorem op_eqs (hu : X.A.units + 64 < cLine) : OpR X (compareOp .Eq) (rEqs X.K) := op_eq.or (op_eqD hu)
theorem op_nes (hu : X.A.units + 64 < cLine) : OpR X (compareOp .NotEq) (rNes X.K) := op_ne.or (op_neD hu)
theorem decide_strV (a b : Str) : decide (V.str a = V.str b) = decide (a = b) := by
  by_cases h : a = b
  · rw [h, decide_eq_true rfl, decide_eq_true rfl]
  · rw [decide_eq_false h, decide_eq_false fun e => h (by cases e; rfl)]
theorem pr_eq : Pr2 X W dEq (rEqs X.K) := by
  intro ρ s H σ x y vx vy Q sr r1 r2 po
  unfold dEq dEqB at po
  split at po
  · rename_i a b
    obtain rfl : vx = .str a := r1
    obtain rfl : vy = .str b := r2
    refine .inl ⟨rfl, ?_⟩
    rw [decide_strV]
    refine po ρ H _ Ext.refl sr ?_
    show V.bl _ = V.bl _
    rw [Bool.false_xor]
  · split at po
    · rename_i p q h1 h2
      obtain ⟨a1, a2⟩ := shp_dp sr h1 r1
      obtain ⟨b1, b2⟩ := shp_dp sr h2 r2
      refine .inr ⟨p, q, a1, b1, a2, b2, po ρ H _ Ext.refl sr ?_⟩
      show V.bl _ = V.bl _
      rw [Bool.false_xor]
    · exact po.elim
theorem pr_ne : Pr2 X W dNe (rNes X.K) := by
  intro ρ s H σ x y vx vy Q sr r1 r2 po
  unfold dNe dEqB at po
  split at po
  · rename_i a b
    obtain rfl : vx = .str a := r1
    obtain rfl : vy = .str b := r2
    refine .inl ⟨rfl, ?_⟩
    rw [decide_strV]
    refine po ρ H _ Ext.refl sr ?_
    show V.bl _ = V.bl _
    rw [Bool.true_xor]
  · split at po
    · rename_i p q h1 h2
      obtain ⟨a1, a2⟩ := shp_dp sr h1 r1
      obtain ⟨b1, b2⟩ := shp_dp sr h2 r2
      refine .inr ⟨p, q, a1, b1, a2, b2, po ρ H _ Ext.refl sr ?_⟩
      show V.bl _ = V.bl _
      rw [Bool.true_xor]
    · exact po.elim
/-- is None -/
def dIsN (neg : Bool) (x : D) (s : Sto) : Rs D := match x with
  | .non => .ok (.bl (!neg)) s
  | _ => .ok (.bl neg) s
/-- x in a list or a tuple of data; one sign in a text -/
def dInB (neg : Bool) (x y : D) (s : Sto) : Rs D := match y with
  | .str z => match x with
    | .str c => if c.length = 1 then .ok (.bl (neg ^^ decide (c.cps.getD 0 0 ∈ z.cps.toList))) s else .no
    | _ => .no
  | .tup ys => match shp s x, shp s (.tup ys) with
    | some p, some (.tuple ps) => .ok (.bl (neg ^^ ps.any fun z => PyData.eqv z p)) s
    | _, _ => .no
  | .ref n => match shp s x, shp s (.ref n) with
    | some p, some (.list ps) => .ok (.bl (neg ^^ ps.any fun z => PyData.eqv z p)) s
    | _, _ => .no
  | _ => .no

theorem room_in {A : Around} {d : PyData} (h : SeqAt.shaped d = true) (hu : A.units + 65 < cLine) : A.units + d.depth < cLine := by
  have := SeqAt.depth_of_shaped h
  omega
def rInT (K : PySem.W.Frag) (neg : Bool) : R2 := fun x y H Q => ∃ d ds, Dp K H x d ∧ Dp K H y (.tuple ds) ∧ SeqAt.shaped d = true ∧ SeqAt.shaped (.tuple ds) = true ∧ Q (.bl (neg ^^ ds.any fun z => PyData.eqv z d)) H
theorem op_inT (hu : X.A.units + 65 < cLine) : OpR X (compareOp .In) (rInT X.K false) := by
  intro pins s σ H x y v u Q I rx ry h
  obtain ⟨d, ds, hd, he, sd, se, q⟩ := h
  obtain ⟨as, r1⟩ := Dp.reads I d x v hd rx
  obtain ⟨bs, r2⟩ := Dp.reads I (.tuple ds) y u he ry
  rw [Bool.false_xor] at q
  exact SeqAt.in_tuple_reads r2 r1 (SeqAt.canLay_of_shaped se) (SeqAt.canLay_of_shaped sd) (by first | exact room_in sd hu | exact room_in_shaped sd hu) ⟨.bl _, H, I, rfl, q⟩
theorem op_notInT (hu : X.A.units + 65 < cLine) : OpR X (compareOp .NotIn) (rInT X.K true) := by
  intro pins s σ H x y v u Q I rx ry h
  obtain ⟨d, ds, hd, he, sd, se, q⟩ := h
  obtain ⟨as, r1⟩ := Dp.reads I d x v hd rx
  obtain ⟨bs, r2⟩ := Dp.reads I (.tuple ds) y u he ry
  rw [Bool.true_xor] at q
  exact SeqAt.notIn_tuple_reads r2 r1 (SeqAt.canLay_of_shaped se) (SeqAt.canLay_of_shaped sd) (by first | exact room_in sd hu | exact room_in_shaped sd hu) ⟨.bl _, H, I, rfl, q⟩
def rInL (K : PySem.W.Frag) (neg : Bool) : R2 := fun x y H Q => ∃ d ds, Dp K H x d ∧ Dp K H y (.list ds) ∧ SeqAt.shaped d = true ∧ SeqAt.shaped (.list ds) = true ∧ Q (.bl (neg ^^ ds.any fun z => PyData.eqv z d)) H
theorem op_inL (hu : X.A.units + 65 < cLine) : OpR X (compareOp .In) (rInL X.K false) := by
  intro pins s σ H x y v u Q I rx ry ⟨d, ds, h1, h2, h3, h4, q⟩
  rw [Bool.false_xor] at q
  exact op_inD hu pins s σ H x y v u Q I rx ry ⟨d, ds, h1, h2, h3, h4, q⟩
theorem op_notInL (hu : X.A.units + 65 < cLine) : OpR X (compareOp .NotIn) (rInL X.K true) := by
  intro pins s σ H x y v u Q I rx ry ⟨d, ds, h1, h2, h3, h4, q⟩
  rw [Bool.true_xor] at q
  exact op_notInD hu pins s σ H x y v u Q I rx ry ⟨d, ds, h1, h2, h3, h4, q⟩
def rInS (neg : Bool) : R2 := fun x y H Q => ∃ (c : Nat) (z : Str), x = .str ⟨#[c]⟩ ∧ y = .str z ∧ Q (.bl (neg ^^ decide (c ∈ z.cps.toList))) H
theorem op_inS : OpR X (compareOp .In) (rInS false) := by
  intro pins s σ H x y v u Q I rx ry ⟨c, z, h1, h2, q⟩
  rw [Bool.false_xor] at q
  exact op_in_sign pins s σ H x y v u Q I rx ry ⟨c, z, h1, h2, q⟩
theorem op_notInS : OpR X (compareOp .NotIn) (rInS true) := by
  intro pins s σ H x y v u Q I rx ry ⟨c, z, h1, h2, q⟩
  rw [Bool.true_xor] at q
  exact op_notIn_sign pins s σ H x y v u Q I rx ry ⟨c, z, h1, h2, q⟩
def rIns (K : PySem.W.Frag) (neg : Bool) : R2 := fun x y H Q => rInS neg x y H Q ∨ rInT K neg x y H Q ∨ rInL K neg x y H Q
theorem op_ins (hu : X.A.units + 65 < cLine) : OpR X (compareOp .In) (rIns X.K false) := op_inS.or ((op_inT hu).or (op_inL hu))
theorem op_notIns (hu : X.A.units + 65 < cLine) : OpR X (compareOp .NotIn) (rIns X.K true) := op_notInS.or ((op_notInT hu).or (op_notInL hu))
theorem str_one {c : Str} (h : c.length = 1) : c = ⟨#[c.cps.getD 0 0]⟩ := by
  obtain ⟨⟨l⟩⟩ := c
  match l, h with
  | [a], _ => rfl
theorem pr_in {neg : Bool} : Pr2 X W (dInB neg) (rIns X.K neg) := by
  intro ρ s H σ x y vx vy Q sr r1 r2 po
  cases y with
  | str z =>
    cases x with
    | str c =>
      obtain ⟨h1, po⟩ := Po.ite (c := c.length = 1) po
      obtain rfl : vx = .str c := r1
      obtain rfl : vy = .str z := r2
      exact .inl ⟨c.cps.getD 0 0, z, congrArg V.str (str_one h1), rfl, po ρ H _ Ext.refl sr rfl⟩
    | _ => exact po.elim
  | tup ys =>
    have po2 : Po X.K X.mg (VR X.K) W σ ρ s.length H (match shp s x, shp s (.tup ys) with
      | some p, some (.tuple ps) => .ok (.bl (neg ^^ ps.any fun z => PyData.eqv z p)) s
      | _, _ => .no) Q := po
    split at po2
    · rename_i p ps h1 h2
      obtain ⟨a1, a2⟩ := shp_dp sr h1 r1
      obtain ⟨b1, b2⟩ := shp_dp sr h2 r2
      exact .inr (.inl ⟨p, ps, a1, b1, a2, b2, po2 ρ H _ Ext.refl sr rfl⟩)
    · exact po2.elim
  | ref k =>
    have po2 : Po X.K X.mg (VR X.K) W σ ρ s.length H (match shp s x, shp s (.ref k) with
      | some p, some (.list ps) => .ok (.bl (neg ^^ ps.any fun z => PyData.eqv z p)) s
      | _, _ => .no) Q := po
    split at po2
    · rename_i p ps h1 h2
      obtain ⟨a1, a2⟩ := shp_dp sr h1 r1
      obtain ⟨b1, b2⟩ := shp_dp sr h2 r2
      exact .inr (.inr ⟨p, ps, a1, b1, a2, b2, po2 ρ H _ Ext.refl sr rfl⟩)
    · exact po2.elim
  | _ => exact po.elim
theorem pr_isN : Pr2 X W (fun x y s => match y with | .non => dIsN false x s | _ => .no) (fun x y H Q => y = .non ∧ Q (.bl (decide (x = .non))) H) := by
  intro ρ s H σ x y vx vy Q sr r1 r2 po
  cases y with
  | non =>
    refine ⟨r2, ?_⟩
    cases x with
    | non =>
      obtain rfl : vx = .non := r1
      exact po ρ H _ Ext.refl sr rfl
    | tup xs =>
      rw [VR] at r1
      obtain ⟨a, vs, rfl, _⟩ := r1
      exact po ρ H _ Ext.refl sr rfl
    | ref k =>
      rw [VR] at r1
      obtain ⟨_, rfl⟩ := r1
      exact po ρ H _ Ext.refl sr rfl
    | bl b =>
      obtain rfl : vx = .bl b := r1
      exact po ρ H _ Ext.refl sr rfl
    | int b =>
      obtain rfl : vx = .int b := r1
      exact po ρ H _ Ext.refl sr rfl
    | str b =>
      obtain rfl : vx = .str b := r1
      exact po ρ H _ Ext.refl sr rfl
  | _ => exact po.elim
/-! ### built-ins by name -/
theorem vr_seq {K : PySem.W.Frag} {mg : Str → Option Value} {ρ : Nat → Addr} {s : Sto} {H : Hp} (sr : SR K mg ρ s H) {d : D} {v : V} (r : VR K ρ s.length H d v) {xs : List D} (h : (match d with | .tup ys => some ys | .ref n => lstAt s n | _ => none) = some xs) :
    ∃ a vs, v = .ref a ∧ (SqL K H a vs ∨ SqT K H a vs) ∧ VRs K ρ s.length H xs vs := by
  cases d with
  | tup ys =>
    cases h
    rw [VR] at r
    obtain ⟨a, vs, rfl, sq, rr⟩ := r
    exact ⟨a, vs, rfl, .inr sq, rr⟩
  | ref n =>
    rw [VR] at r
    obtain ⟨_, rfl⟩ := r
    obtain ⟨vs, sq, rr⟩ := sr.lst h
    exact ⟨_, vs, rfl, .inl sq, rr⟩
  | _ => cases h
/-- the items of a list or a tuple -/
def seqD (s : Sto) (d : D) : Option (List D) := match d with
  | .tup ys => some ys
  | .ref n => lstAt s n
  | _ => none
def fLen (ds : List D) (s : Sto) : Rs D := match ds with
  | [.str z] => if z.length ≤ sizeLine then .ok (.int z.length) s else .no
  | [d] => match seqD s d with
    | some xs => .ok (.int xs.length) s
    | none => .no
  | _ => .no
def rLens (K : PySem.W.Frag) : List V → Hp → VK → Prop := fun xs H Q => (∃ z, xs = [.str z] ∧ z.length ≤ sizeLine ∧ Q (.int z.length) H) ∨ ∃ p ys, xs = [.ref p] ∧ (SqL K H p ys ∨ SqT K H p ys) ∧ Q (.int ys.length) H
theorem call_lens : CallR X (.builtin "len") (rLens X.K) := call_len_str.or call_len_seq
theorem pn_len : PrN X W fLen (rLens X.K) := by
  intro ρ s H σ xs vs Q sr r po
  unfold fLen at po
  split at po
  · rename_i z
    obtain ⟨v, rfl, rv⟩ := r.one
    obtain rfl : v = .str z := rv
    obtain ⟨h1, po⟩ := Po.ite po
    exact .inl ⟨z, rfl, h1, po ρ H _ Ext.refl sr rfl⟩
  · rename_i d _
    obtain ⟨v, rfl, rv⟩ := r.one
    cases e : seqD s d with
    | none => rw [e] at po; exact po.elim
    | some ys =>
      rw [e] at po
      obtain ⟨a, ws, rfl, sq, rr⟩ := vr_seq sr rv (xs := ys) (by cases d <;> exact e)
      exact .inr ⟨a, ws, rfl, sq, po ρ H _ Ext.refl sr (by rw [rr.length]; rfl)⟩
  · exact po.elim
def fList (ds : List D) (s : Sto) : Rs D := match ds with
  | [d] => match seqD s d with
    | some xs => if xs.length ≤ sizeLine then .ok (.ref s.length) (s ++ [.lst xs]) else .no
    | none => .no
  | _ => .no
theorem pn_list : PrN X W fList (fun xs H Q => ∃ p ys, xs = [.ref p] ∧ (SqL X.K H p ys ∨ SqT X.K H p ys) ∧ ∀ l, H l = none → Q (.ref l) (upd H l (.lst ys))) := by
  intro ρ s H σ xs vs Q sr r po
  unfold fList at po
  split at po
  · rename_i d
    obtain ⟨v, rfl, rv⟩ := r.one
    cases e : seqD s d with
    | none => rw [e] at po; exact po.elim
    | some ys =>
      rw [e] at po
      obtain ⟨hl, po⟩ := Po.ite po
      obtain ⟨a, ws, rfl, sq, rr⟩ := vr_seq sr rv (xs := ys) (by cases d <;> exact e)
      refine ⟨a, ws, rfl, sq, fun l hn => ?_⟩
      obtain ⟨x1, sr1, v1⟩ := new_lst sr hn rr
      exact po _ _ _ x1 sr1 v1
  · exact po.elim
def fTuple (ds : List D) (s : Sto) : Rs D := match ds with
  | [d] => match seqD s d with
    | some xs => .ok (.tup xs) s
    | none => .no
  | _ => .no
theorem pn_tuple : PrN X W fTuple (fun xs H Q => ∃ p ys, xs = [.ref p] ∧ ((SqL X.K H p ys ∧ ∀ l, H l = none → Q (.ref l) (upd H l (.tup ys))) ∨ (SqT X.K H p ys ∧ Q (.ref p) H))) := by
  intro ρ s H σ xs vs Q sr r po
  unfold fTuple at po
  split at po
  · rename_i d
    obtain ⟨v, rfl, rv⟩ := r.one
    cases e : seqD s d with
    | none => rw [e] at po; exact po.elim
    | some ys =>
      rw [e] at po
      obtain ⟨a, ws, rfl, sq, rr⟩ := vr_seq sr rv (xs := ys) (by cases d <;> exact e)
      refine ⟨a, ws, rfl, ?_⟩
      rcases sq with sq | sq
      · refine .inl ⟨sq, fun l hn => ?_⟩
        obtain ⟨x1, sr1, v1⟩ := new_tup sr hn rr
        exact po _ _ _ x1 sr1 v1
      · refine .inr ⟨sq, po ρ H _ Ext.refl sr ?_⟩
        rw [VR]
        exact ⟨a, ws, rfl, sq, rr⟩
  · exact po.elim
def fInt (ds : List D) (s : Sto) : Rs D := match ds with
  | [.int i] => .ok (.int i) s
  | [.bl b] => .ok (.int (if b then 1 else 0)) s
  | _ => .no
theorem pn_int : PrN X W fInt (fun xs H Q => (∃ i, xs = [.int i] ∧ Q (.int i) H) ∨ ∃ k, xs = [.bl k] ∧ Q (.int (if k then 1 else 0)) H) := by
  intro ρ s H σ xs vs Q sr r po
  unfold fInt at po
  split at po
  · rename_i i
    obtain ⟨v, rfl, rv⟩ := r.one
    obtain rfl : v = .int i := rv
    exact .inl ⟨i, rfl, po ρ H _ Ext.refl sr rfl⟩
  · rename_i b
    obtain ⟨v, rfl, rv⟩ := r.one
    obtain rfl : v = .bl b := rv
    exact .inr ⟨b, rfl, po ρ H _ Ext.refl sr rfl⟩
  · exact po.elim
def fAbs (ds : List D) (s : Sto) : Rs D := match ds with
  | [.int i] => .ok (.int (if i < 0 then -i else i)) s
  | _ => .no
theorem pn_abs : PrN X W fAbs (fun xs H Q => ∃ i, xs = [.int i] ∧ Q (.int (if i < 0 then -i else i)) H) := by
  intro ρ s H σ xs vs Q sr r po
  unfold fAbs at po
  split at po
  · rename_i i
    obtain ⟨v, rfl, rv⟩ := r.one
    obtain rfl : v = .int i := rv
    exact ⟨i, rfl, po ρ H _ Ext.refl sr rfl⟩
  · exact po.elim
def fMax2 (ds : List D) (s : Sto) : Rs D := match ds with
  | [.int i, .int j] => .ok (.int (if j > i then j else i)) s
  | _ => .no
def fMin2 (ds : List D) (s : Sto) : Rs D := match ds with
  | [.int i, .int j] => .ok (.int (if j < i then j else i)) s
  | _ => .no
theorem pn_max2 : PrN X W fMax2 (fun xs H Q => ∃ i j, xs = [.int i, .int j] ∧ Q (.int (if j > i then j else i)) H) := by
  intro ρ s H σ xs vs Q sr r po
  unfold fMax2 at po
  split at po
  · rename_i i j
    obtain ⟨v, vr, rfl, rv, rr⟩ := r.uncons
    obtain ⟨u, rfl, ru⟩ := rr.one
    obtain rfl : v = .int i := rv
    obtain rfl : u = .int j := ru
    exact ⟨i, j, rfl, po ρ H _ Ext.refl sr rfl⟩
  · exact po.elim
theorem pn_min2 : PrN X W fMin2 (fun xs H Q => ∃ i j, xs = [.int i, .int j] ∧ Q (.int (if j < i then j else i)) H) := by
  intro ρ s H σ xs vs Q sr r po
  unfold fMin2 at po
  split at po
  · rename_i i j
    obtain ⟨v, vr, rfl, rv, rr⟩ := r.uncons
    obtain ⟨u, rfl, ru⟩ := rr.one
    obtain rfl : v = .int i := rv
    obtain rfl : u = .int j := ru
    exact ⟨i, j, rfl, po ρ H _ Ext.refl sr rfl⟩
  · exact po.elim
def blD : D → Option Bool
  | .bl b => some b
  | _ => none
theorem bls_of {K : PySem.W.Frag} {ρ : Nat → Addr} {n : Nat} {H : Hp} : ∀ {xs : List D} {vs : List V} {bs : List Bool}, VRs K ρ n H xs vs → xs.mapM blD = some bs → vs = bs.map V.bl
  | [], vs, bs, r, h => by
    rw [VRs] at r
    subst r
    simp at h
    subst h
    rfl
  | x :: xs, vs, bs, r, h => by
    obtain ⟨v, vr, rfl, r1, r2⟩ := r.uncons
    rw [List.mapM_cons] at h
    obtain ⟨b, h1, h⟩ := Option.bind_eq_some_iff.mp h
    obtain ⟨cs, h2, h⟩ := Option.bind_eq_some_iff.mp h
    cases h
    rw [bls_of r2 h2]
    cases x with
    | bl b' =>
      cases h1
      obtain rfl : v = .bl _ := r1
      rfl
    | _ => cases h1
def fAllAny (all : Bool) (ds : List D) (s : Sto) : Rs D := match ds with
  | [.ref n] => match (lstAt s n).bind fun xs => xs.mapM blD with
    | some bs => .ok (.bl (if all then bs.all id else bs.any id)) s
    | none => .no
  | _ => .no
theorem pn_all : PrN X W (fAllAny true) (rAll X.K) := by
  intro ρ s H σ xs vs Q sr r po
  unfold fAllAny at po
  split at po
  · rename_i n
    obtain ⟨v, rfl, rv⟩ := r.one
    split at po
    · rename_i bs e
      obtain ⟨ys, h1, h2⟩ := Option.bind_eq_some_iff.mp e
      rw [VR] at rv
      obtain ⟨_, rfl⟩ := rv
      obtain ⟨ws, sq, rr⟩ := sr.lst h1
      rw [bls_of rr h2] at sq
      exact ⟨_, bs, rfl, sq, po ρ H _ Ext.refl sr rfl⟩
    · exact po.elim
  · exact po.elim
/-! ### sorted: data of one shape, stable, any length -/
open PySem.W in
def rSrt (X : Cx) : List V → Hp → VK → Prop := fun vs H Q => ∃ (a : Addr) (ps : List (D × V)) (enc : D → PyData), vs = [.ref a] ∧ SqL X.K H a (ps.map (·.2)) ∧ (∀ p ∈ ps, Dp X.K H p.2 (enc p.1)) ∧
  AllAlike (ps.map fun p => enc p.1) ∧ Sortable (ps.map fun p => enc p.1) ∧ (∀ p ∈ ps, X.A.units + 2 + (enc p.1).depth < cLine) ∧ ∀ q, H q = none → Q (.ref q) (upd H q (.lst ((ps.mergeSort (dataLe false fun p => enc p.1)).map (·.2))))
theorem each_vals {ps : List (D × V)} : ∀ {us : List Value}, PySem.W.EachIs (fun u (p : D × V) => RelV p.2 u) us ps → Vals (ps.map (·.2)) us := by
  induction ps with
  | nil =>
    intro us h
    cases h
    exact .nil
  | cons p ps ih =>
    intro us h
    cases h with
    | cons h1 h2 => exact .cons h1 (ih h2)
theorem vals_each {ps : List (D × V)} : ∀ {us : List Value}, Vals (ps.map (·.2)) us → PySem.W.EachIs (fun u (p : D × V) => RelV p.2 u) us ps := by
  induction ps with
  | nil =>
    intro us h
    cases h
    exact .nil
  | cons p ps ih =>
    intro us h
    cases h with
    | cons h1 h2 => exact .cons h1 (ih h2)
end
end Z

set_option Elab.async false
set_option linter.all false
set_option maxRecDepth 100000
set_option maxHeartbeats 4000000
namespace Z
open PySem PySem.Spec PyProof.Rows L2
variable [Row]

section
variable {X : Cx} {W : WX}
/-! ### sorted -/
def encD (s : Sto) (d : D) : PyData := (pyd 30 s d).getD .none
def tupB : PyData → Bool
  | .tuple (_ :: _) => true
  | _ => false
def noTupB : PyData → Bool
  | .tuple _ => false
  | .none => false
  | _ => true
def canSort (s : Sto) (xs : List D) : Bool := (xs.all fun d => (shp s d).isSome) && (xs.all fun d => xs.all fun e => PySem.W.alike (encD s d) (encD s e)) && ((xs.all fun d => tupB (encD s d)) || xs.all fun d => noTupB (encD s d))
def sortD (s : Sto) (xs : List D) : List D := xs.mergeSort (PySem.W.dataLe false (encD s))
theorem shp_enc {s : Sto} {d : D} (h : (shp s d).isSome = true) : pyd 30 s d = some (encD s d) ∧ SeqAt.shaped (encD s d) = true := by
  unfold shp at h
  unfold encD
  cases e : pyd 30 s d with
  | none => rw [e] at h; cases h
  | some p =>
    rw [e] at h
    by_cases hs : SeqAt.shaped p = true
    · exact ⟨rfl, hs⟩
    · simp [hs] at h
theorem VRs.pairs {K : PySem.W.Frag} {ρ : Nat → Addr} {n : Nat} {H : Hp} : ∀ {ds : List D} {vs : List V}, VRs K ρ n H ds vs → ∃ ps : List (D × V), ps.map (·.1) = ds ∧ ps.map (·.2) = vs ∧ ∀ p ∈ ps, VR K ρ n H p.1 p.2
  | [], vs, r => by
    rw [VRs] at r
    subst r
    exact ⟨[], rfl, rfl, fun p hp => absurd hp (by simp)⟩
  | d :: ds, vs, r => by
    obtain ⟨v, vr, rfl, r1, r2⟩ := r.uncons
    obtain ⟨ps, h1, h2, h3⟩ := VRs.pairs r2
    exact ⟨(d, v) :: ps, by simp [h1], by simp [h2], fun p hp => by
      rcases List.mem_cons.mp hp with rfl | hp
      · exact r1
      · exact h3 p hp⟩
theorem VRs.of_pairs {K : PySem.W.Frag} {ρ : Nat → Addr} {n : Nat} {H : Hp} : ∀ {ps : List (D × V)}, (∀ p ∈ ps, VR K ρ n H p.1 p.2) → VRs K ρ n H (ps.map (·.1)) (ps.map (·.2))
  | [], _ => VRs.nil
  | p :: ps, h => VRs.cons (h p List.mem_cons_self) (VRs.of_pairs fun q hq => h q (List.mem_cons_of_mem _ hq))
def fSorted (ds : List D) (s : Sto) : Rs D := match ds with
  | [.ref n] => match lstAt s n with
    | some xs => if canSort s xs = true then .ok (.ref s.length) (s ++ [.lst (sortD s xs)]) else .no
    | none => .no
  | _ => .no
/-! ### subscripts, slices -/
def dIx (x y : D) (s : Sto) : Rs D := match y with
  | .int i => match x with
    | .str z => if z.length ≤ sizeLine then (match atI z.cps.toList i with
        | some c => .ok (.str ⟨#[c]⟩) s
        | none => .no) else .no
    | _ => match seqD s x with
      | some xs => match atI xs i with
        | some d => .ok d s
        | none => .no
      | none => .no
  | _ => .no
theorem VRs.atI {K : PySem.W.Frag} {ρ : Nat → Addr} {n : Nat} {H : Hp} {ds : List D} {vs : List V} {i : Int} {d : D} (r : VRs K ρ n H ds vs) (h : atI ds i = some d) : ∃ v, L2.atI vs i = some v ∧ VR K ρ n H d v := by
  unfold L2.atI at h ⊢
  rw [r.length]
  cases e : ixN ds.length i with
  | none => rw [e] at h; cases h
  | some j =>
    rw [e] at h
    exact r.get h
theorem pr_ix : Pr2 X W dIx (rIx X.K) := by
  intro ρ s H σ x y vx vy Q sr r1 r2 po
  cases y with
  | int i =>
    obtain rfl : vy = .int i := r2
    have gen : ∀ xs : List D, seqD s x = some xs → Po X.K X.mg (VR X.K) W σ ρ s.length H (match atI xs i with | some d => Rs.ok d s | none => .no) Q → rIx X.K vx (.int i) H Q := by
      intro xs e po
      cases h : atI xs i with
      | none => rw [h] at po; exact po.elim
      | some d =>
        rw [h] at po
        obtain ⟨a, vs, rfl, sq, rr⟩ := vr_seq sr r1 (xs := xs) (by cases x <;> exact e)
        obtain ⟨v, hv, rv⟩ := rr.atI h
        rcases sq with sq | sq
        · exact .inl ⟨a, vs, i, v, rfl, rfl, sq, hv, po ρ H _ Ext.refl sr rv⟩
        · exact .inr (.inl ⟨a, vs, i, v, rfl, rfl, sq, hv, po ρ H _ Ext.refl sr rv⟩)
    cases x with
    | str z =>
      obtain rfl : vx = .str z := r1
      obtain ⟨hl, po⟩ := Po.ite (c := z.length ≤ sizeLine) po
      cases h : L2.atI z.cps.toList i with
      | none => rw [h] at po; exact po.elim
      | some c =>
        rw [h] at po
        exact .inr (.inr ⟨z, i, c, rfl, rfl, hl, h, po ρ H _ Ext.refl sr rfl⟩)
    | tup xs => exact gen xs rfl po
    | ref n =>
      have po2 : Po X.K X.mg (VR X.K) W σ ρ s.length H (match lstAt s n with
        | some xs => match atI xs i with
          | some d => Rs.ok d s
          | none => .no
        | none => .no) Q := po
      cases e : lstAt s n with
      | none => rw [e] at po2; exact po2.elim
      | some xs =>
        rw [e] at po2
        exact gen xs e po2
    | _ => exact po.elim
  | _ =>
    unfold dIx at po
    exact po.elim
def cutD (xs : List D) (lo hi : Option Int) : List D := (xs.drop (HT.sIx xs.length 0 lo)).take (HT.sIx xs.length xs.length hi - HT.sIx xs.length 0 lo)
def dSl (x : D) (lo hi : Option Int) (s : Sto) : Rs D := match x with
  | .str z => if z.length ≤ sizeLine then .ok (.str (cutS z lo hi)) s else .no
  | .tup xs => .ok (.tup (cutD xs lo hi)) s
  | .ref n => match lstAt s n with
    | some xs => .ok (.ref s.length) (s ++ [.lst (cutD xs lo hi)])
    | none => .no
  | _ => .no
def rSls (K : PySem.W.Frag) : V → Option Int → Option Int → Hp → VK → Prop := fun x lo hi H Q => rSlS x lo hi H Q ∨ rSlA K x lo hi H Q ∨ rSlL K x lo hi H Q
theorem sl_all : SlR X (rSls X.K) := sl_str.or (sl_tupA.or sl_list)
theorem VRs.cut {K : PySem.W.Frag} {ρ : Nat → Addr} {n : Nat} {H : Hp} {ds : List D} {vs : List V} {lo hi : Option Int} (r : VRs K ρ n H ds vs) : VRs K ρ n H (cutD ds lo hi) (cutV vs lo hi) := by
  unfold cutD cutV
  rw [r.length]
  exact (r.drop _).take _
theorem ps_sl : PrS X W dSl (rSls X.K) := by
  intro ρ s H σ x vx lo hi Q sr r po
  cases x with
  | str z =>
    obtain rfl : vx = .str z := r
    obtain ⟨hl, po⟩ := Po.ite (c := z.length ≤ sizeLine) po
    exact .inl ⟨z, rfl, hl, po ρ H _ Ext.refl sr rfl⟩
  | tup xs =>
    have r' := r
    rw [VR] at r
    obtain ⟨a, vs, rfl, sq, rr⟩ := r
    refine .inr (.inl ⟨a, vs, rfl, sq, fun hh => ?_, fun _ p hp => ?_⟩)
    · refine po ρ H _ Ext.refl sr ?_
      have e : cutD xs lo hi = xs := by
        unfold cutD
        rw [← rr.length, hh.1, hh.2, List.drop_zero, rr.length, Nat.sub_zero, List.take_length]
      rw [e]
      exact r'
    · obtain ⟨x1, sr1, v1⟩ := new_tup sr hp (rr.cut (lo := lo) (hi := hi))
      exact po ρ _ _ x1 sr1 v1
  | ref n =>
    have po2 : Po X.K X.mg (VR X.K) W σ ρ s.length H (match lstAt s n with
      | some xs => Rs.ok (.ref s.length) (s ++ [.lst (cutD xs lo hi)])
      | none => .no) Q := po
    cases e : lstAt s n with
    | none => rw [e] at po2; exact po2.elim
    | some xs =>
      rw [e] at po2
      rw [VR] at r
      obtain ⟨_, rfl⟩ := r
      obtain ⟨vs, sq, rr⟩ := sr.lst e
      refine .inr (.inr ⟨_, vs, rfl, sq, fun p hp => ?_⟩)
      obtain ⟨x1, sr1, v1⟩ := new_lst sr hp (rr.cut (lo := lo) (hi := hi))
      exact po2 _ _ _ x1 sr1 v1
  | _ => exact po.elim
/-! ### stores to a place, methods of lists -/
def xSetL (o i x : D) (s : Sto) : Option Sto := match o, i with
  | .ref n, .int k => match s[n]? with
    | some (.lst xs) => (ixN xs.length k).map fun j => s.set n (.lst (xs.set j x))
    | _ => none
  | _, _ => none
theorem px_setL : PrSet X xSetL rSetL := by
  intro ρ s s' H o i x vo vi vx Q sr ro ri rx e q
  unfold xSetL at e
  split at e
  · rename_i n k
    split at e
    · rename_i xs h1
      obtain ⟨j, hj, rfl⟩ := Option.map_eq_some_iff.mp e
      rw [VR] at ro
      obtain ⟨_, rfl⟩ := ro
      obtain rfl : vi = .int k := ri
      obtain ⟨vs, hv, rv⟩ := sr.ob _ _ h1
      refine ⟨_, vs, k, j, rfl, rfl, hv, by rw [rv.length]; exact hj, ?_⟩
      have xw : Ext ρ s.length H ρ s.length (upd H (ρ n) (.lst (vs.set j vx))) := Ext.write (sr.ob _ _ h1) rfl
      refine q ρ _ (by rw [List.length_set]; exact xw) ?_
      exact sr.write h1 rfl rfl ⟨_, upd_same, (rv.set j rx).mono xw⟩
    · cases e
  · cases e
/-- a list's method that changes it -/
def mtL (f : List D → List D → Option (List D × D)) (x : D) (ds : List D) (s : Sto) : Rs D := match x with
  | .ref n => match s[n]? with
    | some (.lst xs) => match f xs ds with
      | some (ys, d) => .ok d (s.set n (.lst ys))
      | none => .no
    | _ => .no
  | _ => .no
theorem pm_L {f : List D → List D → Option (List D × D)} {r : V → List V → Hp → VK → Prop}
    (h : ∀ (ρ : Nat → Addr) (n : Nat) (H : Hp) (a : Addr) (xs ds ys : List D) (d : D) (vs us : List V) (Q : VK), H a = some (.lst vs) → VRs X.K ρ n H xs vs → VRs X.K ρ n H ds us → f xs ds = some (ys, d) →
      (∀ ws v, VRs X.K ρ n H ys ws → VR X.K ρ n H d v → Q v (upd H a (.lst ws))) → r (.ref a) us H Q) : PrM X W (mtL f) r := by
  intro ρ s H σ x ds v us Q sr r1 r2 po
  unfold mtL at po
  cases x with
  | ref n =>
    dsimp only at po
    split at po
    · rename_i xs h1
      split at po
      · rename_i ys d h2
        rw [VR] at r1
        obtain ⟨_, rfl⟩ := r1
        obtain ⟨vs, hv, rv⟩ := sr.ob _ _ h1
        refine h ρ s.length H (ρ n) xs ds ys d vs us Q hv rv r2 h2 fun ws v rw1 rd => ?_
        have xw : Ext ρ s.length H ρ s.length (upd H (ρ n) (.lst ws)) := Ext.write (sr.ob _ _ h1) rfl
        refine po ρ _ v (by rw [List.length_set]; exact xw) (sr.write h1 rfl rfl ⟨_, upd_same, rw1.mono xw⟩) (by rw [List.length_set]; exact rd.mono xw)
      · exact po.elim
    · exact po.elim
  | _ => exact po.elim
def lAppend (xs ds : List D) : Option (List D × D) := match ds with
  | [d] => if xs.length < sizeLine then some (xs ++ [d], .non) else none
  | _ => none
theorem pm_append : PrM X W (mtL lAppend) rAppend := pm_L fun ρ n H a xs ds ys d vs us Q hv rv ru e q => by
  unfold lAppend at e
  split at e
  · rename_i x
    split at e
    · rename_i hl
      cases e
      obtain ⟨u, rfl, r1⟩ := ru.one
      exact ⟨a, vs, u, rfl, rfl, hv, by rw [rv.length]; exact hl, q _ _ (rv.append (VRs.cons r1 VRs.nil)) rfl⟩
    · cases e
  · cases e
theorem VRs.eraseIdx {K : PySem.W.Frag} {ρ : Nat → Addr} {n : Nat} {H : Hp} : ∀ {ds : List D} {vs : List V} (i : Nat), VRs K ρ n H ds vs → VRs K ρ n H (ds.eraseIdx i) (vs.eraseIdx i)
  | [], vs, i, r => by
    rw [VRs] at r
    subst r
    exact VRs.nil
  | d :: ds, vs, 0, r => by
    obtain ⟨v, vr, rfl, r1, r2⟩ := r.uncons
    exact r2
  | d :: ds, vs, i + 1, r => by
    obtain ⟨v, vr, rfl, r1, r2⟩ := r.uncons
    exact VRs.cons r1 (VRs.eraseIdx i r2)
def lPopAt (xs ds : List D) : Option (List D × D) := match ds with
  | [.int i] => if -(2 ^ 63) ≤ i ∧ i < 2 ^ 63 then (seqIndex? i xs.length).bind fun k => (xs[k]?).map fun d => (xs.eraseIdx k, d) else none
  | _ => none
def lReverse (xs ds : List D) : Option (List D × D) := match ds with
  | [] => some (xs.reverse, .non)
  | _ => none
/-! ### texts -/
def strD : D → Option Str
  | .str x => some x
  | _ => none
theorem strs_of {K : PySem.W.Frag} {ρ : Nat → Addr} {n : Nat} {H : Hp} : ∀ {xs : List D} {vs : List V} {bs : List Str}, VRs K ρ n H xs vs → xs.mapM strD = some bs → vs = bs.map V.str
  | [], vs, bs, r, h => by
    rw [VRs] at r
    subst r
    simp at h
    subst h
    rfl
  | x :: xs, vs, bs, r, h => by
    obtain ⟨v, vr, rfl, r1, r2⟩ := r.uncons
    rw [List.mapM_cons] at h
    obtain ⟨b, h1, h⟩ := Option.bind_eq_some_iff.mp h
    obtain ⟨cs, h2, h⟩ := Option.bind_eq_some_iff.mp h
    cases h
    rw [strs_of r2 h2]
    cases x with
    | str b' =>
      cases h1
      obtain rfl : v = .str _ := r1
      rfl
    | _ => cases h1
def fJoin (x : D) (ds : List D) (s : Sto) : Rs D := match x, ds with
  | .str a, [d] => match (seqD s d).bind fun xs => xs.mapM strD with
    | some ys => if (ys.map (·.length)).sum + ys.length * a.length ≤ 16777216 then .ok (.str (Txt.join a ys)) s else .no
    | none => .no
  | _, _ => .no
theorem pm_join : PrM X W fJoin (fun x xs H Q => ∃ a p, ∃ ys : List Str, x = .str a ∧ xs = [.ref p] ∧ (SqL X.K H p (ys.map V.str) ∨ SqT X.K H p (ys.map V.str)) ∧
    (ys.map (·.length)).sum + ys.length * a.length ≤ 16777216 ∧ Q (.str (Txt.join a ys)) H) := by
  intro ρ s H σ x ds v us Q sr r1 r2 po
  unfold fJoin at po
  split at po
  · rename_i a d
    obtain rfl : v = .str a := r1
    obtain ⟨u, rfl, ru⟩ := r2.one
    split at po
    · rename_i ys e
      obtain ⟨hz, po⟩ := Po.ite po
      obtain ⟨xs, h1, h2⟩ := Option.bind_eq_some_iff.mp e
      obtain ⟨p, vs, rfl, sq, rr⟩ := vr_seq sr ru (xs := xs) (by cases d <;> exact h1)
      rw [strs_of rr h2] at sq
      exact ⟨a, p, ys, rfl, rfl, sq, hz, po ρ H _ Ext.refl sr rfl⟩
    · exact po.elim
  · exact po.elim
theorem vrs_strs {K : PySem.W.Frag} {ρ : Nat → Addr} {n : Nat} {H : Hp} : ∀ ys : List Str, VRs K ρ n H (ys.map D.str) (ys.map V.str)
  | [] => VRs.nil
  | _ :: ys => VRs.cons rfl (vrs_strs ys)
def fSplit (x : D) (ds : List D) (s : Sto) : Rs D := match x, ds with
  | .str a, [.str b] => if (b.length == 0) = false ∧ a.length + 2 ≤ sizeLine then .ok (.ref s.length) (s ++ [.lst ((Txt.split a b).map D.str)]) else .no
  | _, _ => .no
theorem pm_split : PrM X W fSplit (fun x xs H Q => ∃ a b, x = .str a ∧ xs = [.str b] ∧ (b.length == 0) = false ∧ a.length + 2 ≤ sizeLine ∧ rNewStrs (Txt.split a b) H Q) := by
  intro ρ s H σ x ds v us Q sr r1 r2 po
  unfold fSplit at po
  split at po
  · rename_i a b
    obtain rfl : v = .str a := r1
    obtain ⟨u, rfl, ru⟩ := r2.one
    obtain rfl : u = .str b := ru
    obtain ⟨⟨h1, h2⟩, po⟩ := Po.ite po
    refine ⟨a, b, rfl, rfl, h1, h2, fun p hp => ?_⟩
    obtain ⟨x1, sr1, v1⟩ := new_lst sr hp (vrs_strs (K := X.K) (ρ := ρ) (n := s.length) (H := H) (Txt.split a b))
    exact po _ _ _ x1 sr1 v1
  · exact po.elim
/-! ### f-strings -/
def fFmt (d : D) (s : Sto) : Rs D := match d with
  | .str y => if y.length ≤ sizeLine then .ok (.str y) s else .no
  | .int i => if i.natAbs.log2 < 1920 then .ok (.str (toString i)) s else .no
  | _ => .no
variable {pos : Pos} {e : Expr} {m : EM D}
def mJs : List (EM D) → Str → Ev → Sto → Rs D
  | [], acc, _, s => .ok (.str acc) s
  | m :: ms, acc, e, s => (m e s).bind fun d s1 => match d with
    | .str y => if (acc ++ y).length ≤ sizeLine then mJs ms (acc ++ y) e s1 else .no
    | _ => .no
inductive JP (X : Cx) (W : WX) : List Expr → List (EM D) → Prop where
  | nil : JP X W [] []
  | cons {e : Expr} {m : EM D} {es : List Expr} {ms : List (EM D)} (h : JE X W e m) (r : JP X W es ms) : JP X W (e :: es) (m :: ms)
theorem JP.pj {es : List Expr} {ms : List (EM D)} (h : JP X W es ms) : PJ X es (ms.map fun m => lE X.K X.mg W m) := by
  induction h with
  | nil => exact .nil
  | cons h _ ih => exact .cons h ih
end
end Z

set_option Elab.async false
set_option linter.all false
set_option maxRecDepth 100000
set_option maxHeartbeats 4000000
namespace Z
open PySem PySem.Spec PyProof.Rows L2
variable [Row]

section
variable {X : Cx} {W : WX} {pos : Pos}
/-! ### further walks -/
def jEn (n : Nat) : Stp := fun i s => (lstAt s n).map fun xs => (xs[i]?).map fun d => .tup [.int i, d]
def jStr (x : Str) : Stp := fun i _ => some ((x.cps[i]?).map fun c => .str ⟨#[c]⟩)
def jZip (n m : Nat) : Stp := fun i s => match lstAt s n, lstAt s m with
  | some xs, some ys => some (match xs[i]?, ys[i]? with
    | some x, some y => some (.tup [x, y])
    | _, _ => none)
  | _, _ => none
def iEn (ms : EM (List D)) : EM (Nat × Stp) := fun e s => (ms e s).bind fun ds s1 => match ds with
  | [.ref n] => match lstAt s1 n with
    | some xs => .ok (xs.length, jEn n) s1
    | none => .no
  | _ => .no
def iSt (m : EM D) : EM (Nat × Stp) := fun e s => (m e s).bind fun d s1 => match d with
  | .str x => .ok (x.cps.size, jStr x) s1
  | _ => .no
def iZp (ms : EM (List D)) : EM (Nat × Stp) := fun e s => (ms e s).bind fun ds s1 => match ds with
  | [.ref n, .ref m] => match lstAt s1 n, lstAt s1 m with
    | some xs, some ys => .ok (xs.length, jZip n m) s1
    | _, _ => .no
  | _ => .no
theorem ri_en {ρ : Nat → Addr} {n m : Nat} {H : Hp} {N : Nat} (hm : m < n) : RI X.K X.mg ρ n H (N, jEn m) (Ite X.K (ρ m)) := by
  intro ρ' s' H' i e sr
  show match (lstAt s' m).map fun xs => (xs[i]?).map fun d => D.tup [.int i, d] with
    | none => True
    | some none => _
    | some (some d) => _
  cases h : lstAt s' m with
  | none => trivial
  | some xs =>
    obtain ⟨vs, sq, r⟩ := sr.lst h
    rw [e.ag m hm] at sq
    cases hx : xs[i]? with
    | none =>
      simp only [Option.map, hx]
      exact ⟨vs, sq, by rw [r.length]; exact List.getElem?_eq_none_iff.mp hx⟩
    | some d =>
      simp only [Option.map, hx]
      obtain ⟨v, hv, rv⟩ := r.get hx
      refine ⟨⟨vs, v, sq, hv⟩, fun x H'' y => ?_⟩
      obtain ⟨T, u, rfl, hT, rfl, y⟩ := y
      have q := y vs sq
      rw [hv] at q
      cases q
      exact new_tup sr hT (VRs.cons rfl (VRs.cons rv VRs.nil))
theorem ri_str {ρ : Nat → Addr} {n : Nat} {H : Hp} {N : Nat} {x : Str} : RI X.K X.mg ρ n H (N, jStr x) (Its x) := by
  intro ρ' s' H' i e sr
  show match some ((x.cps[i]?).map fun c => D.str ⟨#[c]⟩) with
    | none => True
    | some none => _
    | some (some d) => _
  cases hx : x.cps[i]? with
  | none =>
    simp only [Option.map]
    exact Array.getElem?_eq_none_iff.mp hx
  | some c =>
    simp only [Option.map]
    have hi : i < x.cps.size := (Array.getElem?_eq_some_iff.mp hx).1
    refine ⟨hi, fun v H'' y => ?_⟩
    obtain ⟨rfl, c', hc, rfl⟩ := y
    rw [hx] at hc
    cases hc
    exact ⟨Ext.refl, sr, rfl⟩
variable {tg e e2 : Expr} {ms : EM (List D)} {m : EM D} {p tpos : Pos} {elts : List Expr} {kk : Nat}
theorem ji_en (hg : Gl X "enumerate") (hm : X.mg "enumerate" = none) (ha : JA X W [e] ms) (hs : starEach [e] X.env = [(false, eval e X.env)] := by rfl) : JI X W (.Tuple elts kk tpos) (.Call (.Name "enumerate" p) [e] [] pos) (iEn ms) :=
  PI_imp (pi_enum hg hm ha hs) fun σ H Q ⟨ρ, env, s, sr, er, po⟩ => ⟨ρ, env, s, sr, er, (Po.bind po).imp fun v H1 ⟨ρ1, s1, d1, e1, sr1, r1, po1⟩ => by
    dsimp only at po1
    split at po1
    · rename_i n
      split at po1
      · rename_i xs hx
        obtain ⟨u, rfl, ru⟩ := r1.one
        rw [VR] at ru
        obtain ⟨hn, rfl⟩ := ru
        obtain ⟨vs, sq, rr⟩ := sr1.lst hx
        exact ⟨_, vs, rfl, sq, po1 ρ1 H1 _ Ext.refl sr1 (ri_en hn)⟩
      · exact po1.elim
    · exact po1.elim⟩
theorem ji_str (he : JE X W e m) : JI X W tg e (iSt m) := PI_imp (pi_str he) fun σ H Q ⟨ρ, env, s, sr, er, po⟩ => ⟨ρ, env, s, sr, er, (Po.bind po).imp fun v H1 ⟨ρ1, s1, d1, e1, sr1, r1, po1⟩ => by
  cases d1 with
  | str x =>
    obtain rfl : v = .str x := r1
    exact ⟨x, rfl, po1 ρ1 H1 _ Ext.refl sr1 ri_str⟩
  | _ => exact po1.elim⟩
/-! ### int * int, list * int -/
def dMul2 (x y : D) (s : Sto) : Rs D := match x, y with
  | .int i, .int j => if cMul i j then .ok (.int (i * j)) s else .no
  | .ref n, .int k => match s[n]? with
    | some (.lst xs) => if (-(2 ^ 63) ≤ k ∧ k < 2 ^ 63) ∧ xs.length * k.toNat ≤ sizeLine then .ok (.ref s.length) (s ++ [.lst (List.replicate k.toNat xs).flatten]) else .no
    | _ => .no
  | _, _ => .no
def rMuls : R2 := fun x y H Q => rI CMul (fun i j => .int (i * j)) x y H Q ∨ rRep x y H Q
theorem op_muls : OpR X (binaryOp .Mult) rMuls := op_mul.or op_rep
theorem VRs.rep {K : PySem.W.Frag} {ρ : Nat → Addr} {n : Nat} {H : Hp} {ds : List D} {vs : List V} (r : VRs K ρ n H ds vs) : ∀ k : Nat, VRs K ρ n H (List.replicate k ds).flatten (List.replicate k vs).flatten
  | 0 => VRs.nil
  | k + 1 => by
    rw [List.replicate_succ, List.flatten_cons, List.replicate_succ, List.flatten_cons]
    exact r.append (VRs.rep r k)
theorem pr_mul2 : Pr2 X W dMul2 rMuls := by
  intro ρ s H σ x y vx vy Q sr r1 r2 po
  unfold dMul2 at po
  split at po
  · rename_i i j
    obtain ⟨hc, po⟩ := Po.ite po
    obtain rfl : vx = .int i := r1
    obtain rfl : vy = .int j := r2
    exact .inl ⟨i, j, rfl, rfl, hc, po ρ H _ Ext.refl sr rfl⟩
  · rename_i n k
    split at po
    · rename_i xs hx
      obtain ⟨⟨h1, h2⟩, po⟩ := Po.ite po
      rw [VR] at r1
      obtain ⟨_, rfl⟩ := r1
      obtain rfl : vy = .int k := r2
      obtain ⟨vs, hv, rv⟩ := sr.ob _ _ hx
      refine .inr ⟨_, k, vs, rfl, rfl, hv, h1.1, h1.2, by rw [rv.length]; exact h2, fun q hq => ?_⟩
      obtain ⟨x1, sr1, v1⟩ := new_lst sr hq (rv.rep k.toNat)
      exact po _ _ _ x1 sr1 v1
    · exact po.elim
  · exact po.elim
/-! ### isinstance with one built-in class -/
def tyN (s : Sto) : D → Option String
  | .non => some "NoneType"
  | .bl _ => some "bool"
  | .int _ => some "int"
  | .str _ => some "str"
  | .tup _ => some "tuple"
  | .ref n => match s[n]? with
    | some (.lst _) => some "list"
    | some (.frz _) => some "list"
    | some (.dict _ _) => some "dict"
    | _ => none
theorem tyN_ok {K : PySem.W.Frag} {mg : Str → Option Value} {ρ : Nat → Addr} {s : Sto} {H : Hp} (sr : SR K mg ρ s H) {d : D} {v : V} {t : String} (r : VR K ρ s.length H d v) (h : tyN s d = some t) : TyX K H v (.type t) := by
  cases d with
  | non =>
    cases h
    obtain rfl : v = .non := r
    exact .base .non
  | bl b =>
    cases h
    obtain rfl : v = .bl b := r
    exact .base (.bl b)
  | int b =>
    cases h
    obtain rfl : v = .int b := r
    exact .base (.int b)
  | str b =>
    cases h
    obtain rfl : v = .str b := r
    exact .base (.str b)
  | tup ds =>
    cases h
    rw [VR] at r
    obtain ⟨a, vs, rfl, sq, _⟩ := r
    rcases sq with (sq | ⟨o, sq⟩) | ⟨o, its, n, hk, hc, _⟩
    · exact .base (.tup sq)
    · exact .fTuple sq
    · exact .kTuple hk hc
  | ref n =>
    rw [VR] at r
    obtain ⟨_, rfl⟩ := r
    have h2 : (match s[n]? with
      | some (.lst _) => some "list"
      | some (.frz _) => some "list"
      | some (.dict _ _) => some "dict"
      | _ => none) = some t := h
    clear h
    split at h2
    · rename_i xs hx
      cases h2
      obtain ⟨vs, q, _⟩ := sr.ob _ _ hx
      exact .base (.lst q)
    · rename_i xs hx
      cases h2
      obtain ⟨vs, q, _⟩ := sr.ob _ _ hx
      rcases q with ⟨o, q⟩ | ⟨o, its, m, hk, hc, _⟩
      · exact .base (.frz q)
      · exact .kList hk hc
    · rename_i t kvs hx
      cases h2
      have ob := sr.ob _ _ hx
      cases t with
      | false =>
        obtain ⟨vs, q, _⟩ := ob
        exact .base (.dK q)
      | true =>
        obtain ⟨vs, q, _⟩ := ob
        exact .base (.dT q)
    · cases h2
def mIsi (T : String) (m : EM D) : EM D := fun e s => (m e s).bind fun d s1 => match tyN s1 d with
  | some a => match kitB a T with
    | some b => .ok (.bl b) s1
    | none => .no
  | none => .no
theorem je_isi {x : Str} {p1 p2 : Pos} {T : String} (hg : Gl X "isinstance") (hm : X.mg "isinstance" = none) (hg2 : Gl X x) (hm2 : X.mg x = none) (hv : bootBuiltins x = some (.type T)) (he : JE X W e m) (hn : x ≠ "__name__" := by decide) (hdb : (x == ("__debug__" : Str)) = false := by decide)
    (hs : starEach [e, .Name x p2] X.env = (false, eval e X.env) :: starEach [.Name x p2] X.env := by rfl) (hpl : (backTo pos (starEach [.Name x p2] X.env)).any (·.1) = false := by rfl) (hs2 : starEach [.Name x p2] X.env = (false, eval (.Name x p2) X.env) :: starEach [] X.env := by rfl) :
    JE X W (.Call (.Name "isinstance" p1) [e, .Name x p2] [] pos) (mIsi T m) := by
  refine PE_imp (pe_callB call_isi hg hm boot_isinstance (pa_cons he (pa_cons (pe_bltn (v := .ty T) hg2 hm2 hv rfl hn hdb) pa_nil hs2) hs) (he := hs) (hpl := hpl)) fun σ H Q ⟨ρ, env, s, sr, er, po⟩ => ⟨ρ, env, s, sr, er, (Po.bind po).imp fun v H1 ⟨ρ1, s1, d1, e1, sr1, r1, po1⟩ => ?_⟩
  dsimp only at po1
  split at po1
  · rename_i a ha
    split at po1
    · rename_i b hb
      exact ⟨v, .ty T, .type a, .type T, b, rfl, .ty T, tyN_ok sr1 r1 ha, kit_ty hb, po1 ρ1 H1 _ Ext.refl sr1 rfl⟩
    · exact po1.elim
  · exact po1.elim
/-! ### repr of data -/
def fRepr (ds : List D) (s : Sto) : Rs D := match ds with
  | [d] => match shp s d with
    | some p => if p.showable = true ∧ p.shown.length ≤ sizeLine then .ok (.str p.shown) s else .no
    | none => .no
  | _ => .no
def rReprD (K : PySem.W.Frag) : List V → Hp → VK → Prop := fun xs H Q => ∃ v p, xs = [v] ∧ Dp K H v p ∧ SeqAt.shaped p = true ∧ p.showable = true ∧ p.shown.length ≤ sizeLine ∧ Q (.str p.shown) H
theorem noDict_lay : (∀ d : PyData, d.canLay0 = true → d.hasDict = false) ∧ ∀ ds : List PyData, PyData.canLayAll0 ds = true → PyData.hasDictAll ds = false := by
  have h : ∀ n, (∀ d : PyData, sizeOf d < n → d.canLay0 = true → d.hasDict = false) ∧ ∀ ds : List PyData, sizeOf ds < n → PyData.canLayAll0 ds = true → PyData.hasDictAll ds = false := by
    intro n
    induction n with
    | zero => exact ⟨fun _ h => absurd h (Nat.not_lt_zero _), fun _ h => absurd h (Nat.not_lt_zero _)⟩
    | succ n ih =>
      refine ⟨fun d hd hl => ?_, fun ds hd hl => ?_⟩
      · cases d with
        | list xs =>
          rw [PyData.canLay0] at hl
          rw [PyData.hasDict]
          exact ih.2 xs (by simp at hd; omega) hl
        | tuple xs =>
          rw [PyData.canLay0] at hl
          rw [PyData.hasDict]
          exact ih.2 xs (by simp at hd; omega) hl
        | dict kvs => simp [PyData.canLay0] at hl
        | _ => rfl
      · cases ds with
        | nil => rfl
        | cons d ds =>
          rw [PyData.canLayAll0, Bool.and_eq_true] at hl
          rw [PyData.hasDictAll, ih.1 d (by simp at hd; omega) hl.1, ih.2 ds (by simp at hd; omega) hl.2]
          rfl
  exact ⟨fun d => (h _).1 d (Nat.lt_succ_self _), fun ds => (h _).2 ds (Nat.lt_succ_self _)⟩
theorem call_reprD (hg : X.A.guards = some []) (hu : X.A.units + 66 < cLine) : CallR X (.builtin "repr") (rReprD X.K) := by
  intro pins s σ H xs us Q I r h
  obtain ⟨v, p, rfl, dp, sh, hs, hz, q⟩ := h
  obtain ⟨u, rfl, ru⟩ := vals1 r
  cases dp with
  | non =>
    cases ru
    exact PySem.P.repr_of_none ⟨.str _, H, I.tok _, ⟨_, rfl⟩, q⟩
  | bl b =>
    cases ru
    refine PySem.P.repr_of_bool ⟨.str _, H, I.tok _, ⟨_, rfl⟩, ?_⟩
    cases b <;> exact q
  | int i =>
    obtain ⟨t, rfl⟩ := ru
    exact PySem.P.repr_of_int (of_decide_eq_true hs) ⟨.str _, H, I.tok _, ⟨_, rfl⟩, q⟩
  | str x =>
    obtain ⟨t, rfl⟩ := ru
    exact PySem.P.repr_of_str ⟨.str _, H, I.tok _, ⟨_, rfl⟩, q⟩ hz
  | lst sq ha =>
    obtain ⟨as, rd⟩ := Dp.reads I _ _ _ (Dp.lst sq ha) ru
    cases ru
    exact repr_of_reads' rd hs (PyData.noDict_hsm (noDict_lay.1 _ (SeqAt.canLay_of_shaped sh))) hg (by have := SeqAt.depth_of_shaped sh; omega) (fun _ _ e => e) (fun h' u tk kk => ⟨.str _, H, I.kept kk, ⟨_, rfl⟩, q⟩) hz
  | tup sq ha =>
    obtain ⟨as, rd⟩ := Dp.reads I _ _ _ (Dp.tup sq ha) ru
    cases ru
    exact repr_of_reads' rd hs (PyData.noDict_hsm (noDict_lay.1 _ (SeqAt.canLay_of_shaped sh))) hg (by have := SeqAt.depth_of_shaped sh; omega) (fun _ _ e => e) (fun h' u tk kk => ⟨.str _, H, I.kept kk, ⟨_, rfl⟩, q⟩) hz
theorem pn_repr : PrN X W fRepr (rReprD X.K) := by
  intro ρ s H σ xs vs Q sr r po
  unfold fRepr at po
  split at po
  · rename_i d
    obtain ⟨v, rfl, rv⟩ := r.one
    split at po
    · rename_i p hp
      obtain ⟨⟨h1, h2⟩, po⟩ := Po.ite po
      obtain ⟨a1, a2⟩ := shp_dp sr hp rv
      exact ⟨v, p, rfl, a1, a2, h1, h2, po ρ H _ Ext.refl sr rfl⟩
    · exact po.elim
  · exact po.elim
end
section
variable {X : Cx} {W : WX} {pos spos : Pos} {elt tg iter : Expr} {ifs : List Expr} {scope : Scope} {own : List (Str × Nat)} {mi : EM (Nat × Stp)} {g : GN} {is : List Nat} {t : EM Bool} {m : EM D} {i : Nat} {y : Str} {py : Pos}
/-- y = [..] on one line -/
theorem js_setLc {g' : TG} (hc : X.calm = true) (hN : X.N.Nodup) (hy : X.N[i]? = some y) (hyl : X.env.scope.names.lookup y = some .local)
    (hsw : swapsWith (.ListComp elt [⟨tg, iter, ifs, 0⟩] scope pos) (some (.Name y py)) spos.line X.env = pure true) (hi : JI X W tg iter mi) (ok : BlkOk X.N X.env.scope scope own) (his : ∀ i ∈ is, i ∈ own.map (·.2))
    (hg' : ∀ (s : Shared) (H : Hp) (C : Addr) (cl : List (Str × Addr)) (fp : List Addr), PG (X.blk s H scope (compEnvC scope cl C X.env) fp) tg g') (gq : GQ X.K g is g')
    (ht : ∀ (s : Shared) (H : Hp) (C : Addr) (cl : List (Str × Addr)) (fp : List Addr), PTs (X.blk s H scope (compEnvC scope cl C X.env) fp) ifs (lT X.K X.mg WF t))
    (he : ∀ (s : Shared) (H : Hp) (C : Addr) (cl : List (Str × Addr)) (fp : List Addr), JE (X.blk s H scope (compEnvC scope cl C X.env) fp) WF elt m) (hs : ∀ x, foldedSetIterable iter X.env x = pure x := by intro _; rfl) :
    JS X W (.Assign [.Name y py] (.ListComp elt [⟨tg, iter, ifs, 0⟩] scope pos) spos) (sA i (mL mi g t m (own.map (·.2)))) := by
  exact PS_imp (ps_setLc hc hN hy hyl hsw hi ok hg' ht he hs) fun σ H D ⟨ρ, env, s, sr, er, po⟩ =>
    llc (Q := fun x H1 => D.nx (σ.set i (some x)) H1) his gq (fun _ _ _ z => z) (fun _ _ _ z => z) ⟨ρ, env, s, sr, er, (PoS.st (R := VR X.K) er po).imp fun v H1 ⟨ρ1, s1, d1, e1, sr1, r1, er1, po1⟩ => po1 ρ1 H1 _ Ext.refl sr1 (er1.set r1)⟩
end
end Z

set_option Elab.async false
set_option linter.all false
set_option maxRecDepth 100000
set_option maxHeartbeats 4000000
namespace Z
open PySem PySem.Spec PyProof.Rows L2
variable [Row]

section
variable {X : Cx} {W : WX} {pos : Pos} {e : Expr} {m : EM D}
/-! ### truth -/
def trD (s : Sto) : D → Option Bool
  | .non => some false
  | .bl b => some b
  | .int i => some (i != 0)
  | .str y => if y.length ≤ sizeLine then some ((y.length : Int) != 0) else none
  | .tup xs => some (!xs.isEmpty)
  | .ref n => match s[n]? with
    | some (.lst xs) => some (!xs.isEmpty)
    | some (.frz xs) => some (!xs.isEmpty)
    | _ => none
theorem VRs.isEmpty {K : PySem.W.Frag} {ρ : Nat → Addr} {n : Nat} {H : Hp} {ds : List D} {vs : List V} (r : VRs K ρ n H ds vs) : ds.isEmpty = vs.isEmpty := by
  have := r.length
  cases ds <;> cases vs <;> first | rfl | simp at this
theorem trD_ok {K : PySem.W.Frag} {mg : Str → Option Value} {ρ : Nat → Addr} {s : Sto} {H : Hp} (sr : SR K mg ρ s H) {d : D} {v : V} {b : Bool} (r : VR K ρ s.length H d v) (h : trD s d = some b) : TruV K v H b := by
  cases d with
  | non =>
    cases h
    obtain rfl : v = .non := r
    rfl
  | bl c =>
    cases h
    obtain rfl : v = .bl b := r
    rfl
  | int c =>
    cases h
    obtain rfl : v = .int c := r
    rfl
  | str c =>
    obtain rfl : v = .str c := r
    have h2 : (if c.length ≤ sizeLine then some ((c.length : Int) != 0) else none) = some b := h
    clear h
    split at h2
    · rename_i hl
      cases h2
      exact ⟨hl, rfl⟩
    · cases h2
  | tup ds =>
    cases h
    rw [VR] at r
    obtain ⟨a, vs, rfl, sq, rr⟩ := r
    exact .inr (.inl ⟨vs, sq, by rw [rr.isEmpty]⟩)
  | ref n =>
    rw [VR] at r
    obtain ⟨_, rfl⟩ := r
    have h2 : (match s[n]? with
      | some (.lst xs) => some (!xs.isEmpty)
      | some (.frz xs) => some (!xs.isEmpty)
      | _ => none) = some b := h
    clear h
    split at h2
    · rename_i xs hx
      cases h2
      obtain ⟨vs, sq, rr⟩ := sr.lst (n := n) (xs := xs) (by unfold lstAt; rw [hx])
      exact .inl ⟨vs, sq, by rw [rr.isEmpty]⟩
    · rename_i xs hx
      cases h2
      obtain ⟨vs, sq, rr⟩ := sr.lst (n := n) (xs := xs) (by unfold lstAt; rw [hx])
      exact .inl ⟨vs, sq, by rw [rr.isEmpty]⟩
    · cases h2
def toT (m : EM D) : EM Bool := fun e s => (m e s).bind fun d s1 => match trD s1 d with
  | some b => .ok b s1
  | none => .no
theorem jt_tru (h : JE X W e m) (he : ∀ whole, isTrue e X.env whole = (do let v ← whole; standAt e.pos; holding [v] (truthy v)) := by intro _; rfl) : JT X W e (toT m) :=
  PT_imp (pt_truth h he) fun σ H Q ⟨ρ, env, s, sr, er, po⟩ => ⟨ρ, env, s, sr, er, (Po.bind po).imp fun v H1 ⟨ρ1, s1, d1, e1, sr1, r1, po1⟩ => by
    dsimp only at po1
    split at po1
    · rename_i b hb
      exact ⟨b, trD_ok sr1 r1 hb, po1 ρ1 H1 _ Ext.refl sr1 rfl⟩
    · exact po1.elim⟩
/-- a module's tuple -/
def TupC (K : PySem.W.Frag) (mg : Str → Option Value) (x : Str) (ds : List D) : Prop := ∃ a vs, mg x = some (.ref a) ∧ (∀ H, SqT K H a vs) ∧ (∀ ρ n H, VRs K ρ n H ds vs) ∧ ∃ o, K.lookup a = some o ∧ o.cls = .type "tuple" ∧ o.dict = none
theorem je_gt {x : Str} {ds : List D} (hg : Gl X x) (h : TupC X.K X.mg x ds) (hd : (x == ("__debug__" : Str)) = false := by decide) : JE X W (.Name x pos) (mC (.tup ds)) := by
  obtain ⟨a, vs, h1, h2, h3, -⟩ := h
  exact je_gtup hg h1 h2 h3 hd
end
/-! ### the head's facts: any check of the written part -/
theorem fnZ_fun {K : PySem.W.Frag} {d : He.DefD} {f : Addr} (e : fnZ K f = d.val) (c : okZ K f d.qual (d.dvs K) (d.kws K) = true) : ∃ fd, FunD K d.name d.qual d.params d.body d.scope (d.dvs K) (d.kws K) f fd := by
  obtain ⟨kp, c2⟩ := He.ba c
  unfold fnZ at e
  cases q : K.lookup f with
  | none => rw [q] at c2; cases c2
  | some o =>
    obtain ⟨oc, od, dt, osl⟩ := o
    rw [q] at c2 e
    cases dt with
    | func fd =>
      obtain ⟨n1, n2, n3, n4, n5, n6, n7, n8, n9, n10, n11, n12, n13, n14, n15⟩ := fd
      have e2 := Option.some.inj (show (some (n1, n2, n3, n4, n5, n6, n7, n15) : He.FnW) = some (d.name, d.qual, d.params, .stmts d.body, d.scope, mainGlobals, [], builtinsNs) from e)
      simp only [Prod.mk.injEq] at e2
      obtain ⟨rfl, rfl, rfl, rfl, rfl, rfl, rfl, rfl⟩ := e2
      obtain ⟨k1, k2⟩ := He.ba (show (PySem.W.codeIn K n13 d.qual && (He.dflB K n8 (d.dvs K) && He.kwdB K n9 (d.kws K))) = true from c2)
      exact ⟨_, ⟨oc, od, n8, n9, n10, n11, n12, n13, n14, osl, rfl, q, k1, He.dflB_ok (He.ba k2).1, He.kwdB_ok (He.ba k2).2⟩, kp⟩
    | _ => cases c2
def SaysZ (chk : PySem.W.Frag → Bool) (fn : List He.DefD) (K : PySem.W.Frag) : Prop := obsZ chk fn K = valZ fn
def obsZG (n : Nat) (chk : PySem.W.Frag → Bool) (fn : List He.DefD) (g : Addr → Option Obj) : AlZ := obsZ chk fn (He.frG g (He.asD g n))
def hookZ (n : Nat) (chk : PySem.W.Frag → Bool) (fn : List He.DefD) : PySem.W.Hook where
  α := AlZ
  obs := fun s => obsZG n chk fn s.heap.get?
  val := fun _ => valZ fn
  says := fun _ h => ∃ K : PySem.W.Frag, K.In h ∧ SaysZ chk fn K
  of := fun _ _ e => ⟨_, He.frG_in, e⟩
  keeps := fun _ _ _ ⟨K, hK, c⟩ k => ⟨K, PySem.W.Frag.In.keeps hK k, c⟩
section
variable {chk : PySem.W.Frag → Bool} {fn : List He.DefD} {K : PySem.W.Frag}
theorem SaysZ.ok_ (c : SaysZ chk fn K) : chk K = true := (He.ba (show (chk K && fn.all fun d => okZ K (fAz K d.at_) d.qual (d.dvs K) (d.kws K)) = true from congrArg (fun z : AlZ => z.1) c)).1
theorem SaysZ.defZ (c : SaysZ chk fn K) (i : Nat) {d : He.DefD} (h : fn[i]? = some d) : ∃ fd, FunD K d.name d.qual d.params d.body d.scope (d.dvs K) (d.kws K) (fAz K d.at_) fd := by
  have c2 := (He.ba (show (chk K && fn.all fun d => okZ K (fAz K d.at_) d.qual (d.dvs K) (d.kws K)) = true from congrArg (fun z : AlZ => z.1) c)).2
  have e2 : (fn.map fun d => fnZ K (fAz K d.at_))[i]? = (fn.map He.DefD.val)[i]? := by rw [show (fn.map fun d => fnZ K (fAz K d.at_)) = fn.map He.DefD.val from congrArg (fun z : AlZ => z.2) c]
  rw [List.getElem?_map, List.getElem?_map, h] at e2
  exact fnZ_fun (Option.some.inj e2) (List.all_eq_true.mp c2 d (List.mem_of_getElem? h))
theorem fAz_def {p : Str × Option Str} (h : isPm p = false) : fAz K p = He.fAd K p := by
  unfold fAz
  rw [h]
theorem SaysZ.def_ (c : SaysZ chk fn K) (i : Nat) {d : He.DefD} (h : fn[i]? = some d := by rfl) (hp : isPm d.at_ = false := by rfl) : ∃ fd, FunD K d.name d.qual d.params d.body d.scope (d.dvs K) (d.kws K) (He.fAd K d.at_) fd := by
  have := c.defZ i h
  rwa [fAz_def hp] at this
theorem tupN_ok {K : PySem.W.Frag} {x : Str} (h : tupN K x = true) : ∃ o, K.lookup (He.ga K x) = some o ∧ o.cls = .type "tuple" ∧ o.dict = none := by
  unfold tupN at h
  split at h
  · rename_i t _ _ e
    have h := of_decide_eq_true h
    subst h
    exact ⟨_, e, rfl, rfl⟩
  · cases h
theorem chk_fa {fa : List He.Fa} {ts : List (Str × List He.Dv)} (h : chkAll fa ts K = true) (i : Nat) {f : He.Fa} (e : fa[i]? = some f := by rfl) : f.ok K = true := List.all_eq_true.mp (He.ba h).1 f (List.mem_of_getElem? e)
def dvD : He.Dv → D
  | .non => .non
  | .bl b => .bl b
  | .int i => .int i
  | .str x => .str x
  | _ => .non
def plainDv : He.Dv → Bool
  | .non => true
  | .bl _ => true
  | .int _ => true
  | .str _ => true
  | _ => false
theorem vrs_dv {ρ : Nat → Addr} {n : Nat} {H : Hp} : ∀ ds : List He.Dv, ds.all plainDv = true → VRs K ρ n H (ds.map dvD) (ds.map (He.Dv.v K))
  | [], _ => VRs.nil
  | d :: ds, h => by
    rw [List.all_cons, Bool.and_eq_true] at h
    refine VRs.cons ?_ (vrs_dv ds h.2)
    cases d <;> first | rfl | cases h.1
theorem chk_tup {fa : List He.Fa} {ts : List (Str × List He.Dv)} (h : chkAll fa ts K = true) {hp : Heap} {mg : Str → Option Value} (X : K.In hp) (G : hp.Ns mainGlobals mg) (i j : Nat) {x : Str} {ds : List He.Dv} (e : ts[i]? = some (x, ds) := by rfl) (e2 : fa[j]? = some (.glo x) := by rfl) (hd : ds.all plainDv = true := by rfl) :
    TupC K mg x (ds.map dvD) :=
  ⟨He.ga K x, ds.map (He.Dv.v K), He.glo_ok X G (chk_fa h j e2), fun H => He.tupB_ok (He.ba (List.all_eq_true.mp (He.ba h).2 _ (List.mem_of_getElem? e))).1 H, fun ρ n H => vrs_dv ds hd, tupN_ok (He.ba (List.all_eq_true.mp (He.ba h).2 _ (List.mem_of_getElem? e))).2⟩
end
end Z

set_option Elab.async false
set_option linter.all false
set_option maxRecDepth 100000
set_option maxHeartbeats 4000000
namespace Z
open PySem PySem.Spec PyProof.Rows L2
variable [Row]
theorem hu64 {a c : Nat} (h : a + 100 < c) : a + 64 < c := by omega
theorem hu65 {a c : Nat} (h : a + 100 < c) : a + 65 < c := by omega
theorem hu66 {a c : Nat} (h : a + 100 < c) : a + 66 < c := by omega
section
variable {X : Cx} {W : WX}
theorem jts_nil : PTs X [] (lT X.K X.mg W tY) := ⟨fun _ _ _ H _ I ⟨ρ, env, s, sr, er, po⟩ => wpAny_tests_nil ⟨H, I, po ρ H true Ext.refl sr rfl⟩⟩
def dIsN2 (x y : D) (s : Sto) : Rs D := match y with | .non => dIsN false x s | _ => .no
def dNotN2 (x y : D) (s : Sto) : Rs D := match y with | .non => dIsN true x s | _ => .no
theorem pr_isN2 : Pr2 X W dIsN2 (fun x y H Q => y = .non ∧ Q (.bl (decide (x = .non))) H) := pr_isN
end
end Z

set_option Elab.async false
set_option linter.all false
set_option maxRecDepth 100000
set_option maxHeartbeats 4000000
namespace Z
open PySem PySem.Spec PyProof.Rows L2
/-! ### what a mirror answers: weakest preconditions -/
/-- an equation that simp takes as a proof, not as a computation -/
theorem nr {α : Sort u} {a b : α} (h : a = b) : a = b := h
def NE : Str → Str → D → Sto → Prop := fun _ _ _ _ => False
def Rs.wp {α : Type} (r : Rs α) (P : α → Sto → Prop) (E : Str → Str → D → Sto → Prop := NE) : Prop := match r with
  | .ok a s => P a s
  | .ex c f v s => E c f v s
  | .no => False
structure En where
  nx : Ev → Sto → Prop
  rt : D → Sto → Prop
  bk : Ev → Sto → Prop := fun _ _ => False
  ct : Ev → Sto → Prop := fun _ _ => False
  ex : Str → Str → D → Ev → Sto → Prop := fun _ _ _ _ _ => False
def RS.wp (r : RS) (Q : En) : Prop := match r with
  | .nx e s => Q.nx e s
  | .rt d s => Q.rt d s
  | .bk e s => Q.bk e s
  | .ct e s => Q.ct e s
  | .ex c f v e s => Q.ex c f v e s
  | .no => False
section
variable {α β : Type} {P : α → Sto → Prop} {P' : β → Sto → Prop} {E : Str → Str → D → Sto → Prop} {Q : En} {e : Ev} {s : Sto} {r : Rs α}
@[simp ↓] theorem z_ok {a : α} : (Rs.ok a s).wp P E = P a s := nr rfl
@[simp ↓] theorem z_ex {c f : Str} {v : D} : (Rs.ex c f v s : Rs α).wp P E = E c f v s := nr rfl
@[simp ↓] theorem z_no : (Rs.no : Rs α).wp P E = False := nr rfl
theorem z_bind {k : α → Sto → Rs β} : (r.bind k).wp P' E = r.wp (fun a s => (k a s).wp P' E) E := by cases r <;> rfl
theorem z_st {k : α → Sto → RS} : (r.st e k).wp Q = r.wp (fun a s => (k a s).wp Q) (fun c f v s => Q.ex c f v e s) := by cases r <;> rfl
theorem z_seq {r : RS} {k : SM} : (r.seq k).wp Q = r.wp { Q with nx := fun e s => (k e s).wp Q } := by cases r <;> rfl
@[simp ↓] theorem z_nx : (RS.nx e s).wp Q = Q.nx e s := nr rfl
@[simp ↓] theorem z_rt {d : D} : (RS.rt d s).wp Q = Q.rt d s := nr rfl
@[simp ↓] theorem z_bk : (RS.bk e s).wp Q = Q.bk e s := nr rfl
@[simp ↓] theorem z_ct : (RS.ct e s).wp Q = Q.ct e s := nr rfl
@[simp ↓] theorem z_rex {c f : Str} {v : D} : (RS.ex c f v e s).wp Q = Q.ex c f v e s := nr rfl
@[simp ↓] theorem z_rno : (RS.no).wp Q = False := nr rfl
theorem z_fin {r : RS} {P : D → Sto → Prop} : (r.fin).wp P E = r.wp { nx := fun _ s => P .non s, rt := P, ex := fun c f v _ s => E c f v s } := by cases r <;> rfl
theorem z_nox {P : α → Sto → Prop} : (r.nox).wp P E = r.wp P NE := by cases r <;> rfl
theorem wp_mono {P2 : α → Sto → Prop} {E2 : Str → Str → D → Sto → Prop} (h : r.wp P E) (hP : ∀ a s, P a s → P2 a s) (hE : ∀ c f v s, E c f v s → E2 c f v s) : r.wp P2 E2 := by
  cases r with
  | ok a s => exact hP a s h
  | ex c f v s => exact hE c f v s h
  | no => exact h
/-- the wish kept apart -/
theorem wp_of {P : α → Sto → Prop} (h : ∀ P2 : α → Sto → Prop, (∀ a s, P a s → P2 a s) → r.wp P2 E) : r.wp P E := h P fun _ _ h => h
/-- no error came: whatever is asked of errors -/
theorem wp_ne {P2 : α → Sto → Prop} (h : r.wp P) (hP : ∀ a s, P a s → P2 a s) : r.wp P2 E := wp_mono h hP fun _ _ _ _ z => z.elim
theorem z_fnM {ps n : Nat} {m : SM} {ds : List D} {P : D → Sto → Prop} (h : ds.length = ps) : (fnM ps n m ds s).wp P E = (m (ds.map some ++ List.replicate (n - ds.length) none) s).wp { nx := fun _ s => P .non s, rt := P, ex := fun c f v _ s => E c f v s } := by
  unfold fnM
  rw [if_pos h, z_fin]
theorem RS.wp_mono {r : RS} {Q Q2 : En} (h : r.wp Q) (h1 : ∀ e s, Q.nx e s → Q2.nx e s) (h2 : ∀ e s, Q.rt e s → Q2.rt e s) (h3 : ∀ e s, Q.bk e s → Q2.bk e s) (h4 : ∀ e s, Q.ct e s → Q2.ct e s) (h5 : ∀ c f v e s, Q.ex c f v e s → Q2.ex c f v e s) : r.wp Q2 := by
  cases r with
  | nx e s => exact h1 e s h
  | rt d s => exact h2 d s h
  | bk e s => exact h3 e s h
  | ct e s => exact h4 e s h
  | ex c f v e s => exact h5 c f v e s h
  | no => exact h
end
theorem ok_of_wp {r : Rs D} {d : D} (h : r.wp fun a _ => a = d) : ∃ s', r = .ok d s' := by
  cases r with
  | ok a s =>
    have h : a = d := h
    exact ⟨s, by rw [h]⟩
  | ex c f v s => exact h.elim
  | no => exact h.elim
/-! ### for, comprehensions by an invariant -/
section
variable {j : Stp} {g : GN} {body : SM} {Q : En} {N : Nat}
/-- one round of a for -/
def ForStep (j : Stp) (g : GN) (body : SM) (Q : En) (I : Nat → Ev → Sto → Prop) (N i : Nat) (e : Ev) (s : Sto) : Prop :=
  (i = N → j i s = some none ∧ Q.nx e s) ∧ (i < N → ∃ d e1, j i s = some (some d) ∧ g d e = some e1 ∧ (body e1 s).wp { nx := I (i + 1), ct := I (i + 1), bk := Q.nx, rt := Q.rt, ex := Q.ex })
theorem forL_wp (I : Nat → Ev → Sto → Prop) (st : ∀ i e s, i ≤ N → I i e s → ForStep j g body Q I N i e s) : ∀ (f i : Nat) (e : Ev) (s : Sto), i + f = N → I i e s → (forL j g body f i e s).wp Q
  | 0, i, e, s, h, hi => by
    obtain ⟨h1, h2⟩ := (st i e s (by omega) hi).1 (by omega)
    unfold forL
    rw [h1]
    exact h2
  | f + 1, i, e, s, h, hi => by
    obtain ⟨d, e1, h1, h2, h3⟩ := (st i e s (by omega) hi).2 (by omega)
    unfold forL
    rw [h1]
    dsimp only
    rw [h2]
    dsimp only
    cases hb : body e1 s with
    | nx e2 s2 =>
      rw [hb] at h3
      exact forL_wp I st f (i + 1) e2 s2 (by omega) h3
    | ct e2 s2 =>
      rw [hb] at h3
      exact forL_wp I st f (i + 1) e2 s2 (by omega) h3
    | bk e2 s2 => rw [hb] at h3; exact h3
    | rt d s2 => rw [hb] at h3; exact h3
    | ex c f v e s => rw [hb] at h3; exact h3
    | no => rw [hb] at h3; exact h3
variable {t : EM Bool} {m : EM D} {P : D → Sto → Prop} {l : Nat}
def LcStep (j : Stp) (g : GN) (t : EM Bool) (m : EM D) (l : Nat) (I : Nat → List D → Sto → Prop) (N i : Nat) (acc : List D) (e : Ev) (s : Sto) : Prop :=
  (i = N → j i s = some none) ∧ (i < N → ∃ d e1, j i s = some (some d) ∧ g d e = some e1 ∧
    (t e1 s).wp fun q s1 => if q then (m e1 s1).wp fun y s2 => s2[l]? = some (.lst acc) ∧ acc.length < sizeLine ∧ I (i + 1) (acc ++ [y]) (s2.set l (.lst (acc ++ [y])))
      else s1[l]? = some (.lst acc) ∧ I (i + 1) acc s1)
theorem lcL_wp (I : Nat → List D → Sto → Prop) {e : Ev} (st : ∀ i acc s, i ≤ N → I i acc s → s[l]? = some (.lst acc) → LcStep j g t m l I N i acc e s) : ∀ (f i : Nat) (acc : List D) (s : Sto), i + f = N → I i acc s → s[l]? = some (.lst acc) →
    (lcL j g t m l f i e s).wp fun d s' => d = .ref l ∧ ∃ ys, s'[l]? = some (.lst ys) ∧ I N ys s'
  | 0, i, acc, s, h, hi, hl => by
    have h1 := (st i acc s (by omega) hi hl).1 (by omega)
    unfold lcL
    rw [h1]
    have e1 : i = N := by omega
    subst e1
    exact ⟨rfl, acc, hl, hi⟩
  | f + 1, i, acc, s, h, hi, hl => by
    obtain ⟨d, e1, h1, h2, h3⟩ := (st i acc s (by omega) hi hl).2 (by omega)
    unfold lcL
    rw [h1]
    dsimp only
    rw [h2]
    dsimp only
    rw [z_bind, z_nox]
    refine wp_mono h3 (fun q s1 h4 => ?_) fun _ _ _ _ z => z.elim
    cases q with
    | true =>
      rw [if_pos rfl] at h4 ⊢
      rw [z_bind, z_nox]
      refine wp_mono h4 (fun y s2 h5 => ?_) fun _ _ _ _ z => z.elim
      obtain ⟨h6, h7, h8⟩ := h5
      rw [h6]
      dsimp only
      rw [if_pos h7]
      have hl2 : l < s2.length := (List.getElem?_eq_some_iff.mp h6).1
      exact lcL_wp I st f (i + 1) _ _ (by omega) h8 (by rw [List.getElem?_set_self hl2])
    | false =>
      simp only [Bool.false_eq_true, ↓reduceIte] at h4 ⊢
      exact lcL_wp I st f (i + 1) _ _ (by omega) h4.2 h4.1
end
/-! ### what a piece of code leaves as it was -/
/-- the bags: lists of two whole numbers -/
def Bag (s : Sto) (k : Nat) : Prop := ∃ a b : Int, s[k]? = some (.lst [.int a, .int b])
/-- from s to t: only the bags ks are changed -/
structure Eff (ks : List Nat) (s t : Sto) : Prop where
  le : s.length ≤ t.length
  eq : ∀ i, i < s.length → i ∉ ks → t[i]? = s[i]?
  bag : ∀ k ∈ ks, Bag s k → Bag t k
theorem Eff.refl {ks : List Nat} {s : Sto} : Eff ks s s := ⟨Nat.le_refl _, fun _ _ _ => rfl, fun _ _ h => h⟩
theorem Bag.lt {s : Sto} {k : Nat} (h : Bag s k) : k < s.length := by
  obtain ⟨a, b, h⟩ := h
  exact (List.getElem?_eq_some_iff.mp h).1
theorem Eff.trans {ks : List Nat} {s t u : Sto} (h : Eff ks s t) (h2 : Eff ks t u) : Eff ks s u :=
  ⟨Nat.le_trans h.le h2.le, fun i hi hk => (h2.eq i (Nat.lt_of_lt_of_le hi h.le) hk).trans (h.eq i hi hk), fun k hk hb => h2.bag k hk (h.bag k hk hb)⟩
theorem Eff.sub {ks js : List Nat} {s t : Sto} (h : Eff ks s t) (hs : ∀ k ∈ ks, k ∈ js) : Eff js s t := ⟨h.le, fun i hi hk => h.eq i hi fun hm => hk (hs i hm), fun k hk hb => by
  by_cases hm : k ∈ ks
  · exact h.bag k hm hb
  · obtain ⟨a, b, e⟩ := hb
    exact ⟨a, b, by rw [h.eq k (List.getElem?_eq_some_iff.mp e).1 hm]; exact e⟩⟩
theorem Eff.nil {js : List Nat} {s t : Sto} (h : Eff [] s t) : Eff js s t := h.sub fun _ h => by simp at h
theorem Eff.push {ks : List Nat} {s : Sto} {o : SO} : Eff ks s (s ++ [o]) := ⟨by simp, fun i hi _ => List.getElem?_append_left hi, fun k _ hb => by
  obtain ⟨a, b, e⟩ := hb
  exact ⟨a, b, by rw [List.getElem?_append_left (List.getElem?_eq_some_iff.mp e).1]; exact e⟩⟩
/-- a place made since is written -/
theorem Eff.set {ks : List Nat} {s t : Sto} (h : Eff ks s t) {n : Nat} {o : SO} (hn : s.length ≤ n) : Eff ks s (t.set n o) :=
  ⟨by simpa using h.le, fun i hi hk => by rw [List.getElem?_set_ne (by omega)]; exact h.eq i hi hk, fun k hk hb => by
    have hlt := hb.lt
    obtain ⟨a, b, e⟩ := h.bag k hk hb
    exact ⟨a, b, by rw [List.getElem?_set_ne (by omega)]; exact e⟩⟩
theorem Eff.get {ks : List Nat} {s t : Sto} (h : Eff ks s t) {i : Nat} {o : SO} (e : s[i]? = some o) (hi : i ∉ ks) : t[i]? = some o := by
  rw [h.eq i (List.getElem?_eq_some_iff.mp e).1 hi]
  exact e
theorem Eff.lst {ks : List Nat} {s t : Sto} (h : Eff ks s t) {i : Nat} {xs : List D} (e : lstAt s i = some xs) (hi : i ∉ ks) : lstAt t i = some xs := by
  have hl : i < s.length := lstAt_lt e
  unfold lstAt at e ⊢
  rw [h.eq i hl hi]
  exact e
theorem Bag.lst {s : Sto} {k : Nat} (h : Bag s k) : ∃ a b : Int, s[k]? = some (.lst [.int a, .int b]) ∧ lstAt s k = some [.int a, .int b] := by
  obtain ⟨a, b, e⟩ := h
  exact ⟨a, b, e, by unfold lstAt; rw [e]⟩
end Z

set_option Elab.async false
set_option linter.all false
set_option maxRecDepth 100000
set_option maxHeartbeats 4000000
namespace Z
open PySem PySem.Spec PyProof.Rows L2
/-! ### the steps of a mirror, for simp: outermost first -/
section
variable {P : D → Sto → Prop} {PL : List D → Sto → Prop} {PB : Bool → Sto → Prop} {PO : Option Int → Sto → Prop} {PI : Nat × Stp → Sto → Prop} {E : Str → Str → D → Sto → Prop} {Q : En} {e : Ev} {s : Sto}
variable {a b c : EM D} {ms : EM (List D)} {t u : EM Bool} {i : Nat} {d x y : D} {f h : D → D → Sto → Rs D} {f1 : D → Sto → Rs D} {fN : List D → Sto → Rs D} {fM : D → List D → Sto → Rs D}
theorem z_ite {c : Prop} [Decidable c] {α : Type} {a b : Rs α} {P : α → Sto → Prop} : (if c then a else b).wp P E = if c then a.wp P E else b.wp P E := by split <;> rfl
theorem z_iteS {c : Prop} [Decidable c] {a b : RS} : (if c then a else b).wp Q = if c then a.wp Q else b.wp Q := by split <;> rfl
theorem z_iteN {c : Prop} [Decidable c] {α : Type} {a : Rs α} {P : α → Sto → Prop} : (if c then a else .no).wp P E = (c ∧ a.wp P E) := by
  by_cases h : c <;> simp [h, Rs.wp]
/-- the value in a slot -/
def slotP (o : Option (Option D)) (P : D → Prop) : Prop := match o with
  | some (some d) => P d
  | _ => False
@[simp ↓] theorem slotP_some {P : D → Prop} : slotP (some (some d)) P = P d := nr rfl
@[simp ↓] theorem slotP_none {P : D → Prop} : slotP (some none) P = False := nr rfl
@[simp ↓] theorem z_mV : (mV i e s).wp P E = slotP e[i]? fun d => P d s := by
  unfold mV slotP
  cases e[i]? with
  | none => rfl
  | some o => cases o <;> rfl
@[simp ↓] theorem z_mC : (mC d e s).wp P E = P d s := nr rfl
@[simp ↓] theorem z_m2 : (m2 f a b e s).wp P E = (a e s).wp (fun x s1 => (b e s1).wp (fun y s2 => (f x y s2).wp P E) E) E := by
  unfold m2; simp only [z_bind]
@[simp ↓] theorem z_m1 : (m1 f1 a e s).wp P E = (a e s).wp (fun x s1 => (f1 x s1).wp P E) E := by
  unfold m1; simp only [z_bind]
@[simp ↓] theorem z_mN : (mN fN ms e s).wp P E = (ms e s).wp (fun xs s1 => (fN xs s1).wp P E) E := by
  unfold mN; simp only [z_bind]
@[simp ↓] theorem z_aN : (aN e s).wp PL E = PL [] s := nr rfl
@[simp ↓] theorem z_aC : (aC a ms e s).wp PL E = (a e s).wp (fun x s1 => (ms e s1).wp (fun xs s2 => PL (x :: xs) s2) E) E := by
  unfold aC; simp only [z_bind, z_ok]
def blP (d : D) (P : Bool → Prop) : Prop := match d with
  | .bl b => P b
  | _ => False
@[simp ↓] theorem blP_bl {b : Bool} {P : Bool → Prop} : blP (.bl b) P = P b := nr rfl
@[simp ↓] theorem z_toB : (toB a e s).wp PB E = (a e s).wp (fun d s1 => blP d fun b => PB b s1) E := by
  unfold toB blP; simp only [z_bind]
  congr 1
  funext d s1
  cases d <;> rfl
@[simp] theorem trD_bl {q : Bool} : trD s (.bl q) = some q := rfl
@[simp] theorem trD_non : trD s .non = some false := rfl
@[simp] theorem trD_int {j : Int} : trD s (.int j) = some (j != 0) := rfl
@[simp] theorem trD_tup {xs : List D} : trD s (.tup xs) = some (!xs.isEmpty) := rfl
@[simp ↓] theorem z_toT : (toT a e s).wp PB E = (a e s).wp (fun d s1 => ∃ b, trD s1 d = some b ∧ PB b s1) E := by
  unfold toT; simp only [z_bind]
  congr 1
  funext d s1
  cases h : trD s1 d <;> simp [Rs.wp]
@[simp ↓] theorem z_bAnd : (bAnd t u e s).wp PB E = (t e s).wp (fun x s1 => if x then (u e s1).wp PB E else PB false s1) E := by
  unfold bAnd; simp only [z_bind, z_ite, z_ok]
@[simp ↓] theorem z_bOr : (bOr t u e s).wp PB E = (t e s).wp (fun x s1 => if x then PB true s1 else (u e s1).wp PB E) E := by
  unfold bOr; simp only [z_bind, z_ite, z_ok]
@[simp ↓] theorem z_bNot : (bNot t e s).wp PB E = (t e s).wp (fun x s1 => PB (!x) s1) E := by
  unfold bNot; simp only [z_bind, z_ok]
@[simp ↓] theorem z_tY : (tY e s).wp PB E = PB true s := nr rfl
@[simp ↓] theorem z_mIf : (mIf t a b e s).wp P E = (t e s).wp (fun x s1 => if x then (a e s1).wp P E else (b e s1).wp P E) E := by
  unfold mIf; simp only [z_bind, z_ite]
@[simp ↓] theorem z_mAnd : (mAnd a b e s).wp P E = (a e s).wp (fun d s1 => blP d fun q => if q then (b e s1).wp P E else P (.bl false) s1) E := by
  unfold mAnd blP; simp only [z_bind]
  congr 1
  funext d s1
  cases d with
  | bl q => cases q <;> rfl
  | _ => rfl
@[simp ↓] theorem z_mOr : (mOr a b e s).wp P E = (a e s).wp (fun d s1 => blP d fun q => if q then P (.bl true) s1 else (b e s1).wp P E) E := by
  unfold mOr blP; simp only [z_bind]
  congr 1
  funext d s1
  cases d with
  | bl q => cases q <;> rfl
  | _ => rfl
@[simp ↓] theorem z_mNot : (mNot a e s).wp P E = (a e s).wp (fun d s1 => blP d fun q => P (.bl (!q)) s1) E := by
  unfold mNot blP; simp only [z_bind]
  congr 1
  funext d s1
  cases d <;> rfl
@[simp ↓] theorem z_mCh : (mCh f h a b c e s).wp P E = (a e s).wp (fun x s1 => (b e s1).wp (fun y s2 => (f x y s2).wp (fun z s3 => blP z fun q => if q then (c e s3).wp (fun w s4 => (h y w s4).wp P E) E else P (.bl false) s3) E) E) E := by
  unfold mCh blP; simp only [z_bind]
  congr 1
  funext d s1
  congr 1
  funext d2 s2
  congr 1
  funext d3 s3
  cases d3 with
  | bl q =>
    cases q with
    | false => rfl
    | true => simp only [z_bind]; rfl
  | _ => rfl
@[simp ↓] theorem z_mBM {T : String} : (mBM T fM a ms e s).wp P E = (a e s).wp (fun x s1 => isTy T s1 x = true ∧ (ms e s1).wp (fun xs s2 => (fM x xs s2).wp P E) E) E := by
  unfold mBM; simp only [z_bind, z_iteN]
@[simp ↓] theorem z_oN : (oN e s).wp PO E = PO none s := nr rfl
def intP (d : D) (P : Int → Prop) : Prop := match d with
  | .int i => P i
  | _ => False
@[simp ↓] theorem intP_int {j : Int} {P : Int → Prop} : intP (.int j) P = P j := nr rfl
@[simp ↓] theorem z_oS : (oS a e s).wp PO E = (a e s).wp (fun d s1 => intP d fun i => PO (some i) s1) E := by
  unfold oS intP; simp only [z_bind]
  congr 1
  funext d s1
  cases d <;> rfl
@[simp ↓] theorem z_mSl {fS : D → Option Int → Option Int → Sto → Rs D} {l k : EM (Option Int)} : (mSl fS a l k e s).wp P E = (a e s).wp (fun x s1 => (l e s1).wp (fun lo s2 => (k e s2).wp (fun hi s3 => (fS x lo hi s3).wp P E) E) E) E := by
  unfold mSl; simp only [z_bind]
@[simp ↓] theorem z_fTup {ds : List D} : (fTup ds s).wp P E = (ds.length ≤ sizeLine ∧ P (.tup ds) s) := by
  unfold fTup; rw [z_iteN, z_ok]
@[simp ↓] theorem z_fLst {ds : List D} : (fLst ds s).wp P E = (ds.length ≤ sizeLine ∧ P (.ref s.length) (s ++ [.lst ds])) := by
  unfold fLst; rw [z_iteN, z_ok]
/-! statements -/
variable {A B : SM} {g : GN} {mi : EM (Nat × Stp)}
@[simp ↓] theorem z_sN : (sN e s).wp Q = Q.nx e s := nr rfl
@[simp ↓] theorem z_sNo : (sNo e s).wp Q = False := nr rfl
@[simp ↓] theorem z_sC : (sC A B e s).wp Q = (A e s).wp { nx := fun e s => (B e s).wp Q, rt := Q.rt, bk := Q.bk, ct := Q.ct, ex := Q.ex } := by
  unfold sC; rw [z_seq]
/-- what comes next, not yet looked at -/
def nxt (B : SM) (Q : En) : Ev → Sto → Prop := fun e s => (B e s).wp Q
theorem z_sCn : (sC A B e s).wp Q = (A e s).wp { nx := nxt B Q, rt := Q.rt, bk := Q.bk, ct := Q.ct, ex := Q.ex } := z_sC
theorem z_nxt : nxt B Q e s = (B e s).wp Q := rfl
theorem z_nxC {B2 : SM} : nxt (sC B B2) Q e s = (B e s).wp { nx := nxt B2 Q, rt := Q.rt, bk := Q.bk, ct := Q.ct, ex := Q.ex } := z_sCn
@[simp ↓] theorem z_sA : (sA i a e s).wp Q = (a e s).wp (fun d s1 => Q.nx (e.set i (some d)) s1) (fun c f v s => Q.ex c f v e s) := by
  unfold sA; rw [z_st]; rfl
@[simp ↓] theorem z_sE : (sE a e s).wp Q = (a e s).wp (fun _ s1 => Q.nx e s1) (fun c f v s => Q.ex c f v e s) := by
  unfold sE; rw [z_st]; rfl
@[simp ↓] theorem z_sR : (sR a e s).wp Q = (a e s).wp (fun d s1 => Q.rt d s1) (fun c f v s => Q.ex c f v e s) := by
  unfold sR; rw [z_st]; rfl
@[simp ↓] theorem z_sR0 : (sR0 e s).wp Q = Q.rt .non s := nr rfl
@[simp ↓] theorem z_sI : (sI t A B e s).wp Q = (t e s).wp (fun q s1 => if q then (A e s1).wp Q else (B e s1).wp Q) (fun c f v s => Q.ex c f v e s) := by
  unfold sI; rw [z_st]; simp only [z_iteS]
def evP (o : Option Ev) (P : Ev → Prop) : Prop := match o with
  | some e => P e
  | none => False
@[simp ↓] theorem evP_some {e : Ev} {P : Ev → Prop} : evP (some e) P = P e := nr rfl
@[simp ↓] theorem z_sG : (sG g a e s).wp Q = (a e s).wp (fun d s1 => evP (g d e) fun e' => Q.nx e' s1) (fun c f v s => Q.ex c f v e s) := by
  unfold sG evP; rw [z_st]
  congr 1
  funext d s1
  cases g d e <;> rfl
def twoP (ds : List D) (P : D → D → Prop) : Prop := match ds with
  | [x, y] => P x y
  | _ => False
@[simp ↓] theorem twoP_two {P : D → D → Prop} : twoP [x, y] P = P x y := nr rfl
@[simp ↓] theorem z_sP {j : Nat} : (sP i j ms e s).wp Q = (ms e s).wp (fun ds s1 => twoP ds fun x y => Q.nx ((e.set i (some x)).set j (some y)) s1) (fun c f v s => Q.ex c f v e s) := by
  unfold sP; rw [z_st]
  congr 1
  funext d s1
  match d with
  | [] => rfl
  | [_] => rfl
  | [_, _] => rfl
  | _ :: _ :: _ :: _ => rfl
def stoP (o : Option Sto) (P : Sto → Prop) : Prop := match o with
  | some e => P e
  | none => False
@[simp ↓] theorem stoP_some {P : Sto → Prop} : stoP (some s) P = P s := nr rfl
@[simp ↓] theorem z_sX {fX : D → D → D → Sto → Option Sto} : (sX fX a b c e s).wp Q = (c e s).wp (fun x s1 => (a e s1).wp (fun o s2 => (b e s2).wp (fun i s3 => stoP (fX o i x s3) fun s4 => Q.nx e s4) (fun c f v s => Q.ex c f v e s)) (fun c f v s => Q.ex c f v e s)) (fun c f v s => Q.ex c f v e s) := by
  unfold sX stoP; simp only [z_st]
  congr 1
  funext d s1
  congr 1
  funext d2 s2
  congr 1
  funext d3 s3
  cases fX d2 d3 d s3 <;> rfl
@[simp ↓] theorem z_sF : (sF mi g A e s).wp Q = (mi e s).wp (fun jt s1 => (forL jt.2 g A jt.1 0 e s1).wp Q) (fun c f v s => Q.ex c f v e s) := by
  unfold sF; rw [z_st]
@[simp ↓] theorem z_mL {vs : List Nat} : (mL mi g t a vs e s).wp P E = (mi e s).wp (fun jt s1 => (lcL jt.2 g t a s1.length jt.1 0 (wipeD e vs) (s1 ++ [.lst []])).wp P E) E := by
  unfold mL; rw [z_bind]
/-- a list's items at a place -/
def lstP (o : Option (List D)) (P : List D → Prop) : Prop := match o with
  | some xs => P xs
  | none => False
@[simp ↓] theorem lstP_some {xs : List D} {P : List D → Prop} : lstP (some xs) P = P xs := nr rfl
/-- a list that may be written -/
def mlAt (s : Sto) (n : Nat) : Option (List D) := match s[n]? with
  | some (.lst xs) => some xs
  | _ => none
@[simp ↓] theorem z_setL {n : Nat} {j : Int} {PS : Sto → Prop} : stoP (xSetL (.ref n) (.int j) x s) PS = lstP (mlAt s n) fun xs => ∃ k, ixN xs.length j = some k ∧ PS (s.set n (.lst (xs.set k x))) := by
  unfold xSetL mlAt
  dsimp only
  cases h : s[n]? with
  | none => rfl
  | some o =>
    cases o with
    | lst xs =>
      dsimp only [lstP]
      cases ixN xs.length j <;> simp [stoP]
    | _ => rfl
/-! targets -/
@[simp ↓] theorem z_gN : gN i d e = some (e.set i (some d)) := nr rfl
@[simp ↓] theorem z_gT {gs : List GN} {ds : List D} : gT gs (.tup ds) e = gTs gs ds e := nr rfl
@[simp ↓] theorem z_gTs0 : gTs [] [] e = some e := nr rfl
@[simp ↓] theorem z_gTsC {gs : List GN} {ds : List D} : gTs (g :: gs) (d :: ds) e = (g d e).bind fun e' => gTs gs ds e' := nr rfl
@[simp ↓] theorem z_wipe0 : wipeD e [] = e := nr rfl
@[simp ↓] theorem z_wipeC {vs : List Nat} : wipeD e (i :: vs) = (wipeD e vs).set i none := nr rfl
/-! iterables -/
@[simp ↓] theorem z_iR1 : (iR1 ms e s).wp PI E = (ms e s).wp (fun ds s1 => ∃ j, ds = [.int j] ∧ (-(2 ^ 62) ≤ j ∧ j < 2 ^ 62) ∧ PI (j.toNat, jRng 0 j.toNat) s1) E := by
  unfold iR1; rw [z_bind]
  congr 1
  funext ds s1
  split
  · rename_i j
    rw [z_iteN, z_ok]
    simp
  · rename_i hn
    simp only [z_no, eq_iff_iff, false_iff, not_exists]
    intro j hj
    exact hn j hj.1
@[simp ↓] theorem z_iR2 : (iR2 ms e s).wp PI E = (ms e s).wp (fun ds s1 => ∃ i j, ds = [.int i, .int j] ∧ (-(2 ^ 62) ≤ i ∧ i < 2 ^ 62 ∧ -(2 ^ 62) ≤ j ∧ j < 2 ^ 62) ∧ PI ((j - i).toNat, jRng i (j - i).toNat) s1) E := by
  unfold iR2; rw [z_bind]
  congr 1
  funext ds s1
  split
  · rename_i i j
    rw [z_iteN, z_ok]
    simp only [eq_iff_iff]
    constructor
    · intro h; exact ⟨i, j, rfl, h⟩
    · rintro ⟨i', j', h1, h2⟩
      cases h1
      exact h2
  · rename_i hn
    simp only [z_no, eq_iff_iff, false_iff, not_exists]
    intro i j hj
    exact hn i j hj.1
@[simp ↓] theorem z_iSq : (iSq a e s).wp PI E = (a e s).wp (fun d s1 => match d with | .tup ds => PI (ds.length, jTup ds) s1 | .ref n => lstP (lstAt s1 n) fun xs => PI (xs.length, jLst n) s1 | _ => False) E := by
  unfold iSq; rw [z_bind]
  congr 1
  funext d s1
  cases d with
  | ref n =>
    dsimp only
    unfold lstAt lstP
    split <;> simp_all [Rs.wp]
  | _ => rfl
@[simp ↓] theorem z_iSt : (iSt a e s).wp PI E = (a e s).wp (fun d s1 => match d with | .str x => PI (x.cps.size, jStr x) s1 | _ => False) E := by
  unfold iSt; rw [z_bind]
  congr 1
  funext d s1
  cases d <;> rfl
@[simp ↓] theorem z_iEn : (iEn ms e s).wp PI E = (ms e s).wp (fun ds s1 => ∃ n, ds = [.ref n] ∧ lstP (lstAt s1 n) fun xs => PI (xs.length, jEn n) s1) E := by
  unfold iEn; rw [z_bind]
  congr 1
  funext ds s1
  split
  · rename_i n
    simp only [List.cons.injEq, D.ref.injEq, and_true, exists_eq_left']
    unfold lstP
    cases lstAt s1 n <;> rfl
  · rename_i hn
    simp only [z_no, eq_iff_iff, false_iff, not_exists]
    intro n hj
    exact hn n hj.1
@[simp ↓] theorem z_iZp : (iZp ms e s).wp PI E = (ms e s).wp (fun ds s1 => ∃ n m, ds = [.ref n, .ref m] ∧ lstP (lstAt s1 n) fun xs => lstP (lstAt s1 m) fun ys => PI (xs.length, jZip n m) s1) E := by
  unfold iZp; rw [z_bind]
  congr 1
  funext ds s1
  split
  · rename_i n m
    simp only [eq_iff_iff]
    constructor
    · intro h
      refine ⟨n, m, rfl, ?_⟩
      unfold lstP
      cases h1 : lstAt s1 n <;> cases h2 : lstAt s1 m <;> rw [h1, h2] at h <;> first | exact h | exact h.elim
    · rintro ⟨n', m', h1, h2⟩
      cases h1
      unfold lstP at h2
      cases h3 : lstAt s1 n <;> rw [h3] at h2 <;> first | exact h2.elim | skip
      cases h4 : lstAt s1 m <;> rw [h4] at h2 <;> first | exact h2.elim | exact h2
  · rename_i hn
    simp only [z_no, eq_iff_iff, false_iff, not_exists]
    intro n m hj
    exact hn n m hj.1
/-! primitives on what is known of them -/
theorem z_int {C : Int → Int → Prop} [∀ i j, Decidable (C i j)] {g : Int → Int → D} {i j : Int} : (dIc C g (.int i) (.int j) s).wp P E = (C i j ∧ P (g i j) s) := by
  show (if C i j then Rs.ok (g i j) s else Rs.no).wp P E = _
  rw [z_iteN, z_ok]
@[simp ↓] theorem z_sub {i j : Int} : (dSub (.int i) (.int j) s).wp P E = P (.int (i - j)) s := nr rfl
@[simp ↓] theorem z_lt {i j : Int} : (dLt (.int i) (.int j) s).wp P E = P (.bl (decide (i < j))) s := nr rfl
@[simp ↓] theorem z_le {i j : Int} : (dLe (.int i) (.int j) s).wp P E = P (.bl (decide (i ≤ j))) s := nr rfl
@[simp ↓] theorem z_gt {i j : Int} : (dGt (.int i) (.int j) s).wp P E = P (.bl (decide (j < i))) s := nr rfl
@[simp ↓] theorem z_ge {i j : Int} : (dGe (.int i) (.int j) s).wp P E = P (.bl (decide (j ≤ i))) s := nr rfl
@[simp ↓] theorem z_mul {i j : Int} : (dMul2 (.int i) (.int j) s).wp P E = (cMul i j ∧ P (.int (i * j)) s) := by
  show (if cMul i j then Rs.ok (D.int (i * j)) s else Rs.no).wp P E = _
  rw [z_iteN, z_ok]
@[simp ↓] theorem z_div {i j : Int} : (dDiv (.int i) (.int j) s).wp P E = ((0 < j ∧ j < 1073741824) ∧ P (.int (i / j)) s) := z_int
@[simp ↓] theorem z_mod {i j : Int} : (dMod (.int i) (.int j) s).wp P E = (0 < j ∧ P (.int (i % j)) s) := z_int
@[simp ↓] theorem z_pow {i j : Int} : (dPow (.int i) (.int j) s).wp P E = (cPow i j ∧ P (.int (i ^ j.toNat)) s) := z_int
@[simp ↓] theorem z_neg {i : Int} : (dNeg (.int i) s).wp P E = P (.int (-i)) s := nr rfl
@[simp ↓] theorem z_addI {i j : Int} : (dAdd (.int i) (.int j) s).wp P E = P (.int (i + j)) s := nr rfl
@[simp ↓] theorem z_addS {i j : Str} : (dAdd (.str i) (.str j) s).wp P E = (i.length + j.length ≤ sizeLine ∧ P (.str (i ++ j)) s) := by
  show (if _ then _ else _ : Rs D).wp P E = _
  rw [z_iteN, z_ok]
@[simp ↓] theorem z_addT {i j : List D} : (dAdd (.tup i) (.tup j) s).wp P E = (i.length + j.length ≤ sizeLine ∧ P (.tup (i ++ j)) s) := by
  show (if _ then _ else _ : Rs D).wp P E = _
  rw [z_iteN, z_ok]
@[simp ↓] theorem z_addL {n m : Nat} : (dAdd (.ref n) (.ref m) s).wp P E = lstP (mlAt s n) fun xs => lstP (mlAt s m) fun ys => xs.length + ys.length ≤ sizeLine ∧ P (.ref s.length) (s ++ [.lst (xs ++ ys)]) := by
  unfold dAdd mlAt lstP
  dsimp only
  cases s[n]? with
  | none => rfl
  | some o =>
    cases o with
    | lst xs =>
      cases s[m]? with
      | none => rfl
      | some o2 =>
        cases o2 with
        | lst ys => exact z_iteN
        | _ => rfl
    | _ => rfl
@[simp ↓] theorem z_fIntI {j : Int} : (fInt [.int j] s).wp P E = P (.int j) s := nr rfl
@[simp ↓] theorem z_fAbs {j : Int} : (fAbs [.int j] s).wp P E = P (.int (if j < 0 then -j else j)) s := nr rfl
@[simp ↓] theorem z_fMax {i j : Int} : (fMax2 [.int i, .int j] s).wp P E = P (.int (if j > i then j else i)) s := nr rfl
@[simp ↓] theorem z_fMin {i j : Int} : (fMin2 [.int i, .int j] s).wp P E = P (.int (if j < i then j else i)) s := nr rfl
@[simp ↓] theorem z_lenS {x : Str} : (fLen [.str x] s).wp P E = (x.length ≤ sizeLine ∧ P (.int x.length) s) := by
  show (if _ then _ else _ : Rs D).wp P E = _
  rw [z_iteN, z_ok]
@[simp ↓] theorem z_lenT {xs : List D} : (fLen [.tup xs] s).wp P E = P (.int xs.length) s := nr rfl
@[simp ↓] theorem z_lenL {n : Nat} : (fLen [.ref n] s).wp P E = lstP (lstAt s n) fun xs => P (.int xs.length) s := by
  unfold fLen seqD lstP
  dsimp only
  cases lstAt s n <;> rfl
@[simp ↓] theorem z_tupT {xs : List D} : (fTuple [.tup xs] s).wp P E = P (.tup xs) s := nr rfl
@[simp ↓] theorem z_tupL {n : Nat} : (fTuple [.ref n] s).wp P E = lstP (lstAt s n) fun xs => P (.tup xs) s := by
  unfold fTuple seqD lstP
  dsimp only
  cases lstAt s n <;> rfl
@[simp ↓] theorem z_listT {xs : List D} : (fList [.tup xs] s).wp P E = (xs.length ≤ sizeLine ∧ P (.ref s.length) (s ++ [.lst xs])) := by
  show (if _ then _ else _ : Rs D).wp P E = _
  rw [z_iteN, z_ok]
@[simp ↓] theorem z_listL {n : Nat} : (fList [.ref n] s).wp P E = lstP (lstAt s n) fun xs => xs.length ≤ sizeLine ∧ P (.ref s.length) (s ++ [.lst xs]) := by
  unfold fList seqD lstP
  dsimp only
  cases lstAt s n with
  | none => rfl
  | some xs => exact z_iteN
def datP (o : Option D) (P : D → Prop) : Prop := match o with
  | some d => P d
  | none => False
@[simp ↓] theorem datP_some {P : D → Prop} : datP (some d) P = P d := nr rfl
@[simp ↓] theorem z_ixT {xs : List D} {j : Int} : (dIx (.tup xs) (.int j) s).wp P E = datP (atI xs j) fun d => P d s := by
  unfold dIx seqD datP
  dsimp only
  cases atI xs j <;> rfl
@[simp ↓] theorem z_ixL {n : Nat} {j : Int} : (dIx (.ref n) (.int j) s).wp P E = lstP (lstAt s n) fun xs => datP (atI xs j) fun d => P d s := by
  unfold dIx seqD datP lstP
  dsimp only
  cases lstAt s n with
  | none => rfl
  | some xs => dsimp only; cases atI xs j <;> rfl
@[simp ↓] theorem z_ixS {x : Str} {j : Int} : (dIx (.str x) (.int j) s).wp P E = (x.length ≤ sizeLine ∧ ∃ c, atI x.cps.toList j = some c ∧ P (.str ⟨#[c]⟩) s) := by
  unfold dIx
  dsimp only
  rw [z_iteN]
  cases atI x.cps.toList j <;> simp [Rs.wp]
@[simp ↓] theorem z_slS {x : Str} {lo hi : Option Int} : (dSl (.str x) lo hi s).wp P E = (x.length ≤ sizeLine ∧ P (.str (cutS x lo hi)) s) := by
  show (if _ then _ else _ : Rs D).wp P E = _
  rw [z_iteN, z_ok]
@[simp ↓] theorem z_slT {xs : List D} {lo hi : Option Int} : (dSl (.tup xs) lo hi s).wp P E = P (.tup (cutD xs lo hi)) s := nr rfl
@[simp ↓] theorem z_slL {n : Nat} {lo hi : Option Int} : (dSl (.ref n) lo hi s).wp P E = lstP (lstAt s n) fun xs => P (.ref s.length) (s ++ [.lst (cutD xs lo hi)]) := by
  unfold dSl lstP
  dsimp only
  cases lstAt s n <;> rfl
@[simp ↓] theorem z_append {n : Nat} : (mtL lAppend (.ref n) [d] s).wp P E = lstP (mlAt s n) fun xs => xs.length < sizeLine ∧ P .non (s.set n (.lst (xs ++ [d]))) := by
  unfold mtL lAppend mlAt lstP
  dsimp only
  cases s[n]? with
  | none => rfl
  | some o =>
    cases o with
    | lst xs =>
      dsimp only
      by_cases q : xs.length < sizeLine <;> simp [q, Rs.wp]
    | _ => rfl
@[simp ↓] theorem z_fmtS {x : Str} : (fFmt (.str x) s).wp P E = (x.length ≤ sizeLine ∧ P (.str x) s) := by
  show (if _ then _ else _ : Rs D).wp P E = _
  rw [z_iteN, z_ok]
@[simp ↓] theorem z_js0 {acc : Str} : (mJs [] acc e s).wp P E = P (.str acc) s := nr rfl
def strP (d : D) (P : Str → Prop) : Prop := match d with
  | .str x => P x
  | _ => False
@[simp ↓] theorem strP_str {x : Str} {P : Str → Prop} : strP (.str x) P = P x := nr rfl
@[simp ↓] theorem z_jsC {r : List (EM D)} {acc : Str} : (mJs (a :: r) acc e s).wp P E = (a e s).wp (fun d s1 => strP d fun y => (acc ++ y).length ≤ sizeLine ∧ (mJs r (acc ++ y) e s1).wp P E) E := by
  rw [mJs]
  unfold strP
  rw [z_bind]
  congr 1
  funext d s1
  cases d with
  | str y => dsimp only; rw [z_iteN]
  | _ => rfl
theorem z_join {x : Str} : (fJoin (.str x) [d] s).wp P E = ∃ xs ys, seqD s d = some xs ∧ xs.mapM strD = some ys ∧ (ys.map (·.length)).sum + ys.length * x.length ≤ 16777216 ∧ P (.str (Txt.join x ys)) s := by
  unfold fJoin
  dsimp only
  cases h : seqD s d with
  | none => simp [Rs.wp]
  | some xs =>
    simp only [Option.bind_some, Option.some.injEq, exists_and_left, exists_eq_left']
    cases h2 : xs.mapM strD with
    | none => simp [Rs.wp]
    | some ys => simp [z_iteN, z_ok]
@[simp ↓] theorem z_split {x y : Str} : (fSplit (.str x) [.str y] s).wp P E = (((y.length == 0) = false ∧ x.length + 2 ≤ sizeLine) ∧ P (.ref s.length) (s ++ [.lst ((Txt.split x y).map D.str)])) := by
  show (if _ then _ else _ : Rs D).wp P E = _
  rw [z_iteN, z_ok]
theorem z_isi {T : String} : (mIsi T a e s).wp P E = (a e s).wp (fun d s1 => ∃ n b, tyN s1 d = some n ∧ kitB n T = some b ∧ P (.bl b) s1) E := by
  unfold mIsi
  rw [z_bind]
  congr 1
  funext d s1
  cases h : tyN s1 d with
  | none => simp [Rs.wp]
  | some n =>
    simp only [Option.some.injEq, exists_and_left, exists_eq_left']
    cases h2 : kitB n T <;> simp [Rs.wp]
theorem z_all {n : Nat} {q : Bool} : (fAllAny q [.ref n] s).wp P E = ∃ xs bs, lstAt s n = some xs ∧ xs.mapM blD = some bs ∧ P (.bl (if q then bs.all id else bs.any id)) s := by
  unfold fAllAny
  dsimp only
  cases h : lstAt s n with
  | none => simp [Rs.wp]
  | some xs =>
    simp only [Option.bind_some, Option.some.injEq, exists_and_left, exists_eq_left']
    cases h2 : xs.mapM blD <;> simp [Rs.wp]
def isNon : D → Bool
  | .non => true
  | _ => false
@[simp ↓] theorem z_isN : (dIsN2 x .non s).wp P E = P (.bl (isNon x)) s := by
  unfold dIsN2 dIsN isNon
  cases x <;> rfl
@[simp ↓] theorem z_notN : (dNotN2 x .non s).wp P E = P (.bl (!isNon x)) s := by
  unfold dNotN2 dIsN isNon
  cases x <;> rfl
@[simp ↓] theorem z_eqS {a b : Str} : (dEq (.str a) (.str b) s).wp P E = P (.bl (decide (a = b))) s := by
  show (Rs.ok (D.bl (false ^^ decide (a = b))) s).wp P E = _
  rw [Bool.false_xor, z_ok]
@[simp ↓] theorem z_neS {a b : Str} : (dNe (.str a) (.str b) s).wp P E = P (.bl (!decide (a = b))) s := by
  show (Rs.ok (D.bl (true ^^ decide (a = b))) s).wp P E = _
  rw [Bool.true_xor, z_ok]
theorem shp_str {a : Str} {p : PyData} (h : shp s (.str a) = some p) : p = .str a := by
  unfold shp at h
  rw [pyd] at h
  dsimp only at h
  split at h
  · cases h; rfl
  · cases h
theorem z_eqG {neg : Bool} {p q : PyData} (h1 : shp s x = some p) (h2 : shp s y = some q) : (dEqB neg x y s).wp P E = P (.bl (neg ^^ PyData.eqv p q)) s := by
  unfold dEqB
  split
  · rename_i a b
    rw [shp_str h1, shp_str h2, z_ok, PyData.eqv]
    rfl
  · rw [h1, h2, z_ok]
theorem z_eq {p q : PyData} (h1 : shp s x = some p) (h2 : shp s y = some q) : (dEq x y s).wp P E = P (.bl (PyData.eqv p q)) s := by
  unfold dEq
  rw [z_eqG h1 h2, Bool.false_xor]
theorem z_ne {p q : PyData} (h1 : shp s x = some p) (h2 : shp s y = some q) : (dNe x y s).wp P E = P (.bl (!PyData.eqv p q)) s := by
  unfold dNe
  rw [z_eqG h1 h2, Bool.true_xor]
@[simp ↓] theorem z_mulL {n : Nat} {j : Int} : (dMul2 (.ref n) (.int j) s).wp P E = lstP (mlAt s n) fun xs => ((-(2 ^ 63) ≤ j ∧ j < 2 ^ 63) ∧ xs.length * j.toNat ≤ sizeLine) ∧ P (.ref s.length) (s ++ [.lst (List.replicate j.toNat xs).flatten]) := by
  unfold dMul2 mlAt lstP
  dsimp only
  cases s[n]? with
  | none => rfl
  | some o =>
    cases o with
    | lst xs => exact z_iteN
    | _ => rfl
@[simp ↓] theorem z_mNk {n m : Nat} {mk : EM (List D)} : (mNk n m fN ms mk e s).wp P E = (ms e s).wp (fun xs s1 => (mk e s1).wp (fun ys s2 => (xs.length = n ∧ ys.length = m) ∧ (fN (xs ++ ys) s2).wp P E) E) E := by
  unfold mNk
  simp only [z_bind, z_iteN]
end
end Z

set_option Elab.async false
set_option linter.all false
set_option maxRecDepth 100000
set_option maxHeartbeats 4000000
namespace Z
open PySem PySem.Spec PyProof.Rows L2
/-! ### places -/
section
variable {s t : Sto} {k n : Nat} {xs ys : List D} {o : SO} {x y z : D}
theorem lstAt_some (h : s[k]? = some (.lst xs)) : lstAt s k = some xs := by unfold lstAt; rw [h]
theorem mlAt_some (h : s[k]? = some (.lst xs)) : mlAt s k = some xs := by unfold mlAt; rw [h]
theorem lstAt_ml (h : mlAt s k = some xs) : lstAt s k = some xs := by
  unfold mlAt at h
  split at h
  · rename_i ys e
    cases h
    exact lstAt_some e
  · cases h
theorem mlAt_get (h : mlAt s k = some xs) : s[k]? = some (.lst xs) := by
  unfold mlAt at h
  split at h
  · rename_i ys e
    cases h
    exact e
  · cases h
theorem isTy_ml (h : mlAt s k = some xs) : isTy "list" s (.ref k) = true := by
  unfold isTy
  dsimp only
  rw [mlAt_get h]
  exact beq_self_eq_true _
@[simp] theorem mlAt_set_self (h : k < s.length) : mlAt (s.set k (.lst xs)) k = some xs := mlAt_some (List.getElem?_set_self h)
@[simp] theorem mlAt_set_ne (h : k ≠ n) : mlAt (s.set k o) n = mlAt s n := by unfold mlAt; rw [List.getElem?_set_ne h]
@[simp] theorem mlAt_push : mlAt (s ++ [.lst xs]) s.length = some xs := mlAt_some (by simp)
@[simp] theorem mlAt_app (h : n < s.length) : mlAt (s ++ t) n = mlAt s n := by unfold mlAt; rw [List.getElem?_append_left h]
@[simp] theorem lstAt_set_self (h : k < s.length) : lstAt (s.set k (.lst xs)) k = some xs := lstAt_some (List.getElem?_set_self h)
@[simp] theorem lstAt_set_ne (h : k ≠ n) : lstAt (s.set k o) n = lstAt s n := by unfold lstAt; rw [List.getElem?_set_ne h]
@[simp] theorem lstAt_push : lstAt (s ++ [.lst xs]) s.length = some xs := lstAt_some (by simp)
@[simp] theorem lstAt_app (h : n < s.length) : lstAt (s ++ t) n = lstAt s n := by unfold lstAt; rw [List.getElem?_append_left h]
theorem atI_of {α : Type} {xs : List α} {i : Nat} {a : α} (h : xs[i]? = some a) : atI xs (i : Int) = some a := by
  have hl : i < xs.length := (List.getElem?_eq_some_iff.mp h).1
  unfold atI ixN
  rw [if_pos (by omega), if_pos (by omega)]
  exact h
@[simp] theorem atI_0 {α : Type} {x : α} {xs : List α} : atI (x :: xs) 0 = some x := atI_of (i := 0) rfl
@[simp] theorem atI_1 {α : Type} {x y : α} {xs : List α} : atI (x :: y :: xs) 1 = some y := atI_of (i := 1) rfl
@[simp] theorem atI_2 {α : Type} {x y z : α} {xs : List α} : atI (x :: y :: z :: xs) 2 = some z := atI_of (i := 2) rfl
@[simp] theorem atI_3 {α : Type} {x y z w : α} {xs : List α} : atI (x :: y :: z :: w :: xs) 3 = some w := atI_of (i := 3) rfl
theorem atI_nat {α : Type} {xs : List α} {i : Int} (h0 : 0 ≤ i) (h1 : i < xs.length) : ∃ (a : α) (j : Nat), i = j ∧ xs[j]? = some a ∧ atI xs i = some a ∧ a ∈ xs := by
  obtain ⟨j, rfl⟩ := Int.eq_ofNat_of_zero_le h0
  have hj : j < xs.length := by omega
  refine ⟨xs[j], j, rfl, List.getElem?_eq_getElem hj, ?_, List.getElem_mem hj⟩
  unfold atI ixN
  rw [if_pos (by omega), if_pos (by omega)]
  simp [hj]
@[simp] theorem ixN_0 {n : Nat} : (ixN (n + 1) 0) = some 0 := by
  unfold ixN
  rw [if_pos (by omega), if_pos (by omega)]
  rfl
@[simp] theorem ixN_1 {n : Nat} : (ixN (n + 1 + 1) 1) = some 1 := by
  unfold ixN
  rw [if_pos (by omega), if_pos (by omega)]
  rfl
@[simp] theorem ixN_20 : (ixN 2 0) = some 0 := rfl
@[simp] theorem ixN_21 : (ixN 2 1) = some 1 := rfl
theorem mod_lt {i n : Int} (h : 0 < n) : 0 ≤ i % n ∧ i % n < n := ⟨Int.emod_nonneg _ (by omega), Int.emod_lt_of_pos _ h⟩
theorem Eff.bagset {a b : Int} (h : k < s.length) : Eff [k] s (s.set k (.lst [.int a, .int b])) :=
  ⟨by simp, fun i hi hk => by rw [List.getElem?_set_ne (by simp at hk; omega)], fun j hj _ => by
    obtain rfl : j = k := by simpa using hj
    exact ⟨a, b, List.getElem?_set_self h⟩⟩
theorem Bag.ml {s : Sto} {k : Nat} (h : Bag s k) : ∃ a b : Int, mlAt s k = some [.int a, .int b] ∧ lstAt s k = some [.int a, .int b] ∧ k < s.length := by
  obtain ⟨a, b, e, h1⟩ := h.lst
  exact ⟨a, b, mlAt_some e, h1, lstAt_lt h1⟩
theorem Eff.ml {ks : List Nat} {s t : Sto} (h : Eff ks s t) {i : Nat} {xs : List D} (e : mlAt s i = some xs) (hi : i ∉ ks) : mlAt t i = some xs := mlAt_some (h.get (mlAt_get e) hi)
end
end Z

set_option Elab.async false
set_option linter.all false
set_option maxRecDepth 100000
set_option maxHeartbeats 4000000
namespace Z
open PySem PySem.Spec PyProof.Rows L2
/-! ### what is walked -/
/-- the walk j gives the items xs, as long as only ks are changed -/
def ItOk (ks : List Nat) (s0 : Sto) (j : Stp) (N : Nat) (xs : List D) : Prop := N = xs.length ∧ ∀ i s, Eff ks s0 s → j i s = some xs[i]?
section
variable {ks : List Nat} {s0 s t : Sto} {n m : Nat} {xs ys : List D}
def rngD (lo : Int) (n : Nat) : List D := (List.range n).map fun i => .int (lo + (i : Nat))
def strDs (x : Str) : List D := x.cps.toList.map fun c => .str ⟨#[c]⟩
def enD (xs : List D) : List D := xs.mapIdx fun i d => .tup [.int i, d]
theorem it_rng {lo : Int} : ItOk ks s0 (jRng lo n) n (rngD lo n) := ⟨by simp [rngD], fun i s _ => by
  unfold jRng rngD
  by_cases h : i < n
  · simp [h]
  · simp [h]⟩
theorem it_tup {N : Nat} (e : N = xs.length := by simp) : ItOk ks s0 (jTup xs) N xs := ⟨e, fun i s _ => rfl⟩
theorem it_lst {N : Nat} (h : lstAt s0 n = some xs) (hn : n ∉ ks) (e : N = xs.length := by simp) : ItOk ks s0 (jLst n) N xs := ⟨e, fun i s e => by rw [jLst_eq, e.lst h hn]; rfl⟩
theorem it_str {x : Str} : ItOk ks s0 (jStr x) x.cps.size (strDs x) := ⟨by simp [strDs], fun i s _ => by
  unfold jStr strDs
  simp⟩
theorem ItOk.later {j : Stp} {N : Nat} (h : ItOk ks s j N xs) (e : Eff ks s t) : ItOk ks t j N xs := ⟨h.1, fun i u f => h.2 i u (e.trans f)⟩
/-! ### comprehensions -/
variable {j : Stp} {g : GN} {tt : EM Bool} {mm : EM D} {N : Nat} {e : Ev}
theorem lc_gen (it : ItOk ks s0 j N xs) (hb : ∀ k ∈ ks, Bag s0 k) (hl : xs.length < sizeLine) (R : Nat → D → Option D → Sto → Prop)
    (st : ∀ i d o s t, R i d o s → s.length ≤ t.length → (∀ n, n < s.length → s0.length < n → t[n]? = s[n]?) → R i d o t)
    (body : ∀ i d s, xs[i]? = some d → Eff ks s0 s → (∀ k ∈ ks, Bag s k) → s0.length < s.length → ∃ e1, g d e = some e1 ∧ (tt e1 s).wp fun q s1 => Eff ks s s1 ∧ if q then (mm e1 s1).wp fun y s2 => Eff ks s1 s2 ∧ R i d (some y) s2 else R i d none s1) :
    (lcL j g tt mm s0.length N 0 e (s0 ++ [.lst []])).wp fun d s' => d = .ref s0.length ∧ Eff ks s0 s' ∧ s0.length < s'.length ∧ ∃ zs : List (Option D), zs.length = xs.length ∧ mlAt s' s0.length = some (zs.filterMap id) ∧ ∀ i d o, xs[i]? = some d → zs[i]? = some o → R i d o s' := by
  have lks : s0.length ∉ ks := fun h => Nat.lt_irrefl _ (hb _ h).lt
  refine wp_ne (lcL_wp (N := N) (fun i acc s => Eff ks s0 s ∧ s0.length < s.length ∧ ∃ zs : List (Option D), zs.length = i ∧ acc = zs.filterMap id ∧ ∀ i d o, xs[i]? = some d → zs[i]? = some o → R i d o s) ?_ N 0 [] _ (by simp) ⟨Eff.push, by simp, [], rfl, rfl, by simp⟩ (by simp)) ?_
  · rintro i acc s hi ⟨ef, hlt, zs, hz, rfl, hR⟩ hs
    refine ⟨fun h => ?_, fun h => ?_⟩
    · rw [it.2 i s ef, List.getElem?_eq_none (by rw [← it.1]; omega)]
    · have hi2 : i < xs.length := by rw [← it.1]; exact h
      obtain ⟨e1, h1, h2⟩ := body i xs[i] s (List.getElem?_eq_getElem hi2) ef (fun k hk => ef.bag k hk (hb k hk)) hlt
      refine ⟨xs[i], e1, by rw [it.2 i s ef, List.getElem?_eq_getElem hi2], h1, wp_ne h2 fun q s1 ⟨ef1, h3⟩ => ?_⟩
      have hs1 : s1[s0.length]? = some (SO.lst (zs.filterMap id)) := ef1.get hs lks
      have Rm : ∀ {s2 : Sto}, s.length ≤ s2.length → (∀ n, n < s.length → s0.length < n → s2[n]? = s[n]?) → ∀ o', R i xs[i] o' s2 → ∀ i' d o, xs[i']? = some d → (zs ++ [o'])[i']? = some o → R i' d o s2 := by
        intro s2 hle heq o' hR' i' d o hx ho
        by_cases hi' : i' < zs.length
        · rw [List.getElem?_append_left hi'] at ho
          exact st _ _ _ _ _ (hR i' d o hx ho) hle heq
        · have : i' = i := by
            have := (List.getElem?_eq_some_iff.mp ho).1
            simp at this
            omega
          subst this
          rw [List.getElem?_append_right (by omega), hz, Nat.sub_self] at ho
          cases ho
          rw [List.getElem?_eq_getElem hi2] at hx
          cases hx
          exact hR'
      have fl : (zs.filterMap id).length ≤ zs.length := List.length_filterMap_le _ _
      cases q with
      | true =>
        rw [if_pos rfl] at h3 ⊢
        refine wp_ne h3 fun y s2 ⟨ef2, h4⟩ => ?_
        have hs2 := ef2.get hs1 lks
        refine ⟨hs2, by omega, ((ef.trans ef1).trans ef2).set (Nat.le_refl _), by rw [List.length_set]; have := ef1.le; have := ef2.le; omega, zs ++ [some y], by simp [hz], by simp, ?_⟩
        refine Rm (by rw [List.length_set]; exact Nat.le_trans ef1.le ef2.le) (fun n hn hn2 => ?_) (some y) (st _ _ _ _ _ h4 (by simp) fun n hn hn2 => by rw [List.getElem?_set_ne (by omega)])
        rw [List.getElem?_set_ne (by omega)]
        have nk : n ∉ ks := fun hk => by have := (hb n hk).lt; omega
        rw [ef2.eq n (Nat.lt_of_lt_of_le hn ef1.le) nk, ef1.eq n hn nk]
      | false =>
        simp only [Bool.false_eq_true, ↓reduceIte] at h3 ⊢
        refine ⟨hs1, ef.trans ef1, Nat.lt_of_lt_of_le hlt ef1.le, zs ++ [none], by simp [hz], by simp, ?_⟩
        exact Rm ef1.le (fun n hn hn2 => ef1.eq n hn fun hk => by have := (hb n hk).lt; omega) none h3
  · rintro d s' ⟨rfl, ys, h1, ef, hlt, zs, hz, rfl, hR⟩
    exact ⟨rfl, ef, hlt, zs, by rw [hz]; exact it.1, mlAt_some h1, hR⟩
/-- every item gives a value that keeps R -/
theorem lc_all (it : ItOk ks s0 j N xs) (hb : ∀ k ∈ ks, Bag s0 k) (hl : xs.length < sizeLine) (R : Nat → D → D → Prop)
    (body : ∀ i d s, xs[i]? = some d → Eff ks s0 s → (∀ k ∈ ks, Bag s k) → ∃ e1, g d e = some e1 ∧ (mm e1 s).wp fun y s2 => Eff ks s s2 ∧ R i d y) :
    (lcL j g tY mm s0.length N 0 e (s0 ++ [.lst []])).wp fun d s' => d = .ref s0.length ∧ Eff ks s0 s' ∧ s0.length < s'.length ∧ ∃ ys : List D, ys.length = xs.length ∧ mlAt s' s0.length = some ys ∧ ∀ i d y, xs[i]? = some d → ys[i]? = some y → R i d y := by
  refine wp_ne (lc_gen it hb hl (fun i d o _ => ∃ y, o = some y ∧ R i d y) (fun _ _ _ _ _ h _ _ => h) fun i d s hx ef hbs _ => ?_) ?_
  · obtain ⟨e1, h1, h2⟩ := body i d s hx ef hbs
    refine ⟨e1, h1, ?_⟩
    rw [z_tY, if_pos rfl]
    exact ⟨Eff.refl, wp_ne h2 fun y s2 ⟨h3, h4⟩ => ⟨h3, y, rfl, h4⟩⟩
  · rintro d s' ⟨rfl, ef, hlt, zs, hz, hm, hR⟩
    refine ⟨rfl, ef, hlt, _, ?_, hm, ?_⟩
    · have : ∀ (zs : List (Option D)), (∀ o ∈ zs, ∃ y, o = some y) → (zs.filterMap id).length = zs.length := by
        intro zs
        induction zs with
        | nil => intro _; rfl
        | cons z zs ih =>
          intro h
          obtain ⟨y, rfl⟩ := h z (by simp)
          simp [ih fun o ho => h o (by simp [ho])]
      rw [← hz]
      refine this zs fun o ho => ?_
      obtain ⟨i, hi, rfl⟩ := List.getElem_of_mem ho
      obtain ⟨y, h, _⟩ := hR i (xs[i]'(by omega)) _ (List.getElem?_eq_getElem (by omega)) (List.getElem?_eq_getElem hi)
      exact ⟨y, h⟩
    · have : ∀ (zs : List (Option D)), (∀ o ∈ zs, ∃ y, o = some y) → ∀ (i : Nat) (y : D), (zs.filterMap id)[i]? = some y → zs[i]? = some (some y) := by
        intro zs
        induction zs with
        | nil => intro _ i y h; simp at h
        | cons z zs ih =>
          intro h i y hy
          obtain ⟨y', rfl⟩ := h z (by simp)
          cases i with
          | zero => simpa using hy
          | succ i => simpa using ih (fun o ho => h o (by simp [ho])) i y (by simpa using hy)
      intro i d y hx hy
      have h5 := this zs (fun o ho => by
        obtain ⟨i, hi, rfl⟩ := List.getElem_of_mem ho
        obtain ⟨y, h, _⟩ := hR i (xs[i]'(by omega)) _ (List.getElem?_eq_getElem (by omega)) (List.getElem?_eq_getElem hi)
        exact ⟨y, h⟩) i y hy
      obtain ⟨y', h, h6⟩ := hR i d _ hx h5
      cases h
      exact h6
/-- a pure map -/
theorem lc_map (f : D → D) (it : ItOk ks s0 j N xs) (hb : ∀ k ∈ ks, Bag s0 k) (hl : xs.length < sizeLine)
    (body : ∀ d s, d ∈ xs → Eff ks s0 s → (∀ k ∈ ks, Bag s k) → ∃ e1, g d e = some e1 ∧ (mm e1 s).wp fun y s2 => Eff ks s s2 ∧ y = f d) :
    (lcL j g tY mm s0.length N 0 e (s0 ++ [.lst []])).wp fun d s' => d = .ref s0.length ∧ Eff ks s0 s' ∧ s0.length < s'.length ∧ mlAt s' s0.length = some (xs.map f) := by
  refine wp_ne (lc_all it hb hl (fun i d y => y = f d) fun i d s hx ef hbs => body d s (List.mem_of_getElem? hx) ef hbs) ?_
  rintro d s' ⟨rfl, ef, hlt, ys, h1, h2, h3⟩
  refine ⟨rfl, ef, hlt, ?_⟩
  rw [h2]
  congr 1
  refine List.ext_getElem (by simp [h1]) fun i hi hi2 => ?_
  rw [List.getElem_map]
  exact h3 i _ _ (List.getElem?_eq_getElem (by omega)) (List.getElem?_eq_getElem hi)
end
end Z

set_option Elab.async false
set_option linter.all false
set_option maxRecDepth 100000
set_option maxHeartbeats 4000000
namespace Z
open PySem PySem.Spec PyProof.Rows L2
/-! ### draws: bag, take, of -/
def bagG (c0 c1 z : Int) (upd : EM D) (M p : Int) : SM :=
  sC (sA 2 (mIf (toB (m2 dLt (mV 1) (mN fLen (aC (mV 0) aN)))) (m2 dIx (mV 0) (mV 1)) (mC (.int 0))))
  (sC (sA 3 (m2 dAdd (m2 dMul2 (mC (.int c0)) (mV 1)) (mC (.int c1))))
  (sC (sF (iEn (aC (mSl dSl (mV 0) oN (oS (mC (.int z)))) aN)) (gT [gN 4, gN 5]) (sA 3 (m2 dMod (mN fInt (aC upd aN)) (mC (.int M)))))
  (sR (mN fLst (aC (mIf (toB (m2 dGe (mN fAbs (aC (mV 2) aN)) (m2 dPow (mC (.int 10)) (mC (.int p))))) (mN fAbs (aC (mV 2) aN)) (mC (.int 0))) (aC (mV 3) aN))))))
def updA (a b c : Int) : EM D := m2 dAdd (m2 dAdd (m2 dMul2 (mV 3) (mC (.int a))) (m2 dMod (mN fInt (aC (mV 5) aN)) (mC (.int b)))) (m2 dMul2 (mC (.int c)) (mV 4))
def updB (a b c d : Int) : EM D := m2 dAdd (updA a b c) (mC (.int d))
def smallI (i : Int) : Prop := -(2 ^ 64) < i ∧ i < 2 ^ 64
instance (i : Int) : Decidable (smallI i) := by unfold smallI; infer_instance
theorem two_le_line : 2 ≤ sizeLine := by decide
theorem bag_gen {c0 c1 z M p : Int} {upd : EM D} (h0 : smallI c0) (hM : 0 < M) (hp : cPow 10 p)
    (hu : ∀ (o0 o1 o2 : Option D) (m k j : Int) (s : Sto), (upd [o0, o1, o2, some (.int m), some (.int k), some (.int j)] s).wp fun d s' => s' = s ∧ ∃ i, d = .int i)
    {s : Sto} {n : Nat} {ns : List Int} {a : Nat} (hx : lstAt s n = some (ns.map D.int)) : (fnM 2 6 (bagG c0 c1 z upd M p) [.ref n, .int a] s).wp fun d s' => ∃ k, d = .ref k ∧ s.length ≤ k ∧ Bag s' k ∧ Eff [] s s' := by
  unfold bagG
  rw [z_fnM (by rfl)]
  have hn : n < s.length := lstAt_lt hx
  have hc : ∀ d, d ∈ cutD (ns.map D.int) none (some z) → ∃ i, d = .int i := fun d hd => by
    have := List.mem_of_mem_drop (List.mem_of_mem_take hd)
    obtain ⟨i, -, rfl⟩ := List.mem_map.mp this
    exact ⟨i, rfl⟩
  have first : ∀ Q : En, (∀ A : Int, Q.nx [some (.ref n), some (.int a), some (.int A), none, none, none] s) → (sA 2 (mIf (toB (m2 dLt (mV 1) (mN fLen (aC (mV 0) aN)))) (m2 dIx (mV 0) (mV 1)) (mC (.int 0))) [some (.ref n), some (.int a), none, none, none, none] s).wp Q := by
    intro Q hQ
    simp [hx]
    split
    · rename_i h
      obtain ⟨i, e⟩ : ∃ i, atI (ns.map D.int) (a : Int) = some (.int i) := ⟨_, atI_of (by rw [List.getElem?_map, List.getElem?_eq_getElem h]; rfl)⟩
      rw [e]
      exact hQ _
    · exact hQ _
  rw [z_sC]
  refine first _ fun A => ?_
  have loop : ∀ (j0 : Stp) (Q : En) (m : Int) (s1 : Sto), lstAt s1 s.length = some (cutD (ns.map D.int) none (some z)) → (∀ m o4 o5, Q.nx [some (.ref n), some (.int a), some (.int A), some (.int m), o4, o5] s1) →
      (forL (jEn s.length) (gT [gN 4, gN 5]) (sA 3 (m2 dMod (mN fInt (aC upd aN)) (mC (.int M)))) (cutD (ns.map D.int) none (some z)).length 0 [some (.ref n), some (.int a), some (.int A), some (.int m), none, none] s1).wp Q := by
    intro j0 Q m s1 hs1 hQ
    refine forL_wp (fun i e s2 => s2 = s1 ∧ ∃ m o4 o5, e = [some (.ref n), some (.int a), some (.int A), some (.int m), o4, o5]) ?_ _ 0 _ _ (Nat.zero_add _) ⟨rfl, m, none, none, rfl⟩
    rintro i e s2 hi ⟨rfl, m, o4, o5, rfl⟩
    refine ⟨fun h => ⟨by subst h; simp [jEn, hs1], hQ m o4 o5⟩, fun h => ?_⟩
    obtain ⟨j, hj⟩ := hc _ (List.getElem_mem h)
    refine ⟨.tup [.int i, .int j], _, by simp [jEn, hs1, h, hj], rfl, ?_⟩
    have := hu (some (.ref n)) (some (.int a)) (some (.int A)) m i j s2
    simp
    refine wp_ne this fun d s3 ⟨e1, i2, e2⟩ => ?_
    subst e1 e2
    simp [hM]
  simp [hx, cMul]
  refine ⟨.inl h0, loop (fun _ _ => none) _ _ _ (by simp) fun m o4 o5 => ?_⟩
  have fin : ∀ B : Int, 2 ≤ sizeLine ∧ s.length ≤ s.length + 1 ∧ Bag (s ++ [SO.lst (cutD (List.map D.int ns) none (some z)), SO.lst [D.int B, D.int m]]) (s.length + 1) ∧ Eff [] s (s ++ [SO.lst (cutD (List.map D.int ns) none (some z)), SO.lst [D.int B, D.int m]]) := fun B =>
    ⟨two_le_line, by omega, ⟨B, m, by rw [List.getElem?_append_right (by omega)]; simp⟩, by
      have := (Eff.push (ks := []) (s := s) (o := SO.lst (cutD (List.map D.int ns) none (some z)))).trans (Eff.push (o := SO.lst [D.int B, D.int m]))
      simpa using this⟩
  have f1 := fun B => (fin B).1
  have f3 := fun B => (fin B).2.2
  simp [hp]
  split <;> (try split) <;> first | exact ⟨two_le_line, f3 _⟩ | exact f3 _
theorem updB_ok {a b c d : Int} (ha : smallI a) (hb : 0 < b) (hc : smallI c) (o0 o1 o2 : Option D) (m k j : Int) (s : Sto) : (updB a b c d [o0, o1, o2, some (.int m), some (.int k), some (.int j)] s).wp fun d s' => s' = s ∧ ∃ i, d = .int i := by
  unfold updB updA
  simp [cMul, hb]
  exact ⟨.inr ha, .inl hc⟩
/-- a draw: a whole number below n -/
def TakeOk (F : List D → Sto → Rs D) : Prop := ∀ {s : Sto} {k : Nat} {n : Int}, Bag s k → 0 < n → n < 1073741824 → (F [.ref k, .int n] s).wp fun d s' => ∃ i : Nat, d = .int i ∧ (i : Int) < n ∧ Eff [k] s s'
def takeG (c1 c2 M d1 c3 M2 d2 : Int) : SM := (sC (sI (toB (m2 dGt (m2 dIx (mV 0) (mC (.int 0))) (mC (.int 0)))) (sC (sA 2 (m2 dMod (mN fInt (aC (m2 dIx (mV 0) (mC (.int 0))) aN)) (mV 1))) (sC (sX xSetL (mV 0) (mC (.int 0)) (m2 dDiv (m2 dIx (mV 0) (mC (.int 0))) (mV 1))) (sR (mV 2)))) sN) (sC (sX xSetL (mV 0) (mC (.int 1)) (m2 dMod (mN fInt (aC (m2 dAdd (m2 dMul2 (m2 dIx (mV 0) (mC (.int 1))) (mC (.int c1))) (mC (.int c2))) aN)) (mC (.int M)))) (sR (m2 dMod (m2 dDiv (m2 dMod (mN fInt (aC (m2 dMul2 (m2 dDiv (m2 dIx (mV 0) (mC (.int 1))) (mC (.int d1))) (mC (.int c3))) aN)) (mC (.int M2))) (mC (.int d2))) (mV 1)))))
theorem take_gen {c1 c2 M d1 c3 M2 d2 : Int} (h1 : smallI c1) (h2 : smallI c3) (hM : 0 < M) (hM2 : 0 < M2) (hd1 : 0 < d1 ∧ d1 < 1073741824) (hd2 : 0 < d2 ∧ d2 < 1073741824) : TakeOk (fnM 2 3 (takeG c1 c2 M d1 c3 M2 d2)) := by
  intro s k n hb hn hn2
  obtain ⟨a, b, h, hl, hk⟩ := hb.ml
  unfold takeG
  rw [z_fnM (by rfl)]
  have h4 := fun i => mod_lt (i := i) hn
  have nat : ∀ i : Int, ∃ j : Nat, D.int (i % n) = D.int j ∧ (j : Int) < n := fun i => by
    obtain ⟨j, hj⟩ := Int.eq_ofNat_of_zero_le (h4 i).1
    exact ⟨j, by rw [hj], by rw [← hj]; exact (h4 i).2⟩
  have key : ∀ (i : Int) {t : Sto}, Eff [k] s t → ∃ j : Nat, i % n = j ∧ (j : Int) < n ∧ Eff [k] s t := fun i t e => by
    obtain ⟨j, hj⟩ := Int.eq_ofNat_of_zero_le (h4 i).1
    exact ⟨j, hj, by rw [← hj]; exact (h4 i).2, e⟩
  simp [hl, h, hk, hn, hn2, hM, hM2, hd1.1, hd1.2, hd2.1, hd2.2, cMul]
  split
  · exact key _ (Eff.bagset hk)
  · exact ⟨.inr h1, .inr h2, key _ (Eff.bagset hk)⟩
/-- one of a list's or a tuple's items -/
def OfOk (F : List D → Sto → Rs D) : Prop := ∀ {s : Sto} {k : Nat} {x : D} {xs : List D}, Bag s k → seqD s x = some xs → x ≠ .ref k → xs ≠ [] → xs.length < 1073741824 → (F [.ref k, x] s).wp fun d s' => d ∈ xs ∧ Eff [k] s s'
def ofG (take : List D → Sto → Rs D) : SM := (sR (m2 dIx (mV 1) (mN take (aC (mV 0) (aC (mN fLen (aC (mV 1) aN)) aN)))))
theorem of_gen {take : List D → Sto → Rs D} (T : TakeOk take) : OfOk (fnM 2 2 (ofG take)) := by
  intro s k x xs hb hx hk h0 hl
  have hp : 0 < xs.length := List.length_pos_iff.mpr h0
  unfold ofG
  rw [z_fnM (by rfl)]
  cases x with
  | ref n =>
    have hx : lstAt s n = some xs := hx
    have hn : n ≠ k := fun e => hk (by rw [e])
    simp [hx]
    refine wp_ne (T hb (by omega) (by omega)) fun d s' ⟨i, e, h1, ef⟩ => ?_
    subst e
    obtain ⟨c, j, -, -, h4, h5⟩ := atI_nat (xs := xs) (i := i) (by omega) h1
    simp [ef.lst hx (by simpa using hn), h4, h5, ef]
  | tup ys =>
    cases hx
    simp
    refine wp_ne (T hb (by omega) (by omega)) fun d s' ⟨i, e, h1, ef⟩ => ?_
    subst e
    obtain ⟨c, j, -, -, h4, h5⟩ := atI_nat (xs := xs) (i := i) (by omega) h1
    simp [h4, h5, ef]
  | _ => cases hx
end Z

set_option Elab.async false
set_option linter.all false
set_option maxRecDepth 100000
set_option maxHeartbeats 4000000
namespace Z
open PySem PySem.Spec PyProof.Rows L2 TL
/-! ### names -/
def abc : Str := "abcdefghijklmnopqrstuvwxyz"
def one (c : Nat) : Str := ⟨#[c]⟩
def isLow (c : Nat) : Prop := 97 ≤ c ∧ c ≤ 122
instance (c : Nat) : Decidable (isLow c) := by unfold isLow; infer_instance
structure IsName (x : Str) : Prop where
  pos : 1 ≤ (tl x).length
  len : (tl x).length ≤ 8
  low : ∀ c ∈ tl x, isLow c
theorem abc_tl : tl abc = (List.range 26).map (97 + ·) := by decide +kernel
theorem abc_le : abc.length ≤ sizeLine := by decide +kernel
theorem abc_at {i : Nat} (h : i < 26) : atI (tl abc) (i : Int) = some (97 + i) := atI_of (by rw [abc_tl]; simp [h])
theorem tl_one (c : Nat) : tl (one c) = [c] := rfl
theorem tl_join0 : ∀ ys : List Str, tl (Txt.join "" ys) = (ys.map tl).flatten := by
  intro ys
  rw [join_eq, tl_join]
  have e : tl ("" : Str) = [] := by decide +kernel
  rw [e]
  have : ∀ l : List (List Nat), joinL [] l = l.flatten := by
    intro l
    induction l with
    | nil => rfl
    | cons a l ih =>
      cases l with
      | nil => simp [joinL]
      | cons b l =>
        show a ++ ([] ++ joinL [] (b :: l)) = _
        rw [ih]
        simp
  exact this _
theorem mapM_strD : ∀ ys : List Str, (ys.map D.str).mapM strD = some ys
  | [] => rfl
  | y :: ys => by
    rw [List.map_cons, List.mapM_cons, mapM_strD ys]
    rfl
theorem tl_ofl (l : List Nat) : tl ⟨l.toArray⟩ = l := rfl
/-- distinct names, n of them, in a new list -/
def NamesOk (F : List D → Sto → Rs D) : Prop := ∀ {s : Sto} {k n : Nat}, Bag s k → n ≤ 26 → (F [.ref k, .int n] s).wp fun d s' => ∃ (l : Nat) (ms : List Str), d = .ref l ∧ s.length ≤ l ∧ mlAt s' l = some (ms.map D.str) ∧ ms.length = n ∧ ms.Nodup ∧ (∀ x ∈ ms, IsName x) ∧ Eff [k] s s'
def namesB (take of_ : List D → Sto → Rs D) : SM := (sC (sA 2 (mC (.str "abcdefghijklmnopqrstuvwxyz"))) (sC (sA 3 (mBM "str" fJoin (mC (.str "")) (aC (mL (iR1 (aC (mN of_ (aC (mV 0) (aC (mN fLst (aC (mC (.int 0)) (aC (mC (.int 0)) (aC (mC (.int 1)) (aC (mC (.int 3)) (aC (mC (.int 7)) aN)))))) aN))) aN)) (gN 7) tY (m2 dIx (mV 2) (mN take (aC (mV 0) (aC (mC (.int 26)) aN)))) [7]) aN))) (sC (sG (gT [(gN 5), (gN 6)]) (mN fTup (aC (mN take (aC (mV 0) (aC (mC (.int 26)) aN))) (aC (mN take (aC (mV 0) (aC (mC (.int 2)) aN))) aN)))) (sC (sA 4 (mL (iR1 (aC (mV 1) aN)) (gN 7) tY (m2 dIx (mV 2) (m2 dMod (m2 dAdd (mV 5) (m2 dMul2 (mC (.int 5)) (mV 7))) (mC (.int 26)))) [7])) (sR (mL (iSq (mV 4)) (gN 8) tY (mIf (toT (mV 6)) (m2 dAdd (mV 3) (mV 8)) (m2 dAdd (mV 8) (mV 3))) [8]))))))
theorem rngD_mem {lo : Int} {n : Nat} {d : D} (h : d ∈ rngD lo n) : ∃ i : Nat, i < n ∧ d = .int (lo + i) := by
  unfold rngD at h
  obtain ⟨i, hi, rfl⟩ := List.mem_map.mp h
  exact ⟨i, by simpa using hi, rfl⟩
theorem rngD_get {lo : Int} {n i : Nat} {d : D} (h : (rngD lo n)[i]? = some d) : i < n ∧ d = .int (lo + i) := by
  unfold rngD at h
  rw [List.getElem?_map] at h
  by_cases hi : i < n
  · rw [List.getElem?_range hi] at h
    cases h
    exact ⟨hi, rfl⟩
  · rw [List.getElem?_eq_none (by simpa using hi)] at h
    cases h
theorem rngD_len {lo : Int} {n : Nat} : (rngD lo n).length = n := by simp [rngD]
theorem line_26 : 26 < sizeLine := by decide
theorem line_8 : 100 ≤ sizeLine := by decide
/-- texts of one letter each -/
theorem letters_of {ys : List D} (h : ∀ y ∈ ys, ∃ c, isLow c ∧ y = .str (one c)) : ∃ cs : List Nat, (∀ c ∈ cs, isLow c) ∧ ys = (cs.map one).map D.str := by
  induction ys with
  | nil => exact ⟨[], by simp, rfl⟩
  | cons y ys ih =>
    obtain ⟨c, hc, rfl⟩ := h y (by simp)
    obtain ⟨cs, h1, rfl⟩ := ih fun y hy => h y (by simp [hy])
    exact ⟨c :: cs, by simpa using ⟨hc, h1⟩, rfl⟩
theorem join_ones (cs : List Nat) : Txt.join "" (cs.map one) = ⟨cs.toArray⟩ := ext_tl (by
  rw [tl_join0, List.map_map]
  have : (tl ∘ one) = fun c => [c] := rfl
  rw [this, tl_ofl]
  induction cs with
  | nil => rfl
  | cons c cs ih => simpa using ih)
theorem sum_ones {α : Type} : ∀ l : List α, (l.map fun _ => 1).sum = l.length
  | [] => rfl
  | a :: l => by rw [List.map_cons, List.sum_cons, sum_ones l, List.length_cons]; omega
theorem isTy_str {s : Sto} {x : Str} : isTy "str" s (.str x) = true := by
  show ("str" == "str") = true
  exact beq_self_eq_true _
theorem five_inj {st i j : Int} (hi : 0 ≤ i ∧ i < 26) (hj : 0 ≤ j ∧ j < 26) (h : (st + 5 * i) % 26 = (st + 5 * j) % 26) : i = j := by omega
theorem names_genB {take of_ : List D → Sto → Rs D} (T : TakeOk take) (O : OfOk of_) : NamesOk (fnM 2 9 (namesB take of_)) := by
  intro s k n hb hn
  have hk := hb.lt
  have ea : (("abcdefghijklmnopqrstuvwxyz" : String) : Str) = abc := rfl
  refine wp_of fun P hP => ?_
  unfold namesB
  rw [z_fnM (by rfl), ea]
  -- the base
  simp
  refine ⟨isTy_str, Nat.le_trans (by decide) line_8, ?_⟩
  refine wp_ne (O (s := s ++ [SO.lst [D.int 0, D.int 0, D.int 1, D.int 3, D.int 7]]) (k := k) (x := .ref s.length) (Eff.push (ks := [k]) |>.bag k (by simp) hb) lstAt_push (by simp; omega) (by simp) (by simp)) fun d s1 ⟨hd, ef1⟩ => ?_
  have ef1 := (Eff.push (ks := [k])).trans ef1
  obtain ⟨q, rfl, hq⟩ : ∃ q : Nat, d = .int q ∧ q ≤ 7 := by
    simp at hd
    rcases hd with rfl | rfl | rfl | rfl
    · exact ⟨0, rfl, by decide⟩
    · exact ⟨1, rfl, by decide⟩
    · exact ⟨3, rfl, by decide⟩
    · exact ⟨7, rfl, by decide⟩
  simp
  refine ⟨by omega, ?_⟩
  have hb1 := ef1.bag k (by simp) hb
  refine wp_ne (lc_all (ks := [k]) it_rng (by simpa using hb1) (by rw [rngD_len]; exact Nat.lt_of_le_of_lt (Nat.le_trans hq (by decide)) line_26) (fun i d y => ∃ c, isLow c ∧ y = .str (one c)) fun i d s2 hx ef hbs => ⟨_, rfl, ?_⟩) ?_
  · simp
    refine wp_ne (T (hbs k (by simp)) (by omega) (by omega)) fun d s' ⟨j, e, h1, ef⟩ => ?_
    subst e
    have h2 : j < 26 := by omega
    simp [abc_le, abc_at h2, ef, one, isLow]
    omega
  rintro d s2 ⟨rfl, ef2, hlt2, ys, hy1, hy2, hy3⟩
  obtain ⟨cs, hcs, rfl⟩ := letters_of (ys := ys) fun y hy => by
    obtain ⟨i, hi, rfl⟩ := List.getElem_of_mem hy
    exact hy3 i _ _ (List.getElem?_eq_getElem (by omega)) (List.getElem?_eq_getElem hi)
  have hcl : cs.length = q := by
    rw [rngD_len] at hy1
    simpa using hy1
  have hs2 : lstAt s2 s1.length = some ((cs.map one).map D.str) := lstAt_ml hy2
  rw [z_join]
  refine ⟨_, _, hs2, mapM_strD _, ?_, ?_⟩
  · have e0 : ("" : Str).length = 0 := by decide +kernel
    have e1 : (List.map (fun x => x.length) (cs.map one)).sum = cs.length := by
      rw [List.map_map]
      have : ((fun x : Str => x.length) ∘ one) = fun _ => 1 := rfl
      rw [this, sum_ones]
    rw [e0, e1]
    omega
  rw [join_ones]
  have hb2 := ef2.bag k (by simp) hb1
  refine wp_ne (T hb2 (by omega) (by omega)) fun d s3 ⟨st, e, h1, ef3⟩ => ?_
  subst e
  have hb3 := ef3.bag k (by simp) hb2
  refine wp_ne (T hb3 (by omega) (by omega)) fun d s4 ⟨be, e, hbe, ef4⟩ => ?_
  subst e
  have hb4 := ef4.bag k (by simp) hb3
  refine ⟨two_le_line, ?_⟩
  refine ⟨by omega, ?_⟩
  refine wp_ne (lc_map (ks := []) (fun d => match d with | .int i => .str (one (97 + ((st + 5 * i) % 26).toNat)) | _ => .non) it_rng (by simp) (by rw [rngD_len]; exact Nat.lt_of_le_of_lt hn line_26) fun d s5 hd ef _ => ⟨_, rfl, ?_⟩) ?_
  · obtain ⟨i, hi, rfl⟩ := rngD_mem hd
    simp [cMul]
    obtain ⟨j, hj⟩ := Int.eq_ofNat_of_zero_le (Int.emod_nonneg ((st : Int) + 5 * i) (show (26 : Int) ≠ 0 by decide))
    have hj2 : j < 26 := by
      have := Int.emod_lt_of_pos ((st : Int) + 5 * i) (show (0 : Int) < 26 by decide)
      omega
    rw [hj]
    simp [abc_le, abc_at hj2, Eff.refl, one]
  rintro d s5 ⟨rfl, ef5, hlt5, hm5⟩
  generalize hx5 : List.map _ (rngD 0 n) = xs5 at hm5
  have hx5l : xs5.length = n := by rw [← hx5, List.length_map, rngD_len]
  simp [lstAt_ml hm5]
  refine wp_ne (lc_map (ks := []) (fun d => match d with | .str x => .str (if be = 0 then x ++ ⟨cs.toArray⟩ else ⟨cs.toArray⟩ ++ x) | _ => .non) (it_lst (lstAt_ml hm5) (by simp)) (by simp) (by rw [hx5l]; exact Nat.lt_of_le_of_lt hn line_26) fun d s6 hd ef _ => ⟨_, rfl, ?_⟩) ?_
  · rw [← hx5] at hd
    obtain ⟨d0, hd0, rfl⟩ := List.mem_map.mp hd
    obtain ⟨i, hi, rfl⟩ := rngD_mem hd0
    simp [z_toT, trD]
    have l1 : (⟨cs.toArray⟩ : Str).length = cs.length := rfl
    have l2 : ∀ c, (one c).length = 1 := fun _ => rfl
    have l3 : cs.length + 1 ≤ sizeLine := Nat.le_trans (by omega) line_8
    have l4 : 1 + cs.length ≤ sizeLine := Nat.le_trans (by omega) line_8
    by_cases h0 : be = 0
    · simp [h0, Eff.refl, l1, l2, l3, l4]
    · simp [h0, Eff.refl, l1, l2, l3, l4]
  rintro d s6 ⟨rfl, ef6, hlt6, hm6⟩
  refine hP _ _ ⟨_, (List.range n).map fun i : Nat => if be = 0 then one (97 + (((st : Int) + 5 * i) % 26).toNat) ++ ⟨cs.toArray⟩ else ⟨cs.toArray⟩ ++ one (97 + (((st : Int) + 5 * i) % 26).toNat), rfl, ?_, ?_, by simp, ?_, ?_, ?_⟩
  · have := ef1.le; have := ef2.le; have := ef3.le; have := ef4.le; have := ef5.le
    omega
  · rw [hm6, ← hx5]
    simp [rngD]
  · have nd : (List.range n).Nodup := List.nodup_range
    refine (List.pairwise_map).mpr (List.Pairwise.imp_of_mem ?_ nd)
    intro a b ha hb hab heq
    apply hab
    have ha : a < n := by simpa using ha
    have hb : b < n := by simpa using hb
    have e2 : (97 + (((st : Int) + 5 * a) % 26).toNat) = (97 + (((st : Int) + 5 * b) % 26).toNat) := by
      have := congrArg tl heq
      by_cases h0 : be = 0
      · simpa [h0, tl_append, tl_one] using this
      · simpa [h0, tl_append, tl_one] using this
    have := five_inj (st := st) (i := a) (j := b) (by omega) (by omega) (by omega)
    omega
  · intro x hx
    obtain ⟨i, hi, rfl⟩ := List.mem_map.mp hx
    have hlow : isLow (97 + (((st : Int) + 5 * i) % 26).toNat) := by unfold isLow; omega
    have h7 : (tl (⟨cs.toArray⟩ : Str)) = cs := rfl
    by_cases h0 : be = 0
    · refine ⟨?_, ?_, ?_⟩ <;> simp only [h0, if_true, tl_append, tl_one, h7]
      · simp
      · simp; omega
      · intro c hc
        rcases List.mem_append.mp hc with hc | hc
        · simp at hc; rw [hc]; exact hlow
        · exact hcs c hc
    · refine ⟨?_, ?_, ?_⟩ <;> simp only [h0, if_false, tl_append, tl_one, h7]
      · simp
      · simp; omega
      · intro c hc
        rcases List.mem_append.mp hc with hc | hc
        · exact hcs c hc
        · simp at hc; rw [hc]; exact hlow
  · exact ((((ef1.trans ef2).trans ef3).trans ef4).trans ef5.nil).trans ef6.nil
end Z

set_option Elab.async false
set_option linter.all false
set_option maxRecDepth 100000
set_option maxHeartbeats 4000000
namespace Z
open PySem PySem.Spec PyProof.Rows L2 TL
open PySem.PyData (strOk)
/-! ### data without places: none, ints, texts, tuples of these -/
mutual
def enc : D → PyData
  | .non => .none
  | .bl b => .bool b
  | .int i => .int i
  | .str x => .str x
  | .tup xs => .tuple (encs xs)
  | .ref _ => .none
def encs : List D → List PyData
  | [] => []
  | x :: xs => enc x :: encs xs
end
mutual
/-- plain, of depth below n -/
def plain : Nat → D → Bool
  | _, .non => true
  | _, .bl _ => false
  | _, .int _ => true
  | _, .str x => strOk x
  | 0, .tup _ => false
  | n + 1, .tup xs => plains n xs
  | _, .ref _ => false
def plains : Nat → List D → Bool
  | _, [] => true
  | n, x :: xs => plain n x && plains n xs
end
theorem encs_map : ∀ xs : List D, encs xs = xs.map enc
  | [] => rfl
  | x :: xs => by rw [encs, encs_map xs]; rfl
theorem plains_iff {n : Nat} : ∀ {xs : List D}, plains n xs = true ↔ ∀ x ∈ xs, plain n x = true
  | [] => by simp [plains]
  | x :: xs => by simp [plains, plains_iff (xs := xs)]
mutual
theorem pyd_plain (s : Sto) : ∀ (n : Nat) (d : D), plain n d = true → pyd (n + 1) s d = some (enc d)
  | n, .non, _ => by rw [pyd]; rfl
  | n, .bl _, h => by rw [plain] at h; cases h
  | n, .int _, _ => by rw [pyd]; rfl
  | n, .str _, _ => by rw [pyd]; rfl
  | 0, .tup _, h => by rw [plain] at h; cases h
  | n + 1, .tup xs, h => by
    rw [plain] at h
    rw [pyd, pyds_plain s n xs h]
    rfl
  | n, .ref _, h => by cases n <;> (rw [plain] at h; cases h)
theorem pyds_plain (s : Sto) : ∀ (n : Nat) (xs : List D), plains n xs = true → xs.mapM (pyd (n + 1) s) = some (encs xs)
  | _, [], _ => rfl
  | n, x :: xs, h => by
    rw [plains, Bool.and_eq_true] at h
    rw [List.mapM_cons, pyd_plain s n x h.1, pyds_plain s n xs h.2]
    rfl
end
theorem pyd_mono (s : Sto) : ∀ (n : Nat) (d : D) (p : PyData), pyd n s d = some p → pyd (n + 1) s d = some p
  | 0, d, p, h => by rw [pyd] at h; cases h
  | n + 1, .non, p, h => by rw [pyd] at h ⊢; exact h
  | n + 1, .bl _, p, h => by rw [pyd] at h ⊢; exact h
  | n + 1, .int _, p, h => by rw [pyd] at h ⊢; exact h
  | n + 1, .str _, p, h => by rw [pyd] at h ⊢; exact h
  | n + 1, .tup xs, p, h => by
    rw [pyd] at h ⊢
    obtain ⟨ps, h1, rfl⟩ := Option.map_eq_some_iff.mp h
    have : ∀ (xs : List D) (ps : List PyData), xs.mapM (pyd n s) = some ps → xs.mapM (pyd (n + 1) s) = some ps := by
      intro xs
      induction xs with
      | nil => intro ps h; exact h
      | cons x xs ih =>
        intro ps h
        rw [List.mapM_cons] at h ⊢
        obtain ⟨a, h1, h⟩ := Option.bind_eq_some_iff.mp h
        obtain ⟨b, h2, h⟩ := Option.bind_eq_some_iff.mp h
        cases h
        rw [pyd_mono s n x a h1, ih b h2]
        rfl
    rw [this xs ps h1]
    rfl
  | n + 1, .ref k, p, h => by
    rw [pyd] at h ⊢
    obtain ⟨xs, h0, h⟩ := Option.bind_eq_some_iff.mp h
    obtain ⟨ps, h1, rfl⟩ := Option.map_eq_some_iff.mp h
    have : ∀ (xs : List D) (ps : List PyData), xs.mapM (pyd n s) = some ps → xs.mapM (pyd (n + 1) s) = some ps := by
      intro xs
      induction xs with
      | nil => intro ps h; exact h
      | cons x xs ih =>
        intro ps h
        rw [List.mapM_cons] at h ⊢
        obtain ⟨a, h1, h⟩ := Option.bind_eq_some_iff.mp h
        obtain ⟨b, h2, h⟩ := Option.bind_eq_some_iff.mp h
        cases h
        rw [pyd_mono s n x a h1, ih b h2]
        rfl
    rw [h0, Option.bind_some, this xs ps h1]
    rfl
theorem pyd_le {s : Sto} {d : D} {p : PyData} {n m : Nat} (h : pyd n s d = some p) (hm : n ≤ m) : pyd m s d = some p := by
  induction hm with
  | refl => exact h
  | step _ ih => exact pyd_mono s _ d p ih
mutual
theorem canLay_plain : ∀ (n : Nat) (d : D), plain n d = true → (enc d).canLay0 = true ∧ (enc d).depth ≤ n
  | n, .non, _ => by simp [enc, PyData.canLay0, PyData.depth]
  | n, .bl _, h => by rw [plain] at h; cases h
  | n, .int _, _ => by simp [enc, PyData.canLay0, PyData.depth]
  | n, .str _, h => by
    rw [plain] at h
    simp [enc, PyData.canLay0, PyData.depth, h]
  | 0, .tup _, h => by rw [plain] at h; cases h
  | n + 1, .tup xs, h => by
    rw [plain] at h
    obtain ⟨h1, h2⟩ := canLays_plain n xs h
    rw [enc, PyData.canLay0, PyData.depth]
    exact ⟨h1, by omega⟩
  | n, .ref _, h => by cases n <;> (rw [plain] at h; cases h)
theorem canLays_plain : ∀ (n : Nat) (xs : List D), plains n xs = true → PyData.canLayAll0 (encs xs) = true ∧ PyData.depthAll (encs xs) ≤ n
  | _, [], _ => by simp [encs, PyData.canLayAll0, PyData.depthAll]
  | n, x :: xs, h => by
    rw [plains, Bool.and_eq_true] at h
    obtain ⟨h1, h2⟩ := canLay_plain n x h.1
    obtain ⟨h3, h4⟩ := canLays_plain n xs h.2
    rw [encs, PyData.canLayAll0, PyData.depthAll, h1, h3]
    exact ⟨rfl, Nat.max_le.mpr ⟨h2, h4⟩⟩
end
theorem plain_mono : ∀ (n : Nat) (d : D), plain n d = true → plain (n + 1) d = true
  | n, .non, _ => by rw [plain]
  | n, .bl _, h => by rw [plain] at h; cases h
  | n, .int _, _ => by rw [plain]
  | n, .str _, h => by rw [plain] at h ⊢; exact h
  | 0, .tup _, h => by rw [plain] at h; cases h
  | n + 1, .tup xs, h => by
    rw [plain] at h ⊢
    rw [plains_iff] at h ⊢
    exact fun x hx => plain_mono n x (h x hx)
  | n, .ref _, h => by cases n <;> (rw [plain] at h; cases h)
theorem shp_of {s : Sto} {d : D} {p : PyData} (h : pyd 30 s d = some p) (hs : SeqAt.shaped p = true) : shp s d = some p := by
  unfold shp
  rw [h]
  simp [hs]
theorem shaped_of {p : PyData} (h1 : p.canLay0 = true) (h2 : p.depth ≤ 64) : SeqAt.shaped p = true := by
  unfold SeqAt.shaped
  rw [h1]
  simpa using h2
theorem shp_plain {s : Sto} {d : D} (h : plain 20 d = true) : shp s d = some (enc d) := by
  obtain ⟨h1, h2⟩ := canLay_plain 20 d h
  exact shp_of (pyd_le (pyd_plain s 20 d h) (by omega)) (shaped_of h1 (by omega))
theorem shp_lst {s : Sto} {n : Nat} {xs : List D} (hx : lstAt s n = some xs) (h : plains 20 xs = true) : shp s (.ref n) = some (.list (encs xs)) := by
  obtain ⟨h1, h2⟩ := canLays_plain 20 xs h
  refine shp_of ?_ (shaped_of (by rw [PyData.canLay0]; exact h1) (by rw [PyData.depth]; omega))
  have : pyd 22 s (.ref n) = some (.list (encs xs)) := by
    rw [pyd, hx, Option.bind_some, pyds_plain s 20 xs h]
    rfl
  exact pyd_le this (by omega)
/-! ### == of plain data -/
mutual
theorem eqv_enc : ∀ (n : Nat) (a b : D), plain n a = true → plain n b = true → (PyData.eqv (enc a) (enc b) = true ↔ a = b)
  | n, .bl _, _, h, _ => by rw [plain] at h; cases h
  | n, .ref _, _, h, _ => by cases n <;> (rw [plain] at h; cases h)
  | n, .non, b, _, h => by
    cases b with
    | bl _ => rw [plain] at h; cases h
    | ref _ => cases n <;> (rw [plain] at h; cases h)
    | _ => simp [enc, PyData.eqv]
  | n, .int i, b, _, h => by
    cases b with
    | bl _ => rw [plain] at h; cases h
    | ref _ => cases n <;> (rw [plain] at h; cases h)
    | _ => simp [enc, PyData.eqv]
  | n, .str i, b, _, h => by
    cases b with
    | bl _ => rw [plain] at h; cases h
    | ref _ => cases n <;> (rw [plain] at h; cases h)
    | _ => simp [enc, PyData.eqv]
  | 0, .tup _, _, h, _ => by rw [plain] at h; cases h
  | n + 1, .tup xs, b, h1, h => by
    cases b with
    | bl _ => rw [plain] at h; cases h
    | ref _ => rw [plain] at h; cases h
    | tup ys =>
      rw [plain] at h1 h
      rw [enc, enc, PyData.eqv, eqvs_enc n xs ys h1 h]
      simp
    | _ => simp [enc, PyData.eqv]
theorem eqvs_enc : ∀ (n : Nat) (xs ys : List D), plains n xs = true → plains n ys = true → (PyData.eqvAll (encs xs) (encs ys) = true ↔ xs = ys)
  | _, [], [], _, _ => by simp [encs, PyData.eqvAll]
  | _, [], _ :: _, _, _ => by simp [encs, PyData.eqvAll]
  | _, _ :: _, [], _, _ => by simp [encs, PyData.eqvAll]
  | n, x :: xs, y :: ys, h1, h2 => by
    rw [plains, Bool.and_eq_true] at h1 h2
    rw [encs, encs, PyData.eqvAll, Bool.and_eq_true, eqv_enc n x y h1.1 h2.1, eqvs_enc n xs ys h1.2 h2.2]
    simp
end
section
variable {P : D → Sto → Prop} {E : Str → Str → D → Sto → Prop} {s : Sto} {a b : D} {xs ys : List D} {n m : Nat}
theorem eqv_lst [Decidable (xs = ys)] (h1 : plains 20 xs = true) (h2 : plains 20 ys = true) : PyData.eqv (.list (encs xs)) (.list (encs ys)) = decide (xs = ys) := by
  rw [PyData.eqv]
  have := eqvs_enc 20 xs ys h1 h2
  by_cases h : xs = ys
  · rw [decide_eq_true h, this.mpr h]
  · rw [decide_eq_false h]
    exact Bool.eq_false_iff.mpr fun q => h (this.mp q)
theorem z_eqL [Decidable (xs = ys)] (hx : lstAt s n = some xs) (hy : lstAt s m = some ys) (h1 : plains 20 xs = true) (h2 : plains 20 ys = true) : (dEq (.ref n) (.ref m) s).wp P E = P (.bl (decide (xs = ys))) s := by
  rw [z_eq (shp_lst hx h1) (shp_lst hy h2), eqv_lst h1 h2]
theorem z_neL [Decidable (xs = ys)] (hx : lstAt s n = some xs) (hy : lstAt s m = some ys) (h1 : plains 20 xs = true) (h2 : plains 20 ys = true) : (dNe (.ref n) (.ref m) s).wp P E = P (.bl (!decide (xs = ys))) s := by
  rw [z_ne (shp_lst hx h1) (shp_lst hy h2), eqv_lst h1 h2]
@[simp] theorem z_eqI {i j : Int} : (dEq (.int i) (.int j) s).wp P E = P (.bl (decide (i = j))) s := by
  rw [z_eq (shp_plain (s := s) (d := .int i) (by rw [plain])) (shp_plain (s := s) (d := .int j) (by rw [plain]))]
  rfl
@[simp] theorem z_neI {i j : Int} : (dNe (.int i) (.int j) s).wp P E = P (.bl (!decide (i = j))) s := by
  rw [z_ne (shp_plain (s := s) (d := .int i) (by rw [plain])) (shp_plain (s := s) (d := .int j) (by rw [plain]))]
  rfl
/-! ### in -/
theorem any_enc [Decidable (a ∈ xs)] (ha : plain 20 a = true) (hx : plains 20 xs = true) : ((encs xs).any fun z => PyData.eqv z (enc a)) = decide (a ∈ xs) := by
  rw [encs_map, List.any_map]
  rw [plains_iff] at hx
  by_cases h : a ∈ xs
  · rw [decide_eq_true h, List.any_eq_true]
    exact ⟨a, h, (eqv_enc 20 a a ha ha).mpr rfl⟩
  · rw [decide_eq_false h, List.any_eq_false]
    intro x hxm hq
    exact h (by rw [← (eqv_enc 20 x a (hx x hxm) ha).mp hq]; exact hxm)
theorem z_inT {neg : Bool} [Decidable (a ∈ xs)] (ha : plain 20 a = true) (hx : plains 19 xs = true) : (dInB neg a (.tup xs) s).wp P E = P (.bl (neg ^^ decide (a ∈ xs))) s := by
  have h2 : plain 20 (.tup xs) = true := by rw [plain]; exact hx
  have hx' : plains 20 xs = true := plains_iff.mpr fun x h => plain_mono _ _ (plains_iff.mp hx x h)
  unfold dInB
  dsimp only
  rw [shp_plain ha, shp_plain h2, enc]
  dsimp only
  rw [any_enc ha hx', z_ok]
theorem z_inL {neg : Bool} [Decidable (a ∈ xs)] (ha : plain 20 a = true) (hl : lstAt s n = some xs) (hx : plains 20 xs = true) : (dInB neg a (.ref n) s).wp P E = P (.bl (neg ^^ decide (a ∈ xs))) s := by
  unfold dInB
  dsimp only
  rw [shp_plain ha, shp_lst hl hx]
  dsimp only
  rw [any_enc ha hx, z_ok]
theorem z_inS {neg : Bool} {c : Nat} {y : Str} : (dInB neg (.str (one c)) (.str y) s).wp P E = P (.bl (neg ^^ decide (c ∈ tl y))) s := by
  unfold dInB
  dsimp only
  rw [if_pos (show (one c).length = 1 from rfl), z_ok]
  rfl
/-! ### sorted texts -/
def leS (a b : Str) : Bool := decide (tl a ≤ tl b)
def sortS (xs : List Str) : List Str := xs.mergeSort leS
theorem leS_trans (a b c : Str) (h1 : leS a b = true) (h2 : leS b c = true) : leS a c = true := by
  unfold leS at *
  simp only [decide_eq_true_eq] at *
  exact List.le_trans h1 h2
theorem leS_total (a b : Str) : (leS a b || leS b a) = true := by
  unfold leS
  simp only [Bool.or_eq_true, decide_eq_true_eq]
  exact List.le_total _ _
theorem plains_strs {ms : List Str} (h : ∀ x ∈ ms, strOk x = true) : plains n (ms.map D.str) = true := plains_iff.mpr fun d hd => by
  obtain ⟨x, hx, rfl⟩ := List.mem_map.mp hd
  rw [plain]
  exact h x hx
theorem encD_str {x : Str} : encD s (.str x) = .str x := by
  unfold encD
  rw [pyd]
  rfl
theorem sortS_perm (ms : List Str) : (sortS ms).Perm ms := List.mergeSort_perm _ _
theorem sortS_sorted (ms : List Str) : (sortS ms).Pairwise fun a b => leS a b = true := List.pairwise_mergeSort leS_trans leS_total ms
theorem sortS_of {ms : List Str} (h : ms.Pairwise fun a b => leS a b = true) : sortS ms = ms := List.mergeSort_of_pairwise h
/-! ### repr -/
theorem z_repr : (fRepr [a] s).wp P E = ∃ p, shp s a = some p ∧ (p.showable = true ∧ p.shown.length ≤ sizeLine) ∧ P (.str p.shown) s := by
  unfold fRepr
  dsimp only
  cases h : shp s a with
  | none => simp [Rs.wp]
  | some p => simp [z_iteN, z_ok]
end
end Z

set_option Elab.async false
set_option linter.all false
set_option maxRecDepth 100000
set_option maxHeartbeats 4000000
namespace Z
open PySem PySem.Spec PyProof.Rows L2
variable [Row]
/-! ### list comprehensions of two walks -/
def lcI (j : Stp) (g : GN) (t : EM Bool) (m : EM D) (l : Nat) : Nat → Nat → Ev → Sto → Rs Unit
  | 0, i, e, s => match j i s with
    | some none => .ok () s
    | _ => .no
  | f + 1, i, e, s => match j i s with
    | none => .no
    | some none => .ok () s
    | some (some d) => match g d e with
      | none => .no
      | some e1 => (t e1 s).nox.bind fun q s1 => if q then (m e1 s1).nox.bind fun y s2 => match s2[l]? with
          | some (.lst acc) => if acc.length < sizeLine then lcI j g t m l f (i + 1) e (s2.set l (.lst (acc ++ [y]))) else .no
          | _ => .no
        else lcI j g t m l f (i + 1) e s1
def lcL2 (j : Stp) (g : GN) (t : EM Bool) (mi1 : EM (Nat × Stp)) (g1 : GN) (t1 : EM Bool) (m : EM D) (vs1 : List Nat) (l : Nat) : Nat → Nat → Ev → Sto → Rs D
  | 0, i, e, s => match j i s with
    | some none => .ok (.ref l) s
    | _ => .no
  | f + 1, i, e, s => match j i s with
    | none => .no
    | some none => .ok (.ref l) s
    | some (some d) => match g d e with
      | none => .no
      | some e1 => (t e1 s).nox.bind fun q s1 => if q then (mi1 e1 s1).nox.bind fun jt s2 => (lcI jt.2 g1 t1 m l jt.1 0 (wipeD e1 vs1) s2).bind fun _ s3 => lcL2 j g t mi1 g1 t1 m vs1 l f (i + 1) e s3
        else lcL2 j g t mi1 g1 t1 m vs1 l f (i + 1) e s1
def mL2 (mi : EM (Nat × Stp)) (g : GN) (t : EM Bool) (mi1 : EM (Nat × Stp)) (g1 : GN) (t1 : EM Bool) (m : EM D) (vs vs1 : List Nat) : EM D := fun e s => (mi e s).bind fun jt s1 => lcL2 jt.2 g t mi1 g1 t1 m vs1 s1.length jt.1 0 (wipeD e vs) (s1 ++ [.lst []])
section
variable {X : Cx} {W : WX} {pos : Pos} {elt tg iter tg1 iter1 : Expr} {ifs ifs1 : List Expr} {scope : Scope} {own : List (Str × Nat)} {mi mi1 : EM (Nat × Stp)} {g g1 : GN} {is is1 : List Nat} {t t1 : EM Bool} {m : EM D}
end
end Z

set_option Elab.async false
set_option linter.all false
set_option maxRecDepth 100000
set_option maxHeartbeats 4000000
namespace Z
open PySem PySem.Spec PyProof.Rows L2
variable [Row]
abbrev MF := List D → Sto → Rs D
/-! ### operations that may run defs -/
def OpD (X : Cx) (W : WX) (f : Value → Value → Sem Value) (F : D → D → Sto → Rs D) : Prop :=
  ∀ (pins : List (Addr × Obj)) (s : Shared) (σ : L2.St) (H : Hp) (ρ : Nat → Addr) (st : Sto) (x y : D) (vx vy : V) (ux uy : Value) (Q : VK), Inv X pins σ H s → SR X.K X.mg ρ st H → VR X.K ρ st.length H x vx → VR X.K ρ st.length H y vy → RelV vx ux → RelV vy uy →
    Po X.K X.mg (VR X.K) W σ ρ st.length H (F x y st) Q → wpAny (model X.prog X.w) X.A (f ux uy) (EP X pins σ Q) X.xe s
section
variable {X : Cx} {W : WX} {k : Nat} {F : D → D → Sto → Rs D} {x : Str} {p pos apos pos' : Pos} {a b e o value : Expr} {es : List Expr} {ma mb m mo : EM D} {ms mk : EM (List D)} {f : Str}
theorem OpD.of {g : Value → Value → Sem Value} {r : R2} (ho : OpR X g r) (hp : Pr2 X W F r) : OpD X W g F :=
  fun pins s σ H ρ st x y vx vy ux uy Q I sr rx ry e1 e2 po => ho pins s σ H vx vy ux uy Q I e1 e2 (hp ρ st H σ x y vx vy Q sr rx ry po)
/-! ### attributes of instances -/
def insC (s : Sto) : D → Option Str
  | .ref n => match s[n]? with
    | some (.ins c _) => some c
    | _ => none
  | _ => none
def FldOk (K : PySem.W.Frag) (mg : Str → Option Value) (cs : List Str) (f : Str) : Prop := ∀ c ∈ cs, ∃ C, mg c = some (.ref C) ∧ Cls K C ∧ NoAttr K C f
def gFld (cs : List Str) (f : Str) (d : D) (s : Sto) : Rs D := match d with
  | .ref n => match s[n]? with
    | some (.ins c fs) => if c ∈ cs then (match fs.lookup f with | some v => .ok v s | none => .no) else .no
    | _ => .no
  | _ => .no
def mFld (cs : List Str) (f : Str) (m : EM D) : EM D := fun e s => (m e s).bind fun d s1 => gFld cs f d s1
/-- o.f = value -/
def sFldD (cs : List Str) (f : Str) (mo m : EM D) : SM := fun e s => (m e s).st e fun v s1 => (mo e s1).st e fun d s2 => match d with
  | .ref n => match s2[n]? with
    | some (.ins c fs) => if c ∈ cs ∧ fs.length < 1000 then .nx e (s2.set n (.ins c (putD f v fs))) else .no
    | _ => .no
  | _ => .no
theorem PoS.ite {K : PySem.W.Frag} {mg : Str → Option Value} {D : Ends} {ρ : Nat → Addr} {n : Nat} {H : Hp} {c : Prop} [Decidable c] {r : RS} (h : PoS K mg W D ρ n H (if c then r else .no)) : c ∧ PoS K mg W D ρ n H r := by
  by_cases hc : c
  · rw [if_pos hc] at h
    exact ⟨hc, h⟩
  · rw [if_neg hc] at h
    exact h.elim
end
end Z

set_option Elab.async false
set_option linter.all false
set_option maxRecDepth 100000
set_option maxHeartbeats 4000000
namespace Z
open PySem PySem.Spec PyProof.Rows L2
variable [Row]
theorem Rm.in1 {k : Nat} {A : Around} (r : Rm (k + 1) A) : Rm k A.in1 := ⟨r.room.in1, r.gd⟩
theorem make_guards {A : Around} {C : Addr} {us : List Value} {kw : List (Str × Value)} : (A.under (.builtin "type.__call__" ⟨.ref C :: us, kw⟩)).guards = A.guards := by
  first | rfl | (obtain ⟨hd, d, fr, gs, u⟩ := A; simp [Around.under, Code.weight, Code.isCreation, Code.isGuard, Code.isCaller, Code.frames, Code.isFrame, guardIds, Code.guards, pushGuards]) 
theorem Rm.make {k : Nat} {A : Around} (r : Rm (k + 1) A) (C : Addr) (us : List Value) (kw : List (Str × Value)) : Rm k (A.under (.builtin "type.__call__" ⟨.ref C :: us, kw⟩)) := ⟨r.room.make C us kw, by rw [make_guards]; exact r.gd⟩
/-! ### an own class made -/
/-- the class named c, its __init__ does F -/
def CMk (P : Program) (w : World) (K : PySem.W.Frag) (mg : Str → Option Value) (base : Heap) (k : Nat) (c : Str) (n : Option Nat) (ks : List Str) (F : MF) : Prop := ∃ C g, mg c = some (.ref C) ∧ Mk K C g ∧ FnG P w K mg base k g n ks (spF K mg F)
def mkD (c : Str) (F : MF) : MF := fun ds s => (F (.ref s.length :: ds) (s ++ [.ins c []])).bind fun d s2 => match d with | .non => .ok (.ref s.length) s2 | _ => .no
section
variable {X : Cx} {W : WX} {k : Nat} {F : MF} {x c : Str} {p pos apos pos' : Pos} {a b e o value : Expr} {es : List Expr} {kws : List Keyword} {ma mb m mo : EM D} {ms mk : EM (List D)} {f : Str} {n : Option Nat} {ks : List Str}
theorem Ext.lt {ρ ρ' : Nat → Addr} {n n' : Nat} {H H' : Hp} (e : Ext ρ n H ρ' n' H') {i : Nat} (h : i < n) : i < n' := Nat.lt_of_lt_of_le h e.le
/-! ### starred arguments -/
def aS (ma : EM D) (ms : EM (List D)) : EM (List D) := fun env s => (ma env s).bind fun x s1 => match seqD s1 x with
  | some xs => (ms env s1).bind fun ys s2 => .ok (xs ++ ys) s2
  | none => .no
/-- the class called with one starred part alone -/
def aS1 (ma : EM D) : EM (List D) := fun env s => (ma env s).bind fun x s1 => match seqD s1 x with
  | some xs => .ok xs s1
  | none => .no
end
/-! ### a def with a starred parameter -/
/-- the values by parameters: what is left over is a tuple -/
def starF (n : Nat) (F : MF) : MF := fun ds s => if n ≤ ds.length ∧ ds.length ≤ sizeLine then F (ds.take n ++ [.tup (ds.drop n)]) s else .no
section
variable {P : Program} {w : World} {K : PySem.W.Frag} {mg : Str → Option Value} {base : Heap} {k : Nat} {f : Addr} {fd : FuncData} {x qual : Str} {params : Arguments} {body : List Stmt} {scope : Scope} {N ps : List Str} {m : SM} {pv : Str}
end
end Z

set_option Elab.async false
set_option linter.all false
set_option maxRecDepth 100000
set_option maxHeartbeats 4000000
namespace Z
open PySem PySem.Spec PyProof.Rows L2
variable [Row]
/-! ### methods: by the class of the receiver -/
abbrev Tb := List (Str × MF)
/-- the classes of the table have the method m, at level k -/
def MTab (P : Program) (w : World) (K : PySem.W.Frag) (mg : Str → Option Value) (base : Heap) (k : Nat) (tb : Tb) (m : Str) : Prop :=
  ∀ c F, tb.lookup c = some F → ∃ C g, mg c = some (.ref C) ∧ Cls K C ∧ Meth K C m g ∧ FS P w K mg base k g F
section
variable {P : Program} {w : World} {K : PySem.W.Frag} {mg : Str → Option Value} {base : Heap} {j k : Nat} {tb : Tb} {m c : Str} {F : MF}
end
def mMeth (tb : Tb) (m : Str) (mo : EM D) (ms : EM (List D)) : EM D := fun e s => (mo e s).bind fun d s1 => match d with
  | .ref n => match s1[n]? with
    | some (.ins c fs) => match tb.lookup c with
      | some F => if (fs.lookup m).isNone then (ms e s1).bind fun ds s2 => F (.ref n :: ds) s2 else .no
      | none => .no
    | _ => .no
  | _ => .no
section
variable {X : Cx} {W : WX} {k : Nat} {tb : Tb} {x c m : Str} {p pos apos pos' : Pos} {a b e o value : Expr} {es : List Expr} {mo ma mb : EM D} {ms : EM (List D)}
/-! ### operators that the class of an instance does -/
/-- the instance's place in the library's words -/
theorem inst_look {pins : List (Addr × Obj)} {σ : L2.St} {H : Hp} {s : Shared} {a C dx : Addr} {vs : List (Str × V)} (I : Inv X pins σ H s) (ea : H a = some (.ins C dx vs)) : ∃ ox od, PySem.W.InstAt s.heap a ox C od ∧ ox.data = .plain := by
  obtain ⟨mA, O, _, _, _, _⟩ := ins_get I.hok ea
  obtain ⟨od, J, _⟩ := O.look
  exact ⟨_, _, J, rfl⟩
/-- x in y, x not in y -/
def dInO (neg : Bool) (tb : Tb) (B : D → D → Sto → Rs D) (x y : D) (s : Sto) : Rs D := match insC s y with
  | some c => match tb.lookup c with
    | some F => (F [y, x] s).bind fun d s1 => match d with | .bl b => .ok (.bl (neg ^^ b)) s1 | _ => .no
    | none => .no
  | none => B x y s
/-! ### o[i] -/
def IxD (X : Cx) (W : WX) (F : D → D → Sto → Rs D) : Prop :=
  ∀ (value slice : Expr) (pins : List (Addr × Obj)) (s : Shared) (σ : L2.St) (H : Hp) (ρ : Nat → Addr) (st : Sto) (x y : D) (vx vy : V) (ux uy : Value) (Q : VK), Inv X pins σ H s → SR X.K X.mg ρ st H → VR X.K ρ st.length H x vx → VR X.K ρ st.length H y vy → RelV vx ux → RelV vy uy →
    Po X.K X.mg (VR X.K) W σ ρ st.length H (F x y st) Q → (∀ v u, subscripted slice false v u = operate [v, u] (getItem v u)) → (∀ v u, subscripted slice true v u = runValue (.builtin "lifetime.subscript" ⟨[v, u], []⟩)) → wpAny (model X.prog X.w) X.A (subscriptTail value slice ux uy) (EP X pins σ Q) X.xe s
def dIxO (tb : Tb) (B : D → D → Sto → Rs D) (x y : D) (s : Sto) : Rs D := match insC s x with
  | some c => match tb.lookup c with
    | some F => F [x, y] s
    | none => .no
  | none => B x y s
def FnTab (K : PySem.W.Frag) (mg : Str → Option Value) (tb : Tb) (m : Str) : Prop := ∀ c F, tb.lookup c = some F → ∀ C g, mg c = some (.ref C) → Meth K C m g → PySem.W.fnIn K g = true
/-! ### len(o) -/
def CallD (X : Cx) (W : WX) (f : Value) (F : MF) : Prop :=
  ∀ (pins : List (Addr × Obj)) (s : Shared) (σ : L2.St) (H : Hp) (ρ : Nat → Addr) (st : Sto) (ds : List D) (vs : List V) (us : List Value) (Q : VK), Inv X pins σ H s → SR X.K X.mg ρ st H → VRs X.K ρ st.length H ds vs → Vals vs us →
    Po X.K X.mg (VR X.K) W σ ρ st.length H (F ds st) Q → wpAny (model X.prog X.w) X.A (call f us) (EP X pins σ Q) X.xe s
theorem calld_of {f : Value} {F : MF} {r : List V → Hp → VK → Prop} (hr : CallR X f r) (hp : PrN X W F r) : CallD X W f F := fun pins s σ H ρ st ds vs us Q I sr vr r po => hr pins s σ H vs us Q I r (hp ρ st H σ ds vs Q sr vr po)
theorem je_cbd {id : String} {F : MF} (hc : CallD X W (.builtin id) F) (hg : Gl X x) (hm : X.mg x = none) (hv : bootBuiltins x = some (.builtin id)) (ha : JA X W (e :: es) ms) (hn : x ≠ "__name__" := by decide) (hdb : (x == ("__debug__" : Str)) = false := by decide)
    (he : starEach (e :: es) X.env = (false, eval e X.env) :: starEach es X.env := by rfl) (hpl : (backTo pos (starEach es X.env)).any (·.1) = false := by rfl) : JE X W (.Call (.Name x p) (e :: es) [] pos) (mN F ms) := by
  refine ⟨fun pins s σ H Q I ⟨ρ, env, st, sr, er, po⟩ => ?_⟩
  refine wpAny_Call_Name_kw (ld_blt I hg hm hv ?_ hn hdb)
  exact PyProof.Rows.callWith_builtin1 (thn (ha.run pos pins s σ H _ I ⟨ρ, env, st, sr, er, Po.bind po⟩) fun us s1 ⟨vs, H1, I1, r1, ρ1, st1, ds, e1, sr1, vr1, po1⟩ => hc pins s1 σ H1 ρ1 st1 ds vs us Q I1 sr1 vr1 r1 po1) he hpl
theorem je_ctd {T : String} {F : MF} (hc : CallD X W (.type T) F) (hg : Gl X x) (hm : X.mg x = none) (hv : bootBuiltins x = some (.type T)) (ha : JA X W (e :: es) ms) (hn : x ≠ "__name__" := by decide) (hdb : (x == ("__debug__" : Str)) = false := by decide)
    (he : starEach (e :: es) X.env = (false, eval e X.env) :: starEach es X.env := by rfl) (hpl : (backTo pos (starEach es X.env)).any (·.1) = false := by rfl) : JE X W (.Call (.Name x p) (e :: es) [] pos) (mN F ms) := by
  refine ⟨fun pins s σ H Q I ⟨ρ, env, st, sr, er, po⟩ => ?_⟩
  refine wpAny_Call_Name_kw (ld_blt I hg hm hv ?_ hn hdb)
  exact PyProof.Rows.callWith_type1 (thn (ha.run pos pins s σ H _ I ⟨ρ, env, st, sr, er, Po.bind po⟩) fun us s1 ⟨vs, H1, I1, r1, ρ1, st1, ds, e1, sr1, vr1, po1⟩ => hc pins s1 σ H1 ρ1 st1 ds vs us Q I1 sr1 vr1 r1 po1) he hpl
def fLenO (tb : Tb) (B : MF) : MF := fun ds s => match ds with
  | [d] => match insC s d with
    | some c => match tb.lookup c with
      | some F => (F [d] s).bind fun d1 s1 => match d1 with | .int i => if 0 ≤ i ∧ i < 2 ^ 63 then .ok (.int i) s1 else .no | _ => .no
      | none => .no
    | none => B ds s
  | _ => B ds s
end
end Z

set_option Elab.async false
set_option linter.all false
set_option maxRecDepth 100000
set_option maxHeartbeats 4000000
namespace Z
open PySem PySem.Spec PyProof.Rows L2
variable [Row]
/-! ### a class whose __iter__ walks a tuple of its own -/
/-- what its __iter__ at g does: a new walk over the tuple in the attribute f -/
def IterG (P : Program) (w : World) (K : PySem.W.Frag) (mg : Str → Option Value) (base : Heap) (k : Nat) (g C : Addr) (f : Str) : Prop :=
  ∀ (A : Around) (outer : List Env) (st : Shared) (H : Hp) (a dx t : Addr) (vs : List (Str × V)) (xs : List V), Rm k A → Env0 P w K mg base A outer st H → H a = some (.ins C dx vs) → vs.lookup f = some (.ref t) → SqT K H t xs →
    codeAny (model P w) A (.call (.ref g) ⟨[.ref a], []⟩) (fun r s' => ∃ it, r = .ok (.ret (.ref it)) ∧ CE outer P w H st (fun _ H' => H' = H) (.ref it) s' ∧ s'.heap.IsTupleIter it t 0 ∧ st.heap.objs.size ≤ it) st
section
variable {P : Program} {w : World} {K : PySem.W.Frag} {mg : Str → Option Value} {base : Heap} {k : Nat} {g C : Addr} {fd : FuncData} {x qual f : Str} {params : Arguments} {body : List Stmt} {scope : Scope} {N : List Str}
end
/-- class, the attribute that its __iter__ walks -/
abbrev Itb := List (Str × Str)
def ITab (P : Program) (w : World) (K : PySem.W.Frag) (mg : Str → Option Value) (base : Heap) (k : Nat) (tb : Itb) : Prop :=
  ∀ c f, tb.lookup c = some f → ∃ C g, mg c = some (.ref C) ∧ Meth K C "__iter__" g ∧ IterG P w K mg base k g C f
section
variable {P : Program} {w : World} {K : PySem.W.Frag} {mg : Str → Option Value} {base : Heap} {j k : Nat} {tb : Itb} {f c : Str}
theorem itab_nil : ITab P w K mg base k [] := fun _ _ h => by cases h
end
/-- the items of the tuple that an instance walks -/
def itsO (tb : Itb) (s : Sto) (d : D) : Option (Option (List D)) := match d with
  | .ref n => match s[n]? with
    | some (.ins c fs) => some (match tb.lookup c with
      | some f => match fs.lookup f with | some (.tup xs) => some xs | _ => none
      | none => none)
    | _ => none
  | _ => none
def walkD (s : Sto) (d : D) : Rs (Nat × Stp) := match d with
  | .tup ds => .ok (ds.length, jTup ds) s
  | .ref n => match s[n]? with
    | some (.lst xs) => .ok (xs.length, jLst n) s
    | some (.frz xs) => .ok (xs.length, jLst n) s
    | _ => .no
  | _ => .no
def iOwn (tb : Itb) (m : EM D) : EM (Nat × Stp) := fun e s => (m e s).bind fun d s1 => match itsO tb s1 d with
  | some (some xs) => .ok (xs.length, jTup xs) s1
  | some none => .no
  | none => walkD s1 d
section
variable {X : Cx} {W : WX} {k : Nat} {tb : Itb} {tg e : Expr} {m : EM D}
theorem itsO_some {s : Sto} {d : D} {xs : List D} (h : itsO tb s d = some (some xs)) : ∃ n c fs f, d = .ref n ∧ s[n]? = some (.ins c fs) ∧ tb.lookup c = some f ∧ fs.lookup f = some (.tup xs) := by
  unfold itsO at h
  split at h
  · rename_i n
    split at h
    · rename_i c fs hs
      split at h
      · rename_i f hf
        split at h
        · rename_i ys hy
          cases h
          exact ⟨n, c, fs, f, rfl, hs, hf, hy⟩
        · cases h
      · cases h
    · cases h
  · cases h
/-- the walk's start, by values -/
theorem walk_start {pins : List (Addr × Obj)} {s : Shared} {σ : L2.St} {H : Hp} {ρ : Nat → Addr} {st : Sto} {d : D} {v : V} {u : Value} {R : It → Hp → Prop} {W' : WX} (I : Inv X pins σ H s) (sr : SR X.K X.mg ρ st H) (vr : VR X.K ρ st.length H d v) (ru : RelV v u)
    (po : Po X.K X.mg (RI X.K X.mg) W' σ ρ st.length H (walkD st d) R) : wpAny (model X.prog X.w) X.A (pyIter u) (PIE X pins σ tg R) X.xe s := by
  have lst : ∀ a, (∃ xs, SqL X.K H a xs) → R (Itl X.K a) H → wpAny (model X.prog X.w) X.A (pyIter (.ref a)) (PIE X pins σ tg R) X.xe s := fun a ⟨xs, hq⟩ q => by
    obtain ⟨its, rv, p, hz⟩ := I.list hq
    refine wpAny_pyIter_list p.isList ?_
    refine ⟨s.heap.objs.size, [s.heap.objs.size], _, _, H, rfl, I.kept (t' := s.toks) fun b o e => Heap.get?_push_of_some _ e, turn_list a _, ⟨_, Heap.get?_push_size _ rfl, rfl, rfl⟩, fun b hb => ?_, q⟩
    have e : b = s.heap.objs.size := by simpa using hb
    subst e
    exact I.fpOk (Nat.le_refl _) (I.hok.fresh (Nat.le_refl _))
  cases d with
  | tup ds =>
    rw [VR] at vr
    obtain ⟨a, vs, rfl, sq, r⟩ := vr
    obtain rfl : u = Value.ref a := ru
    obtain ⟨its, rv, p, hz⟩ := I.tuple sq
    refine wpAny_pyIter_tuple (show s.heap.IsTuple a its.toArray from p) ?_
    refine ⟨s.heap.objs.size, [s.heap.objs.size], _, _, H, rfl, I.kept (t' := s.toks) fun b o e => Heap.get?_push_of_some _ e, turn_tuple a _, ⟨_, Heap.get?_push_size _ rfl, rfl, rfl⟩, fun b hb => ?_, po ρ H _ Ext.refl sr (ri_tup sq r)⟩
    have e : b = s.heap.objs.size := by simpa using hb
    subst e
    exact I.fpOk (Nat.le_refl _) (I.hok.fresh (Nat.le_refl _))
  | ref n =>
    rw [VR] at vr
    obtain ⟨hn, rfl⟩ := vr
    obtain rfl : u = Value.ref (ρ n) := ru
    unfold walkD at po
    dsimp only at po
    cases e : st[n]? with
    | none => rw [e] at po; exact po.elim
    | some o =>
      rw [e] at po
      cases o with
      | lst xs =>
        obtain ⟨vs, sq, _⟩ := sr.lst (n := n) (xs := xs) (by unfold lstAt; rw [e])
        exact lst _ ⟨vs, sq⟩ (po ρ H _ Ext.refl sr (ri_lst hn))
      | frz xs =>
        obtain ⟨vs, sq, _⟩ := sr.lst (n := n) (xs := xs) (by unfold lstAt; rw [e])
        exact lst _ ⟨vs, sq⟩ (po ρ H _ Ext.refl sr (ri_lst hn))
      | _ => exact po.elim
  | _ => exact po.elim
end
end Z

set_option Elab.async false
set_option linter.all false
set_option maxRecDepth 100000
set_option maxHeartbeats 4000000
namespace Z
open PySem PySem.Spec PyProof.Rows L2
variable [Row]
section
variable {X : Cx} {W : WX} {k : Nat} {tb : Tb} {itb : Itb} {x c m : Str}
/-- list(o) -/
def fListO (tb : Tb) (itb : Itb) (B : MF) : MF := fun ds s => match ds with
  | [d] => match itsO itb s d with
    | some (some xs) => match insC s d with
      | some c => match tb.lookup c with
        | some F => (F [d] (s ++ [.lst []])).nox.bind fun k s2 => match k, s2[s.length]? with
          | .int i, some (.lst []) => if 0 ≤ i ∧ i ≤ sizeLine ∧ xs.length ≤ sizeLine then .ok (.ref s.length) (s2.set s.length (.lst xs)) else .no
          | _, _ => .no
        | none => .no
      | none => .no
    | some none => .no
    | none => B ds s
  | _ => B ds s
end
end Z

set_option Elab.async false
set_option linter.all false
set_option maxRecDepth 100000
set_option maxHeartbeats 4000000
namespace Z
open PySem PySem.Spec PyProof.Rows L2
variable [Row]
/-! ### + - | of an own instance -/
/-- the class fills no number slot of the operator -/
def noFillB (K : PySem.W.Frag) (C : Addr) (nm : String) : Bool :=
  ((PySem.W.clsIn K C).any fun cd => decide (cd.mro = [.ref C, .type "object"])) && (decide (PySem.W.findIn K (.ref C) (PySem.dunder nm) = some none) && decide (PySem.W.findIn K (.ref C) (dunderR nm) = some none))
section
variable {X : Cx} {W : WX} {k : Nat} {tb : Tb} {x c m : Str}
/-- the right side: an instance of one of the classes rs, or a text where st -/
def rightOk (rs : List Str) (st : Bool) (s : Sto) : D → Bool
  | .str _ => st
  | .ref n => match s[n]? with
    | some (.ins c _) => rs.contains c
    | _ => false
  | _ => false
def dOwnL (tb : Tb) (rs : List Str) (st : Bool) (B : D → D → Sto → Rs D) (x y : D) (s : Sto) : Rs D := match insC s x with
  | some c => match tb.lookup c with
    | some F => if rightOk rs st s y then F [x, y] s else .no
    | none => .no
  | none => B x y s
/-- the classes rs fill no slot of the operator -/
def RTab (K : PySem.W.Frag) (mg : Str → Option Value) (rs : List Str) (nm : String) : Prop := ∀ c ∈ rs, ∃ C, mg c = some (.ref C) ∧ noFillB K C nm = true
def LTab (K : PySem.W.Frag) (mg : Str → Option Value) (tb : Tb) : Prop := ∀ c F, tb.lookup c = some F → ∀ C, mg c = some (.ref C) → PySem.W.selfFirst K C = true
def dNo2 : D → D → Sto → Rs D := fun _ _ _ => .no
end
end Z

set_option Elab.async false
set_option linter.all false
set_option maxRecDepth 100000
set_option maxHeartbeats 4000000
namespace Z
open PySem PySem.Spec PyProof.Rows L2
variable [Row]
/-! ### == and != of own instances -/
section
variable {prog : Program} {w : World} {A : Around} {E : Value → Shared → Prop} {s : Shared} {K : PySem.W.Frag} {x C L f : Addr} {h₀ : Heap} {m : Str → Option Value} {ox : Obj} {od : Option Obj} {b tb : Value}
end
end Z

set_option Elab.async false
set_option linter.all false
set_option maxRecDepth 100000
set_option maxHeartbeats 4000000
namespace Z
open PySem PySem.Spec PyProof.Rows L2
variable [Row]
/-! ### what is known of the row's own classes -/
/-- the class facts of the row -/
structure ClsF (K : PySem.W.Frag) (mg : Str → Option Value) (cs : List Str) : Prop where
  at_ : ∀ c ∈ cs, mg c = some (.ref (He.ga K c))
  one : ∀ c ∈ cs, clsOne K cs c = true
theorem clsF_of {K : PySem.W.Frag} {mg : Str → Option Value} {hp : Heap} {cs : List Str} (X : K.In hp) (G : hp.Ns mainGlobals mg) (h : clsAll K cs = true) : ClsF K mg cs :=
  ⟨fun c hc => He.glo_ok X G (He.ba (List.all_eq_true.mp h c hc)).1, fun c hc => (He.ba (List.all_eq_true.mp h c hc)).2⟩
section
variable {K : PySem.W.Frag} {mg : Str → Option Value} {cs : List Str} {c d : Str}
theorem ClsF.cls (F : ClsF K mg cs) (h : c ∈ cs) : Cls K (He.ga K c) := He.cls_ok (He.ba (F.one c h)).1
theorem ClsF.rest (F : ClsF K mg cs) (h : c ∈ cs) : PySem.W.findIn K (.ref (He.ga K c)) "__class__" = some (some (.builtin "object.__class__")) ∧ PySem.W.specialIn K (.builtin "object.__class__") "__get__" = some (some (.builtin "getset_descriptor.__get__")) ∧ PySem.W.takesIn K (.builtin "object.__class__") = some true ∧ PySem.W.mroIn K (He.ga K c) (.type "object") = some true := by
  obtain ⟨_, h⟩ := He.ba (F.one c h)
  obtain ⟨h1, h⟩ := He.ba h
  obtain ⟨h2, h⟩ := He.ba h
  obtain ⟨h3, h⟩ := He.ba h
  obtain ⟨h4, h⟩ := He.ba h
  exact ⟨of_decide_eq_true h1, of_decide_eq_true h2, of_decide_eq_true h3, of_decide_eq_true h4⟩
theorem ClsF.pair (F : ClsF K mg cs) (h : c ∈ cs) (hd : d ∈ cs) : PySem.W.kitOne K (.ref (He.ga K c)) (.ref (He.ga K d)) = some (decide (c = d)) ∧ PySem.W.notFirst K (He.ga K c) (.ref (He.ga K d)) = true := by
  obtain ⟨_, h⟩ := He.ba (F.one c h)
  obtain ⟨_, h⟩ := He.ba h
  obtain ⟨_, h⟩ := He.ba h
  obtain ⟨_, h⟩ := He.ba h
  obtain ⟨_, h⟩ := He.ba h
  obtain ⟨_, h⟩ := He.ba h
  obtain ⟨h1, h2⟩ := He.ba (List.all_eq_true.mp h d hd)
  exact ⟨of_decide_eq_true h1, h2⟩
/-- the type of a value: a built-in's name, or an own class -/
def clD (s : Sto) (d : D) : Option (String ⊕ Str) := match insC s d with
  | some c => some (.inr c)
  | none => (tyN s d).map .inl
def clV (K : PySem.W.Frag) : String ⊕ Str → Value
  | .inl a => .type a
  | .inr c => .ref (He.ga K c)
def clOk (cs : List Str) : String ⊕ Str → Bool
  | .inl a => decide (a ∈ tysB)
  | .inr c => decide (c ∈ cs)
end
section
variable {X : Cx} {W : WX} {pos : Pos} {e : Expr} {m : EM D} {cs : List Str}
/-! ### isinstance of any value, with a built-in class or an own one -/
def isiT (T : String) : String ⊕ Str → Option Bool
  | .inl a => kitB a T
  | .inr _ => if T ∈ tysB then some false else none
def mIsiA (cs : List Str) (T : String) (m : EM D) : EM D := fun e s => (m e s).bind fun d s1 => match clD s1 d with
  | some t => if clOk cs t then (match isiT T t with | some b => .ok (.bl b) s1 | none => .no) else .no
  | none => .no
def isiC (c : Str) : String ⊕ Str → Bool
  | .inl _ => false
  | .inr d => decide (d = c)
def mIsiC (cs : List Str) (c : Str) (m : EM D) : EM D := fun e s => (m e s).bind fun d s1 => match clD s1 d with
  | some t => if clOk cs t then .ok (.bl (isiC c t)) s1 else .no
  | none => .no
/-! ### own == -/
/-- the classes of the table have == alone -/
def ETab (K : PySem.W.Frag) (mg : Str → Option Value) (cs : List Str) (tb : Tb) : Prop := ∀ c F, tb.lookup c = some F → c ∈ cs ∧ PySem.W.findIn K (.ref (He.ga K c)) "__ne__" = some (some (.builtin "object.__ne__"))
def neS (b : Bool) (neg : Bool) : D := .bl (neg ^^ b)
end
end Z

set_option Elab.async false
set_option linter.all false
set_option maxRecDepth 100000
set_option maxHeartbeats 4000000
namespace Z
open PySem PySem.Spec PyProof.Rows L2
variable [Row]
open PySem.SeqAt
open AutoSeq1 (wpAny_loadPart')
open MeetsSeq MeetsSeq2 MeetsSeq3 SeqRoads2
/-! ### == of lists of own instances -/
def mLst (s : Sto) (n : Nat) : Option (List D) := match s[n]? with
  | some (.lst xs) => some xs
  | _ => none
/-- two items: the same place, or own instances -/
def eqEl (cs : List Str) (tb : Tb) (x y : D) (s : Sto) : Rs Bool := match x, y with
  | .ref n, .ref j => match s[n]?, s[j]? with
    | some (.ins c fs), some (.ins d gs) => if n = j then .ok true s else if c ∈ cs ∧ d ∈ cs then (match tb.lookup c with
      | some G => (G [.ref n, .ref j] s).bind fun d s1 => match d with | .bl b => .ok b s1 | _ => .no
      | none => .no) else .no
    | _, _ => .no
  | _, _ => .no
def eqLoop (cs : List Str) (tb : Tb) (a b : Nat) : Nat → Nat → Sto → Rs Bool
  | 0, _, _ => .no
  | f + 1, i, s => match mLst s a, mLst s b with
    | some xs, some ys => match xs[i]?, ys[i]? with
      | some x, some y => (eqEl cs tb x y s).bind fun r s1 => if r then eqLoop cs tb a b f (i + 1) s1 else match mLst s1 a, mLst s1 b with
        | some xs1, some ys1 => if i < xs1.length ∧ i < ys1.length then .ok false s1 else .no
        | _, _ => .no
      | _, _ => .ok (decide (xs.length = ys.length)) s
    | _, _ => .no
section
variable {X : Cx} {W : WX} {pos : Pos} {k : Nat} {cs : List Str} {tb : Tb}
def cmpCode (neg : Bool) : Int := if neg then 3 else 2
/-! ### == and != of any two values -/
def dEqO (cs : List Str) (tb : Tb) (neg : Bool) (x y : D) (s : Sto) : Rs D := match insC s x with
  | some c => match tb.lookup c, clD s y with
    | some G, some t => if clOk cs t then (G [x, y] s).bind fun d s1 => match d with | .bl b => .ok (.bl (neg ^^ b)) s1 | _ => .no else .no
    | _, _ => .no
  | none => match x, y with
    | .ref a, .ref b => match mLst s a, mLst s b with
      | some xs, some ys => if (shp s x).isSome && (shp s y).isSome then dEqB neg x y s else if a = b then .no else
          (if xs.length = ys.length then eqLoop cs tb a b (xs.length + 1) 0 s else .ok false s).bind fun q s1 => .ok (.bl (neg ^^ q)) s1
      | _, _ => dEqB neg x y s
    | _, _ => dEqB neg x y s
end
end Z

set_option Elab.async false
set_option linter.all false
set_option maxRecDepth 100000
set_option maxHeartbeats 4000000
namespace Z
open PySem PySem.Spec PyProof.Rows L2
variable [Row]
/-! ### list.extend by a list or a tuple -/
def rExtA (K : PySem.W.Frag) : V → List V → Hp → VK → Prop := fun x vs H Q => ∃ l b xs zs, x = .ref l ∧ vs = [.ref b] ∧ H l = some (.lst xs) ∧ (SqL K H b zs ∨ SqT K H b zs) ∧ xs.length + zs.length ≤ sizeLine ∧ Q .non (upd H l (.lst (xs ++ zs)))
section
variable {X : Cx} {W : WX}
def lExtend (x : D) (ds : List D) (s : Sto) : Rs D := match x, ds with
  | .ref n, [d] => match s[n]?, seqD s d with
    | some (.lst xs), some ys => if xs.length + ys.length ≤ sizeLine then .ok .non (s.set n (.lst (xs ++ ys))) else .no
    | _, _ => .no
  | _, _ => .no
/-! ### texts in their order -/
def dLtS (x y : D) (s : Sto) : Rs D := match x, y with
  | .str a, .str b => .ok (.bl (decide (a.cps.toList < b.cps.toList))) s
  | _, _ => dLt x y s
end
end Z

set_option Elab.async false
set_option linter.all false
set_option maxRecDepth 100000
set_option maxHeartbeats 4000000
namespace Z
open PySem PySem.Spec PyProof.Rows L2
/-! ### dicts: keys ints and texts -/
def getK (kvs : List (D × D)) (k : Key) : Option D := (kvs.find? fun p => decide (keyD p.1 = some k)).map (·.2)
def putKd (kvs : List (D × D)) (d : D) (k : Key) (v : D) : List (D × D) :=
  if (kvs.any fun p => decide (keyD p.1 = some k)) = true then kvs.map (fun p => if keyD p.1 = some k then (p.1, v) else p) else kvs ++ [(d, v)]
def mDN : EM D := fun _ s => .ok (.ref s.length) (s ++ [.dict false []])
def dctAt (s : Sto) (n : Nat) : Option (List (D × D)) := match s[n]? with
  | some (.dict false kvs) => some kvs
  | some (.lck false kvs) => some kvs
  | _ => none
def dGetD (x y : D) (s : Sto) : Rs D := match x, keyD y with
  | .ref n, some k => match dctAt s n with
    | some kvs => match getK kvs k with | some v => .ok v s | none => .no
    | none => .no
  | _, _ => .no
def dInD (neg : Bool) (y x : D) (s : Sto) : Rs D := match x, keyD y with
  | .ref n, some k => match dctAt s n with
    | some kvs => .ok (.bl (neg ^^ (getK kvs k).isSome)) s
    | none => .no
  | _, _ => .no
def dGet2 (x y z : D) (s : Sto) : Rs D := match x, keyD y with
  | .ref n, some k => match dctAt s n with
    | some kvs => .ok ((getK kvs k).getD z) s
    | none => .no
  | _, _ => .no
def m3 (f : D → D → D → Sto → Rs D) (ma mb mc : EM D) : EM D := fun env s => (ma env s).bind fun x s1 => (mb env s1).bind fun y s2 => (mc env s2).bind fun z s3 => f x y z s3
def xSetD (o i x : D) (s : Sto) : Option Sto := match o, keyD i with
  | .ref n, some k => match s[n]? with
    | some (.dict false kvs) => if kvs.length < sizeLine then some (s.set n (.dict false (putKd kvs i k x))) else none
    | _ => none
  | _, _ => none
/-! the walk over the keys, the pairs: the dict is locked -/
def jKey (n : Nat) : Stp := fun i s => match s[n]? with
  | some (.lck false kvs) => some ((kvs[i]?).map (·.1))
  | _ => none
def jItm (n : Nat) : Stp := fun i s => match s[n]? with
  | some (.lck false kvs) => some ((kvs[i]?).map fun p => .tup [p.1, p.2])
  | _ => none
def iKy (j : Nat → Stp) (m : EM D) : EM (Nat × Stp) := fun e s => (m e s).bind fun d s1 => match d with
  | .ref n => match s1[n]? with
    | some (.lck false kvs) => .ok (kvs.length, j n) s1
    | _ => .no
  | _ => .no
def unlS (n : Nat) (s : Sto) : Option Sto := match s[n]? with
  | some (.lck false kvs) => some (s.set n (.dict false kvs))
  | _ => none
def RS.unl (n : Nat) (r : RS) : RS := match r with
  | .nx e s => match unlS n s with | some s' => .nx e s' | none => .no
  | .rt d s => match unlS n s with | some s' => .rt d s' | none => .no
  | .bk e s => match unlS n s with | some s' => .bk e s' | none => .no
  | .ct e s => match unlS n s with | some s' => .ct e s' | none => .no
  | .ex c f v e s => .ex c f v e s
  | .no => .no
/-- a loop over a dict: it is locked meanwhile -/
def sLk (m : EM D) (b : SM) : SM := fun e s => match m e s with
  | .ok (.ref n) _ => match s[n]? with
    | some (.dict false kvs) => (b e (s.set n (.lck false kvs))).unl n
    | _ => .no
  | _ => .no
variable [Row]
section
variable {K : PySem.W.Frag} {mg : Str → Option Value} {ρ : Nat → Addr} {n : Nat} {H : Hp}
theorem keyD_vr {d : D} {k : Key} (h : keyD d = some k) {v : V} (r : VR K ρ n H d v) : v = kV k := by
  unfold keyD at h
  split at h
  · cases h
    exact r
  · cases h
    exact r
  · cases h
theorem KR.len {κ : Type} {key : D → Option κ} : ∀ {kvs : List (D × D)} {vs : List (κ × V)}, KR key K ρ n H kvs vs → vs.length = kvs.length
  | [], _, h => by
    have h : _ = ([] : List (κ × V)) := h
    rw [h] <;> rfl
  | _ :: _, _, ⟨k, v, r, e, _, _, t⟩ => by rw [e, List.length_cons, List.length_cons, KR.len t]
theorem KR.at {κ : Type} {key : D → Option κ} : ∀ {kvs : List (D × D)} {vs : List (κ × V)} {i : Nat} {p : D × D}, KR key K ρ n H kvs vs → kvs[i]? = some p → ∃ k v, vs[i]? = some (k, v) ∧ key p.1 = some k ∧ VR K ρ n H p.2 v
  | [], _, _, _, _, h => by simp at h
  | q :: _, _, 0, p, ⟨k, v, r, e, h1, h2, t⟩, h => by
    simp at h
    subst h e
    exact ⟨k, v, rfl, h1, h2⟩
  | q :: qs, _, i + 1, p, ⟨k, v, r, e, h1, h2, t⟩, h => by
    subst e
    simp at h
    obtain ⟨k', v', a, b, c⟩ := KR.at t h
    exact ⟨k', v', by simpa using a, b, c⟩
theorem KR.val {k : Key} : ∀ {kvs : List (D × D)} {vs : List (Key × V)}, KR keyD K ρ n H kvs vs → match getK kvs k with | some d => ∃ v, valV vs k = some v ∧ VR K ρ n H d v | none => valV vs k = none
  | [], _, h => by
    have h : _ = ([] : List (Key × V)) := h
    subst h
    rfl
  | q :: qs, _, ⟨j, v, r, e, h1, h2, t⟩ => by
    subst e
    unfold getK
    rw [List.find?_cons]
    by_cases hk : j = k
    · rw [show decide (keyD q.1 = some k) = true from by rw [h1, hk]; simp]
      exact ⟨v, valV_pos hk, h2⟩
    · rw [show decide (keyD q.1 = some k) = false from by rw [h1]; simp [hk]]
      rw [valV_neg (p := (j, v)) hk]
      exact KR.val t
theorem KR.any {k : Key} : ∀ {kvs : List (D × D)} {vs : List (Key × V)}, KR keyD K ρ n H kvs vs → (kvs.any fun p => decide (keyD p.1 = some k)) = vs.any fun kv => decide (kv.1 = k)
  | [], _, h => by
    have h : _ = ([] : List (Key × V)) := h
    subst h
    rfl
  | q :: qs, _, ⟨j, v, r, e, h1, h2, t⟩ => by
    subst e
    rw [List.any_cons, List.any_cons, KR.any t, h1]
    by_cases hk : j = k <;> simp [hk]
theorem KR.snoc {d x : D} {k : Key} {vx : V} (hk : keyD d = some k) (hx : VR K ρ n H x vx) : ∀ {kvs : List (D × D)} {vs : List (Key × V)}, KR keyD K ρ n H kvs vs → KR keyD K ρ n H (kvs ++ [(d, x)]) (vs ++ [(k, vx)])
  | [], _, h => by
    have h : _ = ([] : List (Key × V)) := h
    subst h
    exact ⟨k, vx, [], rfl, hk, hx, rfl⟩
  | q :: qs, _, ⟨j, v, r, e, h1, h2, t⟩ => by
    subst e
    exact ⟨j, v, _, rfl, h1, h2, KR.snoc hk hx t⟩
theorem KR.mapk {x : D} {k : Key} {vx : V} (hx : VR K ρ n H x vx) : ∀ {kvs : List (D × D)} {vs : List (Key × V)}, KR keyD K ρ n H kvs vs → KR keyD K ρ n H (kvs.map fun p => if keyD p.1 = some k then (p.1, x) else p) (vs.map fun kv => if kv.1 = k then (kv.1, vx) else kv)
  | [], _, h => by
    have h : _ = ([] : List (Key × V)) := h
    subst h
    rfl
  | q :: qs, _, ⟨j, v, r, e, h1, h2, t⟩ => by
    subst e
    rw [List.map_cons, List.map_cons]
    by_cases hk : j = k
    · rw [if_pos (show keyD q.1 = some k by rw [h1, hk]), if_pos hk]
      exact ⟨j, vx, _, rfl, h1, hx, KR.mapk hx t⟩
    · rw [if_neg (show ¬ keyD q.1 = some k by rw [h1]; simp [hk]), if_neg hk]
      exact ⟨j, v, _, rfl, h1, h2, KR.mapk hx t⟩
theorem KR.put {d x : D} {k : Key} {vx : V} (hk : keyD d = some k) (hx : VR K ρ n H x vx) {kvs : List (D × D)} {vs : List (Key × V)} (r : KR keyD K ρ n H kvs vs) : KR keyD K ρ n H (putKd kvs d k x) (putK vs k vx) := by
  unfold putKd putK
  rw [r.any]
  split
  · exact r.mapk hx
  · exact r.snoc hk hx
/-- a dict that is read -/
theorem SR.dct {s : Sto} (sr : SR K mg ρ s H) {m : Nat} {kvs : List (D × D)} (h : dctAt s m = some kvs) : ∃ vs, Rd H (ρ m) (.dK vs) ∧ KR keyD K ρ s.length H kvs vs := by
  unfold dctAt at h
  split at h
  · rename_i k e
    cases h
    obtain ⟨vs, h1, h2⟩ := sr.ob _ _ e
    exact ⟨vs, .inl h1, h2⟩
  · rename_i k e
    cases h
    obtain ⟨od, vs, h1, h2⟩ := sr.ob _ _ e
    exact ⟨vs, .inr ⟨od, h1⟩, h2⟩
  · cases h
end
section
variable {X : Cx} {W : WX} {pos apos cpos : Pos} {o e f i y : Expr} {mo me mf ma mb : EM D}
end
end Z

set_option Elab.async false
set_option linter.all false
set_option maxRecDepth 100000
set_option maxHeartbeats 4000000
namespace Z
open PySem PySem.Spec PyProof.Rows L2
variable [Row]
section
variable {X : Cx} {W : WX} {pos apos cpos : Pos} {tg e : Expr} {m : EM D} {st : Stmt} {b : SM}
/-! ### locking -/
end
end Z

set_option Elab.async false
set_option linter.all false
set_option maxRecDepth 100000
set_option maxHeartbeats 4000000
namespace Z
open PySem PySem.Spec PyProof.Rows L2
/-! ### sets of keys -/
def mSet0 : EM D := fun _ s => .ok (.ref s.length) (s ++ [.set []])
def inKs (xs : List D) (k : Key) : Bool := xs.any fun y => decide (keyD y = some k)
def setAt (s : Sto) (n : Nat) : Option (List D) := match s[n]? with
  | some (.set xs) => some xs
  | _ => none
def mSAdd (mo : EM D) (ms : EM (List D)) : EM D := fun e s => (mo e s).bind fun d s1 => match d with
  | .ref n => match setAt s1 n with
    | some _ => (ms e s1).bind fun ds s2 => match ds, setAt s2 n with
      | [y], some xs => match keyD y with
        | some k => if xs.length + 1 < 4096 then .ok .non (s2.set n (.set (if inKs xs k then xs else xs ++ [y]))) else .no
        | none => .no
      | _, _ => .no
    | none => .no
  | _ => .no
/-- k in s, k not in s; else B -/
def dInSt (neg : Bool) (B : D → D → Sto → Rs D) (x y : D) (s : Sto) : Rs D := match y with
  | .ref n => match setAt s n with
    | some xs => match keyD x with
      | some k => .ok (.bl (neg ^^ inKs xs k)) s
      | none => .no
    | none => B x y s
  | _ => B x y s
theorem keysD_any {xs : List D} : ∀ {ks : List Key}, keysD xs = some ks → ∀ k, inKs xs k = true ↔ k ∈ ks := by
  induction xs with
  | nil =>
    intro ks h k
    cases h
    simp [inKs]
  | cons x xs ih =>
    intro ks h k
    unfold keysD at h
    split at h
    · rename_i j js h1 h2
      cases h
      have := ih h2 k
      unfold inKs at this ⊢
      rw [List.any_cons, Bool.or_eq_true, this, h1, List.mem_cons]
      simp only [decide_eq_true_eq, Option.some.injEq]
      constructor
      · rintro (rfl | h)
        · exact .inl rfl
        · exact .inr h
      · rintro (rfl | h)
        · exact .inl rfl
        · exact .inr h
    · cases h
theorem keysD_snoc {xs : List D} {y : D} {k : Key} (hk : keyD y = some k) : ∀ {ks : List Key}, keysD xs = some ks → keysD (xs ++ [y]) = some (ks ++ [k]) := by
  induction xs with
  | nil =>
    intro ks h
    cases h
    show keysD [y] = some [k]
    simp [keysD, hk]
  | cons x xs ih =>
    intro ks h
    unfold keysD at h
    split at h
    · rename_i j js h1 h2
      cases h
      show keysD (x :: (xs ++ [y])) = some (j :: (js ++ [k]))
      simp [keysD, h1, ih h2]
    · cases h
variable [Row]
section
variable {X : Cx} {W : WX} {p pos apos cpos : Pos} {o e : Expr} {es : List Expr} {mo : EM D} {ms : EM (List D)}
def IsRow (X : Cx) : Prop := X.prog = Row.prog ∧ X.w = Row.w
theorem set_of {ρ : Nat → Addr} {s : Sto} {H : Hp} (hX : IsRow X) (sr : SR X.K X.mg ρ s H) {n : Nat} {xs : List D} (h : setAt s n = some xs) : ∃ S m, H (ρ n) = some (SetH X.prog X.w (ρ n) S m) ∧ SetRl xs S m := by
  unfold setAt at h
  split at h
  · rename_i ys e
    cases h
    obtain ⟨S, m, h1, h2⟩ := sr.ob _ _ e
    rw [hX.1, hX.2]
    exact ⟨S, m, h1, h2⟩
  · cases h
end
end Z

set_option Elab.async false
set_option linter.all false
set_option maxRecDepth 100000
set_option maxHeartbeats 4000000
namespace Z
open PySem PySem.Spec PySem.Calls PyProof.Rows L2
variable [Row]
section
variable {X : Cx} {W : WX}
open PySem.W in
theorem sorted_any {prog : Program} {w : World} {A : Around} {E : Value → Shared → Prop} {s : Shared} {β : Type} {vs : List Value} {bs : List β} {enc : β → PyData} {R : Value → β → Prop} {x : Value} {Q : Value → Shared → Prop}
    (hc : ∀ Q' : List Value → Shared → Prop, (∀ h', (∀ b o, s.heap.get? b = some o → h'.get? b = some o) → Q' vs { s with heap := h' }) → wpAny (model prog w) A.in1 (collect x) Q' E s)
    (e : EachIs R vs bs) (er : EachIs (fun v b => ∃ as, Reads s.heap v (enc b) as) vs bs) (hal : AllAlike (bs.map enc)) (hk : Sortable (bs.map enc)) (hL : bs.length ≤ sizeLine)
    (hu : ∀ b, b ∈ bs → A.units + 2 + (enc b).depth < cLine)
    (h : ∀ (h1 : Heap) (out : List Value) (a : Addr) (h' : Heap) (ep : Nat), (∀ b o, s.heap.get? b = some o → h1.get? b = some o) → out.length = bs.length → EachIs R out (bs.mergeSort (dataLe false enc)) → (∀ b o, h1.get? b = some o → h'.get? b = some o) → h1.objs.size ≤ a → h'.get? a = some (seqObj "list" out.toArray ep) → Q (.ref a) { s with heap := h' }) :
    wpAny (model prog w) A (call (.builtin "sorted") [x]) Q E s := by
  refine call_function_entry kind_sorted plain_sorted entry_sorted (args_sorted1 _) ?_
  unfold Builtin.«sorted»
  refine wpAny_bind (m := checkCount "sorted" 1 1 _) (wpAny_pure ?_)
  refine wpAny_bind (hc _ fun h' kp => ?_)
  have hl := e.length
  refine wpAny_bind (wpAny_newList ?_ (by rw [hl]; exact hL))
  have kp2 : ∀ b o, h'.get? b = some o → (h'.push { cls := .type "list", data := .seq vs.toArray }).get? b = some o := fun b o q => Heap.get?_push_of_some _ q
  have er2 : EachIs (fun v b => ∃ as, Reads (sortingHeap (h'.push { cls := .type "list", data := .seq vs.toArray }) h'.objs.size vs) v (enc b) as) vs bs := er.mono fun _ _ ⟨as, r⟩ => ⟨as, PyProof.Rows.Reads.keeps (fun b o q => sortingHeap_old (Nat.ne_of_lt (Heap.lt_size (kp b o q))) (kp2 b o (kp b o q))) r⟩
  have ho : (h'.push ({ cls := .type "list", data := .seq vs.toArray } : Obj)).get? h'.objs.size = some (seqObj "list" vs.toArray 0) := Heap.get?_push_size _ rfl
  refine wpAny_bind (wpAny_holding (wpAny_call_entry slot_list_sort ⟨_, ho, rfl⟩ entry_list_sort (list_sort_vals (κ := dataKind (sortingHeap (h'.push { cls := .type "list", data := .seq vs.toArray }) h'.objs.size vs) (bs.map enc))
    (s := { s with heap := h'.push { cls := .type "list", data := .seq vs.toArray } }) ho
    (SortsAt.data (s := { s with heap := sortingHeap (h'.push { cls := .type "list", data := .seq vs.toArray }) h'.objs.size vs }) (each_map (R := fun v d => ∃ as, Reads (sortingHeap (h'.push { cls := .type "list", data := .seq vs.toArray }) h'.objs.size vs) v d as) enc er2) hal hk (bound_map hu)) (by rw [hl]; exact hL) ⟨.none, rfl, ?_⟩) (args_list_sort _)))
  refine wpAny_pure ⟨_, rfl, ?_⟩
  have hs := sortVals_data (h' := sortingHeap (h'.push { cls := .type "list", data := .seq vs.toArray }) h'.objs.size vs) (R := R) (enc := enc) false e er2 hal
  obtain ⟨ep, hat⟩ := sortedHeap_at (out := (sortVals (dataKind (sortingHeap (h'.push { cls := .type "list", data := .seq vs.toArray }) h'.objs.size vs) (bs.map enc)) false vs vs).toArray) ho
  refine h h' _ h'.objs.size _ ep kp (by rw [sortVals_length false rfl]; exact hl) hs (fun b o q => ?_) (Nat.le_refl _) hat
  have lt : b < h'.objs.size := Heap.lt_size q
  exact (sortedHeap_old (Nat.ne_of_lt lt) (by rw [size_push']; exact Nat.lt_succ_of_lt lt)).trans (kp2 b o q)
open PySem.W in
def rSrtA (X : Cx) : List V → Hp → VK → Prop := fun vs H Q => ∃ (a : Addr) (ps : List (D × V)) (enc : D → PyData), vs = [.ref a] ∧ (SqL X.K H a (ps.map (·.2)) ∨ SqT X.K H a (ps.map (·.2))) ∧ (∀ p ∈ ps, Dp X.K H p.2 (enc p.1)) ∧
  AllAlike (ps.map fun p => enc p.1) ∧ Sortable (ps.map fun p => enc p.1) ∧ (∀ p ∈ ps, X.A.units + 2 + (enc p.1).depth < cLine) ∧ ∀ q, H q = none → Q (.ref q) (upd H q (.lst ((ps.mergeSort (dataLe false fun p => enc p.1)).map (·.2))))
theorem call_srtA : CallR X (.builtin "sorted") (rSrtA X) := by
  intro pins s σ H vs us Q I r h
  obtain ⟨a, ps, enc, rfl, hs, hd, hal, hk, hu, q⟩ := h
  rw [Vals.ref1 r]
  have er : ∀ {qs : List (D × V)} {ws : List Value}, (∀ p ∈ qs, Dp X.K H p.2 (enc p.1)) → PySem.W.EachIs (fun u (p : D × V) => RelV p.2 u) ws qs → PySem.W.EachIs (fun v (p : D × V) => ∃ as, Reads s.heap v (enc p.1) as) ws qs := by
    intro qs
    induction qs with
    | nil =>
      intro ws _ h
      cases h
      exact .nil
    | cons p qs ih =>
      intro ws hp h
      cases h with
      | cons h1 h2 => exact .cons (Dp.reads I _ _ _ (hp p List.mem_cons_self) h1) (ih (fun z hz => hp z (List.mem_cons_of_mem _ hz)) h2)
  obtain ⟨T, hT, its, rv, o, ho, hc, n, hdd, hz⟩ : ∃ T, (T = "list" ∨ T = "tuple") ∧ ∃ (its : List Value), Vals (ps.map (·.2)) its ∧ ∃ o, s.heap.get? a = some o ∧ o.cls = .type T ∧ ∃ n, o.data = .seq its.toArray n ∧ (ps.map (·.2)).length ≤ sizeLine := by
    rcases hs with hs | hs
    · obtain ⟨its, rv, hl, hz⟩ := I.list hs
      obtain ⟨o, ho, hc, n, hd⟩ := hl.isList
      exact ⟨"list", .inl rfl, its, rv, o, ho, hc, n, hd, hz⟩
    · obtain ⟨its, rv, hl, hz⟩ := I.tuple hs
      obtain ⟨o, ho, hc, n, hd⟩ := hl
      exact ⟨"tuple", .inr rfl, its, rv, o, ho, hc, n, hd, hz⟩
  have e1 := vals_each rv
  have hz2 : its.toArray.size ≤ sizeLine := by
    have := rv.length
    rw [List.size_toArray, ← this]
    exact hz
  refine sorted_any (vs := its) (R := fun u (p : D × V) => RelV p.2 u) (enc := fun p => enc p.1) (bs := ps) (fun Q' hq => wpAny_collect_seq a hT ho hc hdd hq hz2) e1 (er hd e1) hal hk (by rw [List.length_map] at hz; exact hz) hu fun h1 out a2 h' ep kp1 ho2 eo kp ha he => ?_
  · have I1 := I.kept (t' := s.toks) kp1
    have hv := each_vals eo
    have hlen : ((ps.mergeSort (PySem.W.dataLe false fun p => enc p.1)).map (·.2)).length ≤ sizeLine := by rw [hv.length, ho2]; rw [List.length_map] at hz; exact hz
    exact ⟨.ref _, upd H a2 (.lst ((ps.mergeSort (PySem.W.dataLe false fun p => enc p.1)).map (·.2))), I1.laid (s := { s with heap := h1 }) (t' := s.toks) kp ha ⟨hlen, out, ep, hv, he⟩, rfl, q _ (I1.hok.fresh ha)⟩
/-- sorted of a list or a tuple -/
def fSortA (ds : List D) (s : Sto) : Rs D := match ds with
  | [d] => match seqD s d with
    | some xs => if canSort s xs = true then .ok (.ref s.length) (s ++ [.lst (sortD s xs)]) else .no
    | none => .no
  | _ => .no
theorem pn_sortA (hu : X.A.units + 66 < cLine) : PrN X W fSortA (rSrtA X) := by
  intro ρ s H σ xs vs Q sr r po
  unfold fSortA at po
  split at po
  · rename_i d
    obtain ⟨v, rfl, rv⟩ := r.one
    split at po
    · rename_i ys h1
      obtain ⟨hc, po⟩ := Po.ite po
      obtain ⟨a, ws, rfl, sq, rr⟩ := vr_seq sr rv (xs := ys) (by unfold seqD at h1; cases d <;> first | exact h1 | cases h1)
      obtain ⟨ps, e1, e2, e3⟩ := rr.pairs
      obtain ⟨hc, c3⟩ := Bool.and_eq_true_iff.mp hc
      obtain ⟨c1, c2⟩ := Bool.and_eq_true_iff.mp hc
      have mem1 : ∀ p ∈ ps, p.1 ∈ ys := fun p hp => by rw [← e1]; exact List.mem_map_of_mem hp
      have get : ∀ {P : PyData → Prop}, (∀ x ∈ ys, P (encD s x)) → ∀ d ∈ ps.map fun p => encD s p.1, P d := fun h d hd => by
        obtain ⟨p, hp, rfl⟩ := List.mem_map.mp hd
        exact h _ (mem1 p hp)
      refine ⟨a, ps, encD s, rfl, by rw [e2]; exact sq, fun p hp => pyd_dp sr 30 p.1 p.2 _ (shp_enc (List.all_eq_true.mp c1 p.1 (mem1 p hp))).1 (e3 p hp), ?_, ?_, fun p hp => ?_, fun q hq => ?_⟩
      · exact get (P := fun d => ∀ d', d' ∈ (ps.map fun p => encD s p.1) → PySem.W.alike d d' = true) fun x hx => get fun y hy => List.all_eq_true.mp (List.all_eq_true.mp c2 x hx) y hy
      · rcases Bool.or_eq_true_iff.mp c3 with c3 | c3
        · refine .inl (get fun x hx => ?_)
          have := List.all_eq_true.mp c3 x hx
          revert this
          cases encD s x with
          | tuple l => cases l with
            | nil => exact fun h => nomatch h
            | cons y r => exact fun _ => ⟨y, r, rfl⟩
          | _ => exact fun h => nomatch h
        · refine .inr (get fun x hx => ?_)
          have := List.all_eq_true.mp c3 x hx
          revert this
          cases encD s x with
          | tuple l => exact fun h => nomatch h
          | none => exact fun h => nomatch h
          | _ => exact fun _ => ⟨(fun h => nomatch h), fun l h => nomatch h⟩
      · have := SeqAt.depth_of_shaped (shp_enc (List.all_eq_true.mp c1 p.1 (mem1 p hp))).2
        omega
      · have em : (ps.mergeSort (PySem.W.dataLe false fun p => encD s p.1)).map (·.1) = sortD s ys := by
          unfold sortD
          rw [← e1]
          exact List.map_mergeSort fun a _ b _ => rfl
        have rs : VRs X.K ρ s.length H (sortD s ys) ((ps.mergeSort (PySem.W.dataLe false fun p => encD s p.1)).map (·.2)) := by
          rw [← em]
          exact VRs.of_pairs fun p hp => e3 p ((List.mergeSort_perm _ _).mem_iff.mp hp)
        obtain ⟨x1, sr1, v1⟩ := new_lst sr hq rs
        exact po _ _ _ x1 sr1 v1
    · exact po.elim
  · exact po.elim
end
end Z

set_option Elab.async false
set_option linter.all false
set_option maxRecDepth 100000
set_option maxHeartbeats 4000000
namespace Z
open PySem PySem.Spec PyProof.Rows L2
variable [Row]
section
variable {K : PySem.W.Frag} {mg : Str → Option Value} {cs : List Str} {tb : Tb} {m c : Str} {F : MF} {C g : Addr}
end
section
variable {X : Cx} {W : WX}
end
theorem hu1 {a c : Nat} (h : a + 100 < c) : a + 1 < c := by omega
end Z

set_option Elab.async false
set_option linter.all false
set_option maxRecDepth 100000
set_option maxHeartbeats 4000000
namespace Z
open PySem PySem.Spec PyProof.Rows L2
variable [Row]
section
variable {X : Cx} {W : WX} {pos : Pos}
def sP3 (i j l : Nat) (ms : EM (List D)) : SM := fun e s => (ms e s).st e fun ds s1 => match ds with
  | [x, y, z] => .nx (((e.set i (some x)).set j (some y)).set l (some z)) s1
  | _ => .no
end
end Z

set_option Elab.async false
set_option linter.all false
set_option maxRecDepth 100000
set_option maxHeartbeats 4000000
namespace Z
open PySem PySem.Spec PyProof.Rows L2
/-! ### the later steps of a mirror, for simp -/
section
variable {P : D → Sto → Prop} {PL : List D → Sto → Prop} {PB : Bool → Sto → Prop} {PI : Nat × Stp → Sto → Prop} {E : Str → Str → D → Sto → Prop} {Q : En} {e : Ev} {s : Sto}
variable {a b c : EM D} {ms : EM (List D)} {i n : Nat} {d x y : D} {f nm : Str} {fN F : MF} {cs : List Str} {fs : List (Str × D)} {tb : Tb} {itb : Itb}
def optP {α : Type} (o : Option α) (P : α → Prop) : Prop := match o with
  | some a => P a
  | none => False
@[simp ↓] theorem optP_some {α : Type} {a : α} {P : α → Prop} : optP (some a) P = P a := nr rfl
@[simp ↓] theorem optP_none {α : Type} {P : α → Prop} : optP (none : Option α) P = False := nr rfl
def refP (d : D) (P : Nat → Prop) : Prop := match d with
  | .ref n => P n
  | _ => False
@[simp ↓] theorem refP_ref {P : Nat → Prop} : refP (.ref n) P = P n := nr rfl
def insP (o : Option SO) (P : Str → List (Str × D) → Prop) : Prop := match o with
  | some (.ins c fs) => P c fs
  | _ => False
@[simp ↓] theorem insP_some {c : Str} {P : Str → List (Str × D) → Prop} : insP (some (.ins c fs)) P = P c fs := nr rfl
@[simp ↓] theorem z_mFld : (mFld cs f a e s).wp P E = (a e s).wp (fun d s1 => (gFld cs f d s1).wp P E) E := by
  unfold mFld; rw [z_bind]
@[simp ↓] theorem z_gFld : (gFld cs f (.ref n) s).wp P E = insP s[n]? fun c fs => c ∈ cs ∧ optP (fs.lookup f) fun v => P v s := by
  unfold gFld insP
  dsimp only
  cases s[n]? with
  | none => rfl
  | some o =>
    cases o with
    | ins c fs =>
      dsimp only
      rw [z_iteN]
      cases fs.lookup f <;> rfl
    | _ => rfl
/-- o.f = v -/
def fldP (cs : List Str) (f : Str) (v d : D) (s : Sto) (P : Sto → Prop) : Prop := refP d fun n => insP s[n]? fun c fs => (c ∈ cs ∧ fs.length < 1000) ∧ P (s.set n (.ins c (putD f v fs)))
@[simp ↓] theorem z_sFldD : (sFldD cs f a b e s).wp Q = (b e s).wp (fun v s1 => (a e s1).wp (fun d s2 => fldP cs f v d s2 fun s3 => Q.nx e s3) fun c f v s => Q.ex c f v e s) (fun c f v s => Q.ex c f v e s) := by
  unfold sFldD
  rw [z_st]
  congr 1
  funext v s1
  rw [z_st]
  congr 1
  funext d s2
  unfold fldP refP insP
  cases d with
  | ref n =>
    dsimp only
    cases s2[n]? with
    | none => rfl
    | some o =>
      cases o with
      | ins c fs =>
        dsimp only
        by_cases q : c ∈ cs ∧ fs.length < 1000
        · rw [if_pos q]
          simp [q]
        · rw [if_neg q]
          simp only [z_rno, eq_iff_iff, false_iff]
          exact fun h => q h.1
      | _ => rfl
  | _ => rfl
@[simp ↓] theorem z_mkD {c : Str} {ds : List D} : (mkD c F ds s).wp P E = (F (.ref s.length :: ds) (s ++ [.ins c []])).wp (fun d s2 => d = .non ∧ P (.ref s.length) s2) E := by
  unfold mkD
  rw [z_bind]
  congr 1
  funext d s2
  cases d <;> simp
@[simp ↓] theorem z_starF {k : Nat} {ds : List D} : (starF k F ds s).wp P E = ((k ≤ ds.length ∧ ds.length ≤ sizeLine) ∧ (F (ds.take k ++ [.tup (ds.drop k)]) s).wp P E) := by
  unfold starF
  rw [z_iteN]
@[simp ↓] theorem z_aS : (aS a ms e s).wp PL E = (a e s).wp (fun x s1 => optP (seqD s1 x) fun xs => (ms e s1).wp (fun ys s2 => PL (xs ++ ys) s2) E) E := by
  unfold aS
  rw [z_bind]
  congr 1
  funext x s1
  cases seqD s1 x with
  | none => rfl
  | some xs => simp only [z_bind, z_ok, optP_some]
@[simp ↓] theorem z_aS1 : (aS1 a e s).wp PL E = (a e s).wp (fun x s1 => optP (seqD s1 x) fun xs => PL xs s1) E := by
  unfold aS1
  rw [z_bind]
  congr 1
  funext x s1
  cases seqD s1 x <;> rfl
@[simp ↓] theorem seqD_tup {xs : List D} : seqD s (.tup xs) = some xs := nr rfl
@[simp ↓] theorem seqD_ref : seqD s (.ref n) = lstAt s n := nr rfl
@[simp ↓] theorem z_mMeth : (mMeth tb nm a ms e s).wp P E = (a e s).wp (fun d s1 => refP d fun n => insP s1[n]? fun c fs => optP (tb.lookup c) fun F => (fs.lookup nm).isNone = true ∧ (ms e s1).wp (fun ds s2 => (F (.ref n :: ds) s2).wp P E) E) E := by
  unfold mMeth
  rw [z_bind]
  congr 1
  funext d s1
  unfold refP
  cases d with
  | ref n =>
    dsimp only
    unfold insP
    cases s1[n]? with
    | none => rfl
    | some o =>
      cases o with
      | ins c fs =>
        dsimp only
        cases tb.lookup c with
        | none => rfl
        | some F =>
          dsimp only [optP]
          rw [z_iteN, z_bind]
      | _ => rfl
  | _ => rfl
/-- by the class of d, if it is an instance -/
def clsP (o : Option Str) (f : Str → Prop) (b : Prop) : Prop := match o with
  | some c => f c
  | none => b
@[simp ↓] theorem clsP_some {c : Str} {f : Str → Prop} {b : Prop} : clsP (some c) f b = f c := nr rfl
@[simp ↓] theorem clsP_none {f : Str → Prop} {b : Prop} : clsP none f b = b := nr rfl
theorem insC_ins {c : Str} (h : s[n]? = some (.ins c fs)) : insC s (.ref n) = some c := by
  unfold insC
  dsimp only
  rw [h]
@[simp ↓] theorem insC_str {z : Str} : insC s (.str z) = none := nr rfl
@[simp ↓] theorem insC_tup {xs : List D} : insC s (.tup xs) = none := nr rfl
@[simp ↓] theorem insC_int {j : Int} : insC s (.int j) = none := nr rfl
@[simp ↓] theorem insC_bl {q : Bool} : insC s (.bl q) = none := nr rfl
@[simp ↓] theorem insC_non : insC s .non = none := nr rfl
@[simp ↓] theorem z_inO {neg : Bool} {B : D → D → Sto → Rs D} : (dInO neg tb B x y s).wp P E = clsP (insC s y) (fun c => optP (tb.lookup c) fun F => (F [y, x] s).wp (fun d s1 => blP d fun b => P (.bl (neg ^^ b)) s1) E) ((B x y s).wp P E) := by
  unfold dInO
  cases insC s y with
  | none => rfl
  | some c =>
    dsimp only [clsP]
    cases tb.lookup c with
    | none => rfl
    | some F =>
      dsimp only [optP]
      rw [z_bind]
      congr 1
      funext d s1
      cases d <;> rfl
@[simp ↓] theorem z_ixO {B : D → D → Sto → Rs D} : (dIxO tb B x y s).wp P E = clsP (insC s x) (fun c => optP (tb.lookup c) fun F => (F [x, y] s).wp P E) ((B x y s).wp P E) := by
  unfold dIxO
  cases insC s x with
  | none => rfl
  | some c =>
    dsimp only [clsP]
    cases tb.lookup c <;> rfl
@[simp ↓] theorem z_ownL {rs : List Str} {st : Bool} {B : D → D → Sto → Rs D} : (dOwnL tb rs st B x y s).wp P E = clsP (insC s x) (fun c => optP (tb.lookup c) fun F => rightOk rs st s y = true ∧ (F [x, y] s).wp P E) ((B x y s).wp P E) := by
  unfold dOwnL
  cases insC s x with
  | none => rfl
  | some c =>
    dsimp only [clsP]
    cases tb.lookup c with
    | none => rfl
    | some F =>
      dsimp only [optP]
      rw [z_iteN]
/-- what a walk over an own instance, a list or a tuple goes through -/
def walkP (o : Option (Option (List D))) (s : Sto) (d : D) (P : Nat × Stp → Prop) : Prop := match o with
  | some (some xs) => P (xs.length, jTup xs)
  | some none => False
  | none => match d with
    | .tup ds => P (ds.length, jTup ds)
    | .ref n => lstP (lstAt s n) fun xs => P (xs.length, jLst n)
    | _ => False
@[simp ↓] theorem z_iOwn : (iOwn itb a e s).wp PI E = (a e s).wp (fun d s1 => walkP (itsO itb s1 d) s1 d fun j => PI j s1) E := by
  unfold iOwn
  rw [z_bind]
  congr 1
  funext d s1
  unfold walkP
  split <;> simp_all
  unfold walkD
  cases d with
  | ref n =>
    dsimp only
    unfold lstAt
    split <;> simp_all [lstP]
  | _ => rfl
@[simp ↓] theorem walkP_ins {xs : List D} {PJ : Nat × Stp → Prop} : walkP (some (some xs)) s d PJ = PJ (xs.length, jTup xs) := nr rfl
theorem itsO_ins {c : Str} {xs : List D} (h : s[n]? = some (.ins c fs)) (h1 : itb.lookup c = some f) (h2 : fs.lookup f = some (.tup xs)) : itsO itb s (.ref n) = some (some xs) := by
  unfold itsO
  dsimp only
  rw [h]
  dsimp only
  rw [h1]
  dsimp only
  rw [h2]
@[simp ↓] theorem itsO_tup {xs : List D} : itsO itb s (.tup xs) = none := nr rfl
theorem itsO_lst {xs : List D} (h : lstAt s n = some xs) : itsO itb s (.ref n) = none := by
  unfold itsO
  dsimp only
  unfold lstAt at h
  split at h <;> simp_all
@[simp ↓] theorem walkP_tup {xs : List D} {PJ : Nat × Stp → Prop} : walkP none s (.tup xs) PJ = PJ (xs.length, jTup xs) := nr rfl
@[simp ↓] theorem walkP_ref {PJ : Nat × Stp → Prop} : walkP none s (.ref n) PJ = lstP (lstAt s n) fun xs => PJ (xs.length, jLst n) := nr rfl
@[simp ↓] theorem z_extend {k : Nat} : (lExtend (.ref n) [d] s).wp P E = lstP (mlAt s n) fun xs => optP (seqD s d) fun ys => xs.length + ys.length ≤ sizeLine ∧ P .non (s.set n (.lst (xs ++ ys))) := by
  unfold lExtend mlAt lstP
  dsimp only
  cases s[n]? with
  | none => rfl
  | some o =>
    cases o with
    | lst xs =>
      cases seqD s d with
      | none => rfl
      | some ys => exact z_iteN
    | _ => rfl
@[simp ↓] theorem z_ltS {u v : Str} : (dLtS (.str u) (.str v) s).wp P E = P (.bl (decide (u.cps.toList < v.cps.toList))) s := nr rfl
/-! dicts -/
@[simp ↓] theorem z_mDN : (mDN e s).wp P E = P (.ref s.length) (s ++ [.dict false []]) := nr rfl
@[simp ↓] theorem z_getD : (dGetD (.ref n) x s).wp P E = optP (keyD x) fun k => optP (dctAt s n) fun kvs => optP (getK kvs k) fun v => P v s := by
  unfold dGetD optP
  cases keyD x with
  | none => rfl
  | some k =>
    dsimp only
    cases dctAt s n with
    | none => rfl
    | some kvs =>
      dsimp only
      cases getK kvs k <;> rfl
@[simp ↓] theorem z_inD {neg : Bool} : (dInD neg y (.ref n) s).wp P E = optP (keyD y) fun k => optP (dctAt s n) fun kvs => P (.bl (neg ^^ (getK kvs k).isSome)) s := by
  unfold dInD optP
  cases keyD y with
  | none => rfl
  | some k =>
    dsimp only
    cases dctAt s n <;> rfl
@[simp ↓] theorem z_get2 : (dGet2 (.ref n) x y s).wp P E = optP (keyD x) fun k => optP (dctAt s n) fun kvs => P ((getK kvs k).getD y) s := by
  unfold dGet2 optP
  cases keyD x with
  | none => rfl
  | some k =>
    dsimp only
    cases dctAt s n <;> rfl
@[simp ↓] theorem z_m3 {f3 : D → D → D → Sto → Rs D} : (m3 f3 a b c e s).wp P E = (a e s).wp (fun x s1 => (b e s1).wp (fun y s2 => (c e s2).wp (fun z s3 => (f3 x y z s3).wp P E) E) E) E := by
  unfold m3; simp only [z_bind]
def dctP (o : Option SO) (P : List (D × D) → Prop) : Prop := match o with
  | some (.dict false kvs) => P kvs
  | _ => False
@[simp ↓] theorem dctP_some {kvs : List (D × D)} {P : List (D × D) → Prop} : dctP (some (.dict false kvs)) P = P kvs := nr rfl
@[simp ↓] theorem z_setD {v : D} {PS : Sto → Prop} : stoP (xSetD (.ref n) x v s) PS = optP (keyD x) fun k => dctP s[n]? fun kvs => kvs.length < sizeLine ∧ PS (s.set n (.dict false (putKd kvs x k v))) := by
  unfold xSetD optP
  cases keyD x with
  | none => rfl
  | some k =>
    dsimp only
    unfold dctP
    cases s[n]? with
    | none => rfl
    | some o =>
      cases o with
      | dict b kvs =>
        cases b with
        | true => rfl
        | false =>
          dsimp only
          by_cases q : kvs.length < sizeLine <;> simp [q, stoP]
      | _ => rfl
def lckP (o : Option SO) (P : List (D × D) → Prop) : Prop := match o with
  | some (.lck false kvs) => P kvs
  | _ => False
@[simp ↓] theorem lckP_some {kvs : List (D × D)} {P : List (D × D) → Prop} : lckP (some (.lck false kvs)) P = P kvs := nr rfl
@[simp ↓] theorem z_iKy {j : Nat → Stp} : (iKy j a e s).wp PI E = (a e s).wp (fun d s1 => refP d fun n => lckP s1[n]? fun kvs => PI (kvs.length, j n) s1) E := by
  unfold iKy
  rw [z_bind]
  congr 1
  funext d s1
  unfold refP
  cases d with
  | ref n =>
    dsimp only
    unfold lckP
    cases s1[n]? with
    | none => rfl
    | some o =>
      cases o with
      | lck b kvs => cases b <;> rfl
      | _ => rfl
  | _ => rfl
/-! sets -/
@[simp ↓] theorem z_mSet0 : (mSet0 e s).wp P E = P (.ref s.length) (s ++ [.set []]) := nr rfl
@[simp ↓] theorem z_mSAdd : (mSAdd a ms e s).wp P E = (a e s).wp (fun d s1 => refP d fun n => optP (setAt s1 n) fun _ => (ms e s1).wp (fun ds s2 => ∃ y xs k, ds = [y] ∧ setAt s2 n = some xs ∧ keyD y = some k ∧ xs.length + 1 < 4096 ∧ P .non (s2.set n (.set (if inKs xs k then xs else xs ++ [y])))) E) E := by
  unfold mSAdd
  rw [z_bind]
  congr 1
  funext d s1
  unfold refP
  cases d with
  | ref n =>
    dsimp only
    cases setAt s1 n with
    | none => rfl
    | some zs =>
      dsimp only [optP]
      rw [z_bind]
      congr 1
      funext ds s2
      split
      · rename_i y xs h
        rw [h]
        cases hk : keyD y with
        | none => simp [hk]
        | some k =>
          dsimp only
          rw [z_iteN, z_ok]
          simp [hk]
      · rename_i h
        rw [z_no]
        simp only [eq_iff_iff, false_iff]
        rintro ⟨y, xs, k, rfl, h2, _⟩
        exact h y xs rfl h2
  | _ => rfl
@[simp ↓] theorem z_sP3 {i j l : Nat} : (sP3 i j l ms e s).wp Q = (ms e s).wp (fun ds s1 => ∃ x y z, ds = [x, y, z] ∧ Q.nx (((e.set i (some x)).set j (some y)).set l (some z)) s1) (fun c f v s => Q.ex c f v e s) := by
  unfold sP3
  rw [z_st]
  congr 1
  funext ds s1
  split
  · rw [z_nx, eq_iff_iff]
    refine ⟨fun h => ⟨_, _, _, rfl, h⟩, ?_⟩
    rintro ⟨x, y, z, h1, h2⟩
    cases h1
    exact h2
  · rename_i h
    simp only [z_rno, eq_iff_iff, false_iff]
    rintro ⟨x, y, z, rfl, _⟩
    exact h x y z rfl
@[simp ↓] theorem z_sortT {xs : List D} : (fSortA [.tup xs] s).wp P E = (canSort s xs = true ∧ P (.ref s.length) (s ++ [.lst (sortD s xs)])) := by
  show (if _ then _ else _ : Rs D).wp P E = _
  rw [z_iteN, z_ok]
@[simp ↓] theorem z_sortL : (fSortA [.ref n] s).wp P E = lstP (lstAt s n) fun xs => canSort s xs = true ∧ P (.ref s.length) (s ++ [.lst (sortD s xs)]) := by
  unfold fSortA
  dsimp only [seqD_ref]
  cases h : lstAt s n with
  | none => simp [seqD, h, lstP]
  | some xs =>
    simp only [seqD, h, lstP]
    rw [z_iteN, z_ok]
end
end Z

set_option Elab.async false
set_option linter.all false
set_option maxRecDepth 100000
set_option maxHeartbeats 4000000
namespace Z
open PySem PySem.Spec PyProof.Rows L2
/-! ### loops, comprehensions: more rules -/
section
variable {P : D → Sto → Prop} {E : Str → Str → D → Sto → Prop} {Q : En} {e : Ev} {s s0 s2 t : Sto} {j : Stp} {g g1 : GN} {body : SM} {N : Nat} {ks : List Nat} {xs : List D} {tt t1 : EM Bool} {mm : EM D} {mi1 : EM (Nat × Stp)} {vs vs1 : List Nat} {l : Nat}
/-- a for over known items -/
theorem for_it (it : ItOk ks s0 j N xs) (I : Nat → Ev → Sto → Prop) (hI : ∀ i e s, I i e s → Eff ks s0 s) (st : ∀ i d e s, xs[i]? = some d → I i e s → ∃ e1, g d e = some e1 ∧ (body e1 s).wp { nx := I (i + 1), ct := I (i + 1), bk := Q.nx, rt := Q.rt, ex := Q.ex })
    (h0 : I 0 e s) (fin : ∀ e s, I xs.length e s → Q.nx e s) : (forL j g body N 0 e s).wp Q := by
  refine forL_wp (N := N) I (fun i e s hi h => ⟨fun hN => ?_, fun hN => ?_⟩) N 0 e s (Nat.zero_add _) h0
  · subst hN
    exact ⟨by rw [it.2 i s (hI _ _ _ h), List.getElem?_eq_none (by rw [← it.1]; exact Nat.le_refl _)], fin _ _ (by rw [← it.1]; exact h)⟩
  · have hx : xs[i]? = some (xs[i]'(by rw [← it.1]; exact hN)) := List.getElem?_eq_getElem _
    obtain ⟨e1, h1, h2⟩ := st i _ e s hx h
    exact ⟨_, e1, by rw [it.2 i s (hI _ _ _ h), hx], h1, h2⟩
@[simp ↓] theorem z_mL2 {mi : EM (Nat × Stp)} : (mL2 mi g tt mi1 g1 t1 mm vs vs1 e s).wp P E = (mi e s).wp (fun jt s1 => (lcL2 jt.2 g tt mi1 g1 t1 mm vs1 s1.length jt.1 0 (wipeD e vs) (s1 ++ [.lst []])).wp P E) E := by
  unfold mL2; rw [z_bind]
/-- a walk that keeps as long as nothing but the places l and ks changes -/
def JOk (l : Nat) (ks : List Nat) (s2 : Sto) (jt : Nat × Stp) (zs : List D) : Prop := jt.1 = zs.length ∧ ∀ i s3, (∀ n, n < s2.length → n ≠ l → n ∉ ks → s3[n]? = s2[n]?) → jt.2 i s3 = some zs[i]?
/-! ### item by item -/
def AllR {α : Type} (R : D → α → Prop) (ds : List D) (as : List α) : Prop := ds.length = as.length ∧ ∀ (i : Nat) (d : D) (a : α), ds[i]? = some d → as[i]? = some a → R d a
theorem AllR.nil {α : Type} {R : D → α → Prop} : AllR R [] [] := ⟨rfl, fun i d a h => by simp at h⟩
theorem AllR.mono {α : Type} {R R' : D → α → Prop} {ds : List D} {as : List α} (h : AllR R ds as) (hR : ∀ d a, R d a → R' d a) : AllR R' ds as := ⟨h.1, fun i d a h1 h2 => hR _ _ (h.2 i d a h1 h2)⟩
theorem AllR.get {α : Type} {R : D → α → Prop} {ds : List D} {as : List α} (h : AllR R ds as) {i : Nat} {d : D} (hd : ds[i]? = some d) : ∃ a, as[i]? = some a ∧ R d a := by
  have hi : i < as.length := by rw [← h.1]; exact (List.getElem?_eq_some_iff.mp hd).1
  exact ⟨as[i], List.getElem?_eq_getElem hi, h.2 i d _ hd (List.getElem?_eq_getElem hi)⟩
theorem AllR.mem {α : Type} {R : D → α → Prop} {ds : List D} {as : List α} (h : AllR R ds as) {d : D} (hd : d ∈ ds) : ∃ a ∈ as, R d a := by
  obtain ⟨i, hi, rfl⟩ := List.getElem_of_mem hd
  obtain ⟨a, h1, h2⟩ := h.get (List.getElem?_eq_getElem hi)
  exact ⟨a, List.mem_of_getElem? h1, h2⟩
theorem AllR.app {α : Type} {R : D → α → Prop} {ds es : List D} {as bs : List α} (h : AllR R ds as) (h2 : AllR R es bs) : AllR R (ds ++ es) (as ++ bs) := by
  refine ⟨by simp [h.1, h2.1], fun i d a hd ha => ?_⟩
  by_cases hi : i < ds.length
  · rw [List.getElem?_append_left hi] at hd
    rw [List.getElem?_append_left (by rw [← h.1]; exact hi)] at ha
    exact h.2 i d a hd ha
  · rw [List.getElem?_append_right (by omega)] at hd
    rw [List.getElem?_append_right (by have := h.1; omega), ← h.1] at ha
    exact h2.2 _ d a hd ha
theorem AllR.one {α : Type} {R : D → α → Prop} {d : D} {a : α} (h : R d a) : AllR R [d] [a] := ⟨rfl, fun i d' a' h1 h2 => by
  cases i with
  | zero => cases h1; cases h2; exact h
  | succ i => simp at h1⟩
/-- a value of each item, told by what it stands for -/
theorem AllR.map {α : Type} {R : D → α → Prop} {ds : List D} {as : List α} (h : AllR R ds as) {f : D → D} {k : α → D} (hf : ∀ d a, R d a → f d = k a) : ds.map f = as.map k := by
  refine List.ext_getElem (by simp [h.1]) fun i h1 h2 => ?_
  rw [List.getElem_map, List.getElem_map]
  exact hf _ _ (h.2 i _ _ (List.getElem?_eq_getElem (by simpa using h1)) (List.getElem?_eq_getElem (by simpa using h2)))
theorem AllR.flat {α : Type} {as : List α} {k : α → List D} : as.flatMap k = (List.range as.length).flatMap fun i => ((as[i]?).map k).getD [] := by
  induction as with
  | nil => rfl
  | cons a as ih =>
    rw [List.flatMap_cons, List.length_cons, List.range_succ_eq_map, List.flatMap_cons, ih, List.flatMap_map]
    rfl
end
end Z

set_option Elab.async false
set_option linter.all false
set_option maxRecDepth 100000
set_option maxHeartbeats 4000000
namespace Z
open PySem PySem.Spec PyProof.Rows L2 TL
open PySem.PyData (strOk)
/-! ### names, kinds, bodies -/
theorem IsName.ok {x : Str} (h : IsName x) : strOk x = true := by
  unfold PyData.strOk
  rw [Array.all_eq_true']
  intro c hc
  have := h.low c (by simpa using hc)
  unfold isLow at this
  simp
  omega
theorem IsName.l8 {x : Str} (h : IsName x) : x.length ≤ 8 := by rw [len_tl]; exact h.len
theorem size_line : sizeLine = 16777216 := by decide
theorem mapM_bl : ∀ bs : List Bool, (bs.map D.bl).mapM blD = some bs
  | [] => rfl
  | b :: bs => by
    rw [List.map_cons, List.mapM_cons, mapM_bl bs]
    rfl
def tIsName : SM := (sC (sI (bOr (bNot (toT (mIsi "str" (mV 0)))) (bNot (toB (mCh dLe dLe (mC (.int 1)) (mN fLen (aC (mV 0) aN)) (mC (.int 8)))))) (sR (mC (.bl false))) sN) (sR (mN (fAllAny true) (aC (mL (iSt (mV 0)) (gN 1) tY (m2 (dInB false) (mV 1) (mC (.str "abcdefghijklmnopqrstuvwxyz"))) [1]) aN))))
def IsNameOk (F : MF) : Prop := ∀ {s : Sto} {x : Str}, IsName x → (F [.str x] s).wp fun d s' => d = .bl true ∧ Eff [] s s'
def tLook (F : MF) : SM := (sI (bNot (toT (mN F (aC (mV 0) aN)))) sNo sN)
def LookOk (p : D → Prop) (F : MF) : Prop := ∀ {s : Sto} {d : D}, p d → (F [d] s).wp fun d' s' => d' = .non ∧ Eff [] s s'
def nameD (d : D) : Prop := ∃ x, d = .str x ∧ IsName x
def kinds : List Str := ["weak", "common", "strong"]
def kindD (d : D) : Prop := ∃ k, d = .str k ∧ k ∈ kinds
def tIsKind (c : D) : SM := (sR (mAnd (mIsi "str" (mV 0)) (m2 (dInB false) (mV 0) (mC c))))
def bodyD (d : D) : Prop := ∃ i : Int, d = .int i ∧ 0 ≤ i ∧ i ≤ 999999
def tLookBody : SM := (sI (bOr (bNot (toT (mIsi "int" (mV 0)))) (bOr (toT (mIsi "bool" (mV 0))) (bNot (toB (mCh dLe dLe (mC (.int 0)) (mV 0) (mC (.int 999999))))))) sNo sN)
def tTwice : SM := (sC (sA 1 (mN fLst aN)) (sC (sF (iSq (mV 0)) (gN 2) (sC (sI (toB (m2 (dInB false) (mV 2) (mV 1))) (sR (mV 2)) sN) (sE (mBM "list" (mtL lAppend) (mV 1) (aC (mV 2) aN))))) (sR (mC .non))))
def TwiceOk (F : MF) : Prop := ∀ {s : Sto} {n : Nat} {ms : List Str}, lstAt s n = some (ms.map D.str) → ms.Nodup → (∀ x ∈ ms, strOk x = true) → ms.length ≤ 1000 → (F [.ref n] s).wp fun d s' => d = .non ∧ Eff [] s s'
end Z

set_option Elab.async false
set_option linter.all false
set_option maxRecDepth 100000
set_option maxHeartbeats 4000000
namespace Z
open PySem PySem.Spec PyProof.Rows L2 TL
open PySem.PyData (strOk)
/-! ### members, archives, stores: what stands for them -/
abbrev DefA := Str × Str × Int
structure MemA where
  name : Str
  defs : List DefA
  wants : List Str
structure ArcA where
  name : Str
  mems : List MemA
def defD (p : DefA) : D := .tup [.str p.1, .str p.2.1, .int p.2.2]
def IsMem (s : Sto) (d : D) (m : MemA) : Prop := ∃ n, d = .ref n ∧ s[n]? = some (.ins "Member" [("name", .str m.name), ("defines", .tup (m.defs.map defD)), ("wants", .tup (m.wants.map D.str))])
def IsArc (s : Sto) (d : D) (a : ArcA) : Prop := ∃ n ds, d = .ref n ∧ s[n]? = some (.ins "Archive" [("name", .str a.name), ("members", .tup ds)]) ∧ AllR (IsMem s) ds a.mems
def IsSto (s : Sto) (d : D) (as : List ArcA) : Prop := ∃ n ds, d = .ref n ∧ s[n]? = some (.ins "Store" [("archives", .tup ds)]) ∧ AllR (IsArc s) ds as
def Bags (s : Sto) (ks : List Nat) : Prop := ∀ k ∈ ks, Bag s k
theorem bags_nil {s : Sto} : Bags s [] := fun _ h => by simp at h
theorem Bags.eff {s t : Sto} {ks : List Nat} (h : Bags s ks) (e : Eff ks s t) : Bags t ks := fun k hk => e.bag k hk (h k hk)
/-- an instance is no bag -/
theorem ins_no {s : Sto} {ks : List Nat} {n : Nat} {c : Str} {fs : List (Str × D)} (hb : Bags s ks) (h : s[n]? = some (.ins c fs)) : n ∉ ks := fun hk => by
  obtain ⟨a, b, e⟩ := hb n hk
  rw [h] at e
  cases e
theorem IsMem.eff {s t : Sto} {ks : List Nat} {d : D} {m : MemA} (h : IsMem s d m) (e : Eff ks s t) (hb : Bags s ks) : IsMem t d m := by
  obtain ⟨n, h1, h2⟩ := h
  exact ⟨n, h1, e.get h2 (ins_no hb h2)⟩
theorem IsArc.eff {s t : Sto} {ks : List Nat} {d : D} {m : ArcA} (h : IsArc s d m) (e : Eff ks s t) (hb : Bags s ks) : IsArc t d m := by
  obtain ⟨n, ds, h1, h2, h3⟩ := h
  exact ⟨n, ds, h1, e.get h2 (ins_no hb h2), h3.mono fun _ _ h => h.eff e hb⟩
theorem IsSto.eff {s t : Sto} {ks : List Nat} {d : D} {m : List ArcA} (h : IsSto s d m) (e : Eff ks s t) (hb : Bags s ks) : IsSto t d m := by
  obtain ⟨n, ds, h1, h2, h3⟩ := h
  exact ⟨n, ds, h1, e.get h2 (ins_no hb h2), h3.mono fun _ _ h => h.eff e hb⟩
/-! attributes -/
section
variable {P : D → Sto → Prop} {E : Str → Str → D → Sto → Prop} {s : Sto} {d : D} {cs : List Str}
theorem IsMem.ins {m : MemA} (h : IsMem s d m) : insC s d = some ("Member" : Str) := by
  obtain ⟨n, rfl, h⟩ := h
  exact insC_ins h
theorem IsArc.ins {m : ArcA} (h : IsArc s d m) : insC s d = some ("Archive" : Str) := by
  obtain ⟨n, ds, rfl, h, _⟩ := h
  exact insC_ins h
theorem IsSto.ins {m : List ArcA} (h : IsSto s d m) : insC s d = some ("Store" : Str) := by
  obtain ⟨n, ds, rfl, h, _⟩ := h
  exact insC_ins h
end
/-! ### sorted definitions, wants -/
def encP (p : DefA) : PyData := .tuple [.str p.1, .str p.2.1, .int p.2.2]
def leP (a b : DefA) : Bool := PySem.W.dataLe false encP a b
def sortP (ps : List DefA) : List DefA := ps.mergeSort leP
theorem sortP_perm (ps : List DefA) : (sortP ps).Perm ps := List.mergeSort_perm _ _
theorem enc_defD {p : DefA} : enc (defD p) = encP p := by
  unfold defD encP
  rw [enc, encs, encs, encs, encs, enc, enc, enc]
def okP (p : DefA) : Prop := strOk p.1 = true ∧ strOk p.2.1 = true
theorem plain_defD {n : Nat} {p : DefA} (h : okP p) : plain (n + 1) (defD p) = true := by
  unfold defD
  rw [plain, plains_iff]
  intro x hx
  simp only [List.mem_cons, List.not_mem_nil, or_false] at hx
  rcases hx with rfl | rfl | rfl
  · rw [plain]; exact h.1
  · rw [plain]; exact h.2
  · rw [plain]
theorem encD_def {s : Sto} {p : DefA} (h : okP p) : encD s (defD p) = encP p := by
  unfold encD
  rw [pyd_le (pyd_plain s 20 (defD p) (plain_defD h)) (by omega), enc_defD]
  rfl
theorem sortD_defs {s : Sto} {ps : List DefA} (h : ∀ p ∈ ps, okP p) : canSort s (ps.map defD) = true ∧ sortD s (ps.map defD) = (sortP ps).map defD := by
  constructor
  · unfold canSort
    simp only [List.all_map, Bool.and_eq_true, Bool.or_eq_true, List.all_eq_true, Function.comp_apply]
    refine ⟨⟨fun x hx => ?_, fun x hx y hy => ?_⟩, .inl fun x hx => ?_⟩
    · rw [shp_plain (plain_defD (h x hx))]
      rfl
    · rw [encD_def (h x hx), encD_def (h y hy)]
      simp [PySem.W.alike, PySem.W.alikeAll, encP]
    · rw [encD_def (h x hx)]
      rfl
  · unfold sortD sortP
    refine (List.map_mergeSort fun a ha b hb => ?_).symm
    rw [leP, PySem.W.dataLe_eq, PySem.W.dataLe_eq]
    simp only [encD_def (h a ha), encD_def (h b hb)]
theorem sortD_strs {s : Sto} {ms : List Str} (h : ∀ x ∈ ms, strOk x = true) : canSort s (ms.map D.str) = true ∧ sortD s (ms.map D.str) = (sortS ms).map D.str := by
  constructor
  · unfold canSort
    simp only [List.all_map, Bool.and_eq_true, Bool.or_eq_true, List.all_eq_true, Function.comp_apply]
    refine ⟨⟨fun x hx => ?_, fun x hx y hy => ?_⟩, .inr fun x hx => ?_⟩
    · rw [shp_plain (by rw [plain]; exact h x hx)]
      rfl
    · rw [encD_str, encD_str]
      simp [PySem.W.alike]
    · rw [encD_str]
      rfl
  · unfold sortD sortS
    refine (List.map_mergeSort fun a _ b _ => ?_).symm
    rw [PySem.W.dataLe_eq]
    have := congrFun (congrFun (PySem.W.dataLe_str (fun x : Str => x)) a) b
    rw [PySem.W.dataLe_eq] at this
    simp only [encD_str, cond_false] at this ⊢
    rw [this]
    rfl
/-! ### Member(name, defines = .., wants = ..) -/
structure GoodM (nm : Str) (ps : List DefA) (ws : List Str) : Prop where
  nm : IsName nm
  defs : ∀ p ∈ ps, IsName p.1 ∧ p.2.1 ∈ kinds ∧ 0 ≤ p.2.2 ∧ p.2.2 ≤ 999999
  wants : ∀ w ∈ ws, IsName w
  nd : (ps.map (·.1) ++ ws).Nodup
  l1 : ps.length ≤ 6
  l2 : ws.length ≤ 6
def tMember (lname lkind lbody twice : MF) (cs : List Str) : SM := (sC (sE (mN lname (aC (mV 1) aN))) (sC (sF (iSq (mV 2)) (gT [(gN 6), (gN 7), (gN 8)]) (sC (sE (mN lname (aC (mV 6) aN))) (sC (sE (mN lkind (aC (mV 7) aN))) (sE (mN lbody (aC (mV 8) aN)))))) (sC (sF (iSq (mV 3)) (gN 4) (sE (mN lname (aC (mV 4) aN)))) (sC (sA 5 (mN twice (aC (m2 dAdd (mL (iSq (mV 2)) (gN 9) tY (m2 dIx (mV 9) (mC (.int 0))) [9]) (mN fList (aC (mV 3) aN))) aN))) (sC (sI (toB (m2 dNotN2 (mV 5) (mC .non))) sNo sN) (sC (sI (bOr (toB (m2 dGt (mN fLen (aC (mV 2) aN)) (mC (.int 6)))) (toB (m2 dGt (mN fLen (aC (mV 3) aN)) (mC (.int 6))))) sNo sN) (sC (sFldD cs "name" (mV 0) (mV 1)) (sC (sFldD cs "defines" (mV 0) (mN fTuple (aC (mN fSortA (aC (mV 2) aN)) aN))) (sFldD cs "wants" (mV 0) (mN fTuple (aC (mN fSortA (aC (mV 3) aN)) aN)))))))))))
/-- a list or a tuple of items that stays -/
def SeqOf (s : Sto) (d : D) (xs : List D) : Prop := d = .tup xs ∨ ∃ n, d = .ref n ∧ lstAt s n = some xs
end Z

set_option Elab.async false
set_option linter.all false
set_option maxRecDepth 100000
set_option maxHeartbeats 4000000
namespace Z
open PySem PySem.Spec PyProof.Rows L2 TL
open PySem.PyData (strOk)
theorem SeqOf.len {s : Sto} {d : D} {xs : List D} (h : SeqOf s d xs) {P : D → Sto → Prop} {E : Str → Str → D → Sto → Prop} : (fLen [d] s).wp P E = P (.int xs.length) s := by
  rcases h with rfl | ⟨n, rfl, h2⟩
  · rw [z_lenT]
  · rw [z_lenL, h2, lstP_some]
theorem SeqOf.list {s : Sto} {d : D} {xs : List D} (h : SeqOf s d xs) {P : D → Sto → Prop} {E : Str → Str → D → Sto → Prop} : (fList [d] s).wp P E = (xs.length ≤ sizeLine ∧ P (.ref s.length) (s ++ [.lst xs])) := by
  rcases h with rfl | ⟨n, rfl, h2⟩
  · rw [z_listT]
  · rw [z_listL, h2, lstP_some]
/-! ### comprehensions over what stands for something -/
section
variable {E : Str → Str → D → Sto → Prop} {e : Ev} {s s0 : Sto} {j : Stp} {g : GN} {N : Nat} {ks : List Nat} {xs : List D} {tt : EM Bool} {mm : EM D}
theorem lc_mapR {α : Type} (R : D → α → Prop) (k : α → D) {as : List α} (hR : AllR R xs as) (it : ItOk ks s0 j N xs) (hb : Bags s0 ks) (hl : as.length < sizeLine)
    (body : ∀ d a s, R d a → a ∈ as → Eff ks s0 s → Bags s ks → ∃ e1, g d e = some e1 ∧ (mm e1 s).wp fun y s2 => Eff ks s s2 ∧ y = k a) :
    (lcL j g tY mm s0.length N 0 e (s0 ++ [.lst []])).wp fun d s' => d = .ref s0.length ∧ Eff ks s0 s' ∧ s0.length < s'.length ∧ mlAt s' s0.length = some (as.map k) := by
  refine wp_ne (lc_all it hb (by rw [hR.1]; exact hl) (fun i d y => ∃ a, as[i]? = some a ∧ y = k a) fun i d s hx ef hbs => ?_) ?_
  · obtain ⟨a, ha, hr⟩ := hR.get hx
    obtain ⟨e1, h1, h2⟩ := body d a s hr (List.mem_of_getElem? ha) ef hbs
    exact ⟨e1, h1, wp_ne h2 fun y s2 ⟨h3, h4⟩ => ⟨h3, a, ha, h4⟩⟩
  · rintro d s' ⟨rfl, ef, hlt, ys, h1, h2, h3⟩
    refine ⟨rfl, ef, hlt, ?_⟩
    rw [h2]
    congr 1
    refine List.ext_getElem (by rw [List.length_map, h1, hR.1]) fun i hi hi2 => ?_
    obtain ⟨a, h4, h5⟩ := h3 i (xs[i]'(by omega)) ys[i] (List.getElem?_eq_getElem (by omega)) (List.getElem?_eq_getElem hi)
    rw [List.getElem_map, h5]
    congr 1
    exact ((List.getElem?_eq_some_iff.mp h4).2).symm
/-- with a test: what is kept stands for what is kept -/
theorem lc_filtR {α : Type} (R : D → α → Prop) (R2 : D → α → Prop) (p : α → Bool) {as : List α} (hR : AllR R xs as) (it : ItOk ks s0 j N xs) (hb : Bags s0 ks) (hl : as.length < sizeLine)
    (body : ∀ d a s, R d a → a ∈ as → Eff ks s0 s → Bags s ks → ∃ e1, g d e = some e1 ∧ (tt e1 s).wp fun q s1 => Eff ks s s1 ∧ q = p a ∧ (q = true → (mm e1 s1).wp fun y s2 => Eff ks s1 s2 ∧ R2 y a)) :
    (lcL j g tt mm s0.length N 0 e (s0 ++ [.lst []])).wp fun d s' => d = .ref s0.length ∧ Eff ks s0 s' ∧ s0.length < s'.length ∧ ∃ ys, mlAt s' s0.length = some ys ∧ AllR R2 ys (as.filter p) := by
  refine wp_ne (lc_gen it hb (by rw [hR.1]; exact hl) (fun i d o _ => ∃ a, as[i]? = some a ∧ (if p a then ∃ y, o = some y ∧ R2 y a else o = none)) (fun _ _ _ _ _ h _ _ => h) fun i d s hx ef hbs _ => ?_) ?_
  · obtain ⟨a, ha, hr⟩ := hR.get hx
    obtain ⟨e1, h1, h2⟩ := body d a s hr (List.mem_of_getElem? ha) ef hbs
    refine ⟨e1, h1, wp_ne h2 fun q s1 ⟨h3, h4, h5⟩ => ⟨h3, ?_⟩⟩
    subst h4
    cases hp : p a with
    | true =>
      rw [if_pos rfl]
      exact wp_ne (h5 hp) fun y s2 ⟨h6, h7⟩ => ⟨h6, a, ha, by rw [hp, if_pos rfl]; exact ⟨y, rfl, h7⟩⟩
    | false =>
      rw [if_neg Bool.false_ne_true]
      exact ⟨a, ha, by rw [hp, if_neg Bool.false_ne_true]⟩
  · rintro d s' ⟨rfl, ef, hlt, zs, hz, hm, hR2⟩
    refine ⟨rfl, ef, hlt, _, hm, ?_⟩
    have key : ∀ (as : List α) (zs : List (Option D)), zs.length = as.length → (∀ (i : Nat) (a : α) (o : Option D), as[i]? = some a → zs[i]? = some o → (if p a then ∃ y, o = some y ∧ R2 y a else o = none)) → AllR R2 (zs.filterMap id) (as.filter p) := by
      intro as
      induction as with
      | nil =>
        intro zs h1 _
        have : zs = [] := List.eq_nil_of_length_eq_zero h1
        subst this
        exact AllR.nil
      | cons a as ih =>
        intro zs h1 h2
        cases zs with
        | nil => cases h1
        | cons z zs =>
          have h3 := h2 0 a z rfl rfl
          have h4 := ih zs (by simpa using h1) fun i b o hb ho => h2 (i + 1) b o (by simpa using hb) (by simpa using ho)
          cases hp : p a with
          | true =>
            rw [hp, if_pos rfl] at h3
            obtain ⟨y, rfl, hy⟩ := h3
            rw [List.filter_cons_of_pos hp]
            exact (AllR.one hy).app h4
          | false =>
            rw [hp, if_neg Bool.false_ne_true] at h3
            subst h3
            rw [List.filter_cons_of_neg (by rw [hp]; exact Bool.false_ne_true)]
            exact h4
    refine key as zs (by rw [hz, hR.1]) fun i a o ha ho => ?_
    have hi : i < xs.length := by rw [hR.1]; exact (List.getElem?_eq_some_iff.mp ha).1
    obtain ⟨a', h1, h2⟩ := hR2 i (xs[i]) o (List.getElem?_eq_getElem hi) ho
    rw [ha] at h1
    cases h1
    exact h2
end
end Z

set_option Elab.async false
set_option linter.all false
set_option maxRecDepth 100000
set_option maxHeartbeats 4000000
namespace Z
open PySem PySem.Spec PyProof.Rows L2 TL
open PySem.PyData (strOk)
/-! ### Archive(name, *members) -/
structure GoodA (nm : Str) (ms : List MemA) : Prop where
  nm : IsName nm
  names : ∀ m ∈ ms, IsName m.name
  nd : (ms.map (·.name)).Nodup
  len : ms.length ≤ 8
def tArchive (lname twice : MF) (cs csM : List Str) : SM := (sC (sE (mN lname (aC (mV 1) aN))) (sC (sA 3 (mN twice (aC (mL (iSq (mV 2)) (gN 4) tY (mFld csM "name" (mV 4)) [4]) aN))) (sC (sI (toB (m2 dNotN2 (mV 3) (mC .non))) sNo sN) (sC (sI (toB (m2 dGt (mN fLen (aC (mV 2) aN)) (mC (.int 8)))) sNo sN) (sC (sFldD cs "name" (mV 0) (mV 1)) (sFldD cs "members" (mV 0) (mV 2)))))))
/-! ### archive + member -/
def tAdd (init : MF) (cs : List Str) : SM := (sR (mN (mkD "Archive" init) (aC (mFld cs "name" (mV 0)) (aS (mFld cs "members" (mV 0)) (aC (mV 1) aN)))))
end Z

set_option Elab.async false
set_option linter.all false
set_option maxRecDepth 100000
set_option maxHeartbeats 4000000
namespace Z
open PySem PySem.Spec PyProof.Rows L2 TL
open PySem.PyData (strOk)
theorem IsArc.its {s : Sto} {d : D} {a : ArcA} {itb : Itb} (h : IsArc s d a) (hi : itb.lookup ("Archive" : Str) = some ("members" : Str)) : ∃ ds, itsO itb s d = some (some ds) ∧ AllR (IsMem s) ds a.mems := by
  obtain ⟨n, ds, rfl, h, h2⟩ := h
  exact ⟨ds, itsO_ins h hi rfl, h2⟩
theorem IsSto.its {s : Sto} {d : D} {a : List ArcA} {itb : Itb} (h : IsSto s d a) (hi : itb.lookup ("Store" : Str) = some ("archives" : Str)) : ∃ ds, itsO itb s d = some (some ds) ∧ AllR (IsArc s) ds a := by
  obtain ⟨n, ds, rfl, h, h2⟩ := h
  exact ⟨ds, itsO_ins h hi rfl, h2⟩
/-! ### Store(*archives) -/
abbrev KeyA := Str × Int
def kP (p : DefA) : KeyA := (p.1, p.2.2)
def kM (m : MemA) : List KeyA := m.defs.map kP
def kA (a : ArcA) : List KeyA := a.mems.flatMap kM
def kS (as : List ArcA) : List KeyA := as.flatMap kA
def pairD (k : KeyA) : D := .tup [.str k.1, .int k.2]
structure GoodS (as : List ArcA) : Prop where
  names : ∀ a ∈ as, IsName a.name
  nd : (as.map (·.name)).Nodup
  ok : ∀ k ∈ kS as, strOk k.1 = true
  kd : (kS as).Nodup
  kl : (kS as).length ≤ 10000
  len : as.length ≤ 6
def tStore (twice : MF) (cs csA csM : List Str) (itb : Itb) : SM := (sC (sA 2 (mN twice (aC (mL (iSq (mV 1)) (gN 4) tY (mFld csA "name" (mV 4)) [4]) aN))) (sC (sI (toB (m2 dNotN2 (mV 2) (mC .non))) sNo sN) (sC (sA 3 (mN fLst aN)) (sC (sF (iSq (mV 1)) (gN 4) (sF (iOwn itb (mV 4)) (gN 5) (sF (iSq (mFld csM "defines" (mV 5))) (gT [(gN 6), (gN 7), (gN 8)]) (sC (sI (toB (m2 (dInB false) (mN fTup (aC (mV 6) (aC (mV 8) aN))) (mV 3))) sNo sN) (sE (mBM "list" (mtL lAppend) (mV 3) (aC (mN fTup (aC (mV 6) (aC (mV 8) aN))) aN))))))) (sC (sI (toB (m2 dGt (mN fLen (aC (mV 1) aN)) (mC (.int 6)))) sNo sN) (sFldD cs "archives" (mV 0) (mV 1)))))))
theorem take_snoc {α : Type} {l : List α} {i : Nat} {a : α} (h : l[i]? = some a) : l.take (i + 1) = l.take i ++ [a] := by
  rw [List.take_add_one, h]
  rfl
end Z

set_option Elab.async false
set_option linter.all false
set_option maxRecDepth 100000
set_option maxHeartbeats 4000000
namespace Z
open PySem PySem.Spec PyProof.Rows L2 TL
open PySem.PyData (strOk)
/-! ### in, [] -/
def tCont (cs csI : List Str) (f : Str) : SM := (sR (mAnd (mIsi "str" (mV 1)) (m2 (dInB false) (mV 1) (mL (iSq (mFld cs f (mV 0))) (gN 2) tY (mFld csI "name" (mV 2)) [2]))))
theorem mem_strs {x : Str} {ms : List Str} : D.str x ∈ ms.map D.str ↔ x ∈ ms := by
  rw [List.mem_map]
  constructor
  · rintro ⟨y, hy, e⟩
    cases e
    exact hy
  · exact fun h => ⟨x, h, rfl⟩
theorem z_inStr {P : D → Sto → Prop} {E : Str → Str → D → Sto → Prop} {s : Sto} {n : Nat} {x : Str} {ms : List Str} {neg : Bool} (hx : strOk x = true) (hl : lstAt s n = some (ms.map D.str)) (hm : ∀ y ∈ ms, strOk y = true) : (dInB neg (.str x) (.ref n) s).wp P E = P (.bl (neg ^^ decide (x ∈ ms))) s := by
  classical
  rw [z_inL (by rw [plain]; exact hx) hl (plains_strs hm)]
  have e : decide (D.str x ∈ ms.map D.str) = decide (x ∈ ms) := by
    by_cases h : x ∈ ms
    · rw [decide_eq_true h, decide_eq_true (mem_strs.mpr h)]
    · rw [decide_eq_false h, decide_eq_false fun q => h (mem_strs.mp q)]
  rw [e]
/-- archive[name] -/
def tGetA (tb : Tb) (cs csI : List Str) : SM := (sC (sI (toB (m2 (dInO true tb dNo2) (mV 1) (mV 0))) sNo sN) (sR (m2 dIx (mL (iSq (mFld cs "members" (mV 0))) (gN 2) (toB (m2 dEq (mFld csI "name" (mV 2)) (mV 1))) (mV 2) [2]) (mC (.int 0)))))
/-! ### store / archive: put in -/
def orA (as : List ArcA) (a : ArcA) : List ArcA := if a.name ∈ as.map (·.name) then as.map (fun o => if o.name = a.name then a else o) else as ++ [a]
def tOr (init : MF) (tb : Tb) (cs csA : List Str) : SM := (sC (sI (toB (m2 (dInO true tb dNo2) (mFld csA "name" (mV 1)) (mV 0))) (sR (mN (mkD "Store" init) (aS (mFld cs "archives" (mV 0)) (aC (mV 1) aN)))) sN) (sC (sA 2 (mL (iSq (mFld cs "archives" (mV 0))) (gN 3) tY (mIf (toB (m2 dEq (mFld csA "name" (mV 3)) (mFld csA "name" (mV 1)))) (mV 1) (mV 3)) [3])) (sR (mN (mkD "Store" init) (aS1 (mV 2))))))
/-- what Store(..) is known to do -/
def StoreOk (init : MF) : Prop := ∀ {s : Sto} {ds : List D} {as : List ArcA}, GoodS as → AllR (IsArc s) ds as → (mkD "Store" init ds s).wp fun d s' => IsSto s' d as ∧ Eff [] s s'
end Z

set_option Elab.async false
set_option linter.all false
set_option maxRecDepth 100000
set_option maxHeartbeats 4000000
namespace Z
open PySem PySem.Spec PyProof.Rows L2 TL
open PySem.PyData (strOk)
/-- a for whose items the invariant tells -/
theorem for_j {j : Stp} {g : GN} {body : SM} {Q : En} {N : Nat} {xs : List D} {e : Ev} {s : Sto} (hN : N = xs.length) (I : Nat → Ev → Sto → Prop) (hI : ∀ i e s, I i e s → j i s = some xs[i]?) (st : ∀ i d e s, xs[i]? = some d → I i e s → ∃ e1, g d e = some e1 ∧ (body e1 s).wp { nx := I (i + 1), ct := I (i + 1), bk := Q.nx, rt := Q.rt, ex := Q.ex })
    (h0 : I 0 e s) (fin : ∀ e s, I xs.length e s → Q.nx e s) : (forL j g body N 0 e s).wp Q := by
  refine forL_wp (N := N) I (fun i e s hi h => ⟨fun hN2 => ?_, fun hN2 => ?_⟩) N 0 e s (Nat.zero_add _) h0
  · subst hN2
    exact ⟨by rw [hI _ _ _ h, List.getElem?_eq_none (by omega)], fin _ _ (by rw [← hN]; exact h)⟩
  · have hx : xs[i]? = some (xs[i]'(by omega)) := List.getElem?_eq_getElem _
    obtain ⟨e1, h1, h2⟩ := st i _ e s hx h
    exact ⟨_, e1, by rw [hI _ _ _ h, hx], h1, h2⟩
theorem jlst_at {s : Sto} {p i : Nat} {xs : List D} (h : lstAt s p = some xs) : jLst p i s = some xs[i]? := by rw [jLst_eq, h]; rfl
theorem AllR.of_map {α : Type} {f : α → D} {as : List α} : AllR (fun d a => d = f a) (as.map f) as := ⟨List.length_map _, fun i d a h1 h2 => by
  rw [List.getElem?_map, h2] at h1
  exact (Option.some.inj h1).symm⟩
theorem AllR.eq_map {α : Type} {f : α → D} {ds : List D} {as : List α} (h : AllR (fun d a => d = f a) ds as) : ds = as.map f := by
  refine List.ext_getElem (by simp [h.1]) fun i h1 h2 => ?_
  rw [List.getElem_map]
  exact h.2 i _ _ (List.getElem?_eq_getElem h1) (List.getElem?_eq_getElem (by simpa using h2))
theorem setAt_some {s : Sto} {n : Nat} {xs : List D} (h : s[n]? = some (.set xs)) : setAt s n = some xs := by unfold setAt; rw [h]
theorem setAt_get {s : Sto} {n : Nat} {xs : List D} (h : setAt s n = some xs) : s[n]? = some (.set xs) := by
  unfold setAt at h
  split at h
  · rename_i ys e
    cases h
    exact e
  · cases h
theorem Eff.st {ks : List Nat} {s t : Sto} (h : Eff ks s t) {i : Nat} {xs : List D} (e : setAt s i = some xs) (hi : i ∉ ks) : setAt t i = some xs := setAt_some (h.get (setAt_get e) hi)
/-! ### live members -/
def dnames (m : MemA) : List Str := m.defs.map (·.1)
def isLive (seen : List Str) (m : MemA) : Bool := (dnames m).any fun x => !decide (x ∈ seen)
def liveA (ms : List MemA) : List MemA := (List.range ms.length).filterMap fun i => (ms[i]?).bind fun m => if isLive ((ms.take i).flatMap dnames) m then some m else none
def tLive (csA csM csN : List Str) : SM := (sC (sA 1 (mN fLst aN)) (sC (sA 2 mSet0) (sC (sF (iSq (mFld csA "members" (mV 0))) (gN 3) (sC (sA 4 (mL (iSq (mFld csM "defines" (mV 3))) (gN 6) (toB (m2 (dInSt true (dInB true)) (m2 dIx (mV 6) (mC (.int 0))) (mV 2))) (m2 dIx (mV 6) (mC (.int 0))) [6])) (sC (sF (iSq (mV 4)) (gN 5) (sE (mSAdd (mV 2) (aC (mV 5) aN)))) (sI (toB (m2 dNe (mV 4) (mN fLst aN))) (sE (mBM "list" (mtL lAppend) (mV 1) (aC (mFld csN "name" (mV 3)) aN))) sN)))) (sR (mV 1)))))
/-- the set's keys are the texts -/
def SetIs (s : Sto) (l : Nat) (seen : List Str) : Prop := ∃ xs, setAt s l = some xs ∧ xs.length ≤ seen.length ∧ ∀ x : Str, inKs xs (.inr x) = decide (x ∈ seen)
theorem SetIs.mono {s t : Sto} {l : Nat} {seen seen' : List Str} (h : SetIs s l seen) (ht : t[l]? = s[l]?) (h1 : seen.length ≤ seen'.length) (h2 : ∀ x, x ∈ seen ↔ x ∈ seen') : SetIs t l seen' := by
  obtain ⟨xs, h3, h4, h5⟩ := h
  refine ⟨xs, setAt_some (by rw [ht]; exact setAt_get h3), by omega, fun x => ?_⟩
  rw [h5]
  exact decide_eq_decide.mpr (h2 x)
end Z

set_option Elab.async false
set_option linter.all false
set_option maxRecDepth 100000
set_option maxHeartbeats 4000000
namespace Z
open PySem PySem.Spec PyProof.Rows L2 TL
open PySem.PyData (strOk)
/-! ### stores that are free -/
def dnA (a : ArcA) : List Str := a.mems.flatMap dnames
def lwA (a : ArcA) : List Str := (liveA a.mems).flatMap (·.wants)
structure OkA (a : ArcA) : Prop where
  nm : IsName a.name
  mem : ∀ m ∈ a.mems, IsName m.name
  nd : (a.mems.map (·.name)).Nodup
  defs : ∀ m ∈ a.mems, ∀ p ∈ m.defs, strOk p.1 = true
  wants : ∀ m ∈ a.mems, ∀ w ∈ m.wants, strOk w = true
  l1 : (a.mems.flatMap dnames).length ≤ 2000
  l2 : a.mems.length ≤ 1000
  l3 : ((liveA a.mems).flatMap (·.wants)).length ≤ 2000
def tDefN (itb : Itb) (csM : List Str) : SM := (sR (mL2 (iOwn itb (mV 0)) (gN 1) tY (iSq (mFld csM "defines" (mV 1))) (gN 2) tY (m2 dIx (mV 2) (mC (.int 0))) [1, 2] [2]))
def wantsOf (ms : List MemA) (d : D) : List D := match d with
  | .str x => ((ms.find? fun m => decide (m.name = x)).map fun m => m.wants.map D.str).getD []
  | _ => []
def tLiveW (tbL tbG : Tb) (csM : List Str) : SM := (sR (mL2 (iSq (mMeth tbL "live" (mV 0) aN)) (gN 1) tY (iSq (mFld csM "wants" (m2 (dIxO tbG dNo2) (mV 0) (mV 1)))) (gN 2) tY (mV 2) [1, 2] [2]))
/-- what archive.live(), archive[name] are known to do -/
def LiveOk (F : MF) : Prop := ∀ {s : Sto} {d : D} {a : ArcA}, IsArc s d a → OkA a → (F [d] s).wp fun d' s' => Eff [] s s' ∧ ∃ n, d' = .ref n ∧ mlAt s' n = some ((liveA a.mems).map fun m => .str m.name)
def GetOk (F : MF) : Prop := ∀ {s : Sto} {d : D} {a : ArcA} {m : MemA}, IsArc s d a → OkA a → m ∈ a.mems → (F [d, .str m.name] s).wp fun d' s' => IsMem s' d' m ∧ Eff [] s s'
/-! are_free, is_free -/
def freeB (a b : ArcA) : Bool := !((dnA a ++ lwA a).any fun x => decide (x ∈ dnA b)) && !((lwA b).any fun x => decide (x ∈ dnA a))
def NamesOfOk (F : MF) (k : ArcA → List Str) : Prop := ∀ {s : Sto} {d : D} {a : ArcA}, IsArc s d a → OkA a → (F [d] s).wp fun d' s' => Eff [] s s' ∧ ∃ n, d' = .ref n ∧ mlAt s' n = some ((k a).map D.str)
def tAreFree (dn lw : MF) : SM := (sC (sG (gT [(gN 2), (gN 3)]) (mN fTup (aC (mN dn (aC (mV 0) aN)) (aC (mN dn (aC (mV 1) aN)) aN)))) (sC (sI (toT (mN (fAllAny false) (aC (mL (iSq (m2 dAdd (mV 2) (mN lw (aC (mV 0) aN)))) (gN 4) tY (m2 (dInB false) (mV 4) (mV 3)) [4]) aN))) (sR (mC (.bl false))) sN) (sR (mNot (mN (fAllAny false) (aC (mL (iSq (mN lw (aC (mV 1) aN))) (gN 4) tY (m2 (dInB false) (mV 4) (mV 2)) [4]) aN))))))
def ltN (a b : ArcA) : Bool := decide (a.name.cps.toList < b.name.cps.toList)
def freeRow (as : List ArcA) (a : ArcA) : List Bool := (as.filter (ltN a)).map (freeB a)
def isFreeB (as : List ArcA) : Bool := (as.flatMap (freeRow as)).all id
def tIsFree (itb : Itb) (cs : List Str) (af : MF) : SM := (sR (mN (fAllAny true) (aC (mL2 (iOwn itb (mV 0)) (gN 1) tY (iOwn itb (mV 0)) (gN 2) (toB (m2 dLtS (mFld cs "name" (mV 1)) (mFld cs "name" (mV 2)))) (mN af (aC (mV 1) (aC (mV 2) aN))) [1, 2] [2]) aN)))
def AreFreeOk (F : MF) : Prop := ∀ {s : Sto} {d1 d2 : D} {a b : ArcA}, IsArc s d1 a → IsArc s d2 b → OkA a → OkA b → (F [d1, d2] s).wp fun d' s' => Eff [] s s' ∧ d' = .bl (freeB a b)
end Z

set_option Elab.async false
set_option linter.all false
set_option maxRecDepth 100000
set_option maxHeartbeats 4000000
namespace Z
open PySem PySem.Spec PyProof.Rows L2 TL
open PySem.PyData (strOk)
/-! ### more of lists, dicts -/
section
variable {P : D → Sto → Prop} {E : Str → Str → D → Sto → Prop} {s : Sto} {n : Nat} {xs : List D}
theorem sq1 {i n : Nat} (hi : i < n) : seqIndex? (i : Int) n = some i := by
  unfold seqIndex?
  have h0 : ¬ ((i : Int) < 0) := by omega
  simp [h0, hi]
theorem lp1 {xs : List D} {i : Nat} {x : D} (hx : xs[i]? = some x) (hl : (i : Int) < 2 ^ 63) : lPopAt xs [.int i] = some (xs.eraseIdx i, x) := by
  have hi := (List.getElem?_eq_some_iff.mp hx).1
  unfold lPopAt
  dsimp only
  rw [if_pos ⟨Int.le_trans (by decide) (Int.natCast_nonneg i), hl⟩, sq1 hi, Option.bind_some, hx, Option.map_some]
@[simp ↓] theorem z_fIntB {q : Bool} : (fInt [.bl q] s).wp P E = P (.int (if q then 1 else 0)) s := by
  cases q <;> rfl
end
/-! ### dicts -/
theorem dctAt_dict {s : Sto} {n : Nat} {kvs : List (D × D)} (h : s[n]? = some (.dict false kvs)) : dctAt s n = some kvs := by unfold dctAt; rw [h]
/-- the value of a name: names differ -/
theorem getK_at {kvs : List (D × D)} {i : Nat} {x : Str} {v : D} {ns : List Str} (h : kvs.map (·.1) = ns.map D.str) (nd : ns.Nodup) (hi : kvs[i]? = some (.str x, v)) : getK kvs (.inr x) = some v := by
  induction kvs generalizing ns i with
  | nil => simp at hi
  | cons p kvs ih =>
    cases ns with
    | nil => simp at h
    | cons y ns =>
      rw [List.map_cons, List.map_cons, List.cons.injEq] at h
      rw [List.nodup_cons] at nd
      unfold getK at ih ⊢
      cases i with
      | zero =>
        have : p = (.str x, v) := by simpa using hi
        subst this
        rw [List.find?_cons_of_pos (by simp [keyD])]
        rfl
      | succ i =>
        have hi2 : kvs[i]? = some (.str x, v) := by simpa using hi
        have hx : x ∈ ns := by
          have : D.str x ∈ ns.map D.str := by
            rw [← h.2]
            exact List.mem_map.mpr ⟨_, List.mem_of_getElem? hi2, rfl⟩
          exact mem_strs.mp this
        rw [List.find?_cons_of_neg (by
          rw [h.1]
          simp only [keyD, Option.some.injEq, Sum.inr.injEq, decide_eq_true_eq]
          rintro rfl
          exact nd.1 hx)]
        exact ih h.2 nd.2 hi2
end Z

set_option Elab.async false
set_option linter.all false
set_option maxRecDepth 100000
set_option maxHeartbeats 4000000
namespace Z
open PySem PySem.Spec PyProof.Rows L2
/-! ### a walk over what may be a text, a list, a tuple or an own instance -/
def iAny (tb : Itb) (m : EM D) : EM (Nat × Stp) := fun e s => (m e s).bind fun d s1 => match d with
  | .str x => .ok (x.cps.size, jStr x) s1
  | d => match itsO tb s1 d with
    | some (some xs) => .ok (xs.length, jTup xs) s1
    | some none => .no
    | none => walkD s1 d
section
variable {P : D → Sto → Prop} {PI : Nat × Stp → Sto → Prop} {E : Str → Str → D → Sto → Prop} {e : Ev} {s : Sto} {a : EM D} {itb : Itb}
def anyP (itb : Itb) (s : Sto) (d : D) (P : Nat × Stp → Prop) : Prop := match d with
  | .str x => P (x.cps.size, jStr x)
  | d => walkP (itsO itb s d) s d P
@[simp ↓] theorem z_iAny : (iAny itb a e s).wp PI E = (a e s).wp (fun d s1 => anyP itb s1 d fun j => PI j s1) E := by
  unfold iAny
  rw [z_bind]
  congr 1
  funext d s1
  unfold anyP
  split
  · rfl
  · generalize itsO itb s1 _ = o
    unfold walkP
    cases o with
    | some o =>
      cases o <;> rfl
    | none =>
      unfold walkD
      cases d with
      | ref n =>
        dsimp only
        unfold lstAt
        cases s1[n]? with
        | none => rfl
        | some o => cases o <;> rfl
      | _ => rfl
@[simp ↓] theorem anyP_str {x : Str} {PJ : Nat × Stp → Prop} : anyP itb s (.str x) PJ = PJ (x.cps.size, jStr x) := nr rfl
@[simp ↓] theorem anyP_tup {xs : List D} {PJ : Nat × Stp → Prop} : anyP itb s (.tup xs) PJ = PJ (xs.length, jTup xs) := nr rfl
@[simp ↓] theorem anyP_ref {n : Nat} {PJ : Nat × Stp → Prop} : anyP itb s (.ref n) PJ = walkP (itsO itb s (.ref n)) s (.ref n) PJ := nr rfl
end
variable [Row]
section
variable {X : Cx} {W : WX} {k : Nat} {tb : Itb} {tg e : Expr} {m : EM D}
theorem own_start (T : ITab X.prog X.w X.K X.mg X.base k tb) (hr : Rm k X.A) {pins : List (Addr × Obj)} {s1 : Shared} {σ : L2.St} {H1 : Hp} {ρ1 : Nat → Addr} {st1 : Sto} {d1 : D} {v : V} {u : Value} {R : It → Hp → Prop} {W' : WX} (I1 : Inv X pins σ H1 s1) (sr1 : SR X.K X.mg ρ1 st1 H1) (vr1 : VR X.K ρ1 st1.length H1 d1 v) (r1 : RelV v u)
    (po1 : Po X.K X.mg (RI X.K X.mg) W' σ ρ1 st1.length H1 (match itsO tb st1 d1 with | some (some xs) => .ok (xs.length, jTup xs) st1 | some none => .no | none => walkD st1 d1) R) : wpAny (model X.prog X.w) X.A (pyIter u) (PIE X pins σ tg R) X.xe s1 := by
  split at po1
  · rename_i xs hx
    obtain ⟨n, c, fs, f, rfl, hs, hf, hl⟩ := itsO_some hx
    rw [VR] at vr1
    obtain ⟨hn, rfl⟩ := vr1
    obtain rfl : u = Value.ref (ρ1 n) := r1
    obtain ⟨C, dx, vs, g1, g2, g3⟩ := sr1.ob n _ hs
    obtain ⟨C', g, k1, k2, k3⟩ := T c f hf
    rw [g1] at k1
    cases k1
    obtain ⟨t, ht, vt⟩ := g3.lookup hl
    rw [VR] at vt
    obtain ⟨a, zs, rfl, sq, rr⟩ := vt
    obtain ⟨ox, od, J, _⟩ := inst_look I1 g2
    obtain ⟨m0, hFr⟩ := I1.fr
    refine PySem.W.owit_iter hFr I1.ok.mod.kin J k2.at_ k2.fn (wpAny_call (codeAny_mono (k3 X.A X.stack s1 H1 (ρ1 n) dx a vs zs hr I1.env0 g2 ht sq) fun r s2 ⟨it, e2, ce, hit, hsz⟩ => ?_))
    subst e2
    obtain ⟨v2, H2, I2, rv, eH⟩ := I1.after ce
    subst eH
    show PySem.W.OwitIt _ _ _ _ _ _
    unfold PySem.W.OwitIt
    refine wpAny_specialOf hit.typeIs PySem.F.slot_tuple_iterator_next.lookup ?_
    refine ⟨it, [it], _, _, H2, rfl, I2, turn_tuple a it, hit, fun b hb => ?_, po1 ρ1 H2 _ Ext.refl sr1 (ri_tup sq rr)⟩
    have e : b = it := by simpa using hb
    subst e
    exact I1.fpOk hsz (I1.hok.fresh hsz)
  · exact po1.elim
  · exact walk_start I1 sr1 vr1 r1 po1
theorem ji_any (T : ITab X.prog X.w X.K X.mg X.base k tb) (hr : Rm k X.A) (he : JE X W e m) : JI X W tg e (iAny tb m) := by
  refine ⟨fun pins s σ H R I ⟨ρ, env, st, sr, er, po⟩ => ?_⟩
  refine thn (he.run pins s σ H _ I ⟨ρ, env, st, sr, er, Po.bind po⟩) fun u s1 ⟨v, H1, I1, r1, ρ1, st1, d1, e1, sr1, vr1, po1⟩ => ?_
  cases d1 with
  | str x =>
    obtain rfl : v = .str x := vr1
    obtain ⟨t, rfl⟩ := r1
    have q := po1 ρ1 H1 _ Ext.refl sr1 ri_str
    cases ha : x.cps.all (· < 128)
    · exact wpAny_pyIter_wide ha (pi_one (tk := s1.toks) I1 _ (turn_str _ x t "str_iterator" (.inr rfl)) ⟨_, Heap.get?_push_size _ rfl, rfl, rfl⟩ q)
    · exact wpAny_pyIter_ascii ha (pi_one (tk := s1.toks) I1 _ (turn_str _ x t "str_ascii_iterator" (.inl rfl)) ⟨_, Heap.get?_push_size _ rfl, rfl, rfl⟩ q)
  | _ => exact own_start T hr I1 sr1 vr1 r1 po1
end
end Z

set_option Elab.async false
set_option linter.all false
set_option maxRecDepth 100000
set_option maxHeartbeats 4000000
namespace Z
open PySem PySem.Spec PyProof.Rows L2
/-- a statement that walks a dict: it is locked meanwhile, if it is not so yet -/
def sLkA (m : EM D) (b : SM) : SM := fun e s => match m e s with
  | .ok (.ref n) _ => match s[n]? with
    | some (.lck false _) => b e s
    | _ => sLk m b e s
  | _ => .no
section
variable {Q : En} {e : Ev} {s : Sto} {i n : Nat} {B : SM} {kvs : List (D × D)}
end
variable [Row]
section
variable {X : Cx} {W : WX} {st : Stmt} {m : EM D} {b : SM}
end
end Z

set_option Elab.async false
set_option linter.all false
set_option maxRecDepth 100000
set_option maxHeartbeats 4000000
namespace Z
open PySem PySem.Spec PySem.Calls PyProof.Rows L2
open PySem.PyData (strOk)
variable [Row]
/-! ### sorted(a set of texts) -/
section
omit [Row]
variable {prog : Program} {w : World} {A : Around} {E : Value → Shared → Prop} {s : Shared}
open PySem.W in
/-- sorted(x): what collects x tells the values and what they stand for -/
theorem sorted_col {β : Type} {enc : β → PyData} {R : Value → β → Prop} {x : Value} {Q : Value → Shared → Prop} {C : List Value → Shared → Prop} (hc : wpAny (model prog w) A.in1 (collect x) C E s)
    (hC : ∀ vs s1, C vs s1 → ∃ bs : List β, EachIs R vs bs ∧ EachIs (fun v b => ∃ q, Reads s1.heap v (enc b) q) vs bs ∧ AllAlike (bs.map enc) ∧ Sortable (bs.map enc) ∧ bs.length ≤ sizeLine ∧ (∀ b, b ∈ bs → A.units + 2 + (enc b).depth < cLine) ∧
      ∀ (out : List Value) (a : Addr) (h' : Heap) (ep : Nat), out.length = bs.length → EachIs R out (bs.mergeSort (dataLe false enc)) → (∀ b o, s1.heap.get? b = some o → h'.get? b = some o) → s1.heap.objs.size ≤ a → h'.get? a = some (seqObj "list" out.toArray ep) → Q (.ref a) { s1 with heap := h' }) :
    wpAny (model prog w) A (call (.builtin "sorted") [x]) Q E s := by
  refine call_function_entry kind_sorted plain_sorted entry_sorted (args_sorted1 _) ?_
  unfold Builtin.«sorted»
  refine wpAny_bind (m := checkCount "sorted" 1 1 _) (wpAny_pure (wpAny_bind (wpAny_mono hc (fun vs s1 hp => ?_) fun _ _ z => z)))
  obtain ⟨bs, e, er, hal, hk, hL, hu, fin⟩ := hC vs s1 hp
  have hl := e.length
  have kp : ∀ b o, s1.heap.get? b = some o → (s1.heap.push { cls := .type "list", data := .seq vs.toArray }).get? b = some o := fun b o q => Heap.get?_push_of_some _ q
  refine wpAny_bind (wpAny_newList ?_ (by rw [hl]; exact hL))
  have er2 : EachIs (fun v b => ∃ q, Reads (sortingHeap (s1.heap.push { cls := .type "list", data := .seq vs.toArray }) s1.heap.objs.size vs) v (enc b) q) vs bs := er.mono fun _ _ ⟨q, r⟩ => ⟨q, PyProof.Rows.Reads.keeps (fun b o z => sortingHeap_old (Nat.ne_of_lt (Heap.lt_size z)) (kp b o z)) r⟩
  have ho : (s1.heap.push ({ cls := .type "list", data := .seq vs.toArray } : Obj)).get? s1.heap.objs.size = some (seqObj "list" vs.toArray 0) := Heap.get?_push_size _ rfl
  refine wpAny_bind (wpAny_holding (wpAny_call_entry slot_list_sort ⟨_, ho, rfl⟩ entry_list_sort (list_sort_vals (κ := dataKind (sortingHeap (s1.heap.push { cls := .type "list", data := .seq vs.toArray }) s1.heap.objs.size vs) (bs.map enc))
    (s := { s1 with heap := s1.heap.push { cls := .type "list", data := .seq vs.toArray } }) ho
    (SortsAt.data (s := { s1 with heap := sortingHeap (s1.heap.push { cls := .type "list", data := .seq vs.toArray }) s1.heap.objs.size vs }) (each_map (R := fun v d => ∃ q, Reads (sortingHeap (s1.heap.push { cls := .type "list", data := .seq vs.toArray }) s1.heap.objs.size vs) v d q) enc er2) hal hk (bound_map hu)) (by rw [hl]; exact hL) ⟨.none, rfl, ?_⟩) (args_list_sort _)))
  refine wpAny_pure ⟨_, rfl, ?_⟩
  obtain ⟨ep, hat⟩ := sortedHeap_at (out := (sortVals (dataKind (sortingHeap (s1.heap.push { cls := .type "list", data := .seq vs.toArray }) s1.heap.objs.size vs) (bs.map enc)) false vs vs).toArray) ho
  refine fin _ s1.heap.objs.size _ ep (by rw [sortVals_length false rfl]; exact hl) (sortVals_data (h' := sortingHeap (s1.heap.push { cls := .type "list", data := .seq vs.toArray }) s1.heap.objs.size vs) (R := R) (enc := enc) false e er2 hal) (fun b o q => ?_) (Nat.le_refl _) hat
  have lt : b < s1.heap.objs.size := Heap.lt_size q
  exact (sortedHeap_old (Nat.ne_of_lt lt) (by rw [size_push']; exact Nat.lt_succ_of_lt lt)).trans (kp b o q)
end
section
variable {X : Cx} {W : WX}
def fSortZ (B : MF) : MF := fun ds s => match ds with
  | [.ref n] => match setAt s n with
    | some xs => match xs.mapM strD with
      | some zs => if zs.all strOk = true then .ok (.ref s.length) (s ++ [.lst ((sortS zs).map D.str)]) else .no
      | none => .no
    | none => B ds s
  | _ => B ds s
omit [Row] in
theorem keysD_strs : ∀ {xs : List D} {zs : List Str} {ks : List Key}, xs.mapM strD = some zs → keysD xs = some ks → ks = zs.map Sum.inr
  | [], zs, ks, h1, h2 => by cases h1; cases h2; rfl
  | x :: xs, zs, ks, h1, h2 => by
    rw [List.mapM_cons] at h1
    obtain ⟨z, q1, h1⟩ := Option.bind_eq_some_iff.mp h1
    obtain ⟨zs1, q2, h1⟩ := Option.bind_eq_some_iff.mp h1
    cases h1
    unfold keysD at h2
    split at h2
    · rename_i k js e1 e2
      cases h2
      cases x <;> first | (cases q1; done) | skip
      cases q1
      cases e1
      rw [keysD_strs q2 e2]
      rfl
    · cases h2
omit [Row] in
theorem sortS_perm' (zs : List Str) : (sortS zs).Perm zs := List.mergeSort_perm _ _
omit [Row] in
theorem sortS_uniq {xs ys : List Str} (p : xs.Perm ys) : sortS xs = sortS ys := by
  refine ((sortS_perm' xs).trans (p.trans (sortS_perm' ys).symm)).eq_of_pairwise (le := fun a b => leS a b = true) (fun a b _ _ h1 h2 => ?_) (List.pairwise_mergeSort leS_trans leS_total _) (List.pairwise_mergeSort leS_trans leS_total _)
  unfold leS at h1 h2
  exact TL.ext_tl (List.le_antisymm (of_decide_eq_true h1) (of_decide_eq_true h2))
omit [Row] in
theorem dataLe_strs (x y : Str) : PySem.W.dataLe false PyData.str x y = leS x y := by
  have := congrFun (congrFun (PySem.W.dataLe_str (fun x : Str => x)) x) y
  rw [PySem.W.dataLe_eq] at this ⊢
  simp only [cond_false] at this ⊢
  rw [this]
  rfl
omit [Row] in
theorem each_of {R : Value → Str → Prop} : ∀ {vs : List Value} {zs : List Str}, vs.length = zs.length → (∀ (i : Nat) (v : Value), vs[i]? = some v → ∃ z, zs[i]? = some z ∧ R v z) → PySem.W.EachIs R vs zs
  | [], [], _, _ => .nil
  | [], _ :: _, h, _ => by cases h
  | _ :: _, [], h, _ => by cases h
  | v :: vs, z :: zs, h, hr => by
    obtain ⟨z', e, r⟩ := hr 0 v rfl
    cases e
    exact .cons r (each_of (by simpa using h) fun i u hu => hr (i + 1) u hu)
omit [Row] in
theorem vals_strs : ∀ {out : List Value} {zs : List Str}, PySem.W.EachIs (fun v z => ∃ t, v = Value.str z t) out zs → Vals (zs.map V.str) out
  | _, _, .nil => .nil
  | _, _, .cons ⟨t, e⟩ r => .cons ⟨t, e⟩ (vals_strs r)
theorem calld_sortZ {B : MF} (hX : IsRow X) (hc : X.calm = true) (hu : X.A.units + 66 < cLine) (hB : CallD X W (.builtin "sorted") B) : CallD X W (.builtin "sorted") (fSortZ B) := by
  intro pins s σ H ρ st ds vs us Q I sr vr r po
  unfold fSortZ at po
  split at po
  · rename_i n
    split at po
    · rename_i xs hx
      split at po
      · rename_i zs hz
        obtain ⟨hok, po⟩ := Po.ite po
        obtain ⟨T, N, g, hN, ks, k1, k2, k3⟩ := set_of hX sr hx
        have e1 := keysD_strs hz k1
        obtain ⟨v, rfl, rv⟩ := vr.one
        rw [VR] at rv
        obtain ⟨_, rfl⟩ := rv
        rw [Vals.ref1 r]
        refine sorted_col (β := Str) (enc := PyData.str) (R := fun v z => ∃ t, v = Value.str z t) (zcollect (setH_at I g) (I.ok.hd hc) fun s1 out js h1 h0 h2 h3 h4 h5 h6 h7 h8 => ?_) fun vs s1 h => h
        obtain ⟨ys, rfl⟩ : ∃ ys : List Str, js = ys.map Sum.inr := by
          have all : ∀ j ∈ js, ∃ y : Str, j = Sum.inr y := fun j hj => by
            have := (k3 j).mp ((h7 j).mp hj)
            rw [e1] at this
            obtain ⟨y, _, rfl⟩ := List.mem_map.mp this
            exact ⟨y, rfl⟩
          clear h5 h6 h7 h8
          induction js with
          | nil => exact ⟨[], rfl⟩
          | cons j js ih =>
            obtain ⟨y, rfl⟩ := all j List.mem_cons_self
            obtain ⟨ys, rfl⟩ := ih fun j hj => all j (List.mem_cons_of_mem _ hj)
            exact ⟨y :: ys, rfl⟩
        have nd1 : ys.Nodup := (List.pairwise_map.mp h6).imp fun h e => h (by rw [e])
        have nd2 : zs.Nodup := by
          rw [e1] at k2
          exact (List.pairwise_map.mp k2).imp fun h e => h (by rw [e])
        have pm : ys.Perm zs := (List.perm_ext_iff_of_nodup nd1 nd2).mpr fun y => by
          have a := h7 (Sum.inr y)
          have b := k3 (Sum.inr y)
          rw [← a, e1] at b
          simpa using b
        have hlen : out.length = ys.length := by rw [h4, ← h5, List.length_map]
        have ea : PySem.W.EachIs (fun v z => ∃ t, v = Value.str z t) out ys := each_of hlen fun i v hv => by
          obtain ⟨k, q1, q2⟩ := h8 i v hv
          rw [List.getElem?_map] at q1
          obtain ⟨y, q3, rfl⟩ := Option.map_eq_some_iff.mp q1
          rcases keyIs_shape q2 with ⟨_, _, q, _⟩ | ⟨y', t, q, q'⟩
          · cases q
          · cases q
            exact ⟨y, q3, t, q'⟩
        have okz : ∀ y ∈ ys, strOk y = true := fun y hy => List.all_eq_true.mp hok y (pm.mem_iff.mp hy)
        have few : ys.length < 4096 := by
          have := (setH_at I g)
          obtain ⟨_, D, _, _, _, _, _, b⟩ := this
          have hb := b.few
          have hn := b.num
          rw [← hlen, h4, ← hn]
          exact Nat.lt_of_lt_of_le hb (by decide)
        refine ⟨ys, ea, ?_, ?_, ?_, ?_, ?_, ?_⟩
        · refine each_of hlen fun i v hv => ?_
          obtain ⟨k, q1, q2⟩ := h8 i v hv
          rw [List.getElem?_map] at q1
          obtain ⟨y, q3, rfl⟩ := Option.map_eq_some_iff.mp q1
          rcases keyIs_shape q2 with ⟨_, _, q, _⟩ | ⟨y', t, q, q'⟩
          · cases q
          · cases q
            subst q'
            exact ⟨y, q3, _, PySem.Reads.str _ _⟩
        · intro d hd d' hd'
          obtain ⟨y, _, rfl⟩ := List.mem_map.mp hd
          obtain ⟨y', _, rfl⟩ := List.mem_map.mp hd'
          simp [PySem.W.alike]
        · refine .inr fun d hd => ?_
          obtain ⟨y, _, rfl⟩ := List.mem_map.mp hd
          exact ⟨(fun h => nomatch h), fun l h => nomatch h⟩
        · exact Nat.le_trans (Nat.le_of_lt few) (by decide)
        · intro y hy
          have : (PyData.str y).depth = 0 := by rw [PyData.depth]
          omega
        · intro o2 a2 h' ep ho2 eo kp ha he
          have es : ys.mergeSort (PySem.W.dataLe false PyData.str) = sortS zs := by
            have : (PySem.W.dataLe false PyData.str) = leS := funext fun x => funext fun y => dataLe_strs x y
            rw [this]
            exact sortS_uniq pm
          rw [es] at eo
          have hv := vals_strs eo
          have hle : s.heap.objs.size ≤ a2 := Nat.le_trans h0 ha
          have hn : H a2 = none := I.hok.fresh hle
          have kall : ∀ b o, s.heap.get? b = some o → h'.get? b = some o := fun b o z => kp b o (h1 b o z)
          have hl2 : ((sortS zs).map V.str).length ≤ sizeLine := by
            rw [List.length_map, (sortS_perm' zs).length_eq, ← pm.length_eq]
            exact Nat.le_trans (Nat.le_of_lt few) (by decide)
          have J : Inv X pins σ (upd H a2 (.lst ((sortS zs).map V.str))) { s with heap := h', gens := s1.gens, drawn := s1.drawn, toks := s1.toks } :=
            I.call (ch := []) (Un.laid kall hle hn) (I.hok.laid kall hle ⟨hl2, o2, ep, hv, he⟩) (by rw [h2]; exact I.bare) (fun _ z => nomatch z)
          have e : ({ s1 with heap := h' } : Shared) = { s with heap := h', gens := s1.gens, drawn := s1.drawn, toks := s1.toks } := by
            rw [← h3]
          rw [e]
          have rs : VRs X.K ρ st.length H ((sortS zs).map D.str) ((sortS zs).map V.str) := by
            generalize sortS zs = l
            induction l with
            | nil => exact VRs.nil
            | cons y l ih => exact VRs.cons (by rw [VR]) ih
          obtain ⟨x1, sr1, v1⟩ := new_lst sr hn rs
          exact ⟨.ref a2, _, J, rfl, po _ _ _ x1 sr1 v1⟩
      · exact po.elim
    · exact hB pins s σ H ρ st _ vs us Q I sr vr r po
  · exact hB pins s σ H ρ st _ vs us Q I sr vr r po
end
end Z

set_option Elab.async false
set_option linter.all false
set_option maxRecDepth 100000
set_option maxHeartbeats 4000000
namespace Z
open PySem PySem.Spec PySem.Calls PyProof.Rows L2
variable [Row]
/-! ### set(xs), xs a list of keys -/
section
omit [Row]
variable {P : Program} {w : World} {A : Around} {E : Value → Shared → Prop} {s : Shared} {a : Addr} {T : Key → Bool} {N : Nat}
set_option maxHeartbeats 8000000 in
theorem zset_list {l : Addr} {its : Array Value} (ks : List Key) {Q : Value → Shared → Prop} (hh : A.handled = none) (hl : s.heap.IsList l its) (hz : its.size = ks.length) (hv : ∀ (i : Nat) (v : Value), its[i]? = some v → ∃ k, ks[i]? = some k ∧ keyIs k v = true ∧ v.scannable = true) (room : ks.length + 1 < scanBound)
    (h : ∀ (h' : Heap) (tk : Nat), SetL P w h' s.heap.objs.size (onceK ks) → (∀ b o, s.heap.get? b = some o → h'.get? b = some o) → Q (.ref s.heap.objs.size) { s with heap := h', toks := tk }) :
    wpAny (model P w) A (call (.type "set") [.ref l]) Q E s := by
  obtain ⟨c, tl, hmro⟩ := F.called_set.mro
  have hmade := F.called_set.made
  have hsub := F.called_set.sub
  refine wpAny_call (codeAny_of_tree (wpAny_pure ⟨Code.quiet_builtin _ (by decide +kernel), codeAny_builtin F.entry_type_call ?_⟩))
  rw [Around.under_plain (weight_type_call_type "set" [.ref l] []) rfl]
  have h1 := F.called_set.notType
  have h2 := F.called_set.canCreate
  have hct := F.typeCall_set_1 (.ref l)
  repeat (any_goals (first | assumption | wp_step))
  refine codeAny_mono (code_set_led1 (.ref l) (E := E) (Q₁ := fun ob sA => ob = .ref s.heap.objs.size ∧ sA = { s with heap := s.heap.push (zO w) }) ⟨rfl, rfl⟩) fun r sA hr => ?_
  cases r with
  | error e => exact hr
  | ok fl =>
    cases fl with
    | ret ob =>
      obtain ⟨rfl, rfl⟩ := hr
      have hS : (s.heap.push (zO w)).get? s.heap.objs.size = some (zO w) := Heap.get?_push_size _ rfl
      have hT : Shared.TypeIs { s with heap := s.heap.push (zO w) } (.ref s.heap.objs.size) "set" := ⟨_, hS, rfl⟩
      have hli := F.called_set.init.lookup
      have hbi := F.called_set.init.bind (.ref s.heap.objs.size)
      repeat (any_goals (first | assumption | wp_step))
      refine codeAny_mono (codeAny_call_builtin (R := wants (fun r sB => r = .none ∧ ∃ h' tk, sB = { s with heap := h', toks := tk } ∧ SetL P w h' s.heap.objs.size (onceK ks) ∧ (∀ b o, s.heap.get? b = some o → h'.get? b = some o)) E)
        F.called_set.init.plain F.entry_set_init (check_set_init_1 hT ?_)) fun r2 sB hr2 => ?_
      · obtain ⟨⟨oc, od, odt, os⟩, hol, hcl, nl, hdl⟩ := hl
        simp only at hcl hdl
        subst hcl hdl
        have hl1 : (s.heap.push (zO w)).IsList l its := ⟨_, Heap.get?_push_of_some _ hol, rfl, nl, rfl⟩
        have hol2 : (s.heap.push (zO w)).get? l = some { cls := .type "list", dict := od, data := .seq its nl, slots := os } := Heap.get?_push_of_some _ hol
        have hs1 := F.sub_list_set
        have hs2 := F.sub_list_frozenset
        have hne : (Value.type "list" == Value.type "dict") = false := by decide
        unfold Builtin.«set.__init__» noKeywords Builtin.Frozenset.updateFrom
        generalize hPI : pyIter = PI
        wp_walk
        subst hPI
        refine wpAny_pyIter_list hl1 (wpAny_bind (wpAny_runValue ?_))
        have lt : l < s.heap.objs.size := Heap.lt_size hol
        have zs : (s.heap.push (zO w)).objs.size = s.heap.objs.size + 1 := Heap.size_push ..
        refine zloop ((Walks.list (by simp [hh]) (s.heap.push (zO w)).objs.size l (by rw [zs]; exact Nat.ne_of_lt (Nat.lt_succ_of_lt lt)) its).toS) s.heap.objs.size ?_ ks hz room hv (its.size - 0) 0 _ rfl (Nat.zero_le _) ⟨⟨_, Heap.get?_push_size _ rfl, rfl, rfl⟩, hl1.push _⟩ ?_ ?_
        · simp only [List.mem_cons, List.not_mem_nil, or_false, not_or, zs]
          exact ⟨Nat.ne_of_lt (Nat.lt_succ_self _), Nat.ne_of_gt lt⟩
        · exact (znew_at (Heap.get?_push_of_some _ hS)).eq fun j => by simp [onceK]
        · rintro ⟨h', g2, d2, tk, os2⟩ mv hS'
          obtain rfl : g2 = s.gens := mv.gens
          obtain rfl : d2 = s.drawn := mv.drawn
          obtain rfl : os2 = s.os := mv.os
          refine wpAny_pure (wpAny_pure ⟨rfl, h', tk, rfl, hS', fun b o z => ?_⟩)
          have b0 := Heap.lt_size z
          exact mv.heap b o (by simp only [List.mem_cons, List.not_mem_nil, or_false, not_or, zs]; exact ⟨Nat.ne_of_lt b0, Nat.ne_of_lt (Nat.lt_succ_of_lt b0)⟩) (Heap.get?_push_of_some _ (Heap.get?_push_of_some _ z))
      · cases r2 with
        | error e => exact hr2
        | ok f2 =>
          cases f2 with
          | ret r =>
            obtain ⟨rfl, h', tk, rfl, hS', hk'⟩ := hr2
            repeat (any_goals (first | assumption | wp_step))
            exact h _ _ hS' hk'
          | _ => exact hr2.elim
    | _ => exact hr.elim
end
/-- each key once, where it first stands -/
def onceD (xs : List D) : List D := xs.foldl (fun acc d => match keyD d with
  | some k => if inKs acc k then acc else acc ++ [d]
  | none => acc) []
def fSetL (ds : List D) (s : Sto) : Rs D := match ds with
  | [.ref n] => match lstAt s n with
    | some xs => match keysD xs with
      | some _ => if xs.length + 1 < 4096 then .ok (.ref s.length) (s ++ [.set (onceD xs)]) else .no
      | none => .no
    | none => .no
  | _ => .no
omit [Row] in
theorem onceD_keys : ∀ (xs : List D) (ks : List Key), keysD xs = some ks → keysD (onceD xs) = some (onceK ks) := by
  have key : ∀ (xs : List D) (ks : List Key) (acc : List D) (js : List Key), keysD xs = some ks → keysD acc = some js →
      keysD (xs.foldl (fun acc d => match keyD d with | some k => if inKs acc k then acc else acc ++ [d] | none => acc) acc) = some (ks.foldl (fun acc k => if k ∈ acc then acc else acc ++ [k]) js) := by
    intro xs
    induction xs with
    | nil => intro ks acc js h1 h2; cases h1; exact h2
    | cons x xs ih =>
      intro ks acc js h1 h2
      unfold keysD at h1
      split at h1
      · rename_i k ks1 e1 e2
        cases h1
        rw [List.foldl_cons, List.foldl_cons]
        refine ih _ _ _ e2 ?_
        rw [e1]
        dsimp only
        by_cases q : k ∈ js
        · rw [if_pos q, if_pos ((keysD_any h2 k).mpr q)]
          exact h2
        · rw [if_neg q, if_neg (fun z => q ((keysD_any h2 k).mp z))]
          exact keysD_snoc e1 h2
      · cases h1
  exact fun xs ks h => key xs ks [] [] h rfl
section
variable {X : Cx} {W : WX}
theorem calld_setL (hX : IsRow X) (hc : X.calm = true) : CallD X W (.type "set") fSetL := by
  intro pins s σ H ρ st ds vs us Q I sr vr r po
  unfold fSetL at po
  split at po
  · rename_i n
    split at po
    · rename_i xs hx
      split at po
      · rename_i ks hk
        obtain ⟨hl, po⟩ := Po.ite po
        obtain ⟨v, rfl, rv⟩ := vr.one
        rw [VR] at rv
        obtain ⟨_, rfl⟩ := rv
        rw [Vals.ref1 r]
        obtain ⟨ws, sq, rr⟩ := sr.lst hx
        obtain ⟨its, rvv, pl, hz⟩ := I.list sq
        have kv : ∀ (xs : List D) (ks : List Key) (ws : List V) (its : List Value), keysD xs = some ks → VRs X.K ρ st.length H xs ws → Vals ws its → its.length = ks.length ∧ xs.length = ks.length ∧ ∀ (i : Nat) (u : Value), its[i]? = some u → ∃ k, ks[i]? = some k ∧ RelV (kV k) u := by
          intro xs
          induction xs with
          | nil =>
            intro ks ws its h1 h2 h3
            cases h1
            rw [VRs] at h2
            subst h2
            cases h3
            exact ⟨rfl, rfl, fun i u h => by simp at h⟩
          | cons x xs ih =>
            intro ks ws its h1 h2 h3
            unfold keysD at h1
            split at h1
            · rename_i k js e1 e2
              cases h1
              obtain ⟨v, r, rfl, h4, h5⟩ := h2.uncons
              cases h3 with
              | cons h6 h7 =>
                obtain ⟨l1, l2, l3⟩ := ih js r _ e2 h5 h7
                refine ⟨by rw [List.length_cons, List.length_cons, l1], by rw [List.length_cons, List.length_cons, l2], fun i u hu => ?_⟩
                cases i with
                | zero =>
                  cases hu
                  rw [keyD_vr e1 h4] at h6
                  exact ⟨k, rfl, h6⟩
                | succ i => exact l3 i u hu
            · cases h1
        obtain ⟨l1, l2, l3⟩ := kv xs ks ws its hk rr rvv
        refine zset_list (P := X.prog) (w := X.w) ks (I.ok.hd hc) (show s.heap.IsList _ its.toArray from pl.isList) (by rw [List.size_toArray]; exact l1) (fun i u hu => ?_) (by rw [← l2]; exact hl) fun h' tk R keep => ?_
        · obtain ⟨k, q1, q2⟩ := l3 i u (by simpa using hu)
          exact ⟨k, q1, kV_is (P := X.prog) (w := X.w) q2, key_scan q2⟩
        · have hn : H s.heap.objs.size = none := I.hok.fresh (Nat.le_refl _)
          have J := I.laid (t' := tk) (a := s.heap.objs.size) keep (Nat.le_refl _) (setH_ok R)
          have stq : ∀ b u, H b = some u → upd H s.heap.objs.size (SetH X.prog X.w s.heap.objs.size (fun j => decide (j ∈ onceK ks)) (onceK ks).length) b = some u := fun b u e => by rw [upd_ne (ne_of_none e hn)]; exact e
          have len : (st ++ [SO.set (onceD xs)]).length = st.length + 1 := by rw [List.length_append] <;> rfl
          have hok := onceD_keys xs ks hk
          have hlen : (onceD xs).length = (onceK ks).length := by
            have : ∀ (ys : List D) (js : List Key), keysD ys = some js → ys.length = js.length := by
              intro ys
              induction ys with
              | nil => intro js h; cases h; rfl
              | cons y ys ih =>
                intro js h
                unfold keysD at h
                split at h
                · rename_i k js1 e1 e2
                  cases h
                  rw [List.length_cons, List.length_cons, ih js1 e2]
                · cases h
            exact this _ _ hok
          have al := sr.alloc (o := .set (onceD xs)) hn stq ⟨_, _, by rw [upd_same, hX.1, hX.2], hlen.symm, onceK ks, hok, onceK_nodup ks, fun k => by simp⟩
          refine ⟨.ref _, _, J, rfl, po _ _ _ (by rw [len]; exact Ext.alloc stq) al ?_⟩
          rw [VR, len]
          exact ⟨Nat.lt_succ_self _, by rw [ρup_same]⟩
      · exact po.elim
    · exact po.elim
  · exact po.elim
end
end Z

set_option Elab.async false
set_option linter.all false
set_option maxRecDepth 100000
set_option maxHeartbeats 4000000
namespace Z
open PySem PySem.Spec PyProof.Rows L2
variable [Row]
/-! ### xs[::-1] -/
def mRev (m : EM D) : EM D := fun e s => (m e s).bind fun d s1 => match d with
  | .ref n => match lstAt s1 n with
    | some xs => .ok (.ref s1.length) (s1 ++ [.lst xs.reverse])
    | none => .no
  | _ => .no
theorem je_rev {X : Cx} {W : WX} {e : Expr} {m : EM D} {k : Nat} {p1 p2 p3 pos : Pos} (he : JE X W e m) : JE X W (.Subscript e (.Slice none none (some (.UnaryOp .USub (.Constant (.int 1) k p1) p2)) p3) pos) (mRev m) :=
  PE_imp (pe_revL he) fun σ H Q ⟨ρ, env, s, sr, er, po⟩ => ⟨ρ, env, s, sr, er, (Po.bind po).imp fun v H1 ⟨ρ1, s1, d1, e1, sr1, r1, po1⟩ => by
    cases d1 with
    | ref n =>
      rw [VR] at r1
      obtain ⟨_, rfl⟩ := r1
      dsimp only at po1
      split at po1
      · rename_i xs hx
        obtain ⟨ws, sq, rr⟩ := sr1.lst hx
        refine ⟨_, ws, rfl, sq, fun p hp => ?_⟩
        obtain ⟨x1, sr2, v1⟩ := new_lst sr1 hp rr.reverse
        exact po1 _ _ _ x1 sr2 v1
      · exact po1.elim
    | _ => exact po1.elim⟩
/-! ### what these do -/
section
omit [Row]
variable {P : D → Sto → Prop} {E : Str → Str → D → Sto → Prop} {e : Ev} {s : Sto} {m : EM D} {n : Nat}
@[simp ↓] theorem z_mRev : (mRev m e s).wp P E = (m e s).wp (fun d s1 => refP d fun n => lstP (lstAt s1 n) fun xs => P (.ref s1.length) (s1 ++ [.lst xs.reverse])) E := by
  unfold mRev
  rw [z_bind]
  congr 1
  funext d s1
  unfold refP
  cases d with
  | ref n =>
    dsimp only
    unfold lstP
    cases lstAt s1 n <;> rfl
  | _ => rfl
theorem z_sortZ {B : MF} {xs : List D} {zs : List Str} (h : setAt s n = some xs) (hz : xs.mapM strD = some zs) (ok : ∀ z ∈ zs, PySem.PyData.strOk z = true) : (fSortZ B [.ref n] s).wp P E = P (.ref s.length) (s ++ [.lst ((sortS zs).map D.str)]) := by
  unfold fSortZ
  dsimp only
  rw [h]
  dsimp only
  rw [hz]
  dsimp only
  rw [if_pos (List.all_eq_true.mpr ok), z_ok]
theorem z_setOfL {xs : List D} {ks : List Key} (h : lstAt s n = some xs) (hk : keysD xs = some ks) (hl : xs.length + 1 < 4096) : (fSetL [.ref n] s).wp P E = P (.ref s.length) (s ++ [.set (onceD xs)]) := by
  unfold fSetL
  dsimp only
  rw [h]
  dsimp only
  rw [hk]
  dsimp only
  rw [if_pos hl, z_ok]
/-- what is once in a list of texts -/
def onceS (xs : List Str) : List Str := xs.foldl (fun acc x => if x ∈ acc then acc else acc ++ [x]) []
theorem inKs_strs {xs : List Str} {x : Str} : inKs (xs.map D.str) (.inr x) = decide (x ∈ xs) := by
  unfold inKs
  rw [List.any_map]
  induction xs with
  | nil => simp
  | cons y ys ih =>
    rw [List.any_cons, ih]
    by_cases q : y = x
    · subst q; simp [keyD]
    · have q2 : x ≠ y := fun e => q e.symm
      simp [keyD, q, q2]
theorem onceD_strs : ∀ xs : List Str, onceD (xs.map D.str) = (onceS xs).map D.str := by
  have key : ∀ (xs acc : List Str), (xs.map D.str).foldl (fun acc d => match keyD d with | some k => if inKs acc k then acc else acc ++ [d] | none => acc) (acc.map D.str) = (xs.foldl (fun acc x => if x ∈ acc then acc else acc ++ [x]) acc).map D.str := by
    intro xs
    induction xs with
    | nil => intro acc; rfl
    | cons x xs ih =>
      intro acc
      rw [List.map_cons, List.foldl_cons, List.foldl_cons]
      have e : (match keyD (D.str x) with | some k => if inKs (acc.map D.str) k then acc.map D.str else acc.map D.str ++ [D.str x] | none => acc.map D.str) = (if x ∈ acc then acc else acc ++ [x]).map D.str := by
        show (if inKs (acc.map D.str) (.inr x) then acc.map D.str else acc.map D.str ++ [D.str x]) = _
        rw [inKs_strs]
        by_cases q : x ∈ acc <;> simp [q]
      rw [e, ih]
  exact fun xs => key xs []
theorem onceS_mem : ∀ (xs : List Str) (x : Str), x ∈ onceS xs ↔ x ∈ xs := by
  have key : ∀ (xs acc : List Str) (x : Str), x ∈ xs.foldl (fun acc x => if x ∈ acc then acc else acc ++ [x]) acc ↔ x ∈ acc ∨ x ∈ xs := by
    intro xs
    induction xs with
    | nil => intro acc x; simp
    | cons y ys ih =>
      intro acc x
      rw [List.foldl_cons, ih]
      by_cases q : y ∈ acc
      · rw [if_pos q, List.mem_cons]
        exact ⟨fun h => h.elim .inl fun h => .inr (.inr h), fun h => h.elim .inl fun h => h.elim (fun e => .inl (e ▸ q)) .inr⟩
      · rw [if_neg q, List.mem_append, List.mem_singleton, List.mem_cons, or_assoc]
  intro xs x
  rw [onceS, key]
  simp
theorem onceS_nodup : ∀ xs : List Str, (onceS xs).Nodup := by
  have key : ∀ (xs acc : List Str), acc.Nodup → (xs.foldl (fun acc x => if x ∈ acc then acc else acc ++ [x]) acc).Nodup := by
    intro xs
    induction xs with
    | nil => intro acc h; exact h
    | cons y ys ih =>
      intro acc h
      rw [List.foldl_cons]
      refine ih _ ?_
      by_cases q : y ∈ acc
      · rw [if_pos q]; exact h
      · rw [if_neg q, List.nodup_append]
        exact ⟨h, by simp, fun a ha b hb e => q (by rw [List.mem_singleton.mp hb] at e; rw [← e]; exact ha)⟩
  exact fun xs => key xs [] List.nodup_nil
theorem keysD_map : ∀ xs : List Str, keysD (xs.map D.str) = some (xs.map Sum.inr)
  | [] => rfl
  | x :: xs => by
    rw [List.map_cons, keysD, keysD_map xs]
    rfl
/-- the texts of two lists with the same texts, each once, in order -/
theorem sortS_same {xs ys : List Str} (h1 : xs.Nodup) (h2 : ys.Nodup) (h : ∀ x, x ∈ xs ↔ x ∈ ys) : sortS xs = sortS ys := sortS_uniq ((List.perm_ext_iff_of_nodup h1 h2).mpr h)
end
end Z

set_option Elab.async false
set_option linter.all false
set_option maxRecDepth 100000
set_option maxHeartbeats 4000000
namespace Z
open PySem PySem.Spec PyProof.Rows L2
/-! ### a value that is no instance, compared with an own instance: the instance's == answers -/
section
variable {P : Program} {w : World} {A : Around} {E : Value → Shared → Prop} {s : Shared} {a C : Addr} {ox : Obj} {od : Option Obj} {Q : Value → Shared → Prop}
variable {K : PySem.W.Frag} {f : Addr}
end
end Z
namespace Z
open PySem PySem.Spec PyProof.Rows L2
variable [Row]
/-! ### o in xs, o an own instance, the items of the list xs none -/
def itOk (s : Sto) : D → Bool
  | .ref k => (mLst s k).isSome
  | _ => true
def inOwnL (c : Str) (G : MF) (n l : Nat) : Nat → Nat → Sto → Rs Bool
  | 0, _, _ => .no
  | f + 1, i, s => match mLst s l with
    | some xs => match xs[i]? with
      | some d => if itOk s d = true ∧ insC s (.ref n) = some c then (G [.ref n, d] s).bind fun r s1 => match r with
        | .bl q => if q then .ok true s1 else inOwnL c G n l f (i + 1) s1
        | _ => .no
        else .no
      | none => .ok false s
    | none => .no
def dInI (tb : Tb) (neg : Bool) (B : D → D → Sto → Rs D) (x y : D) (s : Sto) : Rs D := match insC s x, x, y with
  | some c, .ref n, .ref l => match tb.lookup c, mLst s l with
    | some G, some xs => (inOwnL c G n l (xs.length + 1) 0 s).bind fun q s1 => .ok (.bl (neg ^^ q)) s1
    | _, _ => .no
  | some _, _, _ => .no
  | none, _, _ => B x y s
def STab (K : PySem.W.Frag) (tb : Tb) : Prop := ∀ c F, tb.lookup c = some F → ∀ T ∈ tysB, PySem.W.subIn K (.ref (He.ga K c)) (.type T) = some false
section
variable {X : Cx} {W : WX} {k : Nat} {tb : Tb} {cs : List Str}
open PySem.MeetsSeq in
open PySem.MeetsSeq in
theorem ITab.mono {P : Program} {w : World} {K : PySem.W.Frag} {mg : Str → Option Value} {base : Heap} {i j : Nat} {tb : Itb} (T : ITab P w K mg base i tb) (h : i ≤ j) : ITab P w K mg base j tb := fun c f hc => by
  obtain ⟨C, g, h1, h2, h3⟩ := T c f hc
  exact ⟨C, g, h1, h2, fun A outer st H a dx t vs xs hr => h3 A outer st H a dx t vs xs (hr.mono h)⟩
end
end Z

set_option Elab.async false
set_option linter.all false
set_option maxRecDepth 100000
set_option maxHeartbeats 4000000
namespace Z
open PySem PySem.Spec PyProof.Rows L2
/-! ### list(a text) -/
def fListZ (B : MF) : MF := fun ds s => match ds with
  | [.str x] => if x.cps.size ≤ sizeLine then .ok (.ref s.length) (s ++ [.lst (strDs x)]) else .no
  | _ => B ds s
theorem z_listZ {B : MF} {x : Str} {P : D → Sto → Prop} {E : Str → Str → D → Sto → Prop} {s : Sto} (h : x.cps.size ≤ sizeLine) : (fListZ B [.str x] s).wp P E = P (.ref s.length) (s ++ [.lst (strDs x)]) := by
  unfold fListZ
  dsimp only
  rw [if_pos h, z_ok]
@[simp ↓] theorem z_listZr {B : MF} {n : Nat} {P : D → Sto → Prop} {E : Str → Str → D → Sto → Prop} {s : Sto} : (fListZ B [.ref n] s).wp P E = (B [.ref n] s).wp P E := nr rfl
@[simp ↓] theorem z_listZt {B : MF} {xs : List D} {P : D → Sto → Prop} {E : Str → Str → D → Sto → Prop} {s : Sto} : (fListZ B [.tup xs] s).wp P E = (B [.tup xs] s).wp P E := nr rfl
variable [Row]
theorem calld_listZ {X : Cx} {W : WX} {B : MF} (hc : X.calm = true) (hB : CallD X W (.type "list") B) : CallD X W (.type "list") (fListZ B) := by
  intro pins s σ H ρ st ds vs us Q I sr vr r po
  unfold fListZ at po
  split at po
  · rename_i x
    obtain ⟨hl, po⟩ := Po.ite po
    obtain ⟨v, rfl, rv⟩ := vr.one
    rw [VR] at rv
    subst rv
    cases r with
    | cons ru rt =>
      cases rt
      obtain ⟨t, rfl⟩ := ru
      refine call_list_str (I.ok.hd hc) x t (hn := hl) fun h' tk acc c' hk hS hacc => ?_
      have hn : H s.heap.objs.size = none := I.hok.fresh (Nat.le_refl _)
      have hv : Vals (x.cps.toList.map fun c => V.str ⟨#[c]⟩) acc.toList := by
        have key : ∀ (cs : List Nat) (us : List Value), us.length = cs.length → (∀ (j : Nat) (u : Value), us[j]? = some u → ∃ c t, cs[j]? = some c ∧ u = .str ⟨#[c]⟩ t) → Vals (cs.map fun c => V.str ⟨#[c]⟩) us := by
          intro cs
          induction cs with
          | nil =>
            intro us h1 _
            rw [List.eq_nil_of_length_eq_zero h1]
            exact .nil
          | cons c cs ih =>
            intro us h1 h2
            cases us with
            | nil => cases h1
            | cons u us =>
              obtain ⟨c', t', e1, e2⟩ := h2 0 u rfl
              cases e1
              exact .cons ⟨t', e2⟩ (ih us (by simpa using h1) fun j v hv => h2 (j + 1) v hv)
        refine key _ _ (by rw [Array.length_toList, hacc.1, Array.length_toList]) fun j u hu => ?_
        obtain ⟨c, t', e1, e2⟩ := hacc.2 j u (by simpa using hu)
        exact ⟨c, t', by simpa using e1, e2⟩
      have hl2 : (x.cps.toList.map fun c => V.str ⟨#[c]⟩).length ≤ sizeLine := by rw [List.length_map, Array.length_toList]; exact hl
      have J := I.laid (t' := tk) (a := s.heap.objs.size) (o := .lst (x.cps.toList.map fun c => V.str ⟨#[c]⟩)) hk (Nat.le_refl _) ⟨hl2, acc.toList, c', hv, hS⟩
      have rs : VRs X.K ρ st.length H (strDs x) (x.cps.toList.map fun c => V.str ⟨#[c]⟩) := by
        unfold strDs
        generalize x.cps.toList = l
        induction l with
        | nil => exact VRs.nil
        | cons y l ih => exact VRs.cons (by rw [VR]) ih
      obtain ⟨x1, sr1, v1⟩ := new_lst sr hn rs
      exact ⟨.ref _, _, J, rfl, po _ _ _ x1 sr1 v1⟩
  · exact hB pins s σ H ρ st _ vs us Q I sr vr r po
end Z

set_option Elab.async false
set_option linter.all false
set_option maxRecDepth 100000
set_option maxHeartbeats 4000000
namespace Z
open PySem PySem.Spec PyProof.Rows L2 TL
open PySem.PyData (strOk)
/-! ### draws of the first kind of law: names -/
theorem rng_at {lo : Int} {n i : Nat} {s : Sto} : jRng lo n i s = some (rngD lo n)[i]? := (it_rng (ks := []) (s0 := s)).2 i s Eff.refl
def tNamesA (take of_ : MF) : SM := (sC (sP 3 4 (aC (mN (fListZ fList) (aC (mC (.str "abcdefghijklmnopqrstuvwxyz")) aN)) (aC (mN fLst aN) aN))) (sC (sP 5 6 (aC (mC (.str "")) (aC (m2 dEq (mN take (aC (mV 0) (aC (mC (.int 2)) aN))) (mC (.int 0))) aN))) (sC (sF (iR1 (aC (mN take (aC (mV 0) (aC (mC (.int 8)) aN))) aN)) (gN 2) (sA 5 (m2 dAdd (mV 5) (mN of_ (aC (mV 0) (aC (mN fLst (aC (mC (.str "a")) (aC (mC (.str "z")) (aC (mC (.str "q")) (aC (mC (.str "m")) aN))))) aN)))))) (sC (sF (iR1 (aC (mV 1) aN)) (gN 2) (sC (sA 7 (mBM "list" (mtL lPopAt) (mV 3) (aC (mN take (aC (mV 0) (aC (mN fLen (aC (mV 3) aN)) aN))) aN))) (sE (mBM "list" (mtL lAppend) (mV 4) (aC (mIf (toT (mV 6)) (m2 dAdd (mV 7) (mV 5)) (m2 dAdd (mV 5) (mV 7))) aN))))) (sR (mV 4))))))
def stemS (st : List Nat) : Str := ⟨st.toArray⟩
def nmOf (ahead : Bool) (st : List Nat) (c : Nat) : Str := if ahead then one c ++ stemS st else stemS st ++ one c
structure NInv (s : Sto) (k n : Nat) (st : List Nat) (ah : Bool) (i : Nat) (e : Ev) (s2 : Sto) : Prop where
  ef : Eff [k] s s2
  hz : s.length + 2 ≤ s2.length
  ex : ∃ (used left : List Nat) (o2 o7 : Option D), mlAt s2 s.length = some ((left.map one).map D.str) ∧ mlAt s2 (s.length + 1) = some ((used.map (nmOf ah st)).map D.str) ∧ (used ++ left).Perm (tl abc) ∧ used.length = i ∧ e = [some (.ref k), some (.int n), o2, some (.ref s.length), some (.ref (s.length + 1)), some (.str (stemS st)), some (.bl ah), o7]
end Z

set_option Elab.async false
set_option linter.all false
set_option maxRecDepth 100000
set_option maxHeartbeats 4000000
namespace Z
open PySem PySem.Spec PyProof.Rows L2 TL
open PySem.PyData (strOk)
/-! ### draws of the first kind of law: members, bodies ascending -/
/-- only the bag k and the list b are changed -/
structure EffB (k b : Nat) (s t : Sto) : Prop where
  le : s.length ≤ t.length
  eq : ∀ i, i < s.length → i ≠ k → i ≠ b → t[i]? = s[i]?
  bag : Bag s k → Bag t k
theorem EffB.refl {k b : Nat} {s : Sto} : EffB k b s s := ⟨Nat.le_refl _, fun _ _ _ _ => rfl, fun h => h⟩
theorem EffB.trans {k b : Nat} {s t u : Sto} (h : EffB k b s t) (h2 : EffB k b t u) : EffB k b s u :=
  ⟨Nat.le_trans h.le h2.le, fun i hi h3 h4 => (h2.eq i (Nat.lt_of_lt_of_le hi h.le) h3 h4).trans (h.eq i hi h3 h4), fun hb => h2.bag (h.bag hb)⟩
theorem EffB.of {k b : Nat} {s t : Sto} (h : Eff [k] s t) : EffB k b s t := ⟨h.le, fun i hi h1 _ => h.eq i hi (by simpa using h1), h.bag k (by simp)⟩
theorem EffB.get {k b : Nat} {s t : Sto} (h : EffB k b s t) {i : Nat} {o : SO} (e : s[i]? = some o) (h1 : i ≠ k) (h2 : i ≠ b) : t[i]? = some o := by
  rw [h.eq i (List.getElem?_eq_some_iff.mp e).1 h1 h2]
  exact e
theorem EffB.ml {k b : Nat} {s t : Sto} (h : EffB k b s t) {i : Nat} {xs : List D} (e : mlAt s i = some xs) (h1 : i ≠ k) (h2 : i ≠ b) : mlAt t i = some xs := mlAt_some (h.get (mlAt_get e) h1 h2)
theorem EffB.set {k b : Nat} {s t : Sto} (h : EffB k b s t) {n : Nat} {o : SO} (hn : s.length ≤ n) (hk : k < s.length) : EffB k b s (t.set n o) :=
  ⟨by simpa using h.le, fun i hi h1 h2 => by rw [List.getElem?_set_ne (by omega)]; exact h.eq i hi h1 h2, fun hb => by
    obtain ⟨x, y, e⟩ := h.bag hb
    exact ⟨x, y, by rw [List.getElem?_set_ne (by omega)]; exact e⟩⟩
theorem EffB.out {k b : Nat} {s0 s t : Sto} (h0 : Eff [k] s0 s) (h : EffB k b s t) (hb : s0.length ≤ b) : Eff [k] s0 t :=
  ⟨Nat.le_trans h0.le h.le, fun i hi hk => by
    have hk : i ≠ k := by simpa using hk
    exact (h.eq i (Nat.lt_of_lt_of_le hi h0.le) hk (by omega)).trans (h0.eq i hi (by simpa using hk)), fun j hj hb => by
    rw [List.mem_singleton] at hj
    subst hj
    exact h.bag (h0.bag _ (by simp) hb)⟩
def tMemberA (take of_ : MF) : SM := (sC (sP3 5 6 7 (aC (mN (fListZ fList) (aC (mV 1) aN)) (aC (mN fLst aN) (aC (mN fLst aN) aN)))) (sC (sF (iR1 (aC (mN take (aC (mV 0) (aC (m2 dAdd (mN fMin2 (aC (mV 3) (aC (mN fLen (aC (mV 5) aN)) aN))) (mC (.int 1))) aN))) aN)) (gN 4) (sC (sA 8 (mBM "list" (mtL lPopAt) (mV 5) (aC (mN take (aC (mV 0) (aC (mN fLen (aC (mV 5) aN)) aN))) aN))) (sC (sE (mBM "list" (mtL lAppend) (mV 2) (aC (m2 dAdd (m2 dAdd (m2 dIx (mV 2) (m1 dNeg (mC (.int 1)))) (mC (.int 1))) (mN take (aC (mV 0) (aC (mC (.int 3)) aN)))) aN))) (sE (mBM "list" (mtL lAppend) (mV 6) (aC (mN fTup (aC (mV 8) (aC (mN of_ (aC (mV 0) (aC (mN fLst (aC (mC (.str "strong")) (aC (mC (.str "strong")) (aC (mC (.str "weak")) (aC (mC (.str "common")) aN))))) aN))) (aC (m2 dIx (mV 2) (m1 dNeg (mC (.int 1)))) aN)))) aN)))))) (sC (sF (iR1 (aC (mN take (aC (mV 0) (aC (m2 dAdd (mN fMin2 (aC (mC (.int 2)) (aC (mN fLen (aC (mV 5) aN)) aN))) (mC (.int 1))) aN))) aN)) (gN 4) (sE (mBM "list" (mtL lAppend) (mV 7) (aC (mBM "list" (mtL lPopAt) (mV 5) (aC (mN take (aC (mV 0) (aC (mN fLen (aC (mV 5) aN)) aN))) aN)) aN)))) (sR (mN fTup (aC (mN fTuple (aC (mV 6) aN)) (aC (mN fTuple (aC (mV 7) aN)) aN)))))))
structure RowW (names : List Str) (B B' : Int) (gs : List DefA) (ws : List Str) : Prop where
  nd : (gs.map (·.1) ++ ws).Nodup
  sub : ∀ x ∈ gs.map (·.1) ++ ws, x ∈ names
  kd : ∀ p ∈ gs, p.2.1 ∈ kinds
  inc : (gs.map (·.2.2)).Pairwise (· < ·)
  bd : ∀ p ∈ gs, B < p.2.2 ∧ p.2.2 ≤ B'
  le : B ≤ B' ∧ B' ≤ B + 3 * gs.length
  l1 : gs.length ≤ 3
  l2 : ws.length ≤ 2
/-- what has been drawn so far: definitions gs, wants ws, left is left -/
structure MbI (s : Sto) (k n b : Nat) (names : List Str) (B : Int) (pl : Nat) (gs : List DefA) (ws left : List Str) (s2 : Sto) : Prop where
  ef : EffB k b s s2
  hz : s.length + 3 ≤ s2.length
  m5 : mlAt s2 s.length = some (left.map D.str)
  m6 : mlAt s2 (s.length + 1) = some (gs.map defD)
  m7 : mlAt s2 (s.length + 2) = some (ws.map D.str)
  pm : (gs.map (·.1) ++ ws ++ left).Perm names
  kd : ∀ p ∈ gs, p.2.1 ∈ kinds
  inc : (gs.map (·.2.2)).Pairwise (· < ·)
  bx : ∃ B' pre, mlAt s2 b = some (pre ++ [.int B']) ∧ pre.length ≤ pl + gs.length ∧ (∀ p ∈ gs, B < p.2.2 ∧ p.2.2 ≤ B') ∧ B ≤ B' ∧ B' ≤ B + 3 * gs.length
structure MbL1 (s : Sto) (k n b : Nat) (names : List Str) (B : Int) (pl : Nat) (i : Nat) (e : Ev) (s2 : Sto) : Prop where
  ex : ∃ (gs : List DefA) (left : List Str) (o4 o8 : Option D), MbI s k n b names B pl gs [] left s2 ∧ gs.length = i ∧ e = [some (.ref k), some (.ref n), some (.ref b), some (.int 3), o4, some (.ref s.length), some (.ref (s.length + 1)), some (.ref (s.length + 1 + 1)), o8]
structure MbL2 (s : Sto) (k n b : Nat) (names : List Str) (B : Int) (pl : Nat) (gs : List DefA) (o8 : Option D) (i : Nat) (e : Ev) (s2 : Sto) : Prop where
  ex : ∃ (ws left : List Str) (o4 : Option D), MbI s k n b names B pl gs ws left s2 ∧ ws.length = i ∧ e = [some (.ref k), some (.ref n), some (.ref b), some (.int 3), o4, some (.ref s.length), some (.ref (s.length + 1)), some (.ref (s.length + 1 + 1)), o8]
def tMemberB (take of_ : MF) : SM := (sC (sP3 5 6 7 (aC (mN fList (aC (mV 1) aN)) (aC (mN fLst aN) (aC (mN fLst aN) aN)))) (sC (sF (iR1 (aC (mN take (aC (mV 0) (aC (m2 dAdd (mN fMin2 (aC (mV 3) (aC (mN fLen (aC (mV 5) aN)) aN))) (mC (.int 1))) aN))) aN)) (gN 4) (sC (sA 8 (mBM "list" (mtL lPopAt) (mV 5) (aC (mN take (aC (mV 0) (aC (mN fLen (aC (mV 5) aN)) aN))) aN))) (sC (sE (mBM "list" (mtL lAppend) (mV 2) (aC (m2 dAdd (m2 dAdd (m2 dIx (mV 2) (m1 dNeg (mC (.int 1)))) (mC (.int 1))) (mN take (aC (mV 0) (aC (mC (.int 3)) aN)))) aN))) (sE (mBM "list" (mtL lAppend) (mV 6) (aC (mN fTup (aC (mV 8) (aC (mN of_ (aC (mV 0) (aC (mN fLst (aC (mC (.str "strong")) (aC (mC (.str "strong")) (aC (mC (.str "weak")) (aC (mC (.str "common")) aN))))) aN))) (aC (m2 dIx (mV 2) (m1 dNeg (mC (.int 1)))) aN)))) aN)))))) (sC (sF (iR1 (aC (mN take (aC (mV 0) (aC (m2 dAdd (mN fMin2 (aC (mC (.int 2)) (aC (mN fLen (aC (mV 5) aN)) aN))) (mC (.int 1))) aN))) aN)) (gN 4) (sE (mBM "list" (mtL lAppend) (mV 7) (aC (mBM "list" (mtL lPopAt) (mV 5) (aC (mN take (aC (mV 0) (aC (mN fLen (aC (mV 5) aN)) aN))) aN)) aN)))) (sR (mN fTup (aC (mN fTuple (aC (mV 6) aN)) (aC (mN fTuple (aC (mV 7) aN)) aN)))))))
end Z

set_option Elab.async false
set_option linter.all false
set_option maxRecDepth 100000
set_option maxHeartbeats 4000000
namespace Z
open PySem PySem.Spec PyProof.Rows L2 TL
open PySem.PyData (strOk)
/-! ### draws of the first kind of law: stores as rows -/
structure RowB where
  mem : Str
  gs : List DefA
  ws : List Str
abbrev ArcB := Str × List RowB
def rowB (r : RowB) : D := .tup [.str r.mem, .tup (r.gs.map defD), .tup (r.ws.map D.str)]
def arcB (p : ArcB) : D := .tup [.str p.1, .tup (p.2.map rowB)]
def bodR (r : RowB) : List Int := r.gs.map (·.2.2)
def bodP (ps : List ArcB) : List Int := ps.flatMap fun p => p.2.flatMap bodR
def rowsP (ps : List ArcB) : List RowB := ps.flatMap (·.2)
structure RowG1 (names : List Str) (r : RowB) : Prop where
  nm : IsName r.mem
  nd : (r.gs.map (·.1) ++ r.ws).Nodup
  sub : ∀ x ∈ r.gs.map (·.1) ++ r.ws, x ∈ names
  kd : ∀ p ∈ r.gs, p.2.1 ∈ kinds
  l1 : r.gs.length ≤ 3
  l2 : r.ws.length ≤ 2
structure ArcG1 (names : List Str) (p : ArcB) : Prop where
  nm : IsName p.1
  row : ∀ r ∈ p.2, RowG1 names r
  nd : (p.2.map (·.mem)).Nodup
  len : p.2.length ≤ 7
/-- bodies ascending between two -/
structure BodW (lo hi : Int) (bs : List Int) : Prop where
  inc : bs.Pairwise (· < ·)
  bd : ∀ x ∈ bs, lo < x ∧ x ≤ hi
theorem BodW.app {a b c : Int} {xs ys : List Int} (h : BodW a b xs) (h2 : BodW b c ys) (hab : a ≤ b) (hbc : b ≤ c) : BodW a c (xs ++ ys) := by
  refine ⟨List.pairwise_append.mpr ⟨h.inc, h2.inc, fun x hx y hy => ?_⟩, fun x hx => ?_⟩
  · have := h.bd x hx
    have := h2.bd y hy
    omega
  · rcases List.mem_append.mp hx with hx | hx
    · have := h.bd x hx
      omega
    · have := h2.bd x hx
      omega
theorem BodW.nil {a b : Int} : BodW a b [] := ⟨List.Pairwise.nil, fun x h => by simp at h⟩
theorem RowW.body {names : List Str} {B B' : Int} {gs : List DefA} {ws : List Str} (h : RowW names B B' gs ws) : BodW B B' (gs.map (·.2.2)) := ⟨h.inc, fun x hx => by
  obtain ⟨p, hp, rfl⟩ := List.mem_map.mp hx
  exact h.bd p hp⟩
structure PlainW (names : List Str) (ps : List ArcB) : Prop where
  arc : ∀ p ∈ ps, ArcG1 names p
  nd : (ps.map (·.1)).Nodup
  bod : ∃ lo hi : Int, BodW lo hi (bodP ps) ∧ 0 ≤ lo ∧ hi < 100000
def tPlainA (take names member : MF) : SM := (sC (sP 5 6 (aC (mN fLst aN) (aC (mN fLst (aC (mN take (aC (mV 0) (aC (mC (.int 1000)) aN))) aN)) aN))) (sC (sF (iSq (mN names (aC (mV 0) (aC (mV 2) aN)))) (gN 4) (sC (sA 7 (mN fLst aN)) (sC (sF (iSq (mN names (aC (mV 0) (aC (mN take (aC (mV 0) (aC (m2 dAdd (mV 3) (mC (.int 1))) aN))) aN)))) (gN 8) (sC (sG (gT [(gN 9), (gN 10)]) (mN member (aC (mV 0) (aC (mV 1) (aC (mV 6) (aC (mC (.int 3)) aN)))))) (sE (mBM "list" (mtL lAppend) (mV 7) (aC (mN fTup (aC (mV 8) (aC (mV 9) (aC (mV 10) aN)))) aN))))) (sE (mBM "list" (mtL lAppend) (mV 5) (aC (mN fTup (aC (mV 4) (aC (mN fTuple (aC (mV 7) aN)) aN))) aN)))))) (sR (mV 5))))
/-- what member does -/
def MemberOk (F : MF) : Prop := ∀ {s : Sto} {k n b : Nat} {names : List Str} {pre : List D} {B : Int}, Bag s k → mlAt s n = some (names.map D.str) → n ≠ k → b ≠ k → n ≠ b → names.Nodup → names.length ≤ 1000 → mlAt s b = some (pre ++ [.int B]) → pre.length ≤ 100000 →
    (F [.ref k, .ref n, .ref b, .int 3] s).wp fun d s' => EffB k b s s' ∧ ∃ gs ws B' pre', d = .tup [.tup (gs.map defD), .tup (ws.map D.str)] ∧ RowW names B B' gs ws ∧ mlAt s' b = some (pre' ++ [.int B']) ∧ pre'.length ≤ pre.length + 3
/-- the rows of one archive so far: rs; the bodies in b, the names of members in L2 -/
structure RwI (names mems : List Str) (sB s0 : Sto) (k b l7 L2 : Nat) (B0 : Int) (pl i : Nat) (rs : List RowB) (s2 : Sto) : Prop where
  ef : EffB k b sB s2
  hz : s0.length ≤ s2.length
  fr : ∀ i, i < s0.length → i ≠ k → i ≠ b → i ≠ l7 → s2[i]? = s0[i]?
  m7 : mlAt s2 l7 = some (rs.map rowB)
  mL : mlAt s2 L2 = some (mems.map D.str)
  hi : rs.length = i
  hm : rs.map (·.mem) = mems.take i
  row : ∀ r ∈ rs, RowG1 names r
  bx : ∃ B pre, mlAt s2 b = some (pre ++ [.int B]) ∧ pre.length ≤ pl + 3 * i ∧ BodW B0 B (rs.flatMap bodR) ∧ B0 ≤ B ∧ B ≤ B0 + 9 * i
structure RwE (names mems : List Str) (sB s0 : Sto) (k n b l7 L2 : Nat) (B0 : Int) (pl : Nat) (env : Option D → Option D → Option D → Ev) (i : Nat) (e : Ev) (s2 : Sto) : Prop where
  ex : ∃ rs o8 o9 o10, RwI names mems sB s0 k b l7 L2 B0 pl i rs s2 ∧ e = env o8 o9 o10
/-- the archives so far -/
structure PlI (names tags : List Str) (s : Sto) (k n b L : Nat) (B0 : Int) (i : Nat) (ps : List ArcB) (s2 : Sto) : Prop where
  ef : Eff [k] s s2
  hz : b < s2.length
  m5 : mlAt s2 s.length = some (ps.map arcB)
  mL : mlAt s2 L = some (tags.map D.str)
  hi : ps.length = i
  hm : ps.map (·.1) = tags.take i
  arc : ∀ p ∈ ps, ArcG1 names p
  bx : ∃ B pre, mlAt s2 b = some (pre ++ [.int B]) ∧ pre.length ≤ 21 * i ∧ BodW B0 B (bodP ps) ∧ B0 ≤ B ∧ B ≤ B0 + 63 * i
structure PlE (q : Nat) (names tags : List Str) (s : Sto) (k n b L : Nat) (B0 : Int) (m : Int) (i : Nat) (e : Ev) (s2 : Sto) : Prop where
  ex : ∃ ps o4 o7 o8 o9 o10, PlI names tags s k n b L B0 i ps s2 ∧ e = [some (.ref k), some (.ref n), some (.int m), some (.int q), o4, some (.ref s.length), some (.ref b), o7, o8, o9, o10]
end Z

set_option Elab.async false
set_option linter.all false
set_option maxRecDepth 100000
set_option maxHeartbeats 4000000
namespace Z
open PySem PySem.Spec PyProof.Rows L2 TL
open PySem.PyData (strOk)
/-! ### one archive more -/
def tOtherA (take of_ nms member : MF) : SM := (sC (sA 3 (mN fLst (aC (m2 dAdd (mC (.int 200000)) (mN take (aC (mV 0) (aC (mC (.int 1000)) aN)))) aN))) (sC (sA 4 (mN fLst aN)) (sC (sF (iSq (mN nms (aC (mV 0) (aC (mN take (aC (mV 0) (aC (mC (.int 3)) aN))) aN)))) (gN 5) (sC (sG (gT [(gN 7), (gN 8)]) (mN member (aC (mV 0) (aC (mV 1) (aC (mV 3) (aC (mC (.int 3)) aN)))))) (sE (mBM "list" (mtL lAppend) (mV 4) (aC (mN fTup (aC (mV 5) (aC (mV 7) (aC (mV 8) aN)))) aN))))) (sC (sA 6 (mN of_ (aC (mV 0) (aC (m2 dAdd (mL (iSq (mV 2)) (gN 9) tY (m2 dIx (mV 9) (mC (.int 0))) [9]) (mN fLst (aC (m2 dIx (mN nms (aC (mV 0) (aC (mC (.int 1)) aN))) (mC (.int 0))) aN))) aN)))) (sR (mN fTup (aC (mV 6) (aC (mN fTuple (aC (mV 4) aN)) aN))))))))
end Z

set_option Elab.async false
set_option linter.all false
set_option maxRecDepth 100000
set_option maxHeartbeats 4000000
namespace Z
open PySem PySem.Spec PyProof.Rows L2 TL
open PySem.PyData (strOk)
/-! ### stores made of drawn rows -/
def memB (r : RowB) : MemA := ⟨r.mem, sortP r.gs, sortS r.ws⟩
def arcW (p : ArcB) : ArcA := ⟨p.1, p.2.map memB⟩
/-- what a store is made of -/
structure StoW (names : List Str) (ps : List ArcB) : Prop where
  arc : ∀ p ∈ ps, ArcG1 names p
  nd : (ps.map (·.1)).Nodup
  bod : (bodP ps).Nodup
  bd : ∀ x ∈ bodP ps, 0 ≤ x ∧ x ≤ 999999
  len : ps.length ≤ 6
theorem BodW.nodup {a b : Int} {xs : List Int} (h : BodW a b xs) : xs.Nodup := h.inc.imp fun h e => by omega
theorem flat_sub {α β : Type} {f : α → List β} {ps qs : List α} (h : ps.Sublist qs) : (ps.flatMap f).Sublist (qs.flatMap f) := by
  induction h with
  | slnil => exact List.Sublist.refl _
  | cons a _ ih => rw [List.flatMap_cons]; exact ih.trans (List.sublist_append_right _ _)
  | cons_cons a _ ih => rw [List.flatMap_cons, List.flatMap_cons]; exact (List.Sublist.refl _).append ih
theorem flat_perm {α β : Type} {f : α → List β} {ps qs : List α} (h : ps.Perm qs) : (ps.flatMap f).Perm (qs.flatMap f) := by
  induction h with
  | nil => exact List.Perm.refl _
  | cons a _ ih => rw [List.flatMap_cons, List.flatMap_cons]; exact List.Perm.append_left _ ih
  | swap a b l =>
    simp only [List.flatMap_cons, ← List.append_assoc]
    exact List.Perm.append_right _ List.perm_append_comm
  | trans _ _ i1 i2 => exact i1.trans i2
theorem bodP_sub {ps qs : List ArcB} (h : ps.Sublist qs) : (bodP ps).Sublist (bodP qs) := flat_sub h
theorem StoW.sub {names : List Str} {ps qs : List ArcB} (h : StoW names qs) (hs : ps.Sublist qs) : StoW names ps :=
  ⟨fun p hp => h.arc p (hs.subset hp), h.nd.sublist (hs.map _), h.bod.sublist (bodP_sub hs), fun x hx => h.bd x ((bodP_sub hs).subset hx), Nat.le_trans hs.length_le h.len⟩
theorem StoW.perm {names : List Str} {ps qs : List ArcB} (h : StoW names qs) (hp : ps.Perm qs) : StoW names ps := by
  have hb : (bodP ps).Perm (bodP qs) := flat_perm hp
  exact ⟨fun p hq => h.arc p (hp.mem_iff.mp hq), (hp.map _).nodup_iff.mpr h.nd, hb.nodup_iff.mpr h.bod, fun x hx => h.bd x (hb.mem_iff.mp hx), by rw [hp.length_eq]; exact h.len⟩
/-! ### _law_archive, _law_store -/
def ArcOk (F : MF) : Prop := ∀ {s : Sto} {nm : Str} {ds : List D} {ms : List MemA}, GoodA nm ms → AllR (IsMem s) ds ms → (mkD "Archive" F (.str nm :: ds) s).wp fun d s' => IsArc s' d ⟨nm, ms⟩ ∧ Eff [] s s'
def AddOk (F : MF) : Prop := ∀ {s : Sto} {da dm : D} {a : ArcA} {m : MemA}, GoodA a.name (a.mems ++ [m]) → IsArc s da a → IsMem s dm m → (F [da, dm] s).wp fun d s' => IsArc s' d ⟨a.name, a.mems ++ [m]⟩ ∧ Eff [] s s'
def MembOk (F : MF) : Prop := ∀ {s : Sto} {nm : Str} {dd dw : D} {ps : List DefA} {ws : List Str}, GoodM nm ps ws → SeqOf s dd (ps.map defD) → SeqOf s dw (ws.map D.str) → (mkD "Member" F [.str nm, dd, dw] s).wp fun d s' => IsMem s' d ⟨nm, sortP ps, sortS ws⟩ ∧ Eff [] s s'
def OrOk (F : MF) : Prop := ∀ {s : Sto} {d da : D} {as : List ArcA} {a : ArcA}, IsSto s d as → IsArc s da a → GoodS as → IsName a.name → GoodS (orA as a) → (F [d, da] s).wp fun d' s' => IsSto s' d' (orA as a) ∧ Eff [] s s'
theorem rightOk_ref {rs : List Str} {st : Bool} {s : Sto} {n : Nat} {c : Str} {fs : List (Str × D)} (h : s[n]? = some (.ins c fs)) (hc : rs.contains c = true) : rightOk rs st s (.ref n) = true := by
  unfold rightOk
  dsimp only
  rw [h]
  exact hc
theorem IsMem.right {s : Sto} {d : D} {m : MemA} (h : IsMem s d m) : rightOk ["Member"] false s d = true := by
  obtain ⟨n, rfl, h⟩ := h
  exact rightOk_ref h (by decide)
theorem IsArc.right {s : Sto} {d : D} {a : ArcA} (h : IsArc s d a) : rightOk ["Archive"] false s d = true := by
  obtain ⟨n, ds, rfl, h, _⟩ := h
  exact rightOk_ref h (by decide)
def tLArc (initA km : MF) (tb : Tb) : SM := (sC (sA 2 (mN (mkD "Archive" initA) (aC (mV 0) aN))) (sC (sF (iSq (mV 1)) (gT [gN 3, gN 4, gN 5]) (sA 2 (m2 (dOwnL tb ["Member"] false dNo2) (mV 2) (mNk 1 2 (mkD "Member" km) (aC (mV 3) aN) (aC (mV 4) (aC (mV 5) aN)))))) (sR (mV 2))))
structure LAI (s : Sto) (nm : Str) (d1 : D) (rs : List RowB) (j : Nat) (e : Ev) (s2 : Sto) : Prop where
  ef : Eff [] s s2
  ex : ∃ da o3 o4 o5, IsArc s2 da ⟨nm, (rs.take j).map memB⟩ ∧ e = [some (.str nm), some d1, some da, o3, o4, o5]
def LArcOk (F : MF) : Prop := ∀ {s : Sto} {names : List Str} {p : ArcB}, ArcG1 names p → (∀ x ∈ names, IsName x) → (∀ x ∈ p.2.flatMap bodR, 0 ≤ x ∧ x ≤ 999999) → (F [.str p.1, .tup (p.2.map rowB)] s).wp fun d s' => IsArc s' d (arcW p) ∧ Eff [] s s'
def tLSto (initS larc : MF) (tb : Tb) : SM := (sC (sA 1 (mN (mkD "Store" initS) aN)) (sC (sF (iSq (mV 0)) (gT [gN 2, gN 3]) (sA 1 (m2 (dOwnL tb ["Archive"] false dNo2) (mV 1) (mN larc (aC (mV 2) (aC (mV 3) aN)))))) (sR (mV 1))))
structure LSI (s : Sto) (d0 : D) (ps : List ArcB) (j : Nat) (e : Ev) (s2 : Sto) : Prop where
  ef : Eff [] s s2
  ex : ∃ d o2 o3, IsSto s2 d ((ps.take j).map arcW) ∧ e = [some d0, some d, o2, o3]
theorem bodP_mem {ps : List ArcB} {p : ArcB} (h : p ∈ ps) : ∀ x ∈ p.2.flatMap bodR, x ∈ bodP ps := fun x hx => List.mem_flatMap.mpr ⟨p, h, hx⟩
end Z

set_option Elab.async false
set_option linter.all false
set_option maxRecDepth 100000
set_option maxHeartbeats 4000000
namespace Z
open PySem PySem.Spec PyProof.Rows L2 TL
open PySem.PyData (strOk)
instance : DecidableEq MemA := fun a b => if h : a.name = b.name ∧ a.defs = b.defs ∧ a.wants = b.wants then .isTrue (by
  obtain ⟨a1, a2, a3⟩ := a
  obtain ⟨b1, b2, b3⟩ := b
  obtain ⟨h1, h2, h3⟩ := h
  exact (show a1 = b1 from h1) ▸ (show a2 = b2 from h2) ▸ (show a3 = b3 from h3) ▸ rfl) else .isFalse fun e => h (by rw [e]; exact ⟨rfl, rfl, rfl⟩)
instance : DecidableEq ArcA := fun a b => if h : a.name = b.name ∧ a.mems = b.mems then .isTrue (by
  obtain ⟨a1, a2⟩ := a
  obtain ⟨b1, b2⟩ := b
  obtain ⟨h1, h2⟩ := h
  exact (show a1 = b1 from h1) ▸ (show a2 = b2 from h2) ▸ rfl) else .isFalse fun e => h (by rw [e]; exact ⟨rfl, rfl⟩)
/-! ### == of lists of own instances -/
structure EqR {α : Type} [DecidableEq α] (c : Str) (G : MF) (R : Sto → D → α → Prop) (ok : α → Prop) : Prop where
  ins : ∀ {s : Sto} {d : D} {a : α}, R s d a → ∃ n fs, d = .ref n ∧ s[n]? = some (.ins c fs)
  mono : ∀ {s t : Sto} {d : D} {a : α}, R s d a → Eff [] s t → R t d a
  func : ∀ {s : Sto} {d : D} {a b : α}, R s d a → R s d b → a = b
  eq : ∀ {s : Sto} {x y : D} {a b : α}, R s x a → R s y b → ok a → ok b → (G [x, y] s).wp fun d s' => d = .bl (decide (a = b)) ∧ Eff [] s s'
section
variable {α : Type} [DecidableEq α] {cs : List Str} {tb : Tb} {c : Str} {G : MF} {R : Sto → D → α → Prop} {ok : α → Prop}
end
end Z

set_option Elab.async false
set_option linter.all false
set_option maxRecDepth 100000
set_option maxHeartbeats 4000000
namespace Z
open PySem PySem.Spec PyProof.Rows L2 TL
open PySem.PyData (strOk)
/-! ### == of members, archives, stores -/
def okM (m : MemA) : Prop := strOk m.name = true ∧ (∀ p ∈ m.defs, okP p) ∧ ∀ w ∈ m.wants, strOk w = true
def okArc (a : ArcA) : Prop := strOk a.name = true ∧ a.mems.length ≤ 1000 ∧ ∀ m ∈ a.mems, okM m
theorem defD_inj {p q : DefA} (h : defD p = defD q) : p = q := by
  obtain ⟨a, b, c⟩ := p
  obtain ⟨a2, b2, c2⟩ := q
  unfold defD at h
  injection h with h
  simp only [List.cons.injEq, D.str.injEq, D.int.injEq, and_true] at h
  obtain ⟨rfl, rfl, rfl⟩ := h
  rfl
theorem map_inj' {α β : Type} {f : α → β} (hf : ∀ a b, f a = f b → a = b) : ∀ {xs ys : List α}, xs.map f = ys.map f → xs = ys
  | [], [], _ => rfl
  | [], _ :: _, h => by simp at h
  | _ :: _, [], h => by simp at h
  | x :: xs, y :: ys, h => by
    rw [List.map_cons, List.map_cons, List.cons.injEq] at h
    rw [hf x y h.1, map_inj' hf h.2]
theorem AllR.func {α : Type} {R : D → α → Prop} (hf : ∀ d a b, R d a → R d b → a = b) {ds : List D} {as bs : List α} (h : AllR R ds as) (h2 : AllR R ds bs) : as = bs := by
  refine List.ext_getElem (by rw [← h.1, h2.1]) fun i h3 h4 => ?_
  have h5 : i < ds.length := by rw [h.1]; exact h3
  exact hf ds[i] _ _ (h.2 i _ _ (List.getElem?_eq_getElem h5) (List.getElem?_eq_getElem h3)) (h2.2 i _ _ (List.getElem?_eq_getElem h5) (List.getElem?_eq_getElem h4))
theorem IsMem.func {s : Sto} {d : D} {a b : MemA} (h : IsMem s d a) (h2 : IsMem s d b) : a = b := by
  obtain ⟨n, rfl, h⟩ := h
  obtain ⟨m, e, h2⟩ := h2
  cases e
  rw [h] at h2
  obtain ⟨a1, a2, a3⟩ := a
  obtain ⟨b1, b2, b3⟩ := b
  injection h2 with h2
  injection h2 with _ h2
  simp only [List.cons.injEq, Prod.mk.injEq, true_and, and_true, D.str.injEq, D.tup.injEq] at h2
  obtain ⟨rfl, e2, e3⟩ := h2
  rw [map_inj' (fun _ _ => defD_inj) e2, map_inj' (fun _ _ h => by injection h) e3]
theorem IsArc.func {s : Sto} {d : D} {a b : ArcA} (h : IsArc s d a) (h2 : IsArc s d b) : a = b := by
  obtain ⟨n, ds, rfl, h, k⟩ := h
  obtain ⟨m, es, e, h2, k2⟩ := h2
  cases e
  rw [h] at h2
  obtain ⟨a1, a2⟩ := a
  obtain ⟨b1, b2⟩ := b
  injection h2 with h2
  injection h2 with _ h2
  simp only [List.cons.injEq, Prod.mk.injEq, true_and, and_true, D.str.injEq, D.tup.injEq] at h2
  obtain ⟨rfl, rfl⟩ := h2
  have e := AllR.func (R := IsMem s) (fun _ _ _ h h' => IsMem.func h h') k k2
  rw [show a2 = b2 from e]
/-- the parts of a member -/
def partsD (m : MemA) : D := .tup [.str m.name, .tup (m.defs.map defD), .tup (m.wants.map D.str)]
def tParts (cs : List Str) : SM := (sR (mN fTup (aC (mFld cs "name" (mV 0)) (aC (mFld cs "defines" (mV 0)) (aC (mFld cs "wants" (mV 0)) aN)))))
def tEqM (cls : List Str) (tb : Tb) : SM := (sR (mAnd (mIsiC cls "Member" (mV 1)) (m2 dEq (mMeth tb "parts" (mV 0) aN) (mMeth tb "parts" (mV 1) aN))))
def tLen (cs : List Str) (f : Str) : SM := (sR (mN fLen (aC (mFld cs f (mV 0)) aN)))
def tEqA (cls cs : List Str) (tbE tbL : Tb) (itb : Itb) : SM := (sR (mAnd (mIsiC cls "Archive" (mV 1)) (mAnd (m2 dEq (mFld cs "name" (mV 0)) (mFld cs "name" (mV 1))) (m2 (dEqO cls tbE false) (mN (fListO tbL itb fList) (aC (mV 0) aN)) (mN (fListO tbL itb fList) (aC (mV 1) aN))))))
def tEqS (cls : List Str) (tbE tbL : Tb) (itb : Itb) : SM := (sR (mAnd (mIsiC cls "Store" (mV 1)) (m2 (dEqO cls tbE false) (mN (fListO tbL itb fList) (aC (mV 0) aN)) (mN (fListO tbL itb fList) (aC (mV 1) aN)))))
def EqSOk (F : MF) : Prop := ∀ {s : Sto} {x y : D} {as bs : List ArcA}, IsSto s x as → IsSto s y bs → as.length ≤ 1000 → bs.length ≤ 1000 → (∀ a ∈ as, okArc a) → (∀ a ∈ bs, okArc a) → (F [x, y] s).wp fun d s' => d = .bl (decide (as = bs)) ∧ Eff [] s s'
end Z

set_option Elab.async false
set_option linter.all false
set_option maxRecDepth 100000
set_option maxHeartbeats 4000000
namespace Z
open PySem PySem.Spec PyProof.Rows L2 TL
open PySem.PyData (strOk)
/-! ### the names in a store, each once, ascending -/
def nmsM (m : MemA) : List Str := m.defs.map (·.1) ++ m.wants
def nmsA (a : ArcA) : List Str := a.mems.flatMap nmsM
def nmsS (as : List ArcA) : List Str := as.flatMap nmsA
structure NI (s : Sto) (seen : List Str) (s2 : Sto) : Prop where
  ef : Eff [] s s2
  hz : s.length < s2.length
  st : setAt s2 s.length = some ((onceS seen).map D.str)
theorem NI.eff {s t u : Sto} {seen : List Str} (h : NI s seen t) (e : Eff [] t u) : NI s seen u := ⟨h.ef.trans e, Nat.lt_of_lt_of_le h.hz e.le, e.st h.st (by simp)⟩
def tNamesIn (itb : Itb) (csM : List Str) : SM := (sC (sA 1 mSet0) (sC (sF (iSq (mV 0)) (gN 2) (sF (iOwn itb (mV 2)) (gN 3) (sF (iSq (m2 dAdd (mL (iSq (mFld csM "defines" (mV 3))) (gN 5) tY (m2 dIx (mV 5) (mC (.int 0))) [5]) (mN fList (aC (mFld csM "wants" (mV 3)) aN)))) (gN 4) (sE (mSAdd (mV 1) (aC (mV 4) aN)))))) (sR (mN (fSortZ fSortA) (aC (mV 1) aN)))))
end Z

set_option Elab.async false
set_option linter.all false
set_option maxRecDepth 100000
set_option maxHeartbeats 4000000
namespace Z
open PySem PySem.Spec PyProof.Rows L2 TL
open PySem.PyData (strOk)
def tGetS (tb : Tb) (cs csI : List Str) : SM := (sC (sI (toB (m2 (dInO true tb dNo2) (mV 1) (mV 0))) sNo sN) (sR (m2 dIx (mL (iSq (mFld cs "archives" (mV 0))) (gN 2) (toB (m2 dEq (mFld csI "name" (mV 2)) (mV 1))) (mV 2) [2]) (mC (.int 0)))))
end Z

set_option Elab.async false
set_option linter.all false
set_option maxRecDepth 100000
set_option maxHeartbeats 4000000
namespace Z
open PySem PySem.Spec PyProof.Rows L2 TL
open PySem.PyData (strOk)
/-! ### what a drawn store is good for -/
def nmsR (r : RowB) : List Str := r.gs.map (·.1) ++ r.ws
def nmsB (ps : List ArcB) : List Str := ps.flatMap fun p => p.2.flatMap nmsR
theorem sum_le {α β : Type} {f : α → List β} {b : Nat} : ∀ {l : List α}, (∀ a ∈ l, (f a).length ≤ b) → (l.flatMap f).length ≤ b * l.length
  | [], _ => by simp
  | a :: l, h => by
    have h1 := h a List.mem_cons_self
    have h2 := sum_le (f := f) fun x hx => h x (List.mem_cons_of_mem a hx)
    rw [List.flatMap_cons, List.length_append, List.length_cons, Nat.mul_add]
    omega
theorem RowG1.nl {names : List Str} {r : RowB} (h : RowG1 names r) : (nmsR r).length ≤ 5 := by
  unfold nmsR
  rw [List.length_append, List.length_map]
  have := h.l1
  have := h.l2
  omega
theorem ArcG1.nl {names : List Str} {p : ArcB} (h : ArcG1 names p) : (p.2.flatMap nmsR).length ≤ 35 := by
  have := sum_le (f := nmsR) (b := 5) (l := p.2) fun r hr => (h.row r hr).nl
  have := h.len
  omega
theorem StoW.nl {names : List Str} {ps : List ArcB} (h : StoW names ps) : (nmsB ps).length ≤ 210 := by
  have := sum_le (f := fun p : ArcB => p.2.flatMap nmsR) (b := 35) (l := ps) fun p hp => (h.arc p hp).nl
  have := h.len
  unfold nmsB
  omega
theorem StoW.nmsB {names : List Str} {ps : List ArcB} (h : StoW names ps) : ∀ x ∈ nmsB ps, x ∈ names := fun x hx => by
  obtain ⟨p, hp, hx⟩ := List.mem_flatMap.mp hx
  obtain ⟨r, hr, hx⟩ := List.mem_flatMap.mp hx
  exact ((h.arc p hp).row r hr).sub x hx
/-! plain rows -/
end Z

set_option Elab.async false
set_option linter.all false
set_option maxRecDepth 100000
set_option maxHeartbeats 4000000
namespace Z
open PySem PySem.Spec PyProof.Rows L2 TL
open PySem.PyData (strOk)
/-! ### lists of new instances -/
def Keep (s t : Sto) : Prop := ∀ (i : Nat) (c : Str) (fs : List (Str × D)), s[i]? = some (.ins c fs) → t[i]? = some (.ins c fs)
theorem Keep.of {s t : Sto} (h : Eff [] s t) : Keep s t := fun i c fs e => h.get e (by simp)
theorem Keep.trans {s t u : Sto} (h : Keep s t) (h2 : Keep t u) : Keep s u := fun i c fs e => h2 i c fs (h i c fs e)
theorem Keep.set {s : Sto} {n : Nat} {o o' : SO} (h : s[n]? = some o) (ho : ∀ c fs, o ≠ .ins c fs) : Keep s (s.set n o') := fun i c fs hi => by
  have : n ≠ i := by
    rintro rfl
    rw [h] at hi
    exact ho c fs (Option.some.inj hi)
  rw [List.getElem?_set_ne this]
  exact hi
theorem IsMem.keep {s t : Sto} {d : D} {m : MemA} (h : IsMem s d m) (k : Keep s t) : IsMem t d m := by
  obtain ⟨n, h1, h2⟩ := h
  exact ⟨n, h1, k _ _ _ h2⟩
theorem IsArc.keep {s t : Sto} {d : D} {m : ArcA} (h : IsArc s d m) (k : Keep s t) : IsArc t d m := by
  obtain ⟨n, ds, h1, h2, h3⟩ := h
  exact ⟨n, ds, h1, k _ _ _ h2, h3.mono fun _ _ h => h.keep k⟩
theorem IsSto.keep {s t : Sto} {d : D} {m : List ArcA} (h : IsSto s d m) (k : Keep s t) : IsSto t d m := by
  obtain ⟨n, ds, h1, h2, h3⟩ := h
  exact ⟨n, ds, h1, k _ _ _ h2, h3.mono fun _ _ h => h.keep k⟩
end Z

set_option Elab.async false
set_option linter.all false
set_option maxRecDepth 100000
set_option maxHeartbeats 4000000
namespace Z
open PySem PySem.Spec PyProof.Rows L2 TL
open PySem.PyData (strOk)
/-! ### repr of a list of names -/
mutual
def onlyT : D → Bool
  | .str _ => true
  | .tup xs => onlyTs xs
  | _ => false
def onlyTs : List D → Bool
  | [] => true
  | x :: xs => onlyT x && onlyTs xs
end
mutual
theorem only_show : ∀ d : D, onlyT d = true → (enc d).showable = true ∧ (enc d).intsShort 13 = true
  | .str x, _ => by simp [enc, PyData.showable, PyData.intsShort]
  | .tup xs, h => by
    rw [onlyT] at h
    have := onlys_show xs h
    rw [enc, PyData.showable, PyData.intsShort]
    exact this
  | .non, h => absurd h (by simp [onlyT])
  | .bl _, h => absurd h (by simp [onlyT])
  | .int _, h => absurd h (by simp [onlyT])
  | .ref _, h => absurd h (by simp [onlyT])
theorem onlys_show : ∀ xs : List D, onlyTs xs = true → PyData.showableAll (encs xs) = true ∧ PyData.intsShortAll 13 (encs xs) = true
  | [], _ => by simp [encs, PyData.showableAll, PyData.intsShortAll]
  | x :: xs, h => by
    rw [onlyTs, Bool.and_eq_true] at h
    obtain ⟨h1, h2⟩ := only_show x h.1
    obtain ⟨h3, h4⟩ := onlys_show xs h.2
    rw [encs, PyData.showableAll, PyData.intsShortAll, h1, h2, h3, h4]
    exact ⟨rfl, rfl⟩
end
def reprS (xs : List Str) : Str := (PyData.list (encs (xs.map D.str))).shown
end Z

set_option Elab.async false
set_option linter.all false
set_option maxRecDepth 100000
set_option maxHeartbeats 4000000
namespace Z
open PySem PySem.Spec PyProof.Rows L2 TL
open PySem.PyData (strOk)
/-! ### what _law_told tells: lists in tuples in a list -/
def toldM (m : MemA) : PyData := .tuple [.str m.name, .list (encs (m.defs.map defD)), .list (encs (m.wants.map D.str))]
def toldA (a : ArcA) : PyData := .tuple [.str a.name, .list (a.mems.map toldM)]
def toldS (as : List ArcA) : PyData := .list (as.map toldA)
/-! what stands for it in the store -/
def TM (L : Nat) (s : Sto) (d : D) (m : MemA) : Prop := ∃ a b, L < a ∧ L < b ∧ d = .tup [.str m.name, .ref a, .ref b] ∧ mlAt s a = some (m.defs.map defD) ∧ mlAt s b = some (m.wants.map D.str)
def TA (n : Nat) (s : Sto) (d : D) (a : ArcA) : Prop := ∃ L ds, n < L ∧ d = .tup [.str a.name, .ref L] ∧ mlAt s L = some ds ∧ AllR (TM L s) ds a.mems
/-- what lies behind n stays -/
def Stay (n : Nat) (s t : Sto) : Prop := s.length ≤ t.length ∧ ∀ i, i < s.length → n < i → t[i]? = s[i]?
theorem Stay.ml {n : Nat} {s t : Sto} (h : Stay n s t) {i : Nat} {xs : List D} (hi : n < i) (hx : mlAt s i = some xs) : mlAt t i = some xs :=
  mlAt_some (by rw [h.2 i (lstAt_lt (lstAt_ml hx)) hi]; exact mlAt_get hx)
theorem Stay.of {n : Nat} {s t : Sto} (h : Eff [] s t) : Stay n s t := ⟨h.le, fun i hi _ => h.eq i hi (by simp)⟩
theorem Stay.trans {n : Nat} {s t u : Sto} (h : Stay n s t) (h2 : Stay n t u) : Stay n s u := ⟨Nat.le_trans h.1 h2.1, fun i hi hn => by rw [h2.2 i (Nat.lt_of_lt_of_le hi h.1) hn, h.2 i hi hn]⟩
theorem Stay.set {n : Nat} {s : Sto} {o : SO} : Stay n s (s.set n o) := ⟨by simp, fun i _ hn => List.getElem?_set_ne (by omega)⟩
theorem Stay.le {n m : Nat} {s t : Sto} (h : Stay n s t) (hm : n ≤ m) : Stay m s t := ⟨h.1, fun i hi hn => h.2 i hi (by omega)⟩
theorem TM.stay {L : Nat} {s t : Sto} {d : D} {m : MemA} (h : TM L s d m) (e : Stay L s t) : TM L t d m := by
  obtain ⟨a, b, h1, h2, rfl, h3, h4⟩ := h
  exact ⟨a, b, h1, h2, rfl, e.ml h1 h3, e.ml h2 h4⟩
theorem TA.stay {n : Nat} {s t : Sto} {d : D} {a : ArcA} (h : TA n s d a) (e : Stay n s t) : TA n t d a := by
  obtain ⟨L, ds, h1, rfl, h2, h3⟩ := h
  exact ⟨L, ds, h1, rfl, e.ml h1 h2, h3.mono fun _ _ h => h.stay (e.le (Nat.le_of_lt h1))⟩
theorem lc_allT {α : Type} {e : Ev} {s0 : Sto} {j : Stp} {g : GN} {N : Nat} {xs : List D} {mm : EM D} (R : D → α → Prop) (R2 : Sto → D → α → Prop) (mono : ∀ {s t : Sto} {y : D} {a : α}, R2 s y a → Stay s0.length s t → R2 t y a) {as : List α} (hR : AllR R xs as) (it : ItOk [] s0 j N xs) (hl : as.length < sizeLine)
    (body : ∀ d a s, R d a → a ∈ as → Eff [] s0 s → s0.length < s.length → ∃ e1, g d e = some e1 ∧ (mm e1 s).wp fun y s2 => Eff [] s s2 ∧ R2 s2 y a) :
    (lcL j g tY mm s0.length N 0 e (s0 ++ [.lst []])).wp fun d s' => d = .ref s0.length ∧ Eff [] s0 s' ∧ s0.length < s'.length ∧ ∃ ys, mlAt s' s0.length = some ys ∧ AllR (R2 s') ys as := by
  refine wp_ne (lcL_wp (N := N) (fun i acc s => Eff [] s0 s ∧ s0.length < s.length ∧ AllR (R2 s) acc (as.take i)) ?_ N 0 [] _ (by simp) ⟨Eff.push, by simp, by simpa using AllR.nil⟩ (by simp)) ?_
  · rintro i acc s hi ⟨ef, hlt, hA⟩ hs
    have hNx := it.1
    have hxa := hR.1
    refine ⟨fun h => ?_, fun h => ?_⟩
    · rw [it.2 i s ef, List.getElem?_eq_none (by omega)]
    · have hi2 : i < xs.length := by omega
      have ha : as[i]? = some (as[i]'(by omega)) := List.getElem?_eq_getElem _
      generalize as[i]'(by omega) = a at ha
      obtain ⟨e1, h1, h2⟩ := body xs[i] a s (hR.2 i _ _ (List.getElem?_eq_getElem hi2) ha) (List.mem_of_getElem? ha) ef hlt
      refine ⟨xs[i], e1, by rw [it.2 i s ef, List.getElem?_eq_getElem hi2], h1, ?_⟩
      rw [z_tY, if_pos rfl]
      refine wp_ne h2 ?_
      rintro y s2 ⟨ef2, hy⟩
      have hs2 := ef2.get hs (by simp)
      have la : acc.length = i := by rw [hA.1, List.length_take]; omega
      have k2 : Stay s0.length s2 (s2.set s0.length (.lst (acc ++ [y]))) := Stay.set
      refine ⟨hs2, by omega, (ef.trans ef2).set (Nat.le_refl _), by rw [List.length_set]; exact Nat.lt_of_lt_of_le hlt ef2.le, ?_⟩
      rw [take_snoc ha]
      refine ⟨by rw [List.length_append, List.length_append, hA.1]; rfl, fun q d b hq hb => ?_⟩
      by_cases hqi : q < i
      · rw [List.getElem?_append_left (by omega)] at hq
        rw [List.getElem?_append_left (by rw [← hA.1]; omega)] at hb
        exact mono (hA.2 q d b hq hb) ((Stay.of ef2).trans k2)
      · have : q = i := by
          have := (List.getElem?_eq_some_iff.mp hq).1
          rw [List.length_append, List.length_singleton] at this
          omega
        subst this
        rw [List.getElem?_append_right (by omega), la, Nat.sub_self] at hq
        rw [List.getElem?_append_right (by rw [← hA.1]; omega), ← hA.1, la, Nat.sub_self] at hb
        cases hq
        cases hb
        exact mono hy k2
  · rintro d s' ⟨rfl, ys, h1, ef, hlt, hA⟩
    refine ⟨rfl, ef, hlt, ys, mlAt_some h1, ?_⟩
    rw [it.1, hR.1, List.take_length] at hA
    exact hA
theorem AllR.snoc {α : Type} {R : D → α → Prop} {ds : List D} {as : List α} {d : D} {a : α} (h : AllR R ds as) (hd : R d a) : AllR R (ds ++ [d]) (as ++ [a]) :=
  ⟨by rw [List.length_append, List.length_append, h.1]; rfl, fun q e b hq hb => by
    have hl := h.1
    by_cases hqi : q < ds.length
    · rw [List.getElem?_append_left hqi] at hq
      rw [List.getElem?_append_left (by omega)] at hb
      exact h.2 q e b hq hb
    · have : q = ds.length := by
        have := (List.getElem?_eq_some_iff.mp hq).1
        rw [List.length_append, List.length_singleton] at this
        omega
      subst this
      rw [List.getElem?_append_right (Nat.le_refl _), Nat.sub_self] at hq
      rw [List.getElem?_append_right (by omega), ← hl, Nat.sub_self] at hb
      cases hq
      cases hb
      exact hd⟩
def tTold : SM := (sC (sA 1 (mN fLst aN)) (sC (sF (iSq (mV 0)) (gT [(gN 2), (gN 3)]) (sE (mBM "list" (mtL lAppend) (mV 1) (aC (mN fTup (aC (mV 2) (aC (mL (iSq (mV 3)) (gN 4) tY (mN fTup (aC (m2 dIx (mV 4) (mC (.int 0))) (aC (mN fSortA (aC (m2 dIx (mV 4) (mC (.int 1))) aN)) (aC (mN fSortA (aC (m2 dIx (mV 4) (mC (.int 2))) aN)) aN)))) [4]) aN))) aN)))) (sR (mV 1))))
structure TI (s : Sto) (as : List ArcA) (s2 : Sto) : Prop where
  ef : Eff [] s s2
  hz : s.length < s2.length
  st : ∃ ds, mlAt s2 s.length = some ds ∧ AllR (TA s.length s2) ds as
end Z

set_option Elab.async false
set_option linter.all false
set_option maxRecDepth 100000
set_option maxHeartbeats 4000000
namespace Z
open PySem PySem.Spec PyProof.Rows L2 TL
open PySem.PyData (strOk)
/-! ### a store is not in a list of others -/
/-! ### two bools -/
/-! ### the rows after / -/
def putB (ps : List ArcB) (p : ArcB) : List ArcB := if p.1 ∈ ps.map (·.1) then ps.map (fun o => if o.1 = p.1 then p else o) else ps ++ [p]
theorem putB_names {ps : List ArcB} {p : ArcB} : (putB ps p).map (·.1) = if p.1 ∈ ps.map (·.1) then ps.map (·.1) else ps.map (·.1) ++ [p.1] := by
  unfold putB
  by_cases e : p.1 ∈ ps.map (·.1)
  · rw [if_pos e, if_pos e, List.map_map]
    refine List.map_congr_left fun o _ => ?_
    show (if o.1 = p.1 then p else o).1 = o.1
    by_cases q : o.1 = p.1
    · rw [if_pos q, q]
    · rw [if_neg q]
  · rw [if_neg e, if_neg e, List.map_append]
    rfl
theorem putB_mem {ps : List ArcB} {p q : ArcB} (h : q ∈ putB ps p) : q = p ∨ q ∈ ps := by
  unfold putB at h
  split at h
  · obtain ⟨o, ho, rfl⟩ := List.mem_map.mp h
    split
    · exact .inl rfl
    · exact .inr ho
  · rcases List.mem_append.mp h with h | h
    · exact .inr h
    · exact .inl (List.mem_singleton.mp h)
/-- the bodies that are left, and those of the new one -/
theorem putB_bod : ∀ {ps : List ArcB} {p : ArcB}, (ps.map (·.1)).Nodup → (bodP ps ++ p.2.flatMap bodR).Nodup → (bodP (putB ps p)).Nodup
  | ps, p, nd, h => by
    by_cases e : p.1 ∈ ps.map (·.1)
    · have e2 : putB ps p = ps.map (fun o => if o.1 = p.1 then p else o) := by unfold putB; rw [if_pos e]
      rw [e2]
      clear e2
      induction ps with
      | nil => simp at e
      | cons o ps ih =>
        rw [List.map_cons, List.nodup_cons] at nd
        by_cases q : o.1 = p.1
        · have rest : ps.map (fun o => if o.1 = p.1 then p else o) = ps := by
            conv => rhs; rw [← List.map_id ps]
            refine List.map_congr_left fun x hx => ?_
            rw [if_neg fun h => nd.1 (by rw [q, ← h]; exact List.mem_map_of_mem hx)]
            rfl
          rw [List.map_cons, if_pos q, rest]
          unfold bodP at h ⊢
          rw [List.flatMap_cons] at h ⊢
          rw [List.append_assoc] at h
          have h2 := (List.nodup_append.mp h).2.1
          exact (List.perm_append_comm.nodup_iff).mp h2
        · have e3 : p.1 ∈ ps.map (·.1) := by
            rw [List.map_cons] at e
            rcases List.mem_cons.mp e with h | h
            · exact absurd h.symm q
            · exact h
          unfold bodP at h
          rw [List.flatMap_cons, List.append_assoc] at h
          obtain ⟨h1, h2, h3⟩ := List.nodup_append.mp h
          have h4 := ih nd.2 h2 e3
          rw [List.map_cons, if_neg q]
          unfold bodP at h4 ⊢
          rw [List.flatMap_cons]
          refine List.nodup_append.mpr ⟨h1, h4, fun x hx y hy exy => ?_⟩
          subst exy
          obtain ⟨z, hz, hxz⟩ := List.mem_flatMap.mp hy
          obtain ⟨w, hw, rfl⟩ := List.mem_map.mp hz
          refine h3 x hx x ?_ rfl
          by_cases c : w.1 = p.1
          · rw [if_pos c] at hxz
            exact List.mem_append_right _ hxz
          · rw [if_neg c] at hxz
            exact List.mem_append_left _ (List.mem_flatMap.mpr ⟨w, hw, hxz⟩)
    · unfold putB
      rw [if_neg e]
      unfold bodP at h ⊢
      rw [List.flatMap_append]
      simpa using h
theorem StoW.put {names : List Str} {ps : List ArcB} {p : ArcB} (h : PlainW names ps) (hl : ps.length ≤ 5) (hp : ArcG1 names p) (hb : BodW 199999 300000 (p.2.flatMap bodR)) : StoW names (putB ps p) := by
  obtain ⟨lo, hi, hw, h0, h1⟩ := h.bod
  have nd : (bodP ps ++ p.2.flatMap bodR).Nodup := List.nodup_append.mpr ⟨hw.nodup, hb.nodup, fun x hx y hy e => by
    have := hw.bd x hx
    have := hb.bd y hy
    omega⟩
  refine ⟨fun q hq => ?_, ?_, putB_bod h.nd nd, fun x hx => ?_, ?_⟩
  · rcases putB_mem hq with rfl | hq
    · exact hp
    · exact h.arc q hq
  · rw [putB_names]
    split
    · exact h.nd
    · rename_i e
      exact List.nodup_append.mpr ⟨h.nd, by simp, fun x hx y hy exy => e (by rw [List.mem_singleton.mp hy] at exy; rw [← exy]; exact hx)⟩
  · obtain ⟨q, hq, hx2⟩ := List.mem_flatMap.mp hx
    rcases putB_mem hq with e | hq
    · subst e
      have := hb.bd x hx2
      omega
    · have := hw.bd x (bodP_mem hq x hx2)
      omega
  · have := congrArg List.length (putB_names (ps := ps) (p := p))
    rw [List.length_map] at this
    rw [this]
    split <;> simp <;> omega
end Z

set_option Elab.async false
set_option linter.all false
set_option maxRecDepth 100000
set_option maxHeartbeats 4000000
namespace Z
open PySem PySem.Spec PyProof.Rows L2
variable [Row]
/-! ### own errors over any built-in class, one field -/
def xLookup : XBase := ⟨_, _, _, _, F.excBase_LookupError, F.store_LookupError⟩
def xType : XBase := ⟨_, _, _, _, F.excBase_TypeError, F.store_TypeError⟩
def xOverflow : XBase := ⟨_, _, _, _, F.excBase_OverflowError, F.store_OverflowError⟩
def xRuntime : XBase := ⟨_, _, _, _, F.excBase_RuntimeError, F.store_RuntimeError⟩
/-- what the written part says of the class at C, its __init__ at g, its field f -/
structure XCl (b : XBase) (K : PySem.W.Frag) (C g : Addr) (f : Str) : Prop where
  ini : PySem.W.excInitIn K C b.bm b.newId = true
  ovr : PySem.W.excOver K C b.bm = true
  dct : PySem.W.hasDictIn K C = true
  tak : PySem.W.takerIn K C f = some none
  sa : PySem.W.findIn K (.ref C) "__setattr__" = some (some (.builtin "object.__setattr__"))
  ii : PySem.W.findIn K (.ref C) "__init__" = some (some (.ref g))
  ti : PySem.W.typeIn K (.ref g) = some (.type "function")
  sub : PySem.W.subIn K (.ref C) (.type "BaseException") = some true
  ty : PySem.W.typeIn K (.ref C) = some (.type "type")
  kp : PySem.W.keepIn K (.ref C) = true
theorem xclB_ok {b : XBase} {K : PySem.W.Frag} {C g : Addr} {f : Str} (h : xclB b K C g f = true) : XCl b K C g f := by
  unfold xclB at h
  simp only [Bool.and_eq_true, decide_eq_true_eq] at h
  obtain ⟨h1, h2, h3, h4, h5, h6, h7, h8, h9, h10⟩ := h
  exact ⟨h1, h2, h3, h4, h5, h6, h7, h8, h9, h10⟩
section
variable {b : XBase} {K : PySem.W.Frag} {C g : Addr} {f : Str}
/-- the first field, at the heap -/
theorem x_osa {prog : Program} {w : World} {A : Around} {E : Value → Shared → Prop} {hp : Heap} {gs : Array GenState} {d : Drawn} {t : Nat} {os : OsState} {x t1 : Addr} {v : Value} {Q : Unit → Shared → Prop} (T : XCl b K C g f) (k : K.In hp)
    (hx : hp.get? x = some (HandSPX.excO C t1))
    (hq : ∀ h' tk' dx, (∀ c o, c ≠ x → hp.get? c = some o → h'.get? c = some o) → hp.objs.size ≤ dx → dx ≠ x → h'.get? x = some { cls := .ref C, dict := some dx, data := .fields #[.ref t1, .none, .none, .none, .bool false, .none] } →
      h'.Ns1 dx (fun y => if y = f then some v else none) → Q () ⟨h', gs, d, tk', os⟩) :
    wpAny (model prog w) A (setAttr (.ref x) f v) Q E ⟨hp, gs, d, t, os⟩ := by
  have I : PySem.W.InstAt hp x (HandSPX.excO C t1) C none := ⟨hx, rfl, rfl, trivial⟩
  have hxs : x ≠ hp.objs.size := Nat.ne_of_lt (Heap.lt_size hx)
  obtain ⟨cd, hcd, hdct⟩ := PySem.W.any_some T.dct
  have lc : PySem.W.Looks (model prog w) hp (classData C) cd := PySem.W.looks_clsIn k hcd
  refine PySem.W.set_plain k I T.sa ?_
  refine PySem.W.osa_openX b.SF k I T.ovr T.tak fun bb => ?_
  obtain ⟨nm, bs, mro, ns, qn, hd, sn, sb, ab, col, del⟩ := cd
  dsimp only at hdct
  subst hdct
  dsimp only
  unfold Builtin.ObjectAttr.storeInOwnDict Builtin.ObjectAttr.ownDictForStores
  repeat (first | with_reducible refine HandSPX.store_in_new ?_ fun h2 tk2 n2 s2 => ?_ | with_reducible refine wpAny_loadPart_at hx ?_ | with_reducible refine lc.at ?_ | wp_step)
  · exact ⟨_, #[], _, (Heap.get?_update_ne _ _ _ _ hxs.symm).trans (Heap.get?_push_at rfl rfl), rfl, fun e he => absurd he (by simp), fun _ => rfl⟩
  · have hx1 : (hp.push { cls := Value.type "dict", data := Data.dict #[] }).get? x = some (HandSPX.excO C t1) := Heap.get?_push_of_some _ hx
    refine hq h2 tk2 _ (fun c o hc ho => ?_) (Nat.le_refl _) hxs.symm ((s2.2 x hxs).trans (Heap.get?_update_self _ hx1 rfl)) n2
    exact (s2.2 c (Nat.ne_of_lt (Heap.lt_size ho))).trans ((Heap.get?_update_ne _ _ _ _ hc).trans (Heap.get?_push_of_some _ ho))
/-- the same, over what is held -/
theorem x_put {X : Cx} {pins : List (Addr × Obj)} {σ : L2.St} {H : Hp} {s : Shared} {A : Around} {a : Addr} {y : V} {u : Value} {Q : Unit → Shared → Prop} {E : Value → Shared → Prop} (T : XCl b X.K C g f) (I : Inv X pins σ H s) (ha : H a = some (exo a C none)) (ry : RelV y u)
    (hQ : ∀ n s2, H n = none → n ≠ a → Inv X pins σ (upd (upd H n (exd n [(f, y)])) a (exo a C (some n))) s2 → Q () s2) : wpAny (model X.prog X.w) A (setAttr (.ref a) f u) Q E s := by
  obtain ⟨t1, ho⟩ := exo_at I.hok ha
  obtain ⟨hp, gs, d, t, os⟩ := s
  refine x_osa T I.kIn ho fun h2 tk n kp hn hna hx2 hns => ?_
  have hHn : H n = none := I.hok.fresh hn
  have old : ∀ {c : Addr} {o : Obj}, hp.get? c = some o → c ≠ n := fun q => Nat.ne_of_lt (Nat.lt_of_lt_of_le (Heap.lt_size q) hn)
  have free : ∀ {c : Addr}, H c = none → c ≠ a := fun q z => by
    rw [z, ha] at q
    cases q
  have two : ∀ {c : Addr} {o : HO}, H c = some o → o ≠ exo a C none → (upd (upd H n (exd n [(f, y)])) a (exo a C (some n))) c = some o := fun {c o} q ne => by
    have c1 : c ≠ a := fun z => by
      rw [z, ha] at q
      exact ne (Option.some.inj q).symm
    rw [upd_ne c1, upd_ne (ne_of_none q hHn)]
    exact q
  have U : Un X.fs [] H (upd (upd H n (exd n [(f, y)])) a (exo a C (some n))) hp h2 :=
    ⟨fun c o q nn _ _ => kp c o (free nn) q, fun c o q nn _ _ => ⟨o.slots, kp c o (free nn) q⟩, fun c o q nn _ => by rw [upd_ne (free nn), upd_ne (old q)]; exact nn,
      fun c o q _ => by
        by_cases z : c = a
        · subst z
          exact ⟨_, hx2⟩
        · exact ⟨o, kp c o z q⟩,
      fun c xs q => two q fun z => exo_tup z.symm, fun c o v q => two q fun z => exo_frz z.symm, fun c ps q => ⟨#[], by rw [two q fun z => exo_tbl z.symm]; simp⟩⟩
  refine hQ n _ hHn hna (I.un (t' := tk) U fun c o q => ?_)
  by_cases z : c = a
  · subst z
    rw [upd_same] at q
    cases q
    exact exo_ok hx2
  · rw [upd_ne z] at q
    by_cases z2 : c = n
    · subst z2
      rw [upd_same] at q
      cases q
      exact exd_ok hns (relO_put (fs := []) ry fun _ => True.intro)
    · rw [upd_ne z2] at q
      have noown : ∀ {i : Addr}, H i = some (.own c) → i ≠ a := fun q2 => at_ne ha q2 exo_own
      refine (I.hok c o q).stay (fun i v hi q2 => kp i v ?_ q2) (fun i q2 => two q2 fun z => exo_own z.symm) fun i xs q2 => two q2 fun z => exo_tup z.symm
      rcases hi with rfl | hi
      · exact z
      · exact noown hi
/-- self.f = x in its __init__ -/
theorem ps_xput {X : Cx} {o e : Expr} {to te : TE} {p1 pos : Pos} (T : XCl b X.K C g f) (ho : PE X o to) (he : PE X e te) (hs : swapsWith e (some (.Attribute o f p1)) pos.line X.env = pure false) :
    PS X (.Assign [.Attribute o f p1] e pos) (fun D σ H => te σ H fun y H1 => to σ H1 fun x H2 => ∃ a, x = .ref a ∧ H2 a = some (exo a C none) ∧ ∀ n, H2 n = none → n ≠ a → D.nx σ (upd (upd H2 n (exd n [(f, y)])) a (exo a C (some n)))) := by
  refine ⟨fun pins s σ H D I h => plainObj_wpAny_Assign_Attribute (thn (he.run pins s σ H _ I h) fun v s1 hv => ?_) hs⟩
  obtain ⟨y, H1, I1, ry, h1⟩ := hv
  refine thn (ho.run pins s1 σ H1 _ I1 h1) fun u s2 hu => ?_
  obtain ⟨x, H2, I2, rx, a, rfl, ha, h2⟩ := hu
  obtain rfl : u = Value.ref a := rx
  exact x_put T I2 ha ry fun n s3 hn hna J => ⟨σ, _, J, h2 n hn hna⟩
/-- what its __init__ does -/
def xSp (C : Addr) (f : Str) : Sp := fun vs H Q _ => ∃ a v, vs = [.ref a, v] ∧ H a = some (exo a C none) ∧ ∀ n, H n = none → n ≠ a → Q .non (upd (upd H n (exd n [(f, v)])) a (exo a C (some n)))
theorem x_fn {P : Program} {w : World} {mg : Str → Option Value} {base : Heap} {CX : CXT} {k : Nat} {fd : FuncData} {nm qual x1 x2 : Str} {params : Arguments} {scope : Scope} {p1 p2 p3 pos : Pos} {body : List Stmt} (T : XCl b K C g f)
    (F : FunD K nm qual params body scope [] [] g fd) (hbd : body = [.Assign [.Attribute (.Name x1 p1) f p2] (.Name x2 p3) pos]) (S : FnScope [x1, x2] [x1, x2] scope) (v1 : Vis scope x1) (v2 : Vis scope x2)
    (d1 : (x1 == ("__debug__" : Str)) = false) (c1 : (x1 == ("__classdict__" : Str)) = false) (d2 : (x2 == ("__debug__" : Str)) = false) (c2 : (x2 == ("__classdict__" : Str)) = false)
    (hs : ∀ env : Env, swapsWith (.Name x2 p3) (some (.Attribute (.Name x1 p1) f p2)) pos.line env = pure false) :
    FnOk P w K mg base CX (k + 1) g fd [x1, x2] (xSp C f) := by
  obtain ⟨oc, od, dV, kV, doc, pm, an, cdv, ct, osl, rfl, lk, hcd, -, -⟩ := F.ex
  refine fn_of lk hcd S (fun vs H Q E ⟨a, v, e, _⟩ => by rw [e]; rfl) fun A outer s H vs Q E hr hsp => ?_
  obtain ⟨a, v, rfl, ha, hq⟩ := hsp
  subst hbd
  refine ⟨_, pss_one (ps_xput T (pe_var (i := 0) rfl v1 d1 c1) (pe_var (i := 1) rfl v2 d2 c2) (hs _)), ?_⟩
  exact ⟨v, rfl, .ref a, rfl, a, rfl, ha, hq⟩
/-- C(e) for a raise -/
theorem pmk_x {X : Cx} {e : Expr} {te : L2.TA} {x : Str} {k : Nat} {fd : FuncData} {ps : List Str} {p pos : Pos} {CX : CXT} (T : XCl b X.K C g f) (F : FnOk X.prog X.w X.K X.mg X.base CX k g fd ps (xSp C f)) (hr : Room (k + 1) X.A) (hb : Binds X.K fd ps [])
    (hx : Passes CX X (fun _ _ _ => False)) (hg : Gl X x) (hm : X.mg x = some (.ref C)) (ha : PA X [e] te) (hdb : (x == ("__debug__" : Str)) = false) (he : starEach [e] X.env = (false, eval e X.env) :: starEach [] X.env) (hpl : (backTo pos (starEach [] X.env)).any (·.1) = false) :
    PMk X (.Call (.Name x p) [e] [] pos) (fun σ H Q => te σ H fun vs H1 => ∃ v, vs = [v] ∧ ∀ n, H1 n = none → Q (.ref C) (some n) (upd H1 n (.xd [(f, v)]))) := by
  intro pins s σ H Q I h
  refine wpAny_Call_Name_kw (ld_glob I hg hm ?_ hdb)
  refine PySem.W.callWith_K (h₀ := X.base) I.ok.mod.kin T.kp (thn (ha.run pos pins s σ H _ I h) fun us s1 hu => ?_) he hpl
  obtain ⟨vs, H1, I1, r1, v, rfl, q1⟩ := hu
  refine ⟨I1.kIn, ?_⟩
  show wpAny _ _ (call (.ref C) us) _ _ _
  obtain ⟨hp, gs, dr, tk, os⟩ := s1
  obtain ⟨nm, N, qn, bs, bm, hdct, sn, sub, ab, col, dd, k0, k1, k2, k3, k5, hC, hT⟩ := PySem.W.excInit_of I1.kIn T.ini
  have hlen := Paired.length r1
  have kp2 : ∀ c o, hp.get? c = some o → ((hp.push (PySem.W.kdv_tup us)).push (HandSPX.excO C hp.objs.size)).get? c = some o := fun c o q => Heap.get?_push_of_some _ (Heap.get?_push_of_some _ q)
  have made : ((hp.push (PySem.W.kdv_tup us)).push (HandSPX.excO C hp.objs.size)).get? (hp.objs.size + 1) = some (HandSPX.excO C hp.objs.size) := by heap_get
  have nH : H1 (hp.objs.size + 1) = none := I1.hok.fresh (Nat.le_succ _)
  have J : Inv X pins σ (upd H1 (hp.objs.size + 1) (exo (hp.objs.size + 1) C none)) ⟨(hp.push (PySem.W.kdv_tup us)).push (HandSPX.excO C hp.objs.size), gs, dr, tk, os⟩ := I1.laid (t' := tk) kp2 (Nat.le_succ _) (exo_ok made)
  have rv : Vals [V.ref (hp.objs.size + 1), v] (Value.ref (hp.objs.size + 1) :: us) := .cons rfl r1
  have up : upd H1 (hp.objs.size + 1) (exo (hp.objs.size + 1) C none) (hp.objs.size + 1) = some (exo (hp.objs.size + 1) C none) := upd_same
  refine wpAny_call (HandSPX.call_own b.F hT hC (PySem.W.looks_findIn I1.kIn T.ii) (fun self => PySem.W.bind_fn I1.kIn self T.ti) (by rw [← hlen, sizeLine_eq]; simp) ?_)
  have lp : (Value.ref (hp.objs.size + 1) :: (us ++ [])).length = ps.length := by
    have q := F.len [.ref (hp.objs.size + 1), v] (upd H1 (hp.objs.size + 1) (exo (hp.objs.size + 1) C none)) (fun _ _ => True) (fun _ _ _ => False) ⟨_, v, rfl, up, fun _ _ _ => True.intro⟩
    rw [List.append_nil, ← q]
    simp [← hlen]
  have bt := hb _ (Value.ref (hp.objs.size + 1) :: us) J.kIn lp
  rw [List.append_nil] at bt
  have run := F.run _ X.stack _ _ ⟨Value.ref (hp.objs.size + 1) :: us, []⟩ _ [V.ref (hp.objs.size + 1), v]
    (fun v2 H2 => v2 = .non ∧ ∃ d fs, H2 (hp.objs.size + 1) = some (exo (hp.objs.size + 1) C (some d)) ∧ H2 d = some (exd d fs) ∧ H1 d = none ∧ Q (.ref C) (some d) (upd (del H2 (hp.objs.size + 1)) d (.xd fs))) (fun _ _ _ => False) (hr.make C us []) (J.env0.make C us []) bt rv
    ⟨_, v, rfl, up, fun n hn hna => ?_⟩
  · refine codeAny_mono run fun r s2 q => ?_
    cases r with
    | error er => exact hx pins σ _ _ er s2 J q
    | ok fl =>
      cases fl with
      | ret u =>
        obtain ⟨v2, H2, os2, bare2, un2, hok2, rv2, ev, d, fs, ea, ed, hd1, q2⟩ := q
        subst ev
        obtain ⟨h2, g2, d2, t2, os3⟩ := s2
        exact ⟨rv2, mk_end (raises_own T.sub T.ty) I1 (Nat.le_succ _) kp2 un2 hok2 os2 bare2 ea ed hd1 q2⟩
      | next => exact False.elim q
      | brk => exact False.elim q
      | cont => exact False.elim q
  · have hn1 : H1 n = none := by rw [upd_ne hna] at hn; exact hn
    refine ⟨rfl, n, _, upd_same, (by rw [upd_ne hna, upd_same]), hn1, ?_⟩
    have e : upd (del (upd (upd (upd H1 (hp.objs.size + 1) (exo (hp.objs.size + 1) C none)) n (exd n [(f, v)])) (hp.objs.size + 1) (exo (hp.objs.size + 1) C (some n))) (hp.objs.size + 1)) n (.xd [(f, v)]) = upd H1 n (.xd [(f, v)]) := by
      funext c
      by_cases z : c = n
      · rw [z, upd_same, upd_same]
      · rw [upd_ne z, upd_ne z]
        by_cases z2 : c = hp.objs.size + 1
        · rw [z2, del_same, nH]
        · rw [del_ne z2, upd_ne z2, upd_ne z, upd_ne z2]
    rw [e]
    exact q1 n hn1
end
end Z

set_option Elab.async false
set_option linter.all false
set_option maxRecDepth 100000
set_option maxHeartbeats 4000000
namespace Z
open PySem PySem.Spec PyProof.Rows L2
variable [Row]
/-! ### try, several clauses with a name -/
abbrev ClA := Value × (Addr → Value → Option Addr → TS)
/-- the name of the clauses goes when the suite ends -/
def offE (i : Nat) (D : Ends) : Ends := { nx := fun σ H => D.nx (σ.set i none) H, rt := D.rt, bk := fun σ H => D.bk (σ.set i none) H, ct := fun σ H => D.ct (σ.set i none) H }
def wAsM (K : PySem.W.Frag) (i : Nat) (Wo : WX) (D : Ends) : List ClA → WX
  | [] => Wo
  | q :: r => fun cls d σ H => ∃ hit, PySem.W.exmOne K cls q.1 = some hit ∧ (hit = true → ∀ a, H a = none → q.2 a cls d (offE i D) (σ.set i (some (.ref a))) H) ∧ (hit = false → wAsM K i Wo D r cls d σ H)
inductive HdA (X : Cx) (n : Str) : List ExceptHandler → List ClA → Prop
  | nil : HdA X n [] []
  | cons {x : Str} {q : ClA} {st : Stmt} {sts : List Stmt} {p1 p2 : Pos} {hds : List ExceptHandler} {r : List ClA} (hc : Names X x q.1)
      (su : ∀ (a : Addr) (oe : Obj) (cls : Value) (d : Option Addr) (pn : List (Addr × Obj)), Zc cls d oe → (∃ vs, oe.data = .fields vs) → PSs (X.suite a ((a, oe) :: pn)) (st :: sts) (q.2 a cls d)) (t : HdA X n hds r) :
      HdA X n (.ExceptHandler (some (.Name x p1)) (some n) (st :: sts) p2 :: hds) (q :: r)
section
variable {X : Cx} {n : Str} {i : Nat}
/-- the exception at a in hand over the ground B; sI without it -/
structure Hand (X : Cx) (pins : List (Addr × Obj)) (σ : L2.St) (H : Hp) (sI : Shared) (B : Heap) (a : Addr) (cls : Value) (d : Option Addr) (h : Heap) (s : Shared) : Prop where
  inv : Inv X pins σ H sI
  nb : ∀ b o, sI.heap.get? b = some o → b ∉ frs X.stack → B.get? b = some o
  up : sI.heap.UpToSlots h
  os : s.os = sI.os
  ag : AllBare s.gens
  na : H a = none
  fl : HandSPX.FlyingZ B (X.env :: X.outer) a (Zc cls d) h
variable {pins : List (Addr × Obj)} {σ : L2.St} {H : Hp} {sI s : Shared} {B h : Heap} {a : Addr} {cls : Value} {d : Option Addr}
theorem Hand.state (q : Hand X pins σ H sI B a cls d h s) : Inv X pins σ H { s with heap := h } := q.inv.landed q.nb q.fl.1 q.up q.os q.ag
theorem Hand.next {h2 : Heap} (q : Hand X pins σ H sI B a cls d h s) (fl : HandSPX.FlyingZ B (X.env :: X.outer) a (Zc cls d) h2) (up : h.UpToSlots h2) : Hand X pins σ H sI B a cls d h2 s :=
  ⟨q.inv, q.nb, q.up.trans up, q.os, q.ag, q.na, fl⟩
/-- the suite's state -/
theorem Hand.suite (hf : X.env.frame = some X.env.locals) (q : Hand X pins σ H sI B a cls d h s) : ∃ oe, h.get? a = some oe ∧ Zc cls d oe ∧ (∃ vs, oe.data = .fields vs) ∧ Inv (X.suite a ((a, oe) :: (X.pn ++ pins))) [] σ H { s with heap := h } := by
  obtain ⟨oe, vs, g1, g2, g3⟩ := q.fl.there
  have out : a ∉ frs (X.env :: X.outer) := fun hm => by
    obtain ⟨_, o, e, nf⟩ := q.fl.2.2.1.mem hm
    rw [g1] at e
    cases e
    exact nf _ g3
  refine ⟨oe, g1, g2, ⟨vs, g3⟩, q.state.suite g1 g3 q.na (fun z => out ?_) fun hm => out ?_⟩
  · exact List.mem_filterMap.mpr ⟨X.env, List.mem_cons_self, by rw [hf, z]⟩
  · obtain ⟨e, he, z⟩ := List.mem_filterMap.mp hm
    exact List.mem_filterMap.mpr ⟨e, List.mem_cons_of_mem _ he, z⟩
/-- the clauses, one after the other -/
theorem Hand.clauses (hs : X.stack = X.env :: X.outer) (hf : X.env.frame = some X.env.locals) (hN : X.N.Nodup) (hi : X.N[i]? = some n) (hln : X.env.kindOf n = some .local) {Wo : WX} (tk : Takes X Wo) {D : Ends} {hds : List ExceptHandler} {l : List ClA} (hk : HdA X n hds l) :
    ∀ {h : Heap}, Hand X pins σ H sI B a cls d h s → wAsM X.K i Wo D l cls d σ H → wpAny (model X.prog X.w) X.A (handleBy (.ref a) X.env hds) (SP X pins D) X.xe { s with heap := h } := by
  induction hk with
  | nil =>
    intro h q w
    obtain ⟨-, -, -, oe, vs, T, oT, ts, g1, -, g3, g4, -⟩ := id q.fl
    refine wpAny_handleBy_nil ?_
    unfold PySem.passOn
    refine wpAny_bind (wpAny_field g1 g3 g4 ?_)
    rw [if_neg (show ¬ ((Value.ref T == Value.none) = true) from by simp)]
    have on : wpAny (model X.prog X.w) X.A (setFlight (.ref a) X.env.frame) (fun _ s4 => wpAny (model X.prog X.w) X.A (throw (.ref a) : Sem Flow) (SP X pins D) X.xe s4) X.xe { s with heap := h } := by
      rw [hf]
      exact HandSPX.setFlight_upZ q.fl fun h4 hh up4 => wpAny_throw (tk _ _ ⟨a, B, sI, pins, σ, H, cls, d, rfl, q.inv, q.nb, q.up.trans up4, .inr (.inr (by rw [hs]; exact hh)), q.na, q.os, q.ag, w⟩)
    first
      | exact wpAny_bind (wpAny_pure (wpAny_bind on))
      | exact wpAny_bind on
  | @cons x c st sts p1 p2 hds' r hc su _ ih =>
    intro h q w
    obtain ⟨hit, hm, yes, no⟩ := w
    obtain ⟨oe, g1, g2, g3, S⟩ := q.suite hf
    have lt : PySem.W.Looks (model X.prog X.w) h (typeOf (.ref a)) cls := fun A Q E s k z => wpAny_typeOf_ref (k _ _ g1) (by rw [g2.1]; exact z)
    have lm := PySem.W.exm_one (M := model X.prog X.w) q.state.kIn lt hm
    refine wpAny_handleBy_cons (codeAny_handlers_test ?_) (by intro z; cases z)
    have named : ∀ {Q : Value → Shared → Prop} {E : Value → Shared → Prop}, Q c.1 { s with heap := h } → wpAny (model X.prog X.w) (X.A.mark (some (.ref a))) (eval (.Name x p1) X.env) Q E { s with heap := h } := fun {Q E} z => by
      obtain ⟨hg, hdb, m1 | ⟨m1, m2, m3⟩⟩ := hc
      · exact ld_glob (X := X.suite a ((a, oe) :: (X.pn ++ pins))) S hg m1 z hdb
      · exact ld_blt (X := X.suite a ((a, oe) :: (X.pn ++ pins))) S hg m1 m2 z m3 hdb
    refine named (lm.here ?_)
    cases hit with
    | false => exact ih q (no rfl)
    | true =>
      refine codeAny_handlers_suite_as (HandSPX.lands_againZ q.fl fun h4 fl4 up4 => ?_)
      have q4 := q.next fl4 up4
      obtain ⟨o4, _, k2, k3, S4⟩ := q4.suite hf
      refine store_ok (X := X.suite a ((a, o4) :: (X.pn ++ pins))) (v := .ref a) S4 hN hi (.inl hln) rfl (fun s5 S5 => ?_) (.inr hln)
      refine wpAny_mono ((su a o4 cls d (X.pn ++ pins) k2 k3).run [] s5 _ H _ S5 (yes rfl a q.na)) (fun f s6 z => ?_) fun _ _ z => z.elim
      have gone : ∀ {σ6 : L2.St} {H6 : Hp} {Q : Shared → Prop}, Inv (X.suite a ((a, o4) :: (X.pn ++ pins))) [] σ6 H6 s6 → (∀ s7, Inv X pins (σ6.set i none) H6 s7 → Q s7) →
          wpAny (model X.prog X.w) X.A (do bindName X.env n .none; unbindBehindTheSuite X.env n p2) (fun _ s7 => Q s7) X.xe s6 := fun S6 z => gone_ok (S6.unsuite q.inv.ok) hN hi hln z
      cases f with
      | ret u =>
        obtain ⟨v6, σ6, H6, S6, r6, z⟩ := z
        exact gone S6 fun s7 J7 => ⟨_, _, _, J7, r6, z⟩
      | _ =>
        obtain ⟨σ6, H6, S6, z⟩ := z
        exact gone S6 fun s7 J7 => ⟨_, _, J7, z⟩
/-- THE RULE -/
theorem ps_tryM {body : List Stmt} {pos : Pos} {tb : WX → TS} {Wo : WX} {h₀ : ExceptHandler} {hds : List ExceptHandler} {l : List ClA} (hs : X.stack = X.env :: X.outer) (hf : X.env.frame = some X.env.locals) (hN : X.N.Nodup) (hi : X.N[i]? = some n) (hln : X.env.kindOf n = some .local) (tk : Takes X Wo)
    (hb : ∀ (W : WX) (pn : List (Addr × Obj)) (xe : Value → Shared → Prop), Takes (X.tr pn xe) W → PassesOwn (model X.prog X.w) X.A X.env xe → PSs (X.tr pn xe) body (tb W)) (hk : HdA X n (h₀ :: hds) l) :
    PS X (.Try body (h₀ :: hds) [] [] pos) (fun D σ H => tb (wAsM X.K i Wo D l) D σ H) := by
  refine ⟨fun pins s σ H D I hq => wpAny_Try_except ?_⟩
  refine wpAny_mono ((hb (wAsM X.K i Wo D l) (X.pn ++ pins) (fun e s₁ => wpAny (model X.prog X.w) X.A (noteFrame e X.env) (fun _ s₂ => wpAny (model X.prog X.w) X.A (setFlight e none) (fun _ s₃ =>
    wpAny (model X.prog X.w) X.A (handleBy e X.env (h₀ :: hds)) (SP X pins D) X.xe s₃) X.xe s₂) X.xe s₁) (fun u t x => ?_) PassesOwn.looking).run [] s σ H D (I.toTry _) hq) (fun f s1 z => ?_) fun _ _ z => z
  · obtain ⟨a, B, sI, p2, σ2, H2, cls, d, rfl, J0, nb, up, sky, na, os, ag, w⟩ := x
    have J : Inv X pins σ2 H2 sI := J0.ofTry I.ok
    have fr : X.A.frames = some (X.env :: X.outer) := by rw [I.ok.frames, hs]
    have sky2 : Sky B (X.env :: X.outer) a (Zc cls d) X.env.locals t.heap := by rw [← hs]; exact sky
    exact Sky.land Zc.steady fr hf sky2 fun h3 fl3 up3 => Hand.clauses hs hf hN hi hln tk hk (s := t) ⟨J, nb, up.trans up3, os, ag, na, fl3⟩ w
  · cases f with
    | next =>
      obtain ⟨σ2, H2, J, z⟩ := z
      exact wpAny_execs_nil ⟨σ2, H2, J.ofTry I.ok, z⟩
    | ret u =>
      obtain ⟨v, σ2, H2, J, r, z⟩ := z
      exact ⟨v, σ2, H2, J.ofTry I.ok, r, z⟩
    | _ =>
      obtain ⟨σ2, H2, J, z⟩ := z
      exact ⟨σ2, H2, J.ofTry I.ok, z⟩
end
end Z

set_option Elab.async false
set_option linter.all false
set_option maxRecDepth 100000
set_option maxHeartbeats 4000000
namespace Z
open PySem PySem.Spec PyProof.Rows L2
variable [Row]
/-! ### raise C(e) -/
def sRaise (c f : Str) (ms : EM (List D)) : SM := fun e s => (ms e s).st e fun ds s1 => match ds with
  | [d] => .ex c f d e s1
  | _ => .no
/-- an own error that can be made -/
def RzOk (P : Program) (w : World) (K : PySem.W.Frag) (mg : Str → Option Value) (base : Heap) (k : Nat) (c f : Str) : Prop :=
  ∃ (b : XBase) (C g : Addr) (fd : FuncData) (ps : List Str), mg c = some (.ref C) ∧ XCl b K C g f ∧ FnOk P w K mg base (L2.CX P w) k g fd ps (xSp C f) ∧ Binds K fd ps []
section
variable {X : Cx} {W : WX} {k : Nat} {c f : Str} {e : Expr} {ms : EM (List D)} {p pos p2 : Pos}
theorem js_raise (R : RzOk X.prog X.w X.K X.mg X.base k c f) (hr : Rm (k + 1) X.A) (hc : X.calm = true) (tk : Takes X W) (hg : Gl X c) (ha : JA X W [e] ms) (hdb : (c == ("__debug__" : Str)) = false := by decide)
    (he : starEach [e] X.env = (false, eval e X.env) :: starEach [] X.env := by rfl) (hpl : (backTo pos (starEach [] X.env)).any (·.1) = false := by rfl) : JS X W (.Raise (some (.Call (.Name c p) [e] [] pos)) none p2) (sRaise c f ms) := by
  obtain ⟨b, C, g, fd, ps, hm, T, F, B⟩ := R
  refine PS_imp (ps_raise hc tk (pmk_x T F hr.room B (passes_call tk fun _ _ _ _ z => z.elim) hg hm ha hdb he hpl)) fun σ H D ⟨ρ, env, s, sr, er, po⟩ => ⟨ρ, env, s, sr, er, (PoS.st (R := VRs X.K) er po).imp fun vs H1 ⟨ρ1, s1, ds, e1, sr1, r1, er1, po1⟩ => ?_⟩
  match ds, r1, po1 with
  | [d], r1, po1 =>
    obtain ⟨v, hv, rv⟩ := r1.get (i := 0) rfl
    have hl := r1.length
    match vs, hv, hl with
    | [v], rfl, _ =>
      refine ⟨v, rfl, fun n hn => ?_⟩
      have st : ∀ b o, H1 b = some o → upd H1 n (.xd [(f, v)]) b = some o := fun b o q => by rw [upd_ne (ne_of_none q hn)]; exact q
      exact po1 ρ1 _ σ C n v (Ext.same st) (sr1.grow st) (er1.mono (Ext.same st)) hm (rv.mono (Ext.same st)) upd_same
  | [], _, po1 => exact po1.elim
  | _ :: _ :: _, _, po1 => exact po1.elim
end
/-! ### try -/
abbrev Hdl := Str × (Str → D → SM)
def runH (cs : List Str) (i : Nat) (c f : Str) (d : D) (e : Ev) (s : Sto) : List Hdl → RS
  | [] => .ex c f d e s
  | h :: r => if c ∈ cs ∧ h.1 ∈ cs ∧ i < e.length then (if c = h.1 then (match h.2 f d (e.set i none) s with
      | .nx e2 s2 => .nx (e2.set i none) s2
      | .rt d2 s2 => .rt d2 s2
      | .bk e2 s2 => .bk (e2.set i none) s2
      | .ct e2 s2 => .ct (e2.set i none) s2
      | _ => .no) else runH cs i c f d e s r) else .no
def sTry (cs : List Str) (i : Nat) (b : SM) (hs : List Hdl) : SM := fun e s => match b e s with
  | .ex c f d e1 s1 => runH cs i c f d e1 s1 hs
  | r => r
/-- no error of cs is another's kind -/
def XmT (K : PySem.W.Frag) (mg : Str → Option Value) (cs : List Str) : Prop := ∀ c ∈ cs, ∀ c' ∈ cs, ∀ C C', mg c = some (.ref C) → mg c' = some (.ref C') → PySem.W.exmOne K (.ref C) (.ref C') = some (decide (c = c'))
/-- what a suite is told: the error's class, its field's value dv -/
def SuC (K : PySem.W.Frag) (mg : Str → Option Value) (c : Str) (i : Nat) (a : Addr) (cls : Value) (d : Option Addr) (σ : L2.St) (H : Hp) (k : (Nat → Addr) → Ev → Sto → Str → D → Prop) : Prop :=
  ∃ ρ env s C f dd v dv, SR K mg ρ s H ∧ EnvR K ρ s.length H env σ ∧ σ[i]? = some (some (.ref a)) ∧ mg c = some (.ref C) ∧ cls = .ref C ∧ d = some dd ∧ H dd = some (.xd [(f, v)]) ∧ VR K ρ s.length H dv v ∧ k ρ env s f dv
def suT (K : PySem.W.Frag) (mg : Str → Option Value) (c : Str) (i : Nat) (m : Str → D → SM) (a : Addr) (cls : Value) (d : Option Addr) : TS := fun D σ H => SuC K mg c i a cls d σ H fun ρ env s f dv => PoS K mg (fun _ _ _ _ => False) D ρ s.length H (m f dv env s)
def SuOk (X : Cx) (c : Str) (i : Nat) (sts : List Stmt) (m : Str → D → SM) : Prop := ∀ (a : Addr) (oe : Obj) (cls : Value) (d : Option Addr) (pn : List (Addr × Obj)), Zc cls d oe → (∃ vs, oe.data = .fields vs) → PSs (X.suite a ((a, oe) :: pn)) sts (suT X.K X.mg c i m a cls d)
inductive HdJ (X : Cx) (n : Str) (i : Nat) : List ExceptHandler → List Hdl → Prop
  | nil : HdJ X n i [] []
  | cons {h : Hdl} {st : Stmt} {sts : List Stmt} {p1 p2 : Pos} {hds : List ExceptHandler} {r : List Hdl} (hg : Gl X h.1) (hdb : (h.1 == ("__debug__" : Str)) = false) (hm : ∃ C, X.mg h.1 = some (.ref C))
      (su : SuOk X h.1 i (st :: sts) h.2) (t : HdJ X n i hds r) :
      HdJ X n i (.ExceptHandler (some (.Name h.1 p1)) (some n) (st :: sts) p2 :: hds) (h :: r)
theorem EnvR.setN {K : PySem.W.Frag} {ρ : Nat → Addr} {n : Nat} {H : Hp} {env : Ev} {σ : L2.St} (h : EnvR K ρ n H env σ) {i : Nat} {o : Option V} : EnvR K ρ n H (env.set i none) (σ.set i o) := by
  obtain ⟨h1, h2⟩ := h
  refine ⟨by simp [h1], fun j d hj => ?_⟩
  by_cases e : i = j
  · subst e
    by_cases hl : i < env.length
    · rw [List.getElem?_set_self hl] at hj
      cases hj
    · rw [List.getElem?_eq_none (by simpa using hl)] at hj
      cases hj
  · rw [List.getElem?_set_ne e] at hj
    obtain ⟨v, h3, h4⟩ := h2 j d hj
    exact ⟨v, by rw [List.getElem?_set_ne e]; exact h3, h4⟩
def clOf (K : PySem.W.Frag) (mg : Str → Option Value) (i : Nat) (h : Hdl) : ClA := ((mg h.1).getD .none, suT K mg h.1 i h.2)
section
variable {X : Cx} {W : WX} {n : Str} {i : Nat} {cs : List Str}
theorem HdJ.toA {hds : List ExceptHandler} {hs : List Hdl} (h : HdJ X n i hds hs) : HdA X n hds (hs.map (clOf X.K X.mg i)) := by
  induction h with
  | nil => exact .nil
  | @cons h st sts p1 p2 hds r hg hdb hm su t ih =>
    obtain ⟨C, hm⟩ := hm
    exact .cons ⟨hg, hdb, .inl (by unfold clOf; rw [hm]; rfl)⟩ su ih
theorem HdJ.run (X1 : XmT X.K X.mg cs) {hds : List ExceptHandler} {hs : List Hdl} (h : HdJ X n i hds hs) {Dn : Ends} {ρ : Nat → Addr} {σ : L2.St} {H : Hp} {c f : Str} {d : D} {e : Ev} {s : Sto} {C dx : Addr} {v : V}
    (sr : SR X.K X.mg ρ s H) (er : EnvR X.K ρ s.length H e σ) (hc : X.mg c = some (.ref C)) (rv : VR X.K ρ s.length H d v) (hx : H dx = some (.xd [(f, v)])) :
    PoS X.K X.mg W Dn ρ s.length H (runH cs i c f d e s hs) → wAsM X.K i W Dn (hs.map (clOf X.K X.mg i)) (.ref C) (some dx) σ H := by
  induction h with
  | nil => exact fun po => po ρ H σ C dx v Ext.refl sr er hc rv hx
  | @cons h st sts p1 p2 hds r hg hdb hm su t ih =>
    intro po
    obtain ⟨C', hm⟩ := hm
    unfold runH at po
    by_cases q : c ∈ cs ∧ h.1 ∈ cs ∧ i < e.length
    · rw [if_pos q] at po
      refine ⟨decide (c = h.1), by unfold clOf; rw [hm]; exact X1 c q.1 h.1 q.2.1 C C' hc hm, fun hit a ha => ?_, fun hit => ?_⟩
      · have e1 := of_decide_eq_true hit
        rw [if_pos e1] at po
        refine ⟨ρ, e.set i none, s, C, f, dx, v, d, sr, er.setN, ?_, e1 ▸ hc, rfl, rfl, hx, rv, ?_⟩
        · rw [List.getElem?_set_self (by rw [← er.1]; exact q.2.2)]
        · show PoS X.K X.mg (fun _ _ _ _ => False) (offE i Dn) ρ s.length H (h.2 f d (e.set i none) s)
          generalize h.2 f d (e.set i none) s = r2 at po ⊢
          cases r2 with
          | nx e2 s2 => exact fun ρ2 H2 σ2 x1 x2 x3 => po ρ2 H2 _ x1 x2 x3.setN
          | rt d2 s2 => exact po
          | bk e2 s2 => exact fun ρ2 H2 σ2 x1 x2 x3 => po ρ2 H2 _ x1 x2 x3.setN
          | ct e2 s2 => exact fun ρ2 H2 σ2 x1 x2 x3 => po ρ2 H2 _ x1 x2 x3.setN
          | ex _ _ _ _ _ => exact po.elim
          | no => exact po.elim
      · rw [if_neg (of_decide_eq_false hit)] at po
        exact ih po
    · rw [if_neg q] at po
      exact po.elim
end
end Z

set_option Elab.async false
set_option linter.all false
set_option maxRecDepth 100000
set_option maxHeartbeats 4000000
namespace Z
open PySem PySem.Spec PyProof.Rows L2
variable [Row]
/-! ### what an except suite says -/
/-- isinstance and fields of an error of the class at C -/
structure XIs (K : PySem.W.Frag) (C : Addr) : Prop where
  cl : (PySem.W.clsIn K C).isSome = true
  ga : PySem.W.findIn K (.ref C) "__getattribute__" = some (some (.builtin "BaseException.__getattribute__"))
  gg : PySem.W.findIn K (.ref C) "__getattr__" = some none
  sub : PySem.W.subIn K (.ref C) (.type "BaseException") = some true
  dct : PySem.W.hasDictIn K C = true
  co : PySem.W.findIn K (.ref C) "__class__" = some (some (.builtin "object.__class__"))
  sp : PySem.W.specialIn K (.builtin "object.__class__") "__get__" = some (some (.builtin "getset_descriptor.__get__"))
  tk : PySem.W.takesIn K (.builtin "object.__class__") = some true
  mo : PySem.W.mroIn K C (.type "object") = some true
theorem xisB_ok {K : PySem.W.Frag} {C : Addr} (h : xisB K C = true) : XIs K C := by
  unfold xisB at h
  simp only [Bool.and_eq_true, decide_eq_true_eq] at h
  obtain ⟨h1, h2, h3, h4, h5, h6, h7, h8, h9⟩ := h
  exact ⟨h1, h2, h3, h4, h5, h6, h7, h8, h9⟩
/-- grown -/
def Gr (H H' : Hp) : Prop := ∀ b o, H b = some o → H' b = some o
theorem Gr.refl {H : Hp} : Gr H H := fun _ _ h => h
theorem Gr.trans {H H1 H2 : Hp} (a : Gr H H1) (b : Gr H1 H2) : Gr H H2 := fun i o h => b i o (a i o h)
/-- a part whose value is told by the error's field -/
def XP (X : Cx) (c : Str) (i : Nat) (e : Expr) (p : Str → D → Sto → Option D) : Prop := ∀ (a : Addr) (oe : Obj) (cls : Value) (d : Option Addr) (pn : List (Addr × Obj)), Zc cls d oe → (∃ vs, oe.data = .fields vs) →
  PE (X.suite a ((a, oe) :: pn)) e (fun σ H Q => SuC X.K X.mg c i a cls d σ H fun ρ _ s f dv => ∃ d', p f dv s = some d' ∧ ∀ H', Gr H H' → ∀ v', VR X.K ρ s.length H' d' v' → Q v' H')
def XPs (X : Cx) (c : Str) (i : Nat) (es : List Expr) (p : Str → D → Sto → Option (List D)) : Prop := ∀ (a : Addr) (oe : Obj) (cls : Value) (d : Option Addr) (pn : List (Addr × Obj)), Zc cls d oe → (∃ vs, oe.data = .fields vs) →
  PA (X.suite a ((a, oe) :: pn)) es (fun σ H Q => SuC X.K X.mg c i a cls d σ H fun ρ _ s f dv => ∃ ds, p f dv s = some ds ∧ ∀ H', Gr H H' → ∀ vs, VRs X.K ρ s.length H' ds vs → Q vs H')
/-- a test whose answer is known -/
def XT (X : Cx) (c : Str) (i : Nat) (e : Expr) (q : Bool) : Prop := ∀ (a : Addr) (oe : Obj) (cls : Value) (d : Option Addr) (pn : List (Addr × Obj)), Zc cls d oe → (∃ vs, oe.data = .fields vs) →
  PT (X.suite a ((a, oe) :: pn)) e (fun σ H Q => SuC X.K X.mg c i a cls d σ H fun _ _ _ _ _ => ∀ H', Gr H H' → Q q H')
def XW (X : Cx) (c : Str) (i : Nat) (e : Expr) (q : Bool) : Prop := ∀ (a : Addr) (oe : Obj) (cls : Value) (d : Option Addr) (pn : List (Addr × Obj)), Zc cls d oe → (∃ vs, oe.data = .fields vs) →
  PW (X.suite a ((a, oe) :: pn)) e (fun σ H Q => SuC X.K X.mg c i a cls d σ H fun _ _ _ _ _ => ∀ H', Gr H H' → Q q H')
def XE2 (X : Cx) (c : Str) (i : Nat) (e : Expr) (m : Str → D → EM D) : Prop := ∀ (a : Addr) (oe : Obj) (cls : Value) (d : Option Addr) (pn : List (Addr × Obj)), Zc cls d oe → (∃ vs, oe.data = .fields vs) →
  PE (X.suite a ((a, oe) :: pn)) e (fun σ H Q => SuC X.K X.mg c i a cls d σ H fun ρ env s f dv => Po X.K X.mg (VR X.K) (fun _ _ _ _ => False) σ ρ s.length H (m f dv env s) Q)
section
variable {X : Cx} {c : Str} {i : Nat} {e : Expr} {es : List Expr} {p : Str → D → Sto → Option D} {ps : Str → D → Sto → Option (List D)} {pos : Pos}
theorem SuC.imp {K : PySem.W.Frag} {mg : Str → Option Value} {a : Addr} {cls : Value} {d : Option Addr} {σ : L2.St} {H : Hp} {k k' : (Nat → Addr) → Ev → Sto → Str → D → Prop} (h : SuC K mg c i a cls d σ H k) (f : ∀ ρ env s f dv, SR K mg ρ s H → k ρ env s f dv → k' ρ env s f dv) : SuC K mg c i a cls d σ H k' := by
  obtain ⟨ρ, env, s, C, fl, dd, v, dv, h1, h2, h3, h4, h5, h6, h7, h8, h9⟩ := h
  exact ⟨ρ, env, s, C, fl, dd, v, dv, h1, h2, h3, h4, h5, h6, h7, h8, f _ _ _ _ _ h1 h9⟩
theorem xp_const {v : V} {d : D} (h : ∀ X' : Cx, PE X' e (tC v)) (r : ∀ ρ n H, VR X.K ρ n H d v) : XP X c i e fun _ _ _ => some d := fun a oe cls dx pn _ _ =>
  PE_imp (h _) fun σ H Q q => by
    obtain ⟨ρ, env, s, C, f, dd, v2, dv, -, -, -, -, -, -, -, -, d', h1, h2⟩ := q
    cases h1
    exact h2 H Gr.refl v (r _ _ _)
theorem xp_str {x j} : XP X c i (.Constant (.str x) j pos) fun _ _ _ => some (.str x) := xp_const (fun _ => pe_str) fun _ _ _ => rfl
/-- e.f -/
theorem xp_fld {n f : Str} {p1 : Pos} (T : ∀ C, X.mg c = some (.ref C) → XIs X.K C ∧ PySem.W.findIn X.K (.ref C) f = some none) (hN : X.N[i]? = some n) (hv : Vis X.env.scope n) (hd : (n == ("__debug__" : Str)) = false := by decide) (hcd : (n == ("__classdict__" : Str)) = false := by decide)
    (hb : ∀ env : Env, attributeBase (.Name n p1) f env (eval (.Name n p1) env) = eval (.Name n p1) env := by intro _; rfl) : XP X c i (.Attribute (.Name n p1) f pos) fun g dv _ => if g = f then some dv else none := fun a oe cls dx pn hz hf => by
  refine ⟨fun pins s σ H Q I q => ?_⟩
  obtain ⟨ρ, env, st, C, fl, dd, v, dv, sr, er, h3, h4, rfl, rfl, h7, h8, d', h9, h10⟩ := q
  obtain ⟨T1, T2⟩ := T C h4
  dsimp only at h9
  by_cases e : fl = f
  · subst e
    rw [if_pos rfl] at h9
    cases h9
    exact (pe_xf (X := X) (C := C) (n := fl) ⟨T1.ga, T1.gg, T1.sub, T1.dct⟩ T2 hz hf (pe_var (X := X.suite a ((a, oe) :: pn)) hN hv hd hcd) (hb _)).run pins s σ H Q I ⟨.ref a, h3, rfl, rfl, dd, [(fl, v)], v, rfl, h7, by simp [List.lookup], h10 H Gr.refl v h8⟩
  · rw [if_neg e] at h9
    cases h9
/-- repr(e), e a part -/
theorem xp_repr {p0 : Pos} (h : XP X c i e p) (hg : X.A.guards = some []) (hu : X.A.units + 66 < cLine) (hG : Gl X "repr") (hm : X.mg "repr" = none) (h1 : ∀ env : Env, starEach [e] env = (false, eval e env) :: starEach [] env := by intro _; rfl) (hpl : ∀ env : Env, (backTo pos (starEach [] env)).any (·.1) = false := by intro _; rfl) :
    XP X c i (.Call (.Name "repr" p0) [e] [] pos) fun f dv s => (p f dv s).bind fun d => (shp s d).bind fun y => if y.showable = true ∧ y.shown.length ≤ sizeLine then some (.str y.shown) else none := fun a oe cls dx pn hz hf => by
  refine PE_imp (pe_callB (X := X.suite a ((a, oe) :: pn)) (call_reprD hg hu) hG hm boot_repr (pa_cons (h a oe cls dx pn hz hf) pa_nil (h1 _)) (he := h1 _) (hpl := hpl _)) fun σ H Q z => z.imp fun ρ env s f dv sr po => ?_
  obtain ⟨d', e1, po⟩ := po
  obtain ⟨d1, e2, e1⟩ := Option.bind_eq_some_iff.mp e1
  obtain ⟨y, e3, e1⟩ := Option.bind_eq_some_iff.mp e1
  by_cases q : y.showable = true ∧ y.shown.length ≤ sizeLine
  · rw [if_pos q] at e1
    cases e1
    refine ⟨d1, e2, fun H' g v' rv => ?_⟩
    obtain ⟨a1, a2⟩ := shp_dp (sr.grow g) e3 rv
    exact ⟨v', y, rfl, a1, a2, q.1, q.2, po H' g (.str y.shown) rfl⟩
  · rw [if_neg q] at e1
    cases e1
theorem xps_nil : XPs X c i [] fun _ _ _ => some [] := fun a oe cls d pn _ _ => PA_imp pa_nil fun σ H Q q => by
  obtain ⟨ρ, env, s, C, f, dd, v2, dv, -, -, -, -, -, -, -, -, ds, h1, h2⟩ := q
  cases h1
  exact h2 H Gr.refl [] .nil
theorem xps_cons (h : XP X c i e p) (t : XPs X c i es ps) (hs : ∀ env : Env, starEach (e :: es) env = (false, eval e env) :: starEach es env := by intro _; rfl) : XPs X c i (e :: es) fun f dv s => (p f dv s).bind fun d => (ps f dv s).map fun ds => d :: ds := fun a oe cls d pn hz hf =>
  PA_imp (pa_cons (h a oe cls d pn hz hf) (t a oe cls d pn hz hf) (hs _)) fun σ H Q q => by
    obtain ⟨ρ, env, s, C, f, dd, v2, dv, q1, q2, q3, q4, q5, q6, q7, q8, ds, h1, h2⟩ := q
    obtain ⟨d1, e1, h1⟩ := Option.bind_eq_some_iff.mp h1
    obtain ⟨ds2, e2, rfl⟩ := Option.map_eq_some_iff.mp h1
    refine ⟨ρ, env, s, C, f, dd, v2, dv, q1, q2, q3, q4, q5, q6, q7, q8, d1, e1, fun H' g v' rv => ?_⟩
    exact ⟨ρ, env, s, C, f, dd, v2, dv, q1.grow g, q2.mono (Ext.same g), q3, q4, q5, q6, g _ _ q7, q8.mono (Ext.same g), ds2, e2, fun H2 g2 vs rvs => h2 H2 (g.trans g2) _ (VRs.cons (rv.mono (Ext.same g2)) rvs)⟩
theorem xe_tup {k : Nat} (h : XPs X c i es ps) : XE2 X c i (.Tuple es k pos) fun f dv _ s => match ps f dv s with | some ds => fTup ds s | none => .no := fun a oe cls d pn hz hf => PE_imp (pe_tup (h a oe cls d pn hz hf)) fun σ H Q q => q.imp fun ρ env s f dv sr po => by
  dsimp only at po
  cases hp : ps f dv s with
  | none => rw [hp] at po; exact po.elim
  | some ds =>
    rw [hp] at po
    refine ⟨ds, rfl, fun H' g vs rv => ?_⟩
    obtain ⟨hl, po1⟩ := Po.ite (c := ds.length ≤ sizeLine) (po.rebase (Ext.same g))
    refine ⟨by rw [VRs.length rv]; exact hl, fun q hq => ?_⟩
    obtain ⟨e2, sr2, r2⟩ := new_tup (sr.grow g) hq rv
    exact po1 ρ _ _ e2 sr2 r2
theorem xe_lst (h : XPs X c i es ps) : XE2 X c i (.List es pos) fun f dv _ s => match ps f dv s with | some ds => fLst ds s | none => .no := fun a oe cls d pn hz hf => PE_imp (pe_lst (h a oe cls d pn hz hf)) fun σ H Q q => q.imp fun ρ env s f dv sr po => by
  dsimp only at po
  cases hp : ps f dv s with
  | none => rw [hp] at po; exact po.elim
  | some ds =>
    rw [hp] at po
    refine ⟨ds, rfl, fun H' g vs rv => ?_⟩
    obtain ⟨hl, po1⟩ := Po.ite (c := ds.length ≤ sizeLine) (po.rebase (Ext.same g))
    refine ⟨by rw [VRs.length rv]; exact hl, fun q hq => ?_⟩
    obtain ⟨e2, sr2, r2⟩ := new_lst (sr.grow g) hq rv
    exact po1 _ _ _ e2 sr2 r2
/-- the suite: return e -/
theorem su_ret {m : Str → D → EM D} (h : XE2 X c i e m) : SuOk X c i [.Return (some e) pos] (fun f dv => sR (m f dv)) := fun a oe cls d pn hz hf => pss_one (PS_imp (ps_ret (h a oe cls d pn hz hf)) fun σ H Dn q => by
  obtain ⟨ρ, env, s, C, f, dd, v2, dv, q1, q2, q3, q4, q5, q6, q7, q8, po⟩ := q
  exact ⟨ρ, env, s, C, f, dd, v2, dv, q1, q2, q3, q4, q5, q6, q7, q8, (PoS.st (R := VR X.K) q2 po).imp fun v H1 ⟨ρ1, s1, d1, e1, sr1, r1, er1, po1⟩ => po1 ρ1 H1 v Ext.refl sr1 r1⟩)
/-- isinstance(e, T) -/
def rIsX (K : PySem.W.Frag) (C a dd : Addr) : List V → Hp → VK → Prop := fun xs H Q => (∃ fs, H dd = some (.xd fs)) ∧ ∃ (t : V) (tv : Value) (q : Bool), xs = [.ref a, t] ∧ (∀ u, RelV t u → u = tv) ∧ PySem.W.kitOne K (.ref C) tv = some q ∧ Q (.bl q) H
theorem XIs.kit {K : PySem.W.Frag} {C a : Addr} {oe : Obj} {od : Option Obj} (T : XIs K C) : PySem.W.KitX K (.ref a) (.ref C) (fun h => PySem.W.InstAt h a oe C od) := PySem.W.kitx_exc T.cl T.ga T.gg T.sub T.co T.sp T.tk T.mo
theorem inst_xd {X : Cx} {a C dd : Addr} {oe : Obj} {pn pins : List (Addr × Obj)} {σ : L2.St} {H : Hp} {s : Shared} {fs : List (Str × V)} (hz : Zc (.ref C) (some dd) oe) (hf : ∃ vs, oe.data = .fields vs) (I : Inv (X.suite a ((a, oe) :: pn)) pins σ H s) (hx : H dd = some (.xd fs)) :
    ∃ od, PySem.W.InstAt s.heap a oe C (some od) := by
  obtain ⟨ha, _⟩ := I.pin (a, oe) (List.mem_append_left _ List.mem_cons_self)
  obtain ⟨vs, hd⟩ := hf
  obtain ⟨mA, hns, -⟩ := (show ObjOk X.prog X.w H s.heap dd (.xd fs) from I.hok dd _ hx)
  obtain ⟨od, ho, -⟩ := lookIn_ns hns
  exact ⟨od, ha, hz.1, by unfold PySem.W.notCls; rw [hd] <;> rfl, by rw [hz.2]; exact ho⟩
theorem call_isX {a C dd : Addr} {oe : Obj} {pn : List (Addr × Obj)} (T : XIs X.K C) (hz : Zc (.ref C) (some dd) oe) (hf : ∃ vs, oe.data = .fields vs) : CallR (X.suite a ((a, oe) :: pn)) (.builtin "isinstance") (rIsX X.K C a dd) := by
  intro pins s σ H xs us Q I r h
  obtain ⟨⟨fs, hx⟩, t, tv, q, rfl, htv, e, hq⟩ := h
  obtain ⟨od, J⟩ := inst_xd hz hf I hx
  cases r with
  | cons rx rr =>
    cases rr with
    | cons rt rr =>
      cases rr
      cases rx
      obtain rfl := htv _ rt
      exact PySem.W.kia_one T.kit I.kIn J e (fun z => nomatch z) fun tk => ⟨.bl q, H, I.kept (t' := tk) fun _ _ z => z, rfl, hq⟩
theorem xp_isi {n : Str} {p0 p1 p2 : Pos} {t : Str} {tv : Value} {v : V} {q : Bool} (T : ∀ C, X.mg c = some (.ref C) → XIs X.K C ∧ PySem.W.kitOne X.K (.ref C) tv = some q) (hN : X.N[i]? = some n) (hv : Vis X.env.scope n) (hg : Gl X "isinstance") (hm : X.mg "isinstance" = none)
    (ht : ∀ (a : Addr) (oe : Obj) (pn : List (Addr × Obj)), PE (X.suite a ((a, oe) :: pn)) (.Name t p2) (tC v)) (htv : ∀ u, RelV v u → u = tv) (hd : (n == ("__debug__" : Str)) = false := by decide) (hcd : (n == ("__classdict__" : Str)) = false := by decide)
    (h1 : ∀ env : Env, starEach [.Name n p1, .Name t p2] env = (false, eval (.Name n p1) env) :: starEach [.Name t p2] env := by intro _; rfl) (h2 : ∀ env : Env, starEach [.Name t p2] env = (false, eval (.Name t p2) env) :: starEach [] env := by intro _; rfl) (hpl : ∀ env : Env, (backTo pos (starEach [.Name t p2] env)).any (·.1) = false := by intro _; rfl) :
    XP X c i (.Call (.Name "isinstance" p0) [.Name n p1, .Name t p2] [] pos) fun _ _ _ => some (.bl q) := fun a oe cls dx pn hz hf => by
  refine ⟨fun pins s σ H Q I z => ?_⟩
  obtain ⟨ρ, env, st, C, fl, dd, v2, dv, sr, er, h3, h4, rfl, rfl, h7, h8, d', h9, h10⟩ := z
  cases h9
  obtain ⟨T1, T2⟩ := T C h4
  exact (pe_callB (X := X.suite a ((a, oe) :: pn)) (call_isX T1 hz hf) hg hm boot_isinstance (pa_cons (pe_var (X := X.suite a ((a, oe) :: pn)) hN hv hd hcd) (pa_cons (ht a oe pn) pa_nil (h2 _)) (h1 _)) (he := h1 _) (hpl := hpl _)).run pins s σ H Q I
    ⟨.ref a, h3, ⟨_, h7⟩, v, tv, q, rfl, htv, T2, h10 H Gr.refl (.bl q) rfl⟩
/-- isinstance(e, (T, ..)) -/
def rIsT (K : PySem.W.Frag) (C a dd : Addr) : List V → Hp → VK → Prop := fun xs H Q => (∃ fs, H dd = some (.xd fs)) ∧ ∃ (m : Addr) (ts : List V) (tvs : List Value) (q : Bool), xs = [.ref a, .ref m] ∧ H m = some (.tup ts) ∧ (∀ us, Vals ts us → us = tvs) ∧ PySem.W.kitAny K (.ref C) tvs = some q ∧ Q (.bl q) H
/-- names of classes -/
def XNs (X : Cx) (es : List Expr) (ts : List V) (tvs : List Value) : Prop := (∀ (a : Addr) (oe : Obj) (pn : List (Addr × Obj)), PA (X.suite a ((a, oe) :: pn)) es (fun _ H Q => Q ts H)) ∧ ∀ us, Vals ts us → us = tvs
end
end Z

set_option Elab.async false
set_option linter.all false
set_option maxRecDepth 100000
set_option maxHeartbeats 4000000
namespace Z
open PySem PySem.Spec PyProof.Rows L2
section
variable [Row] {X : Cx} {W : WX}
/-! ### xs.pop() -/
def lPop (xs ds : List D) : Option (List D × D) := match ds with
  | [] => (xs[xs.length - 1]?).map fun d => (xs.dropLast, d)
  | _ => none
theorem VRs.dropLast {K : PySem.W.Frag} {ρ : Nat → Addr} {n : Nat} {H : Hp} {ds : List D} {vs : List V} (r : VRs K ρ n H ds vs) : VRs K ρ n H ds.dropLast vs.dropLast := by
  have e : ∀ {α : Type} (l : List α), l.dropLast = l.eraseIdx (l.length - 1) := fun l => by rw [List.eraseIdx_length_sub_one]
  rw [e ds, e vs, r.length]
  exact r.eraseIdx _
end
/-! ### suites, told shortly -/
abbrev xSt (x : Str) : Str → D → Sto → Option D := fun _ _ _ => some (.str x)
abbrev xBl (q : Bool) : Str → D → Sto → Option D := fun _ _ _ => some (.bl q)
abbrev xFl (f : Str) : Str → D → Sto → Option D := fun g dv _ => if g = f then some dv else none
abbrev xRp (p : Str → D → Sto → Option D) : Str → D → Sto → Option D := fun f dv s => (p f dv s).bind fun d => (shp s d).bind fun y => if y.showable = true ∧ y.shown.length ≤ sizeLine then some (.str y.shown) else none
abbrev xsN : Str → D → Sto → Option (List D) := fun _ _ _ => some []
abbrev xsC (p : Str → D → Sto → Option D) (ps : Str → D → Sto → Option (List D)) : Str → D → Sto → Option (List D) := fun f dv s => (p f dv s).bind fun d => (ps f dv s).map fun ds => d :: ds
abbrev xPt (p : Str → D → Sto → Option D) : Str → D → EM D := fun f dv _ s => match p f dv s with | some d => .ok d s | none => .no
abbrev xTu (ps : Str → D → Sto → Option (List D)) : Str → D → EM D := fun f dv _ s => match ps f dv s with | some ds => fTup ds s | none => .no
abbrev xLs (ps : Str → D → Sto → Option (List D)) : Str → D → EM D := fun f dv _ s => match ps f dv s with | some ds => fLst ds s | none => .no
/-! ### wp -/
section
variable {c f : Str} {ms : EM (List D)} {e : Ev} {s : Sto} {Q : En} {b : SM} {cs : List Str} {i : Nat} {hs : List Hdl} {d : D}
theorem z_sRaise : (sRaise c f ms e s).wp Q = (ms e s).wp (fun ds s1 => match ds with | [d] => Q.ex c f d e s1 | _ => False) (fun c f v s => Q.ex c f v e s) := by
  unfold sRaise
  cases ms e s with
  | ok ds s1 =>
    match ds with
    | [] => rfl
    | [d] => rfl
    | _ :: _ :: _ => rfl
  | ex _ _ _ _ => rfl
  | no => rfl
theorem z_hit {m : Str → D → SM} (h : c ∈ cs) (hi : i < e.length) : (runH cs i c f d e s ((c, m) :: hs)).wp Q = (m f d (e.set i none) s).wp { nx := fun e s => Q.nx (e.set i none) s, rt := Q.rt, bk := fun e s => Q.bk (e.set i none) s, ct := fun e s => Q.ct (e.set i none) s } := by
  unfold runH
  rw [if_pos ⟨h, h, hi⟩, if_pos rfl]
  dsimp only
  cases m f d (e.set i none) s <;> rfl
end
end Z

set_option Elab.async false
set_option linter.all false
set_option maxRecDepth 100000
set_option maxHeartbeats 4000000
namespace Z
open PySem PySem.Spec PyProof.Rows L2 TL
open PySem.PyData (strOk)
/-! ### objects of any kind, looked at -/
def ObjD (s : Sto) : D → Prop
  | .str x => strOk x = true ∧ x.length ≤ 16
  | .int i => -(10 ^ 20) < i ∧ i < 10 ^ 20
  | .non => True
  | .bl _ => True
  | .tup ds => ds = [] ∨ ds = [.str (Str.ofString "a")]
  | .ref n => mlAt s n = some []
theorem ObjD.eff {s t : Sto} {ks : List Nat} {d : D} (h : ObjD s d) (e : Eff ks s t) (hb : Bags s ks) : ObjD t d := by
  cases d with
  | ref n =>
    refine e.ml h fun hk => ?_
    obtain ⟨a, b, e2⟩ := hb n hk
    have h : mlAt s n = some [] := h
    rw [mlAt_get h] at e2
    cases e2
  | _ => exact h
def isStr : D → Bool
  | .str _ => true
  | _ => false
def isBl : D → Bool
  | .bl _ => true
  | _ => false
def isInt : D → Bool
  | .int _ => true
  | _ => false
theorem kits : (kitB "NoneType" "str" = some false ∧ kitB "bool" "str" = some false ∧ kitB "int" "str" = some false ∧ kitB "str" "str" = some true ∧ kitB "tuple" "str" = some false ∧ kitB "list" "str" = some false) ∧
    (kitB "NoneType" "bool" = some false ∧ kitB "bool" "bool" = some true ∧ kitB "int" "bool" = some false ∧ kitB "str" "bool" = some false ∧ kitB "tuple" "bool" = some false ∧ kitB "list" "bool" = some false) ∧
    (kitB "NoneType" "int" = some false ∧ kitB "bool" "int" = some true ∧ kitB "int" "int" = some true ∧ kitB "str" "int" = some false ∧ kitB "tuple" "int" = some false ∧ kitB "list" "int" = some false) := by decide +kernel
theorem ty_ref {s : Sto} {n : Nat} {xs : List D} (h : mlAt s n = some xs) : tyN s (.ref n) = some "list" := by
  unfold tyN
  dsimp only
  rw [mlAt_get h]
section
variable {P : D → Sto → Prop} {E : Str → Str → D → Sto → Prop} {s : Sto} {e : Ev} {i : Nat} {d : D}
end
/-- a name -/
def nmB (x : Str) : Bool := decide (1 ≤ x.length ∧ x.length ≤ 8) && (tl x).all fun c => decide (c ∈ tl abc)
def isNm : D → Bool
  | .str x => nmB x
  | _ => false
theorem nmB_iff {x : Str} : nmB x = true ↔ IsName x := by
  unfold nmB
  rw [Bool.and_eq_true, decide_eq_true_eq, List.all_eq_true, len_tl]
  constructor
  · rintro ⟨⟨h1, h2⟩, h3⟩
    refine ⟨h1, h2, fun c hc => ?_⟩
    have := of_decide_eq_true (h3 c hc)
    rw [abc_tl] at this
    obtain ⟨j, hj, rfl⟩ := List.mem_map.mp this
    have := List.mem_range.mp hj
    unfold isLow
    omega
  · intro h
    refine ⟨⟨h.pos, h.len⟩, fun c hc => decide_eq_true ?_⟩
    have hlow := h.low c hc
    rw [abc_tl]
    unfold isLow at hlow
    exact List.mem_map.mpr ⟨c - 97, by simp; omega, by omega⟩
def tIsNameX (itb : Itb) (letters : EM D) : SM := (sC (sI (bOr (bNot (toT (mIsi "str" (mV 0)))) (bNot (toB (mCh dLe dLe (mC (.int 1)) (mN fLen (aC (mV 0) aN)) (mC (.int 8)))))) (sR (mC (.bl false))) sN) (sR (mN (fAllAny true) (aC (mL (iAny itb (mV 0)) (gN 1) tY (m2 (dInB false) (mV 1) letters) [1]) aN))))
def LettersOk (m : EM D) : Prop := ∀ {e : Ev} {s : Sto} {c : Nat} {P : D → Sto → Prop} {E : Str → Str → D → Sto → Prop}, strOk (one c) = true → (∀ s', Eff [] s s' → P (.bl (decide (c ∈ tl abc))) s') → (m e s).wp (fun y s1 => (dInB false (.str (one c)) y s1).wp P E) E
theorem ch_ok {x : Str} {c : Nat} (h : strOk x = true) (hc : c ∈ tl x) : strOk (one c) = true := by
  unfold PySem.PyData.strOk at h ⊢
  rw [Array.all_eq_true'] at h
  have := h c (by unfold tl at hc; simpa using hc)
  simpa [one] using this
end Z

set_option Elab.async false
set_option linter.all false
set_option maxRecDepth 100000
set_option maxHeartbeats 4000000
namespace Z
open PySem PySem.Spec PyProof.Rows L2 TL
open PySem.PyData (strOk)
/-! ### the looks, with what they raise -/
def isKd : D → Bool
  | .str x => decide (x ∈ kinds)
  | _ => false
def isBd : D → Bool
  | .int i => decide (0 ≤ i ∧ i ≤ 999999)
  | _ => false
/-- what a look does: the object passes p, or the error c with it -/
def LookX (p : D → Bool) (c f : Str) (F : MF) : Prop := ∀ {s : Sto} {d : D}, ObjD s d → (F [d] s).wp (fun d' s' => p d = true ∧ d' = .non ∧ Eff [] s s') (fun c' f' v s' => c' = c ∧ f' = f ∧ v = d ∧ p d = false ∧ Eff [] s s')
def tLookX (F : MF) (c f : Str) : SM := (sI (bNot (toT (mN F (aC (mV 0) aN)))) (sRaise c f (aC (mV 0) aN)) sN)
def tLookBodyX : SM := (sI (bOr (bNot (toT (mIsi "int" (mV 0)))) (bOr (toT (mIsi "bool" (mV 0))) (bNot (toB (mCh dLe dLe (mC (.int 0)) (mV 0) (mC (.int 999999))))))) (sRaise "BadBody" "body" (aC (mV 0) aN)) sN)
/-! ### the first that comes a second time -/
def again1 : List Str → List Str → Option Str
  | _, [] => none
  | seen, x :: xs => if x ∈ seen then some x else again1 (seen ++ [x]) xs
def optS : Option Str → D
  | none => .non
  | some x => .str x
theorem again1_take {ms : List Str} : ∀ {i : Nat}, i ≤ ms.length → (∀ j, j < i → ∀ x, ms[j]? = some x → x ∉ ms.take j) → again1 [] ms = again1 (ms.take i) (ms.drop i)
  | 0, _, _ => by simp
  | i + 1, h, hn => by
    rw [again1_take (i := i) (by omega) fun j hj => hn j (by omega)]
    have hx : ms[i]? = some (ms[i]'(by omega)) := List.getElem?_eq_getElem _
    rw [List.drop_eq_getElem_cons (by omega), again1, if_neg (hn i (by omega) _ hx), take_snoc hx]
theorem twice_x {s : Sto} {n : Nat} {ms : List Str} (hx : lstAt s n = some (ms.map D.str)) (hok : ∀ x ∈ ms, strOk x = true) (hl : ms.length ≤ 1000) : (fnM 1 3 tTwice [.ref n] s).wp fun d s' => d = optS (again1 [] ms) ∧ Eff [] s s' := by
  refine wp_of fun P hP => ?_
  unfold tTwice
  rw [z_fnM (by rfl)]
  have hn := lstAt_lt hx
  simp [lstAt_app hn, hx]
  refine for_it (ks := []) (s0 := s) (xs := ms.map D.str) (it_lst hx (by simp)) (fun i e s1 => Eff [] s s1 ∧ (∀ j, j < i → ∀ x, ms[j]? = some x → x ∉ ms.take j) ∧ mlAt s1 s.length = some ((ms.take i).map D.str) ∧ ∃ o, e = [some (.ref n), some (.ref s.length), o]) (fun _ _ _ h => h.1) ?_ ⟨Eff.push, fun j hj => absurd hj (Nat.not_lt_zero _), by simp, none, rfl⟩ ?_
  · rintro i d e s1 hd1 ⟨ef, hno, hm, o, rfl⟩
    obtain ⟨x, hx1, rfl⟩ : ∃ x, ms[i]? = some x ∧ d = .str x := by
      rw [List.getElem?_map] at hd1
      obtain ⟨x, h1, h2⟩ := Option.map_eq_some_iff.mp hd1
      exact ⟨x, h1, h2.symm⟩
    have hi : i < ms.length := (List.getElem?_eq_some_iff.mp hx1).1
    refine ⟨_, rfl, ?_⟩
    have hs : ∀ y ∈ ms.take i, strOk y = true := fun y hy => hok y (List.mem_of_mem_take hy)
    simp
    rw [z_inStr (hok _ (List.mem_of_getElem? hx1)) (lstAt_ml hm) hs, Bool.false_xor]
    by_cases q : x ∈ ms.take i
    · rw [decide_eq_true q]
      simp
      refine hP _ _ ⟨?_, ef⟩
      rw [again1_take (Nat.le_of_lt hi) hno, List.drop_eq_getElem_cons hi, again1]
      have e : ms[i] = x := (List.getElem?_eq_some_iff.mp hx1).2
      rw [e, if_pos q]
      rfl
    · rw [decide_eq_false q]
      have hlt : s.length < s1.length := lstAt_lt (lstAt_ml hm)
      simp [hm, hlt]
      refine ⟨isTy_ml hm, by rw [size_line]; omega, ef.set (Nat.le_refl _), fun j hj y hy => ?_, ?_⟩
      · by_cases e : j < i
        · exact hno j e y hy
        · have : j = i := by omega
          subst this
          rw [hx1] at hy
          cases hy
          exact q
      · rw [List.take_add_one, hd1]
        simp
  · rintro e s1 ⟨ef, hno, hm, o, rfl⟩
    simp
    refine hP _ _ ⟨?_, ef⟩
    rw [List.length_map] at hno
    rw [again1_take (Nat.le_refl _) hno, List.drop_length]
    rfl
end Z

set_option Elab.async false
set_option linter.all false
set_option maxRecDepth 100000
set_option maxHeartbeats 4000000
namespace Z
open PySem PySem.Spec PyProof.Rows L2 TL
open PySem.PyData (strOk)
/-! ### Member(..) of any objects -/
abbrev ErrX := Str × Str × Str × D
abbrev TripD := D × D × D
def tripD (p : TripD) : D := .tup [p.1, p.2.1, p.2.2]
def strOf : D → Str
  | .str x => x
  | _ => ""
def badN (d : D) : Option ErrX := if isNm d then none else some ("BadName", "name", "name", d)
def badK (d : D) : Option ErrX := if isKd d then none else some ("BadKind", "kind", "kind", d)
def badB (d : D) : Option ErrX := if isBd d then none else some ("BadBody", "body", "body", d)
def badP (p : TripD) : Option ErrX := (badN p.1).or ((badK p.2.1).or (badB p.2.2))
def namesOf (ps : List TripD) (ws : List D) : List Str := (ps.map fun p => strOf p.1) ++ ws.map strOf
def dueT (ps : List TripD) (ws : List D) : Option ErrX := match again1 [] (namesOf ps ws) with
  | some x => some ("Twice", "name", "twice", .str x)
  | none => if 6 < ps.length ∨ 6 < ws.length then some ("TooMany", "limit", "many", .int 6) else none
def dueE (nm : D) (ps : List TripD) (ws : List D) : Option ErrX := (badN nm).or ((ps.findSome? badP).or ((ws.findSome? badN).or (dueT ps ws)))
def MErr (s : Sto) (o : Option ErrX) : Str → Str → D → Sto → Prop := fun c f v s' => Eff [] s s' ∧ ∃ l, o = some (c, f, l, v)
structure NoB {α : Type} (f : α → Option ErrX) (l : List α) : Prop where
  h : l.findSome? f = none
structure ObjP (s : Sto) (p : TripD) : Prop where
  a : ObjD s p.1
  b : ObjD s p.2.1
  c : ObjD s p.2.2
def tMemberX (lname lkind lbody twice : MF) (cs : List Str) : SM := (sC (sE (mN lname (aC (mV 1) aN))) (sC (sF (iSq (mV 2)) (gT [(gN 6), (gN 7), (gN 8)]) (sC (sE (mN lname (aC (mV 6) aN))) (sC (sE (mN lkind (aC (mV 7) aN))) (sE (mN lbody (aC (mV 8) aN)))))) (sC (sF (iSq (mV 3)) (gN 4) (sE (mN lname (aC (mV 4) aN)))) (sC (sA 5 (mN twice (aC (m2 dAdd (mL (iSq (mV 2)) (gN 9) tY (m2 dIx (mV 9) (mC (.int 0))) [9]) (mN fList (aC (mV 3) aN))) aN))) (sC (sI (toB (m2 dNotN2 (mV 5) (mC .non))) (sRaise "Twice" "name" (aC (mV 5) aN)) sN) (sC (sI (bOr (toB (m2 dGt (mN fLen (aC (mV 2) aN)) (mC (.int 6)))) (toB (m2 dGt (mN fLen (aC (mV 3) aN)) (mC (.int 6))))) (sRaise "TooMany" "limit" (aC (mC (.int 6)) aN)) sN) (sC (sFldD cs "name" (mV 0) (mV 1)) (sC (sFldD cs "defines" (mV 0) (mN fTuple (aC (mN fSortA (aC (mV 2) aN)) aN))) (sFldD cs "wants" (mV 0) (mN fTuple (aC (mN fSortA (aC (mV 3) aN)) aN)))))))))))
def TwiceX (F : MF) : Prop := ∀ {s : Sto} {n : Nat} {ms : List Str}, lstAt s n = some (ms.map D.str) → (∀ x ∈ ms, strOk x = true) → ms.length ≤ 1000 → (F [.ref n] s).wp fun d s' => d = optS (again1 [] ms) ∧ Eff [] s s'
def intOf : D → Int
  | .int i => i
  | _ => 0
theorem again_none0 : ∀ {xs seen : List Str}, again1 seen xs = none → seen.Nodup → (seen ++ xs).Nodup
  | [], seen, _, h => by simpa using h
  | x :: xs, seen, h, hn => by
    unfold again1 at h
    by_cases q : x ∈ seen
    · rw [if_pos q] at h
      cases h
    · rw [if_neg q] at h
      have := again_none0 h (List.nodup_append.mpr ⟨hn, by simp, fun a ha b hb e => q (by rw [List.mem_singleton.mp hb] at e; rw [← e]; exact ha)⟩)
      simpa using this
theorem again_none {xs : List Str} (h : again1 [] xs = none) : xs.Nodup := by simpa using again_none0 h List.nodup_nil
end Z

set_option Elab.async false
set_option linter.all false
set_option maxRecDepth 100000
set_option maxHeartbeats 4000000
namespace Z
open PySem PySem.Spec PyProof.Rows L2
variable [Row]
/-! ### a lambda is made: the tables grow -/
section
variable {K : PySem.W.Frag} {mg : Str → Option Value} {ρ : Nat → Addr} {H H1 : Hp} {s : Sto}
theorem heap_at (o : Obj) : ∀ n : Nat, ∃ h : Heap, h.objs.size = n
  | 0 => ⟨{ objs := #[] }, rfl⟩
  | n + 1 => by
    obtain ⟨h, e⟩ := heap_at o n
    exact ⟨h.push o, by rw [Heap.size_push, e]⟩
theorem code_ne_set {P : Program} {w : World} {c : Addr} {q : Str} {T : Key → Bool} {N : Nat} : SetH P w c T N ≠ LamX.CodeO c q := fun z => by
  unfold SetH LamX.CodeO at z
  injection z with z
  obtain ⟨h, e⟩ := heap_at { cls := .none, data := .fields #[.none, .str q default] } c
  have hg : (h.push { cls := .none, data := .fields #[.none, .str q default] }).get? c = some { cls := .none, data := .fields #[.none, .str q default] } := by rw [← e]; exact Heap.get?_push_size _ rfl
  have := congrFun z (h.push { cls := .none, data := .fields #[.none, .str q default] })
  obtain ⟨o, D, ep, t, q1, q2, q3, b⟩ := this.mpr ⟨_, _, _, hg, rfl, rfl⟩
  rw [hg] at q1
  cases q1
  cases q3
theorem SR.lam (h : SR K mg ρ s H) (e : LamX.ExtN H H1) (t : LamX.Tabs Row.tabs H1) : SR K mg ρ s H1 ∧ Ext ρ s.length H ρ s.length H1 := by
  have ex : Ext ρ s.length H ρ s.length H1 := by
    refine ⟨Nat.le_refl _, fun _ _ => rfl, fun a vs r => ?_, fun a o k r => e _ _ r (fun ps z => nomatch z), fun a o k r => e _ _ r (fun ps z => nomatch z)⟩
    rcases r with r | ⟨ob, r⟩
    · exact .inl (e _ _ r fun ps z => nomatch z)
    · exact .inr ⟨ob, e _ _ r fun ps z => nomatch z⟩
  have keep : ∀ (i : Nat) o, s[i]? = some o → mutS o = true → ∀ u, H (ρ i) = some u → H1 (ρ i) = some u := fun i o hi hm u hu => by
    obtain ⟨u', hu', -, -, -, -, nt⟩ := (h.ob i o hi).mut hm
    rw [hu] at hu'
    cases hu'
    exact e _ _ hu nt
  refine ⟨⟨h.inj, fun i o hi => ?_, t, fun p hp ps pos c e1 e2 i o hi hm z => ?_⟩, ex⟩
  · cases hm : mutS o with
    | true => exact (h.ob i o hi).mono ex (keep i o hi hm)
    | false =>
      cases o with
      | frz xs =>
        obtain ⟨vs, h1, r⟩ := h.ob i _ hi
        refine ⟨vs, ?_, r.mono ex⟩
        rcases h1 with ⟨o, h1⟩ | h1
        · exact .inl ⟨o, e _ _ h1 fun ps z => nomatch z⟩
        · exact .inr h1
      | ptp xs =>
        obtain ⟨vs, h1, r⟩ := h.ob i _ hi
        refine ⟨vs, ?_, r.mono ex⟩
        rcases h1 with ⟨o, h1, q0⟩ | h1
        · exact .inl ⟨o, e _ _ h1 (fun ps z => nomatch z), q0⟩
        · exact .inr h1
      | _ => cases hm
  · obtain ⟨ps', e1', -, h3⟩ := t p hp
    rw [e1] at e1'
    cases e1'
    obtain ⟨c', q1, q2⟩ := h3 pos _ e2
    cases q1
    obtain ⟨u, hu, -⟩ := (h.ob i o hi).mut hm
    have hu1 := keep i o hi hm u hu
    rw [z, q2] at hu1
    cases hu1
    have ho := h.ob i o hi
    rw [z] at ho hu
    cases o with
    | lst xs => obtain ⟨vs, h1, -⟩ := ho; rw [hu] at h1; cases h1
    | frz xs => cases hm
    | ptp xs => cases hm
    | dict b kvs => cases b <;> (obtain ⟨vs, h1, -⟩ := ho; rw [hu] at h1; cases h1)
    | ins c fs => obtain ⟨C, dx, vs, -, h1, -⟩ := ho; rw [hu] at h1; cases h1
    | lck b kvs => cases b <;> (obtain ⟨od, vs, h1, -⟩ := ho; rw [hu] at h1; cases h1)
    | set xs => obtain ⟨S, m, h1, -⟩ := ho; rw [hu] at h1; exact code_ne_set (Option.some.inj h1).symm
end
/-! ### x(lambda: body), in a place without guards -/
open LamX
section
variable {X : Cx} {pins : List (Addr × Obj)} {σ : L2.St} {H : Hp} {s : Shared}
/-- the lambda at f, as it is made -/
abbrev lamO (X : Cx) (ar : Arguments) (body : Expr) (sc : Scope) (md ct : Value) (co : Addr) : Obj := PySem.W.kla_obj "<lambda>" (X.env.qual ++ "<lambda>") ar body sc (cloFrom X.env.cells sc.names []) md co ct
/-- the context of the def that got it -/
abbrev gotX (X : Cx) (Ng : List Str) (x : Str) (sg : Scope) (g : Addr) (cd : Value) (s : Shared) (H : Hp) : Cx := cxOf C8.CX0 X.prog X.w X.K X.mg X.base Ng x sg g cd X.A X.stack s H C8.E0
theorem act_gd {Ng : List Str} {x a : Str} {sg sc : Scope} {g f co : Addr} {cd md ct : Value} {ar : Arguments} {body : Expr} {k : Nat} {pn : List (Addr × Obj)} {xe : Value → Shared → Prop} {W : WX} {E : XK} {tb : TE} {q1 q2 : Pos}
    (J : Inv X pins σ H s) (L : LamS X.env.scope sc) (of_ : s.heap.get? f = some (lamO X ar body sc md ct co)) (nf : H f = none) (out : f ∉ frs X.stack)
    (bd : bindArgs (PySem.W.kla_fn "<lambda>" (X.env.qual ++ "<lambda>") ar body sc (cloFrom X.env.cells sc.names []) md (.ref co) ct) ⟨[], []⟩ = pure [])
    (tk : Takes ((gotX X Ng x sg g cd s H).tr pn xe) W) (le : ∀ cls d σ' H', E cls d H' → W cls d σ' H') (hr : Rm (k + 1) (X.A.deeper (envOfC x sg s.heap.objs.size g cd)))
    (hb : ∀ (A : Around) (outer : List Env) (s : Shared) (H : Hp), Rm k (A.deeper (lamEnv X sc s.heap.objs.size f co)) → PE (lamCx X A outer s H E sc f co) body tb)
    (hN : Ng[0]? = some a) (hv : Vis sg a) (d1 : (a == ("__debug__" : Str)) = false) (d2 : (a == ("__classdict__" : Str)) = false) :
    PE ((gotX X Ng x sg g cd s H).tr pn xe) (.Call (.Name a q1) [] [] q2) (fun τ K Q => τ[0]? = some (some (.ref f)) ∧ K co = some (CodeO co (X.env.qual ++ "<lambda>")) ∧ tb σ K Q) := by
  refine ⟨fun pinZ t τ HZ Q JZ ⟨hslot, hcode, htb⟩ => ?_⟩
  have var := (pe_var (pos := q1) (i := 0) hN hv d1 d2).run pinZ t τ HZ (fun v K => v = .ref f ∧ K = HZ) JZ ⟨.ref f, hslot, rfl, rfl⟩
  refine wpAny_Call_Name_kw (thn var fun u t1 ⟨v, K1, J1, r1, ev, eK⟩ => ?_)
  subst ev eK
  obtain rfl : u = Value.ref f := r1
  have there : t1.heap.get? f = some (lamO X ar body sc md ct co) := J1.base.keep f _ of_ nf out fun z => nomatch (show f ∈ ([] : List Addr) from z)
  refine PySem.W.callWith_F0 ⟨_, _, _, _, there⟩ ?_
  obtain ⟨⟨ob, vs, tk0, c1, c2, c3⟩, -, -⟩ := J1.hok co _ hcode
  have run : codeAny (model X.prog X.w) (X.A.deeper (envOfC x sg s.heap.objs.size g cd)) (.call (.ref f) ⟨[], []⟩) (CR (L2.CX X.prog X.w) (envOfC x sg s.heap.objs.size g cd :: X.stack) X.prog X.w K1 t1 Q E) t1 := by
    refine PySem.W.kla_callFunE hr.room.depth there rfl L.co L.gen rfl ⟨co, ob, vs, tk0, rfl, c1, c2, c3⟩ ?_
    rw [bd]
    refine wpAny_pure (wpAny_newFunctionEnv (fun y hy => (L.own y hy).2) (fun y hy => absurd hy (by simp)) (fun h2 ns sb => ⟨J1.nolimit.fresh _ sb, ?_⟩) L.kind)
    show codeAny _ _ (.expr body (lamEnv X sc t1.heap.objs.size f co)) _ _
    have keep : ∀ b o, t1.heap.get? b = some o → h2.get? b = some o := fun b o e => sb.extBut b o (Nat.ne_of_lt (Heap.lt_size e)) (Heap.get?_push_of_some _ e)
    have J2 := lam_start2 (A := X.A.deeper (envOfC x sg s.heap.objs.size g cd)) (outer := envOfC x sg s.heap.objs.size g cd :: X.stack) (E := E) (f := f) (c' := co) (h₁ := h2) (tk := t1.toks + ([] : List (Str × Value)).length) J L J1.env0 hr.room.hd J1.base ns keep
    refine PySem.W.kla_codeExpr (wpAny_mono ((hb _ _ t1 K1 (hr.deeper _)).run [] _ _ K1 Q J2 htb) (fun v t2 z => ?_) fun e t2 z => z)
    obtain ⟨v2, K2, J3, rv, hq⟩ := z
    exact ⟨v2, K2, J3.os, J3.bare, J3.base, J3.hok, rv, hq⟩
  have pass : Passes (L2.CX X.prog X.w) ((gotX X Ng x sg g cd s H).tr pn xe) E := passes_call tk le
  refine wpAny_call (codeAny_mono run fun r t2 z => ?_)
  match r, z with
  | .error e, z => exact pass pinZ τ K1 t1 e t2 J1 z
  | .ok (.ret u), z => exact J1.after z
  | .ok .next, z => exact z.elim
  | .ok .brk, z => exact z.elim
  | .ok .cont, z => exact z.elim
theorem lam_gd {T : List (Addr × Str)} {TT : (XK → Hp → VK → Prop) → Hp → VK → Prop} {x a : Str} {g c P : Addr} {fd : FuncData} {k : Nat} {pg ar : Arguments} {bg : List Stmt} {sg sc : Scope} {Ng : List Str} {body : Expr} {t : XK → TE} {p lpos pos : Pos}
    (hg : Gl X x) (hm : X.mg x = some (.ref g)) (hk : PySem.W.keepIn X.K (.ref g) = true) (F : FunD X.K x x pg bg sg [] [] g fd)
    (bg1 : ∀ (kV doc pm : Value) (an : Option Addr) (cdv ct : Value) (us : List Value), us.length = 1 → bindArgs (PySem.W.fnOf x x pg bg sg .none kV doc pm an cdv ct) ⟨us, []⟩ = pure ([a].zip us))
    (Sg : FnScope Ng [a] sg) (hN : Ng[0]? = some a) (hv : Vis sg a) (hG : ∀ cdv, GivesTo X Ng x sg g cdv bg a (X.env.qual ++ "<lambda>") TT)
    (TB : TabB X.base X.mg c P) (hcode : X.env.code = .ref c) (hT : (P, X.env.qual ++ "<lambda>") ∈ T) (one : ∀ p ∈ T, p.1 = P → p.2 = X.env.qual ++ "<lambda>") (hr : Rm (k + 2) X.A) (L : LamS X.env.scope sc) (df : defaultsOf ar X.env = ([], []))
    (bd : ∀ (q : Str) (cl : List (Str × Addr)) (pm cv ct : Value), bindArgs (PySem.W.kla_fn "<lambda>" q ar body sc cl pm cv ct) ⟨[], []⟩ = pure [])
    (hb : ∀ (A : Around) (outer : List Env) (s : Shared) (H : Hp) (E : XK) (f co : Addr), Rm k (A.deeper (lamEnv X sc s.heap.objs.size f co)) → PE (lamCx X A outer s H E sc f co) body (t E))
    (d0 : (x == ("__debug__" : Str)) = false) (d1 : (a == ("__debug__" : Str)) = false) (d2 : (a == ("__classdict__" : Str)) = false) :
    PE X (.Call (.Name x p) [.Lambda ar body sc lpos] [] pos) (tLam T TT t) := by
  refine ⟨fun pins s σ H Q J ⟨tabs, told⟩ => ?_⟩
  obtain ⟨oc, od, dV, kV, doc, pm, an, cdv, ct, osl, rfl, lk, hcd, hD, -⟩ := F.ex
  obtain rfl : dV = .none := by
    rcases hD with ⟨_, e⟩ | ⟨e, _⟩
    · exact e
    · exact absurd rfl e
  refine wpAny_Call_Name_kw (ld_glob J hg hm (PySem.W.callWith_K (h₀ := X.base) J.ok.mod.kin hk ?_ (by rfl) (by rfl)) d0)
  change wpAny _ _ (spliced ((false, eval (.Lambda ar body sc lpos) X.env) :: backTo pos (starEach [] X.env))) _ _ s
  refine Calls.spliced_cons (lam_make2 J TB hcode hT one tabs df (L.has J.ok) fun f co md ct2 H1 t1 J1 en tabs1 o1 n1 u1 c1 => Calls.spliced_nil ⟨J1.kIn, ?_⟩)
  have binds : BindsTo t1 (PySem.W.fnOf x x pg bg sg .none kV doc pm an cdv ct) ⟨[.ref f], []⟩ ([a].zip [.ref f]) := .of_eq (bg1 kV doc pm an cdv ct [.ref f] rfl)
  have run : codeAny (model X.prog X.w) X.A (.call (.ref g) ⟨[.ref f], []⟩) (CR C8.CX0 X.stack X.prog X.w H1 t1 Q C8.E0) t1 :=
    run_ofS (vs := [.ref f]) lk hcd Sg hr.room J1.env0 binds (.cons rfl .nil) rfl fun _ => by
      obtain ⟨t', h1, h2⟩ := hG cdv f co t1 H1 Q (fun E K R => t E σ K R) (fun W pn xe E q1 q2 tk le => act_gd J1 L o1 n1 u1 (bd _ _ _ _ _) tk le (hr.deeper _) (fun A outer s H r => hb A outer s H E f co r) hN hv d1 d2) c1 (told H1 en tabs1)
      exact ⟨t', h1.nox, h2⟩
  refine wpAny_call (codeAny_mono run fun r t2 z => ?_)
  match r, z with
  | .error e, z => exact (show False from z).elim
  | .ok (.ret u), z => exact J1.after z
  | .ok .next, z => exact z.elim
  | .ok .brk, z => exact z.elim
  | .ok .cont, z => exact z.elim
end
end Z

set_option Elab.async false
set_option linter.all false
set_option maxRecDepth 100000
set_option maxHeartbeats 4000000
namespace Z
open PySem PySem.Spec PyProof.Rows L2 LamX
variable [Row]
/-! ### g(lambda: E), where g is try: [return] a() / except C as e: .. / return None -/
def mLamC (cs : List Str) (i n : Nat) (hs : List Hdl) (rt : Bool) (m : EM D) : EM D := fun e s => match m e s with
  | .ok d s' => .ok (if rt then d else .non) s'
  | .ex c f d s' => (match runH cs i c f d (List.replicate n none) s' hs with
    | .rt d2 s2 => .ok d2 s2
    | .nx _ s2 => .ok .non s2
    | _ => .no)
  | .no => .no
theorem Takes.len {X : Cx} {W : WX} (tk : Takes X W) : Takes X (fun cls d σ H => σ.length = X.N.length → W cls d σ H) := fun u s' ⟨a, B, sI, pins, σ, H, cls, d, e, I, nb, up, sky, na, os, ag, w⟩ =>
  tk u s' ⟨a, B, sI, pins, σ, H, cls, d, e, I, nb, up, sky, na, os, ag, w I.len⟩
abbrev endQ (Q : VK) : Ends := { nx := fun _ H' => Q .non H', rt := Q }
def TTL (K : PySem.W.Frag) (mg : Str → Option Value) (i n : Nat) (hs : List Hdl) (rt : Bool) : (XK → Hp → VK → Prop) → Hp → VK → Prop := fun tl H Q =>
  tl (fun cls d H' => ∀ σ', σ'.length = n → wAsM K i (fun _ _ _ _ => False) (endQ Q) (hs.map (clOf K mg i)) cls d σ' H') H (fun v H' => Q (if rt then v else .non) H')
section
variable {X : Cx} {W : WX} {cs : List Str} {i : Nat} {hs : List Hdl}
theorem runA {K : PySem.W.Frag} {mg : Str → Option Value} (X1 : XmT K mg cs) {Dn : Ends} {ρ : Nat → Addr} {σ : L2.St} {H : Hp} {c f : Str} {d : D} {e : Ev} {s : Sto} {C dx : Addr} {v : V} (sr : SR K mg ρ s H) (er : EnvR K ρ s.length H e σ) (hc : mg c = some (.ref C)) (rv : VR K ρ s.length H d v) (hx : H dx = some (.xd [(f, v)])) :
    ∀ {hs : List Hdl}, (∀ h ∈ hs, ∃ C, mg h.1 = some (.ref C)) → PoS K mg W Dn ρ s.length H (runH cs i c f d e s hs) → wAsM K i W Dn (hs.map (clOf K mg i)) (.ref C) (some dx) σ H
  | [], _, po => po ρ H σ C dx v Ext.refl sr er hc rv hx
  | h :: r, hm, po => by
    obtain ⟨C', hmC⟩ := hm h List.mem_cons_self
    unfold runH at po
    by_cases q : c ∈ cs ∧ h.1 ∈ cs ∧ i < e.length
    · rw [if_pos q] at po
      have same : (clOf K mg i h).1 = .ref C' := by unfold clOf; rw [hmC]; rfl
      refine ⟨decide (c = h.1), by rw [same]; exact X1 c q.1 h.1 q.2.1 C C' hc hmC, fun hit a _ => ?_, fun miss => ?_⟩
      · have e1 := of_decide_eq_true hit
        rw [if_pos e1] at po
        refine ⟨ρ, e.set i none, s, C, f, dx, v, d, sr, er.setN, by rw [List.getElem?_set_self (by rw [← er.1]; exact q.2.2)], e1 ▸ hc, rfl, rfl, hx, rv, ?_⟩
        show PoS K mg (fun _ _ _ _ => False) (offE i Dn) ρ s.length H (h.2 f d (e.set i none) s)
        revert po
        cases h.2 f d (e.set i none) s with
        | nx e2 s2 => exact fun po ρ2 H2 σ2 x1 x2 x3 => po ρ2 H2 _ x1 x2 x3.setN
        | rt d2 s2 => exact id
        | bk e2 s2 => exact fun po ρ2 H2 σ2 x1 x2 x3 => po ρ2 H2 _ x1 x2 x3.setN
        | ct e2 s2 => exact fun po ρ2 H2 σ2 x1 x2 x3 => po ρ2 H2 _ x1 x2 x3.setN
        | ex _ _ _ _ _ => exact fun po => po.elim
        | no => exact fun po => po.elim
      · rw [if_neg (of_decide_eq_false miss)] at po
        exact runA X1 sr er hc rv hx (fun h hh => hm h (List.mem_cons_of_mem _ hh)) po
    · rw [if_neg q] at po
      exact po.elim
theorem envN {K : PySem.W.Frag} {ρ : Nat → Addr} {n m : Nat} {H : Hp} {σ : L2.St} (h : σ.length = m) : EnvR K ρ n H (List.replicate m none) σ := ⟨by rw [List.length_replicate, h], fun j d q => by
  rw [List.getElem?_replicate] at q
  split at q <;> cases q⟩
/-- the call in the caller's words -/
theorem je_lam {n : Nat} {rt : Bool} {x a : Str} {g c P : Addr} {fd : FuncData} {k : Nat} {pg ar : Arguments} {bg : List Stmt} {sg sc : Scope} {Ng : List Str} {body : Expr} {m : EM D} {p lpos pos : Pos}
    (X1 : XmT X.K X.mg cs) (hms : ∀ h ∈ hs, ∃ C, X.mg h.1 = some (.ref C))
    (hg : Gl X x) (hm : X.mg x = some (.ref g)) (hk : PySem.W.keepIn X.K (.ref g) = true) (F : FunD X.K x x pg bg sg [] [] g fd)
    (bg1 : ∀ (kV doc pm : Value) (an : Option Addr) (cdv ct : Value) (us : List Value), us.length = 1 → bindArgs (PySem.W.fnOf x x pg bg sg .none kV doc pm an cdv ct) ⟨us, []⟩ = pure ([a].zip us))
    (Sg : FnScope Ng [a] sg) (hN : Ng[0]? = some a) (hv : Vis sg a) (hG : ∀ cdv, GivesTo X Ng x sg g cdv bg a (X.env.qual ++ "<lambda>") (TTL X.K X.mg i n hs rt))
    (TB : TabB X.base X.mg c P) (hcode : X.env.code = .ref c) (hT : (P, X.env.qual ++ "<lambda>") ∈ Row.tabs) (one : ∀ p ∈ Row.tabs, p.1 = P → p.2 = X.env.qual ++ "<lambda>") (hr : Rm (k + 2) X.A) (L : LamS X.env.scope sc) (df : defaultsOf ar X.env = ([], []))
    (bd : ∀ (q : Str) (cl : List (Str × Addr)) (pm cv ct : Value), bindArgs (PySem.W.kla_fn "<lambda>" q ar body sc cl pm cv ct) ⟨[], []⟩ = pure [])
    (hb : ∀ (A : Around) (outer : List Env) (s : Shared) (H : Hp) (E : XK) (f co : Addr), Rm k (A.deeper (lamEnv X sc s.heap.objs.size f co)) → JE (lamCx X A outer s H E sc f co) (fun cls d _ H' => E cls d H') body m)
    (d0 : (x == ("__debug__" : Str)) = false) (d1 : (a == ("__debug__" : Str)) = false) (d2 : (a == ("__classdict__" : Str)) = false) :
    JE X W (.Call (.Name x p) [.Lambda ar body sc lpos] [] pos) (mLamC cs i n hs rt m) :=
  PE_imp (lam_gd (t := fun E => lE X.K X.mg (fun cls d _ H' => E cls d H') m) hg hm hk F bg1 Sg hN hv hG TB hcode hT one hr L df bd hb d0 d1 d2) fun σ H Q ⟨ρ, env, s, sr, er, po⟩ => ⟨sr.tb, fun H1 en tabs1 => by
    obtain ⟨sr1, ex⟩ := sr.lam en tabs1
    refine ⟨ρ, env, s, sr1, er.mono ex, ?_⟩
    have po := po.rebase ex
    unfold mLamC at po
    cases hm : m env s with
    | ok d s2 =>
      rw [hm] at po
      cases rt with
      | true => exact po
      | false => exact fun ρ2 H2 v e1 e2 e3 => po ρ2 H2 .non e1 e2 (show VR X.K ρ2 s2.length H2 D.non V.non by rw [VR])
    | ex c f d s2 =>
      rw [hm] at po
      refine fun ρ2 H2 C dx v e1 e2 e3 e4 e5 σ2 hl => runA (e := List.replicate n none) X1 e2 (envN hl) e3 e4 e5 hms ?_
      have po := po.rebase e1
      dsimp only at po
      revert po
      cases runH cs i c f d (List.replicate n none) s2 hs with
      | nx e s3 => exact fun po ρ3 H3 σ3 y1 y2 y3 => po ρ3 H3 .non y1 y2 (by rw [VR])
      | rt d3 s3 => exact id
      | bk _ _ => exact fun po => po.elim
      | ct _ _ => exact fun po => po.elim
      | ex _ _ _ _ _ => exact fun po => po.elim
      | no => exact fun po => po.elim
    | no => rw [hm] at po; exact po.elim⟩
end
/-! ### what g does -/
section
variable {X : Cx} {Ng : List Str} {x a q : Str} {sg : Scope} {g : Addr} {cdg : Value} {i n : Nat} {hs : List Hdl} {nE : Str} {h₀ : ExceptHandler} {hds : List ExceptHandler} {rest : List Stmt} {p1 p2 p3 p4 p5 p6 : Pos}
theorem gives_e (hN : Ng.Nodup) (hi : Ng[i]? = some nE) (hln : sg.names.lookup nE = some .local) (hl : Ng.length = n) (hk : ∀ (s : Shared) (H : Hp), HdJ (gotX X Ng x sg g cdg s H).nox nE i (h₀ :: hds) hs) :
    GivesTo X Ng x sg g cdg [.Try [.Expr (.Call (.Name a p1) [] [] p2) p3] (h₀ :: hds) [] [] p4, .Return (some (.Constant .none 0 p5)) p6] a q (TTL X.K X.mg i n hs false) := by
  intro f c' s H Q tl act hc h
  refine ⟨_, pss_cons (ps_tryM (X := (gotX X Ng x sg g cdg s H).nox) (n := nE) (i := i) (Wo := fun _ _ _ _ => False)
    (tb := fun W' D σ H2 => σ[0]? = some (some (.ref f)) ∧ H2 c' = some (CodeO c' q) ∧ σ.length = n ∧ tl (fun cls d H' => ∀ σ', σ'.length = n → W' cls d σ' H') H2 (fun _ H' => D.nx σ H')) rfl rfl hN hi hln LamX.takes0 (fun W' pn xe tk _ => ?_) (hk s H).toA) (pss_one (ps_ret pe_non)), ?_⟩
  · have hp := pss_one (ps_expr (pos := p3) (act _ pn xe (fun cls d H' => ∀ σ', σ'.length = n → W' cls d σ' H') p1 p2 (Takes.len tk) (fun cls d σ' H' e l => e σ' (by rw [← hl]; exact l))))
    refine ⟨fun pins s' σ H' D I ⟨h1, h2, h3, h4⟩ => hp.run pins s' σ H' D I ⟨h1, h2, h4⟩⟩
  · have le : 1 ≤ Ng.length := by
      cases Ng with
      | nil => simp at hi
      | cons _ _ => simp
    have hlen : (L2.start Ng [.ref f]).length = n := by unfold L2.start; simp; omega
    exact ⟨rfl, hc, hlen, h⟩
theorem gives_r (hN : Ng.Nodup) (hi : Ng[i]? = some nE) (hln : sg.names.lookup nE = some .local) (hl : Ng.length = n) (hk : ∀ (s : Shared) (H : Hp), HdJ (gotX X Ng x sg g cdg s H).nox nE i (h₀ :: hds) hs) :
    GivesTo X Ng x sg g cdg [.Try [.Return (some (.Call (.Name a p1) [] [] p2)) p3] (h₀ :: hds) [] [] p4] a q (TTL X.K X.mg i n hs true) := by
  intro f c' s H Q tl act hc h
  refine ⟨_, pss_one (ps_tryM (X := (gotX X Ng x sg g cdg s H).nox) (n := nE) (i := i) (Wo := fun _ _ _ _ => False)
    (tb := fun W' D σ H2 => σ[0]? = some (some (.ref f)) ∧ H2 c' = some (CodeO c' q) ∧ σ.length = n ∧ tl (fun cls d H' => ∀ σ', σ'.length = n → W' cls d σ' H') H2 D.rt) rfl rfl hN hi hln LamX.takes0 (fun W' pn xe tk _ => ?_) (hk s H).toA), ?_⟩
  · have hp := pss_one (ps_ret (pos := p3) (act _ pn xe (fun cls d H' => ∀ σ', σ'.length = n → W' cls d σ' H') p1 p2 (Takes.len tk) (fun cls d σ' H' e l => e σ' (by rw [← hl]; exact l))))
    refine ⟨fun pins s' σ H' D I ⟨h1, h2, h3, h4⟩ => hp.run pins s' σ H' D I ⟨h1, h2, h4⟩⟩
  · have le : 1 ≤ Ng.length := by
      cases Ng with
      | nil => simp at hi
      | cons _ _ => simp
    have hlen : (L2.start Ng [.ref f]).length = n := by unfold L2.start; simp; omega
    exact ⟨rfl, hc, hlen, h⟩
end
end Z

set_option Elab.async false
set_option linter.all false
set_option maxRecDepth 100000
set_option maxHeartbeats 4000000
namespace Z
open PySem PySem.Spec PyProof.Rows L2 LamX
/-! ### the law's own call, with tables of code objects -/
section
variable [Row]
variable {P : Program} {w : World} {K : PySem.W.Frag} {mg mb : Str → Option Value} {k : Nat} {fa a : Addr} {s₁ : Shared} {vs : List Value} {ns : List Int} {F : List D → Sto → Rs D} {cs : List (Addr × Addr)}
abbrev tabO : Obj := { cls := .none, data := .fields #[] }
theorem law_runT (KX : K.In s₁.heap) (hns : s₁.heap.Ns mainGlobals mg) (hb : s₁.heap.Ns builtinsNs mb) (hbb : ∀ y : Str, y ≠ "__name__" → mb y = bootBuiltins y) (hlim : s₁.heap.NoLimit) (hg : s₁.gens = #[])
    (hT : ∀ p ∈ cs, s₁.heap.get? p.2 = some tabO) (nT : ∀ p ∈ cs, K.lookup p.2 = none) (hC : ∀ p ∈ cs, PySem.W.CodeHd s₁.heap p.1 p.2)
    (hbm : ∃ (bm : Addr) (ob : Obj), mg "__builtins__" = some (.ref bm) ∧ bm ≠ builtinsNs ∧ s₁.heap.get? bm = some ob ∧ ob.cls = .type "module" ∧ ob.dict = some builtinsNs ∧ ob.data = .plain)
    (hR : ∀ q ∈ Row.tabs, q.1 ∈ cs.map (·.2))
    (ha : s₁.heap.get? a = some { cls := .type "list", data := .seq vs.toArray }) (hi : IntsAre vs ns) (hl : ns.length ≤ sizeLine) (hr : Room k callerA)
    (hF : ∀ base : Heap, K.In base → base.Ns mainGlobals mg → (∀ p ∈ cs, TabB base mg p.1 p.2) → FS P w K mg base k fa F) (hQ : ∃ s', F [.ref 0] [.frz (ns.map D.int)] = .ok (.bl true) s') :
    codeAny (model P w) callerA (.call (.ref fa) ⟨[.ref a], []⟩) (fun r s' => r = .ok (.ret (.bool true)) ∧ OldK s₁.heap s'.heap ∧ s'.os = s₁.os ∧ AllBare s'.gens) s₁ := by
  obtain ⟨se, hse⟩ := hQ
  have vI := vals_ints hi
  have eL := hi.length
  have vD : ∀ {ρ : Nat → Addr} {n : Nat} {H : Hp} (ms : List Int), VRs K ρ n H (ms.map D.int) (ms.map V.int) := by
    intro ρ n H ms
    induction ms with
    | nil => exact VRs.nil
    | cons m ms ih => exact VRs.cons rfl ih
  have tabAt : ∀ {b : Addr}, b ∈ cs.map (·.2) → s₁.heap.get? b = some tabO := fun {b} hb => by
    obtain ⟨p, hp, rfl⟩ := List.mem_map.mp hb
    exact hT p hp
  have aNot : a ∉ cs.map (·.2) := fun z => by
    have q := tabAt z
    rw [ha] at q
    cases q
  have core : ∀ H : Hp, (∀ b ∈ cs.map (·.2), H b = some (.tbl #[])) → (∀ b, b ∉ cs.map (·.2) → H b = none ∨ ∃ o xs, H b = some (.frz o (.lst xs))) → SqF K H a (ns.map V.int) → HOk P w H s₁.heap → (∀ b, H b ≠ none → b = a ∨ b ∈ cs.map (·.2)) → (H a ≠ none → K.lookup a = none) →
      codeAny (model P w) callerA (.call (.ref fa) ⟨[.ref a], []⟩) (fun r s' => r = .ok (.ret (.bool true)) ∧ OldK s₁.heap s'.heap ∧ s'.os = s₁.os ∧ AllBare s'.gens) s₁ := by
    intro H hH hO hS hok hA hK
    have free : ∀ {b : Addr} {o : Obj}, s₁.heap.get? b = some o → (∀ xs n, o.data ≠ .seq xs n) → o.data ≠ .fields #[] → H b = none := fun {b o} e n1 n2 => by
      cases q : H b with
      | none => rfl
      | some u =>
        rcases hA b (by rw [q]; exact nofun) with rfl | hb
        · rw [ha] at e
          cases e
          exact (n1 _ _ rfl).elim
        · rw [tabAt hb] at e
          cases e
          exact (n2 rfl).elim
    have nd : ∀ {b : Addr} {o : Obj} {es : Array DictEntry} {ep : Nat}, s₁.heap.get? b = some o → o.data = .dict es ep → H b = none := fun {b o es ep} e d => free e (fun _ _ z => by rw [d] at z; cases z) fun z => by rw [d] at z; cases z
    have nsH : ∀ {b : Addr} {m : Str → Option Value}, s₁.heap.Ns b m → (hidT s₁.heap H).Ns b m := fun {b m} ⟨o, es, ep, e, d, r⟩ => ⟨o, es, ep, hidT_get e (nd e d), d, r⟩
    have kH : K.In (hidT s₁.heap H) := fun b o e => hidT_get (KX b o e) (by
      cases q : H b with
      | none => rfl
      | some u =>
        rcases hA b (by rw [q]; exact nofun) with rfl | hb
        · rw [hK (by rw [q]; exact nofun)] at e
          cases e
        · obtain ⟨p, hp, rfl⟩ := List.mem_map.mp hb
          rw [nT p hp] at e
          cases e)
    have e0 : Env0 P w K mg (hidT s₁.heap H) callerA [] s₁ H := ⟨rfl, ⟨kH, nsH hns, ⟨mb, nsH hb, hbb⟩, let ⟨mc, h1, h2⟩ := hlim; ⟨mc, nsH h1, h2⟩⟩, fun b o e => of_hidT e, Nat.le_of_eq (hidT_size _ _), trivial, fun b hb => absurd hb (by simp [frs]), hok, .of_eq hg⟩
    have TB : ∀ p ∈ cs, TabB (hidT s₁.heap H) mg p.1 p.2 := fun p hp => by
      refine ⟨?_, ?_, fun z => ?_⟩
      · obtain ⟨o, us, file, tf, flags, tg, inF, text, tt, e1, r1, r2, r3, rest⟩ := hC p hp
        exact ⟨o, us, file, tf, flags, tg, inF, text, tt, hidT_get e1 (free e1 (fun _ _ z => by rw [r2] at z; cases z) fun z => by rw [r2] at z; cases z; simp at r3), r1, r2, r3, rest⟩
      · obtain ⟨bm, ob, b1, b2, b3, b4, b5, b6⟩ := hbm
        refine ⟨bm, ob, b1, b2, fun q => ?_, fun q => ?_, hidT_get b3 (free b3 (fun _ _ z => by rw [b6] at z; cases z) fun z => by rw [b6] at z; cases z), b4, b5, b6⟩
        · obtain ⟨o, es, ep, e, d, -⟩ := hns
          rw [q, e] at b3
          cases b3
          rw [d] at b6
          cases b6
        · rw [q, hT p hp] at b3
          cases b3
          cases b6
      · obtain ⟨o, es, ep, e, d, -⟩ := hns
        rw [z, hT p hp] at e
        cases e
        cases d
    have sr : SR K mg (fun _ => a) [SO.frz (ns.map D.int)] H := by
      refine ⟨fun i j oi oj e1 e2 _ _ _ => ?_, fun i o e => ?_, fun q hq => TabS.nil (hH _ (hR q hq)), fun q hq ps pos c e1 e2 => ?_⟩
      · have h1 := (List.getElem?_eq_some_iff.mp e1).1
        have h2 := (List.getElem?_eq_some_iff.mp e2).1
        simp only [List.length_cons, List.length_nil] at h1 h2
        omega
      · have h1 := (List.getElem?_eq_some_iff.mp e).1
        simp only [List.length_cons, List.length_nil] at h1
        have : i = 0 := by omega
        subst this
        cases e
        exact ⟨_, hS, vD ns⟩
      · rw [hH _ (hR q hq)] at e1
        cases e1
        simp [codeAmong] at e2
    refine codeAny_mono (hF _ kH (nsH hns) TB callerA [] s₁ H [.ref a] [] [V.ref a] [] (fun v _ => v = .bl true) (fun _ _ _ => False) (rm_caller hr) e0 (.cons rfl .nil) .nil (fun _ h => nomatch h) rfl ⟨_, _, [.ref 0], sr, VRs.cons (by rw [VR]; exact ⟨Nat.zero_lt_succ _, rfl⟩) VRs.nil, ?_⟩) fun r s' h => ?_
    · rw [hse]
      exact fun ρ' H' v _ _ r => r
    · cases r with
      | error e =>
        obtain ⟨_, _, _, _, _, _, _, _, _, _, _, _, z⟩ := h
        exact z.elim
      | ok fl =>
        cases fl with
        | ret u =>
          obtain ⟨v, H', os, bare, un, hok', r', q⟩ := h
          have q' : v = .bl true := q
          subst q'
          obtain rfl : u = Value.bool true := r'
          have same : ∀ b o, b ∉ cs.map (·.2) → s₁.heap.get? b = some o → s'.heap.get? b = some o := fun b o nb e => by
            rcases hO b nb with q | ⟨ob, xs, z⟩
            · exact un.keep b o e q (by simp [frs]) (by simp)
            · obtain ⟨e1, _⟩ := hok b _ z
              obtain ⟨e2, _⟩ := hok' b _ (un.frzs b ob _ z)
              rw [e] at e1
              cases e1
              exact e2
          have more : ∀ b ∈ cs.map (·.2), ∃ us : Array Value, s'.heap.get? b = some { cls := .none, data := .fields us } := fun b hb => by
            obtain ⟨us, z⟩ := un.tbls b #[] (hH b hb)
            exact ⟨_, hok' b _ z⟩
          refine ⟨rfl, ⟨fun b o e => ?_, fun b o e => ?_⟩, os, bare⟩
          · by_cases hb : b ∈ cs.map (·.2)
            · obtain ⟨us, hm⟩ := more b hb
              rw [tabAt hb] at e
              cases e
              obtain ⟨p, hp, rfl⟩ := List.mem_map.mp hb
              exact .inr (.inl ⟨((hC p hp).tab (hT p hp)).isCodeTable, rfl, #[], us, rfl, by rw [Array.empty_append]; exact hm⟩)
            · exact .inl (same b o hb e)
          · by_cases hb : b ∈ cs.map (·.2)
            · obtain ⟨us, hm⟩ := more b hb
              exact ⟨_, hm⟩
            · exact ⟨o, same b o hb e⟩
        | next => exact False.elim h
        | brk => exact False.elim h
        | cont => exact False.elim h
  cases hk : K.lookup a with
  | some o =>
    have e := KX a o hk
    rw [ha] at e
    cases e
    refine core (fun b => if b ∈ cs.map (·.2) then some (.tbl #[]) else none) (fun b hb => if_pos hb) (fun b hb => .inl (if_neg hb)) (.inr ⟨_, vs.toArray, _, hk, rfl, rfl, rfl, by rw [List.size_toArray, eL]; exact hl, by simpa using vI⟩) (fun b u z => ?_) (fun b z => ?_) fun z => absurd (if_neg aNot) z
    · by_cases hb : b ∈ cs.map (·.2)
      · have z' := (if_pos hb).symm.trans z
        cases z'
        exact tabAt hb
      · have z' := (if_neg hb).symm.trans z
        cases z'
    · by_cases hb : b ∈ cs.map (·.2)
      · exact .inr hb
      · exact absurd (if_neg hb) z
  | none =>
    refine core (fun b => if b ∈ cs.map (·.2) then some (.tbl #[]) else if b = a then some (.frz { cls := .type "list", data := .seq vs.toArray } (.lst (ns.map V.int))) else none) (fun b hb => if_pos hb) (fun b hb => ?_) (.inl ⟨{ cls := .type "list", data := .seq vs.toArray }, (if_neg aNot).trans (if_pos rfl)⟩) (fun b u z => ?_) (fun b z => ?_) fun _ => hk
    · by_cases eb : b = a
      · exact .inr ⟨_, _, (if_neg hb).trans (if_pos eb)⟩
      · exact .inl ((if_neg hb).trans (if_neg eb))
    · by_cases hb : b ∈ cs.map (·.2)
      · have z' := (if_pos hb).symm.trans z
        cases z'
        exact tabAt hb
      · have z1 := (if_neg hb).symm.trans z
        by_cases eb : b = a
        · have z' := (if_pos eb).symm.trans z1
          cases z'
          subst eb
          exact ⟨ha, by rw [List.length_map]; exact hl, vs, _, vI, ha⟩
        · have z' := (if_neg eb).symm.trans z1
          cases z'
    · by_cases hb : b ∈ cs.map (·.2)
      · exact .inr hb
      · by_cases eb : b = a
        · exact .inl eb
        · exact absurd ((if_neg hb).trans (if_neg eb)) z
end
end Z

set_option Elab.async false
set_option linter.all false
set_option maxRecDepth 100000
set_option maxHeartbeats 4000000
namespace Z
open PySem PySem.Spec PyProof.Rows L2 LamX
/-! ### the head's facts where lambdas are made: code objects and their tables -/
theorem codeHdB_ok {K : PySem.W.Frag} {h : Heap} (X : K.In h) {q : Addr × Addr} (e : codeHdB K q = true) : PySem.W.CodeHd h q.1 q.2 := by
  unfold codeHdB at e
  split at e
  · rename_i t _ vs _ ho
    obtain ⟨e1, w⟩ := He.ba e
    clear e
    have e1 := of_decide_eq_true e1
    subst e1
    unfold hdB at w
    obtain ⟨a1, w⟩ := He.ba w
    obtain ⟨a2, w⟩ := He.ba w
    obtain ⟨a3, w⟩ := He.ba w
    obtain ⟨a4, w⟩ := He.ba w
    obtain ⟨a5, w⟩ := He.ba w
    obtain ⟨a6, a7⟩ := He.ba w
    split at a3
    · rename_i x3 t3 h3
      split at a4
      · rename_i x4 t4 h4
        split at a5
        · rename_i x5 h5
          split at a6
          · rename_i x6 t6 h6
            exact ⟨_, vs, x3, t3, x4, t4, x5, x6, t6, X _ _ ho, rfl, rfl, of_decide_eq_true a1, of_decide_eq_true a2, h3, h4, h5, h6, by simpa using a7⟩
          · cases a6
        · cases a5
      · cases a4
    · cases a3
  · cases e
theorem isTabB_ok {K : PySem.W.Frag} {h : Heap} (X : K.In h) {b : Addr} (e : isTabB K b = true) : h.get? b = some tabO := by
  unfold isTabB at e
  split at e
  · rename_i vs sl ho
    obtain ⟨e1, e2⟩ := He.ba e
    have e1 := Array.eq_empty_of_size_eq_zero (of_decide_eq_true e1)
    have e2 := Array.eq_empty_of_size_eq_zero (of_decide_eq_true e2)
    subst e1 e2
    exact X _ _ ho
  · cases e
theorem cut_look (ts : List Addr) (a : Addr) : ∀ K : PySem.W.Frag, (cut K ts).lookup a = if a ∈ ts then none else K.lookup a
  | [] => by unfold cut; simp
  | (b, o) :: K => by
    have ih := cut_look ts a K
    unfold cut at ih ⊢
    rw [List.filter_cons]
    by_cases hb : b ∈ ts
    · rw [if_neg (by simpa using hb), ih]
      by_cases ha : a ∈ ts
      · rw [if_pos ha, if_pos ha]
      · rw [if_neg ha, if_neg ha, List.lookup_cons]
        have : (a == b) = false := by
          rw [beq_eq_false_iff_ne]
          exact fun z => ha (z ▸ hb)
        rw [this]
    · rw [if_pos (by simpa using hb), List.lookup_cons, List.lookup_cons, ih]
      cases q : (a == b) with
      | true =>
        have q := beq_iff_eq.mp q
        subst q
        simp only [if_neg hb]
      | false => rfl
theorem cut_in {K : PySem.W.Frag} {ts : List Addr} {h : Heap} (X : K.In h) : (cut K ts).In h := fun a o e => by
  rw [cut_look] at e
  split at e
  · cases e
  · exact X a o e
theorem cut_none {K : PySem.W.Frag} {ts : List Addr} {a : Addr} (h : a ∈ ts) : (cut K ts).lookup a = none := by rw [cut_look, if_pos h]
def tabsQ (K : PySem.W.Frag) (ls : LL) : List (Addr × Str) := ls.map fun l => ((tabAt K l.1).2, l.2)
/-- what the making of the lambda q in the def at p asks -/
def LamF [Row] (base : Heap) (mg : Str → Option Value) (K : PySem.W.Frag) (p : Str × Option Str) (q : Str) : Prop :=
  ∃ c P, codeV K (He.fAd K p) = .ref c ∧ TabB base mg c P ∧ (P, q) ∈ Row.tabs ∧ ∀ t ∈ Row.tabs, t.1 = P → t.2 = q
/-- a row's own run, with tables -/
abbrev rowT (P : Program) (w : World) (ts : List (Addr × Str)) : Row := ⟨P, w, ts⟩
theorem walk_lawT {l : PySem.W.OpenLaw} {n k N : Nat} {q : Program} {loose : List Str} {XP : (Str → Option Value) → Heap → Prop} {d : DefRec} {ls : LL} {chk : PySem.W.Frag → Bool} {fn : List He.DefD}
    (hn : l.most = some n) (hn2 : n ≤ sizeLine) (hdf : d.params.defaults = []) (hr : Room k callerA)
    (F : ∀ (w : World) (mg : Str → Option Value) (fa : Addr) (h : Heap) (K : PySem.W.Frag) (ts : List (Addr × Str)), K.In h → SaysZ chk fn K → h.Ns mainGlobals mg → mg d.name = some (.ref fa) →
      ∃ F : List D → Sto → Rs D, (∀ ns : List Int, ns.length ≤ n → ∃ s', F [.ref 0] [.frz (ns.map D.int)] = .ok (.bl true) s') ∧
        ∀ base : Heap, K.In base → base.Ns mainGlobals mg → (∀ p ∈ ls, @LamF (rowT l.prog w ts) base mg K p.1 p.2) → @FS (rowT l.prog w ts) l.prog w K mg base k fa F) :
    PySem.W.WalkO q loose XP (hookT N ls chk fn).says l.row.toRowW d [] (fun f vs => PySem.call f vs) := by
  refine Att.attach_call hn hdf fun w s₀ s₁ mg mb fa o pm cd doc a vs ns G Y ho hd hcd hmg hobj hints hlen hg => ?_
  obtain ⟨K0, X0, c⟩ := Y
  have c1 : (tabsOkB K0 ls && (obsZ chk fn (cutT K0 ls)).1) = true := congrArg (fun z : AlZ => z.1) c
  have c2 : (obsZ chk fn (cutT K0 ls)).2 = fn.map He.DefD.val := congrArg (fun z : AlZ => z.2) c
  obtain ⟨c3, c4⟩ := He.ba c1
  have says : SaysZ chk fn (cutT K0 ls) := Prod.ext c4 c2
  obtain ⟨c5, c6⟩ := He.ba c3
  have KX : (cutT K0 ls).In s₁.heap := cut_in X0
  obtain ⟨F', hsp, hF⟩ := F w mg fa _ (cutT K0 ls) (tabsQ K0 ls) KX says G.T.g hmg
  have at_ : ∀ p ∈ tabsOf K0 ls, codeHdB K0 p = true ∧ isTabB K0 p.2 = true := fun p hp => by
    obtain ⟨y, hy, rfl⟩ := List.mem_map.mp hp
    obtain ⟨z1, z⟩ := He.ba (List.all_eq_true.mp c5 y hy)
    exact ⟨z1, (He.ba z).1⟩
  refine @law_runT (rowT l.prog w (tabsQ K0 ls)) _ _ _ _ _ _ _ _ _ _ _ _ (tabsOf K0 ls) KX G.T.g G.T.b G.T.builtins G.T.nolimit hg (fun p hp => isTabB_ok X0 (at_ p hp).2) (fun p hp => cut_none (List.mem_map.mpr ⟨p, hp, rfl⟩)) (fun p hp => codeHdB_ok X0 (at_ p hp).1) G.T.bmain
    (fun t ht => by
      obtain ⟨y, hy, rfl⟩ := List.mem_map.mp ht
      exact List.mem_map.mpr ⟨tabAt K0 y.1, List.mem_map.mpr ⟨y, hy, rfl⟩, rfl⟩) hobj hints (Nat.le_trans hlen hn2) hr (fun base hk hns hTB => hF base hk hns fun y hy => ?_) (hsp ns hlen)
  obtain ⟨_, z⟩ := He.ba (List.all_eq_true.mp c5 y hy)
  refine ⟨(tabAt K0 y.1).1, (tabAt K0 y.1).2, of_decide_eq_true (He.ba z).2, hTB _ (List.mem_map.mpr ⟨y, hy, rfl⟩), List.mem_map.mpr ⟨y, hy, rfl⟩, fun t ht e => ?_⟩
  obtain ⟨m, hm, rfl⟩ := List.mem_map.mp ht
  have := List.all_eq_true.mp (List.all_eq_true.mp c6 m hm) y hy
  simp only [Bool.or_eq_true, Bool.not_eq_true', decide_eq_false_iff_not, decide_eq_true_eq] at this
  exact this.resolve_left fun z => z e
end Z

set_option Elab.async false
set_option linter.all false
set_option maxRecDepth 100000
set_option maxHeartbeats 4000000
namespace Z
open PySem PySem.Spec PyProof.Rows L2 LamX
section
variable [Row] {X : Cx} {W : WX} {cs : List Str} {i n : Nat} {hs : List Hdl} {rt : Bool}
/-- g(lambda: body), by what the head tells -/
theorem je_lamF {x a q : Str} {g : Addr} {k : Nat} {p' : Str × Option Str} {pg ar : Arguments} {bg : List Stmt} {sg sc : Scope} {Ng : List Str} {body : Expr} {m : EM D} {p lpos pos : Pos}
    (X1 : XmT X.K X.mg cs) (hms : ∀ h ∈ hs, ∃ C, X.mg h.1 = some (.ref C))
    (hg : Gl X x) (hm : X.mg x = some (.ref g)) (hk : PySem.W.keepIn X.K (.ref g) = true) (hF : ∃ fd, FunD X.K x x pg bg sg [] [] g fd)
    (bg1 : ∀ (kV doc pm : Value) (an : Option Addr) (cdv ct : Value) (us : List Value), us.length = 1 → bindArgs (PySem.W.fnOf x x pg bg sg .none kV doc pm an cdv ct) ⟨us, []⟩ = pure ([a].zip us))
    (Sg : FnScope Ng [a] sg) (hN : Ng[0]? = some a) (hv : Vis sg a) (hG : ∀ cdv, GivesTo X Ng x sg g cdv bg a (X.env.qual ++ "<lambda>") (TTL X.K X.mg i n hs rt))
    (LF : LamF X.base X.mg X.K p' q) (hcode : X.env.code = codeV X.K (He.fAd X.K p')) (hq : q = X.env.qual ++ "<lambda>") (hr : Rm (k + 2) X.A) (L : LamS X.env.scope sc) (df : defaultsOf ar X.env = ([], []))
    (bd : ∀ (q : Str) (cl : List (Str × Addr)) (pm cv ct : Value), bindArgs (PySem.W.kla_fn "<lambda>" q ar body sc cl pm cv ct) ⟨[], []⟩ = pure [])
    (hb : ∀ (A : Around) (outer : List Env) (s : Shared) (H : Hp) (E : XK) (f co : Addr), Rm k (A.deeper (lamEnv X sc s.heap.objs.size f co)) → JE (lamCx X A outer s H E sc f co) (fun cls d _ H' => E cls d H') body m)
    (d0 : (x == ("__debug__" : Str)) = false := by decide) (d1 : (a == ("__debug__" : Str)) = false := by decide) (d2 : (a == ("__classdict__" : Str)) = false := by decide) :
    JE X W (.Call (.Name x p) [.Lambda ar body sc lpos] [] pos) (mLamC cs i n hs rt m) := by
  obtain ⟨c, P, h1, h2, h3, h4⟩ := LF
  obtain ⟨fd, F⟩ := hF
  subst hq
  exact je_lam X1 hms hg hm hk F bg1 Sg hN hv hG h2 (hcode.trans h1) h3 h4 hr L df bd hb d0 d1 d2
end
/-! ### wp -/
section
variable {cs : List Str} {i n : Nat} {hs : List Hdl} {rt : Bool} {m : EM D} {e : Ev} {s : Sto} {P : D → Sto → Prop} {E : Str → Str → D → Sto → Prop}
theorem z_lamC : (mLamC cs i n hs rt m e s).wp P E = (m e s).wp (fun d s' => P (if rt then d else .non) s') (fun c f d s' => (runH cs i c f d (List.replicate n none) s' hs).wp { nx := fun _ s2 => P .non s2, rt := P, bk := fun _ _ => False, ct := fun _ _ => False, ex := fun _ _ _ _ _ => False }) := by
  unfold mLamC
  cases m e s with
  | ok d s' => rfl
  | ex c f d s' =>
    dsimp only [Rs.wp]
    cases runH cs i c f d (List.replicate n none) s' hs <;> rfl
  | no => rfl
end
end Z

set_option Elab.async false
set_option linter.all false
set_option maxRecDepth 100000
set_option maxHeartbeats 4000000
namespace Z
open PySem PySem.Spec PyProof.Rows L2
/-! ### defaults; keywords in any order -/
variable [Row]
/-- the things at the places p -/
def pick {α : Type} (p : List Nat) (xs : List α) : List α := p.filterMap fun i => xs[i]?
section
variable {P : Program} {w : World} {K : PySem.W.Frag} {mg : Str → Option Value} {base : Heap} {k : Nat} {f : Addr} {fd : FuncData} {x qual : Str} {params : Arguments} {body : List Stmt} {scope : Scope} {dvs : List V} {kws : List (Str × V)} {N ps : List Str} {m : SM}
/-- what the default v tells as d, in any heap -/
def DfV (K : PySem.W.Frag) (d : D) (v : V) : Prop := ∀ (ρ : Nat → Addr) (n : Nat) (H : Hp), VR K ρ n H d v
def DfVs (K : PySem.W.Frag) (ds : List D) (vs : List V) : Prop := ∀ (ρ : Nat → Addr) (n : Nat) (H : Hp), VRs K ρ n H ds vs
end
/-- the address of a keyword-only default -/
def kwAt (f : Str × Option Str) (x : Str) (K : PySem.W.Frag) : Addr := match K.lookup (He.fAd K f) with
  | some ⟨_, _, .func fd, _⟩ => (match fd.kwdefaults with
    | .ref D => (match PySem.W.nsIn K D x with
      | some (some (.ref a)) => a
      | _ => 0)
    | _ => 0)
  | _ => 0
/-- an empty tuple stands at a -/
def tupNB (K : PySem.W.Frag) (a : Addr) : Bool := match K.lookup a with
  | some ⟨.type c, _, .seq its _, _⟩ => decide (c = "tuple") && decide (its.size = 0)
  | _ => false
end Z

set_option Elab.async false
set_option linter.all false
set_option maxRecDepth 100000
set_option maxHeartbeats 4000000
namespace Z
open PySem PySem.Spec PyProof.Rows L2
end Z

set_option Elab.async false
set_option linter.all false
set_option maxRecDepth 100000
set_option maxHeartbeats 4000000
namespace Z
open PySem PySem.Spec PyProof.Rows L2 TL
open PySem.PyData (strOk)
/-! ### Archive(name, *members): makes it, or raises what is due -/
def dueAr (nm : D) (ms : List MemA) : Option ErrX := (badN nm).or (match again1 [] (ms.map (·.name)) with
  | some x => some ("Twice", "name", "twice", .str x)
  | none => if 8 < ms.length then some ("TooMany", "limit", "many", .int 8) else none)
def tArchiveX (lname twice : MF) (cs csM : List Str) : SM := (sC (sE (mN lname (aC (mV 1) aN))) (sC (sA 3 (mN twice (aC (mL (iSq (mV 2)) (gN 4) tY (mFld csM "name" (mV 4)) [4]) aN))) (sC (sI (toB (m2 dNotN2 (mV 3) (mC .non))) (sRaise "Twice" "name" (aC (mV 3) aN)) sN) (sC (sI (toB (m2 dGt (mN fLen (aC (mV 2) aN)) (mC (.int 8)))) (sRaise "TooMany" "limit" (aC (mC (.int 8)) aN)) sN) (sC (sFldD cs "name" (mV 0) (mV 1)) (sFldD cs "members" (mV 0) (mV 2)))))))
/-! ### Store(*archives) -/
/-- the first key that comes a second time -/
def againK : List KeyA → List KeyA → Option KeyA
  | _, [] => none
  | seen, x :: xs => if x ∈ seen then some x else againK (seen ++ [x]) xs
def dueSt (as : List ArcA) : Option ErrX := match again1 [] (as.map (·.name)) with
  | some x => some ("Twice", "name", "twice", .str x)
  | none => (match againK [] (kS as) with
    | some k => some ("BadBody", "body", "body", .int k.2)
    | none => if 6 < as.length then some ("TooMany", "limit", "many", .int 6) else none)
def tStoreX (twice : MF) (cs csA csM : List Str) (itb : Itb) : SM := (sC (sA 2 (mN twice (aC (mL (iSq (mV 1)) (gN 4) tY (mFld csA "name" (mV 4)) [4]) aN))) (sC (sI (toB (m2 dNotN2 (mV 2) (mC .non))) (sRaise "Twice" "name" (aC (mV 2) aN)) sN) (sC (sA 3 (mN fLst aN)) (sC (sF (iSq (mV 1)) (gN 4) (sF (iOwn itb (mV 4)) (gN 5) (sF (iSq (mFld csM "defines" (mV 5))) (gT [(gN 6), (gN 7), (gN 8)]) (sC (sI (toB (m2 (dInB false) (mN fTup (aC (mV 6) (aC (mV 8) aN))) (mV 3))) (sRaise "BadBody" "body" (aC (mV 8) aN)) sN) (sE (mBM "list" (mtL lAppend) (mV 3) (aC (mN fTup (aC (mV 6) (aC (mV 8) aN))) aN))))))) (sC (sI (toB (m2 dGt (mN fLen (aC (mV 1) aN)) (mC (.int 6)))) (sRaise "TooMany" "limit" (aC (mC (.int 6)) aN)) sN) (sFldD cs "archives" (mV 0) (mV 1)))))))
end Z

set_option Elab.async false
set_option linter.all false
set_option maxRecDepth 100000
set_option maxHeartbeats 4000000
namespace Z
open PySem PySem.Spec PyProof.Rows L2 TL
open PySem.PyData (strOk)
/-! ### store | archive: puts it in, or raises what is due -/
/-! ### the frame of a law -/
theorem Eff.drop {s t u : Sto} {k : Nat} (h : Eff [] s t) (h2 : Eff [k] t u) (hk : s.length ≤ k) : Eff [] s u :=
  ⟨Nat.le_trans h.le h2.le, fun i hi _ => (h2.eq i (Nat.lt_of_lt_of_le hi h.le) (by simp; omega)).trans (h.eq i hi (by simp)), fun k hk => by simp at hk⟩
/-- so many, or two -/
def tFew : SM := (sR (mIf (toB (m2 dNe (mV 0) (mN fLst aN))) (mV 1) (mN fMin2 (aC (mV 1) (aC (mC (.int 2)) aN)))))
def tLawF (M : Int) (turn fin : SM) : SM := (sC (sF (iR1 (aC (mN fMax2 (aC (mC (.int 1)) (aC (mN fMin2 (aC (mC (.int M)) (aC (mN fLen (aC (mV 0) aN)) aN))) aN))) aN)) (gN 1) turn) fin)
structure LawFI (n : Nat) (s0 : Sto) (i : Nat) (e : Ev) (s : Sto) : Prop where
  ef : Eff [] s0 s
  ex : ∃ o r, e = some (.ref 0) :: o :: r ∧ r.length = n
/-- so many turns -/
structure TurnsI (n : Nat) (k : Nat) (s0 : Sto) (fix : Ev) (i : Nat) (e : Ev) (s : Sto) : Prop where
  ef : Eff [k] s0 s
  ex : ∃ r, e = fix ++ r ∧ r.length = n
/-! ### errors told -/
/-- how the error is told: with its field -/
def resX : Option ErrX → D
  | none => .non
  | some (_, _, l, v) => .tup [.str l, v]
end Z

set_option Elab.async false
set_option linter.all false
set_option maxRecDepth 100000
set_option maxHeartbeats 4000000
namespace Z
open PySem PySem.Spec PyProof.Rows L2 TL
open PySem.PyData (strOk)
/-! ### right members: nothing is due -/
theorem again_nd : ∀ {xs seen : List Str}, (seen ++ xs).Nodup → again1 seen xs = none
  | [], _, _ => rfl
  | x :: xs, seen, h => by
    have hx : x ∉ seen := fun q => (List.nodup_append.mp h).2.2 _ q _ List.mem_cons_self rfl
    rw [again1, if_neg hx]
    exact again_nd (by simpa using h)
def trip0 (p : DefA) : TripD := (.str p.1, .str p.2.1, .int p.2.2)
end Z

set_option Elab.async false
set_option linter.all false
set_option maxRecDepth 100000
set_option maxHeartbeats 4000000
namespace Z
open PySem PySem.Spec PyProof.Rows L2 TL
open PySem.PyData (strOk)
/-! ### a list of new instances, while bags are drawn from -/
theorem Keep.ofB {ks : List Nat} {s t : Sto} (h : Eff ks s t) (hb : Bags s ks) : Keep s t := fun i c fs e => h.get e (ins_no hb e)
/-! ### repr of what is told -/
def oddInts : List Int := [-1, 1000000, 10 ^ 19, 6]
def OddI (d : D) : Prop := ∀ i, d = .int i → i.natAbs < 10 ^ 12 ∨ i ∈ oddInts
def labels : List Str := ["name", "kind", "body", "twice", "many"]
def encO : D → PyData
  | .non => .none
  | .bl b => .bool b
  | .int i => .int i
  | .str x => .str x
  | .tup ds => .tuple (encs ds)
  | .ref _ => .list []
def toldR : Option ErrX → PyData
  | none => .none
  | some (_, _, l, v) => .tuple [.str l, encO v]
end Z

set_option Elab.async false
set_option linter.all false
set_option maxRecDepth 100000
set_option maxHeartbeats 4000000
namespace Z
open PySem PySem.Spec PyProof.Rows L2
section
variable [Row] {X : Cx} {W : WX}
/-! ### x.upper() -/
def fUpper (x : D) (ds : List D) (s : Sto) : Rs D := match x, ds with
  | .str a, [] => if a.length ≤ 5592405 then .ok (.str (Txt.upper a)) s else .no
  | _, _ => .no
end
section
variable {P : D → Sto → Prop} {E : Str → Str → D → Sto → Prop} {s : Sto}
@[simp ↓] theorem z_upper {a : Str} : (fUpper (.str a) [] s).wp P E = (a.length ≤ 5592405 ∧ P (.str (Txt.upper a)) s) := by
  show (if a.length ≤ 5592405 then Rs.ok (D.str (Txt.upper a)) s else Rs.no).wp P E = _
  rw [z_iteN, z_ok]
end
end Z

set_option Elab.async false
set_option linter.all false
set_option maxRecDepth 100000
set_option maxHeartbeats 4000000
namespace Z
open PySem PySem.Spec PyProof.Rows L2 TL
open PySem.PyData (strOk)
/-! ### what is no text -/
def NoStr (s : Sto) (d : D) : Prop := ∃ t, tyN s d = some t ∧ kitB t "str" = some false
theorem NoStr.non {s : Sto} : NoStr s .non := ⟨_, rfl, kits.1.1⟩
theorem NoStr.bl {s : Sto} {b : Bool} : NoStr s (.bl b) := ⟨_, rfl, kits.1.2.1⟩
theorem NoStr.int {s : Sto} {i : Int} : NoStr s (.int i) := ⟨_, rfl, kits.1.2.2.1⟩
theorem NoStr.tup {s : Sto} {ds : List D} : NoStr s (.tup ds) := ⟨_, rfl, kits.1.2.2.2.2.1⟩
theorem NoStr.lst {s : Sto} {n : Nat} {xs : List D} (h : mlAt s n = some xs) : NoStr s (.ref n) := ⟨_, ty_ref h, kits.1.2.2.2.2.2⟩
/-! ### archive[name], store[name]: gives it, or raises -/
def tGetX (tb : Tb) (cs csI : List Str) (f er fl : Str) : SM := (sC (sI (toB (m2 (dInO true tb dNo2) (mV 1) (mV 0))) (sRaise er fl (aC (mV 1) aN)) sN) (sR (m2 dIx (mL (iSq (mFld cs f (mV 0))) (gN 2) (toB (m2 dEq (mFld csI "name" (mV 2)) (mV 1))) (mV 2) [2]) (mC (.int 0)))))
/-! ### archive - name -/
def tSub (init : MF) (tb : Tb) (cs csM csN : List Str) : SM := (sC (sA 2 (m2 (dIxO tb dNo2) (mV 0) (mV 1))) (sC (sA 3 (mL (iSq (mFld cs "members" (mV 0))) (gN 4) (toB (m2 dNe (mFld csM "name" (mV 4)) (mFld csN "name" (mV 2)))) (mV 4) [4])) (sR (mN (mkD "Archive" init) (aC (mFld cs "name" (mV 0)) (aS (mV 3) aN))))))
end Z

set_option Elab.async false
set_option linter.all false
set_option maxRecDepth 100000
set_option maxHeartbeats 4000000
namespace Z
open PySem PySem.Spec PyProof.Rows L2 TL
open PySem.PyData (strOk)
/-! ### right archives, stores: nothing is due -/
/-! ### is_name, asked of texts alone -/
def tIsNameS (letters : EM D) : SM := (sC (sI (bOr (bNot (toT (mIsi "str" (mV 0)))) (bNot (toB (mCh dLe dLe (mC (.int 1)) (mN fLen (aC (mV 0) aN)) (mC (.int 8)))))) (sR (mC (.bl false))) sN) (sR (mN (fAllAny true) (aC (mL (iSt (mV 0)) (gN 1) tY (m2 (dInB false) (mV 1) letters) [1]) aN))))
end Z

set_option Elab.async false
set_option linter.all false
set_option maxRecDepth 100000
set_option maxHeartbeats 4000000
namespace Z
open PySem PySem.Spec PyProof.Rows L2 LamX GenW
/-! ### next((elt for tg in iter if ..), None): the machine -/
/-- the generator's frame -/
abbrev gxE (X : Cx) (scope : Scope) (C : Addr) (code : Value) : Env := genEnv scope (cloFrom X.env.cells scope.names []) C code builtinsNs X.env
/-- its context, entered at s, the iterator's objects at fp -/
def gxCx (X : Cx) (s : Shared) (H : Hp) (scope : Scope) (C : Addr) (code : Value) (fp : List Addr) : Cx :=
  { X with A := (X.A.in1.in1).deeper (gxE X scope C code), s_0 := s, H_0 := H, env := gxE X scope C code, outer := X.stack, stack := gxE X scope C code :: X.stack, ex := fp, fn := fun _ => false, pn := [], xe := fun _ _ => False }
section
variable {X : Cx} {pins : List (Addr × Obj)} {σ : L2.St} {H : Hp} {s : Shared}
end
end Z

set_option Elab.async false
set_option linter.all false
set_option maxRecDepth 100000
set_option maxHeartbeats 4000000
namespace Z
open PySem PySem.Spec PyProof.Rows L2 LamX GenW
/-! ### the generator runs up to its first item -/
/-- the end: nothing was handed out -/
abbrev EFst (F : Shared → Prop) : GenEnd := fun _ _ r s₁ => ((r = .ok (.ret .none) ∨ r = .ok .next) ∧ F s₁) ∨ ∃ e, r = .error e ∧ False
/-- the first item -/
abbrev YFst (Y : Value → Shared → Prop) : Protocol := fun _ _ v s _ => Y v s
section
variable {X : Cx} {σ : L2.St} {s_0 : Shared} {H_0 : Hp} {elt tg iter : Expr} {ifs : List Expr} {scope : Scope} {pos : Pos} {C it : Addr} {code : Value} {fp : List Addr} {tn : Nat → Heap → Prop} {J : It} {vs : List Nat} {g : TG} {tt : TT} {te : TE} {W : Nat → Nat → Hp → Prop} {Q : VK} {F : Shared → Prop} {Y : Value → Shared → Prop}
end
section
variable {X : Cx}
/-- next((elt for tg in iter if ..), None) -/
def tNx (T : List (Addr × Str)) (wi : L2.TI) (g : TG) (tt : TT) (te : TE) (vs : List Nat) : TE := fun σ H Q => wi σ H fun J H1 => Tabs T H1 ∧ ∀ H2, ExtN H1 H2 → Tabs T H2 → ∃ W : Nat → Nat → Hp → Prop, (∃ m, W 0 m H2) ∧ ∀ i m H, W i m H →
  (J.stop i H ∧ Q .non H) ∨ (J.go i H ∧ ∃ Nx : Hp → Prop, (∀ H', Nx H' → ∃ m', m' < m ∧ W (i + 1) m' H') ∧ ∀ x H', J.yld i H x H' → g x (wipe σ vs) H' fun σ2 H2 => wipe σ2 vs = wipe σ vs ∧ tt σ2 H2 fun b H3 =>
    if b = true then te σ2 H3 Q else Nx H3)
end
end Z

set_option Elab.async false
set_option linter.all false
set_option maxRecDepth 100000
set_option maxHeartbeats 4000000
namespace Z
open PySem PySem.Spec PyProof.Rows L2 LamX GenW
/-! ### next((elt for tg in iter if ..), None) in the mirror -/
def nxL (j : Stp) (g : GN) (t : EM Bool) (m : EM D) : Nat → Nat → Ev → Sto → Rs D
  | 0, i, e, s => match j i s with
    | some none => .ok .non s
    | _ => .no
  | f + 1, i, e, s => match j i s with
    | none => .no
    | some none => .ok .non s
    | some (some d) => match g d e with
      | none => .no
      | some e1 => (t e1 s).nox.bind fun q s1 => if q then (m e1 s1).nox else nxL j g t m f (i + 1) e s1
def mNx (mi : EM (Nat × Stp)) (g : GN) (t : EM Bool) (m : EM D) (vs : List Nat) : EM D := fun e s => (mi e s).bind fun jt s1 => nxL jt.2 g t m jt.1 0 (wipeD e vs) s1
section
variable [Row] {X : Cx} {W : WX} {gpos pos p cp : Pos} {cj : Nat} {elt tg iter : Expr} {ifs : List Expr} {scope : Scope} {own : List (Str × Nat)} {mi : EM (Nat × Stp)} {g : GN} {is : List Nat} {t : EM Bool} {m : EM D}
end
/-! ### wp -/
section
variable {mi : EM (Nat × Stp)} {g : GN} {t : EM Bool} {m : EM D} {vs : List Nat} {e : Ev} {s : Sto} {P : D → Sto → Prop} {E : Str → Str → D → Sto → Prop}
@[simp ↓] theorem z_mNx : (mNx mi g t m vs e s).wp P E = (mi e s).wp (fun jt s1 => (nxL jt.2 g t m jt.1 0 (wipeD e vs) s1).wp P E) E := by
  unfold mNx; rw [z_bind]
variable {ks : List Nat} {s0 : Sto} {j : Stp} {N : Nat} {xs : List D}
end
end Z

set_option Elab.async false
set_option linter.all false
set_option maxRecDepth 100000
set_option maxHeartbeats 4000000
namespace Z
open PySem PySem.Spec PyProof.Rows L2
/-! ### is, is not of bools; a dict display of constants -/
def dIsB (neg : Bool) (x y : D) (s : Sto) : Rs D := match x, y with
  | .bl a, .bl b => .ok (.bl (neg ^^ decide (a = b))) s
  | _, _ => .no
def kD : Key → D
  | .inl i => .int i
  | .inr x => .str x
def mDisp (kvs : List (Key × D)) : EM D := fun _ s => .ok (.ref s.length) (s ++ [.dict false (kvs.map fun p => (kD p.1, p.2))])
section
variable [Row] {X : Cx} {W : WX}
/-- constants that are no objects -/
def cV : D → V
  | .bl b => .bl b
  | .int i => .int i
  | .str x => .str x
  | _ => .non
def cB : D → Bool
  | .bl _ => true
  | .int _ => true
  | .str _ => true
  | .non => true
  | _ => false
end
section
variable {kvs : List (Key × D)} {e : Ev} {s : Sto} {P : D → Sto → Prop} {E : Str → Str → D → Sto → Prop}
@[simp ↓] theorem z_mDisp : (mDisp kvs e s).wp P E = P (.ref s.length) (s ++ [.dict false (kvs.map fun p => (kD p.1, p.2))]) := nr rfl
@[simp ↓] theorem z_isB {neg a b : Bool} : (dIsB neg (.bl a) (.bl b) s).wp P E = P (.bl (neg ^^ decide (a = b))) s := nr rfl
end
end Z

set_option Elab.async false
set_option linter.all false
set_option maxRecDepth 100000
set_option maxHeartbeats 4000000
namespace Z
open PySem PySem.Spec PyProof.Rows L2 TL
open PySem.PyData (strOk)
/-! ### the first item that passes, told by what the items stand for; kind_of, body_of, in, first -/
section
variable {g : GN} {t : EM Bool} {m : EM D} {e : Ev} {ks : List Nat} {s0 : Sto} {j : Stp} {N : Nat} {xs : List D}
end
section
variable {cs : List Str} {s : Sto} {d : D} {m : MemA} {x : Str}
def tOfM (cs : List Str) (i : Nat) : SM := (sR (mNx (iSq (mFld cs "defines" (mV 0))) (gT [(gN 2), (gN 3), (gN 4)]) (toB (m2 dEq (mV 2) (mV 1))) (mV i) [2, 3, 4]))
/-- what a member tells of the name x -/
def ofD (m : MemA) (x : Str) (f : DefA → D) : D := ((m.defs.find? fun p => decide (p.1 = x)).map f).getD .non
/-- x in a member -/
def tContM (cs : List Str) : SM := (sR (mAnd (mIsi "str" (mV 1)) (m2 (dInB false) (mV 1) (mL (iSq (mFld cs "defines" (mV 0))) (gN 2) tY (m2 dIx (mV 2) (mC (.int 0))) [2]))))
/-- the first member that defines x -/
def tFirst (cs : List Str) (tb : Tb) : SM := (sR (mNx (iSq (mFld cs "members" (mV 0))) (gN 2) (toB (m2 (dInO false tb dNo2) (mV 1) (mV 2))) (mV 2) [2]))
end
end Z

set_option Elab.async false
set_option linter.all false
set_option maxRecDepth 100000
set_option maxHeartbeats 4000000
namespace Z
open PySem PySem.Spec PyProof.Rows L2 TL
open PySem.PyData (strOk)
/-! ### while; longer stores; a list turned -/
theorem Eff.app {ks : List Nat} : ∀ {t s : Sto}, Eff ks s (s ++ t)
  | [], s => by rw [List.append_nil]; exact Eff.refl
  | a :: t, s => by
    rw [show s ++ a :: t = (s ++ [a]) ++ t by simp]
    exact Eff.push.trans Eff.app
def tTurned (take : MF) : SM := (sC (sP 2 3 (aC (mN fList (aC (mV 1) aN)) (aC (mN fLst aN) aN))) (sC (sW 1000 (toB (m2 dNe (mV 2) (mN fLst aN))) (sE (mBM "list" (mtL lAppend) (mV 3) (aC (mBM "list" (mtL lPopAt) (mV 2) (aC (mN take (aC (mV 0) (aC (mN fLen (aC (mV 2) aN)) aN))) aN)) aN)))) (sR (mV 3))))
structure TuI (S : Sto) (k la lb : Nat) (xs : List D) (m : Nat) (s : Sto) : Prop where
  ef : Eff [k] S s
  ab : la ≠ lb ∧ S.length ≤ la ∧ S.length ≤ lb ∧ la ≠ k ∧ lb ≠ k
  ex : ∃ left out, mlAt s la = some left ∧ mlAt s lb = some out ∧ left.length = m ∧ (out ++ left).Perm xs
end Z

set_option Elab.async false
set_option linter.all false
set_option maxRecDepth 100000
set_option maxHeartbeats 4000000
namespace Z
open PySem PySem.Spec PyProof.Rows L2 TL
open PySem.PyData (strOk)
/-! ### live: the list is a new one -/
end Z

set_option Elab.async false
set_option linter.all false
set_option maxRecDepth 100000
set_option maxHeartbeats 4000000
namespace Z
open PySem PySem.Spec PyProof.Rows L2
variable [Row]
/-! ### properties of own classes, read -/
/-- the classes of the table have m as a property, whose getter is at level k -/
def PTab (P : Program) (w : World) (K : PySem.W.Frag) (mg : Str → Option Value) (base : Heap) (k : Nat) (tb : Tb) (m : Str) : Prop :=
  ∀ c F, tb.lookup c = some F → ∃ C p g, mg c = some (.ref C) ∧ Cls K C ∧ PropOf K C m p g ∧ FS P w K mg base k g F
section
variable {P : Program} {w : World} {K : PySem.W.Frag} {mg : Str → Option Value} {base : Heap} {j k : Nat} {tb : Tb} {m c : Str} {F : MF}
end
/-- the check of the head -/
def propB (K : PySem.W.Frag) (C : Addr) (m : Str) (g : Addr) : Bool := match PySem.W.findIn K (.ref C) m with
  | some (some (.ref p)) => decide (PySem.W.specialIn K (.ref p) "__get__" = some (some (.builtin "property.__get__"))) && (decide (PySem.W.takesIn K (.ref p) = some true) && match PySem.W.recIn K p "property" with
    | some (.ref g' :: _) => decide (g' = g)
    | _ => false)
  | _ => false
def mProp (tb : Tb) (mo : EM D) : EM D := fun e s => (mo e s).bind fun d s1 => match d with
  | .ref n => match s1[n]? with
    | some (.ins c _) => match tb.lookup c with
      | some F => (F [.ref n] s1).nox
      | none => .no
    | _ => .no
  | _ => .no
section
variable {X : Cx} {W : WX} {k : Nat} {tb : Tb} {f : Str} {pos : Pos} {e : Expr} {me : EM D}
end
section
omit [Row]
variable {P : D → Sto → Prop} {E : Str → Str → D → Sto → Prop} {e : Ev} {s : Sto} {tb : Tb} {a : EM D}
@[simp ↓] theorem z_mProp : (mProp tb a e s).wp P E = (a e s).wp (fun d s1 => refP d fun n => insP s1[n]? fun c _ => optP (tb.lookup c) fun F => (F [.ref n] s1).wp P) E := by
  unfold mProp
  rw [z_bind]
  congr 1
  funext d s1
  unfold refP
  cases d with
  | ref n =>
    dsimp only
    unfold insP
    cases s1[n]? with
    | none => rfl
    | some o =>
      cases o with
      | ins c fs =>
        dsimp only
        cases tb.lookup c with
        | none => rfl
        | some F => exact z_nox
      | _ => rfl
  | _ => rfl
end
end Z

set_option Elab.async false
set_option linter.all false
set_option maxRecDepth 100000
set_option maxHeartbeats 4000000
namespace Z
open PySem PySem.Spec PyProof.Rows L2
/-! ### d.setdefault(k, v), a dict that is no display -/
def dSetd (x y z : D) (s : Sto) : Rs D := match x, keyD y with
  | .ref n, some k => match s[n]? with
    | some (.dict false kvs) => if kvs.length < sizeLine then match getK kvs k with
        | some v => .ok v s
        | none => .ok z (s.set n (.dict false (putKd kvs y k z)))
      else .no
    | _ => .no
  | _, _ => .no
/-- the dict is evaluated first, and must be one then -/
def mSetd (mo me mf : EM D) : EM D := fun env s => (mo env s).bind fun x s1 => match x with
  | .ref n => match dctAt s1 n with
    | some _ => (me env s1).bind fun y s2 => (mf env s2).bind fun z s3 => dSetd x y z s3
    | none => .no
  | _ => .no
variable [Row]
section
variable {X : Cx} {W : WX} {apos cpos : Pos} {o e f : Expr} {mo me mf : EM D}
end
section
omit [Row]
variable {P : D → Sto → Prop} {E : Str → Str → D → Sto → Prop} {e : Ev} {s : Sto} {a b c : EM D} {n : Nat} {x y z : D}
@[simp ↓] theorem z_dSetd : (dSetd (.ref n) y z s).wp P E = optP (keyD y) fun k => dctP s[n]? fun kvs => kvs.length < sizeLine ∧ (match getK kvs k with
    | some v => P v s
    | none => P z (s.set n (.dict false (putKd kvs y k z)))) := by
  unfold dSetd optP dctP
  cases keyD y with
  | none => rfl
  | some k =>
    dsimp only
    cases s[n]? with
    | none => rfl
    | some o =>
      cases o with
      | dict t kvs =>
        cases t with
        | true => rfl
        | false =>
          dsimp only
          rw [z_iteN]
          cases getK kvs k <;> rfl
      | _ => rfl
@[simp ↓] theorem z_mSetd : (mSetd a b c e s).wp P E = (a e s).wp (fun d s1 => refP d fun n => optP (dctAt s1 n) fun _ => (b e s1).wp (fun y s2 => (c e s2).wp (fun z s3 => (dSetd (.ref n) y z s3).wp P E) E) E) E := by
  unfold mSetd
  rw [z_bind]
  congr 1
  funext d s1
  unfold refP
  cases d with
  | ref n =>
    dsimp only
    cases dctAt s1 n with
    | none => rfl
    | some kvs => simp only [z_bind, optP_some]
  | _ => rfl
end
end Z

set_option Elab.async false
set_option linter.all false
set_option maxRecDepth 100000
set_option maxHeartbeats 4000000
namespace Z
open PySem PySem.Spec PyProof.Rows L2
/-! ### dicts whose keys are tuples of ints and texts -/
def getT (kvs : List (D × D)) (k : List Key) : Option D := (kvs.find? fun p => decide (tkeyD p.1 = some k)).map (·.2)
def putTd (kvs : List (D × D)) (d : D) (k : List Key) (v : D) : List (D × D) :=
  if (kvs.any fun p => decide (tkeyD p.1 = some k)) = true then kvs.map (fun p => if tkeyD p.1 = some k then (p.1, v) else p) else kvs ++ [(d, v)]
def mDT : EM D := fun _ s => .ok (.ref s.length) (s ++ [.dict true []])
def tctAt (s : Sto) (n : Nat) : Option (List (D × D)) := match s[n]? with
  | some (.dict true kvs) => some kvs
  | _ => none
def dGetT (x y : D) (s : Sto) : Rs D := match x, tkeyD y with
  | .ref n, some k => match tctAt s n with
    | some kvs => match getT kvs k with | some v => .ok v s | none => .no
    | none => .no
  | _, _ => .no
def dInT (neg : Bool) (y x : D) (s : Sto) : Rs D := match x, tkeyD y with
  | .ref n, some k => match tctAt s n with
    | some kvs => .ok (.bl (neg ^^ (getT kvs k).isSome)) s
    | none => .no
  | _, _ => .no
/-- m[(..)] = v, the key a display -/
def sSetT (mv mo : EM D) (ms : EM (List D)) : SM := fun e s => (mv e s).st e fun v s1 => (mo e s1).st e fun x s2 => (ms e s2).st e fun ds s3 => match x, keysD ds with
  | .ref n, some k => match s3[n]? with
    | some (.dict true kvs) => if kvs.length < sizeLine ∧ ds.length ≤ sizeLine then .nx e (s3.set n (.dict true (putTd kvs (.tup ds) k v))) else .no
    | _ => .no
  | _, _ => .no
variable [Row]
section
variable {K : PySem.W.Frag} {mg : Str → Option Value} {ρ : Nat → Addr} {n : Nat} {H : Hp}
end
section
variable {X : Cx} {W : WX} {pos apos cpos pos' : Pos} {o e f i y value : Expr} {es : List Expr} {mo me mv : EM D} {ms : EM (List D)} {nl : Nat} {tpos : Pos}
end
/-! steps -/
section
omit [Row]
variable {P : D → Sto → Prop} {E : Str → Str → D → Sto → Prop} {Q : En} {e : Ev} {s : Sto} {a b c : EM D} {ms : EM (List D)} {n : Nat} {x y z : D}
@[simp ↓] theorem z_mDT : (mDT e s).wp P E = P (.ref s.length) (s ++ [.dict true []]) := nr rfl
@[simp ↓] theorem z_getT : (dGetT (.ref n) x s).wp P E = optP (tkeyD x) fun k => optP (tctAt s n) fun kvs => optP (getT kvs k) fun v => P v s := by
  unfold dGetT optP
  cases tkeyD x with
  | none => rfl
  | some k =>
    dsimp only
    cases tctAt s n with
    | none => rfl
    | some kvs =>
      dsimp only
      cases getT kvs k <;> rfl
@[simp ↓] theorem z_inT2 {neg : Bool} : (dInT neg y (.ref n) s).wp P E = optP (tkeyD y) fun k => optP (tctAt s n) fun kvs => P (.bl (neg ^^ (getT kvs k).isSome)) s := by
  unfold dInT optP
  cases tkeyD y with
  | none => rfl
  | some k =>
    dsimp only
    cases tctAt s n <;> rfl
def tctP (o : Option SO) (P : List (D × D) → Prop) : Prop := match o with
  | some (.dict true kvs) => P kvs
  | _ => False
@[simp ↓] theorem tctP_some {kvs : List (D × D)} {P : List (D × D) → Prop} : tctP (some (.dict true kvs)) P = P kvs := nr rfl
@[simp ↓] theorem z_sSetT : (sSetT a b ms e s).wp Q = (a e s).wp (fun v s1 => (b e s1).wp (fun x s2 => (ms e s2).wp (fun ds s3 => refP x fun n => optP (keysD ds) fun k => tctP s3[n]? fun kvs => (kvs.length < sizeLine ∧ ds.length ≤ sizeLine) ∧ Q.nx e (s3.set n (.dict true (putTd kvs (.tup ds) k v)))) fun c f v s => Q.ex c f v e s) fun c f v s => Q.ex c f v e s) fun c f v s => Q.ex c f v e s := by
  unfold sSetT
  rw [z_st]
  congr 1
  funext v s1
  rw [z_st]
  congr 1
  funext x s2
  rw [z_st]
  congr 1
  funext ds s3
  unfold refP
  cases x with
  | ref n =>
    dsimp only
    cases hk : keysD ds with
    | none => rfl
    | some k =>
      dsimp only [optP]
      unfold tctP
      cases s3[n]? with
      | none => rfl
      | some o =>
        cases o with
        | dict t kvs =>
          cases t with
          | false => rfl
          | true =>
            dsimp only
            by_cases q : kvs.length < sizeLine ∧ ds.length ≤ sizeLine
            · rw [if_pos q]
              simp [q]
            · rw [if_neg q]
              simp only [z_rno, eq_iff_iff, false_iff]
              exact fun h => q h.1
        | _ => rfl
  | _ => rfl
end
end Z

set_option Elab.async false
set_option linter.all false
set_option maxRecDepth 100000
set_option maxHeartbeats 4000000
namespace Z
open PySem PySem.Spec PyProof.Rows L2
/-! ### {k: v for .. in .. if ..} -/
def dcL (j : Stp) (g : GN) (t : EM Bool) (mk mv : EM D) (l : Nat) : Nat → Nat → Ev → Sto → Rs D
  | 0, i, e, s => match j i s with
    | some none => .ok (.ref l) s
    | _ => .no
  | f + 1, i, e, s => match j i s with
    | none => .no
    | some none => .ok (.ref l) s
    | some (some d) => match g d e with
      | none => .no
      | some e1 => (t e1 s).nox.bind fun q s1 => if q then (mk e1 s1).nox.bind fun y s2 => (mv e1 s2).nox.bind fun z s3 => match s3[l]? with
          | some (.dict false kvs) => match keyD y with
            | some k => if kvs.length < sizeLine then dcL j g t mk mv l f (i + 1) e (s3.set l (.dict false (putKd kvs y k z))) else .no
            | none => .no
          | _ => .no
        else dcL j g t mk mv l f (i + 1) e s1
def mDc (mi : EM (Nat × Stp)) (g : GN) (t : EM Bool) (mk mv : EM D) (vs : List Nat) : EM D := fun e s => (mi e s).bind fun jt s1 => dcL jt.2 g t mk mv s1.length jt.1 0 (wipeD e vs) (s1 ++ [.dict false []])
variable [Row]
section
variable {X : Cx} {W : WX} {pos : Pos} {kx vx tg iter : Expr} {ifs : List Expr} {scope : Scope} {own : List (Str × Nat)} {mi : EM (Nat × Stp)} {g : GN} {is : List Nat} {t : EM Bool} {mk mv : EM D}
end
end Z

set_option Elab.async false
set_option linter.all false
set_option maxRecDepth 100000
set_option maxHeartbeats 4000000
namespace Z
open PySem PySem.Spec PyProof.Rows L2
/-! ### tuples whose objects have no dict: at a place of the store -/
def unP (s : Sto) (d : D) : D := match d with
  | .ref n => match s[n]? with
    | some (.ptp xs) => .tup xs
    | _ => .ref n
  | d => d
/-- read as a tuple -/
def mUn (m : EM D) : EM D := fun e s => (m e s).bind fun d s1 => .ok (unP s1 d) s1
/-- a display, tuple(a list): a place -/
def mPt (ms : EM (List D)) : EM D := fun e s => (ms e s).bind fun ds s1 => if ds.length ≤ sizeLine then .ok (.ref s1.length) (s1 ++ [.ptp ds]) else .no
def fPtuple : MF := fun ds s => match ds with
  | [.ref n] => match lstAt s n with
    | some xs => .ok (.ref s.length) (s ++ [.ptp xs])
    | none => .no
  | _ => .no
variable [Row]
section
variable {K : PySem.W.Frag} {mg : Str → Option Value} {ρ : Nat → Addr} {H : Hp}
end
section
variable {X : Cx} {W : WX} {pos : Pos} {e : Expr} {es : List Expr} {m : EM D} {ms : EM (List D)}
def tPtup (t : L2.TA) : TE := fun σ H Q => t σ H fun xs H1 => xs.length ≤ sizeLine ∧ ∀ p o, H1 p = none → o.dict = none → Q (.ref p) (upd H1 p (.frz o (.tup xs)))
end
/-! ### dict(such a tuple of pairs) -/
def pr2D : D → Option (D × D)
  | .tup [k, v] => if (keyD k).isSome then some (k, v) else none
  | _ => none
def mergeD (kvs : List (D × D)) : List (D × D) → List (D × D)
  | [] => kvs
  | p :: ps => match keyD p.1 with
    | some k => mergeD (putKd kvs p.1 k p.2) ps
    | none => mergeD kvs ps
def fDictP : MF := fun ds s => match ds with
  | [.ref n] => match s[n]? with
    | some (.ptp xs) => match xs.mapM pr2D with
      | some ps => .ok (.ref s.length) (s ++ [.dict false (mergeD [] ps)])
      | none => .no
    | _ => .no
  | _ => .no
section
variable {K : PySem.W.Frag} {mg : Str → Option Value} {ρ : Nat → Addr} {n : Nat} {H : Hp}
end
section
variable {X : Cx} {W : WX}
theorem PlT.plain {pins : List (Addr × Obj)} {σ : L2.St} {H : Hp} {s : Shared} {a : Addr} {vs : List V} (I : Inv X pins σ H s) (h : PlT X.K H a vs) : ∃ its : List Value, Vals vs its ∧ PlainSeq "tuple" s.heap a its.toArray ∧ vs.length ≤ sizeLine := by
  rcases h with ⟨o, h, q⟩ | ⟨o, its, m, lk, hc, hn, hd, hz, hv⟩
  · obtain ⟨h1, hz, its, rv, o', h2, hc, m, hd⟩ := I.hok a _ h
    rw [h1] at h2
    cases h2
    exact ⟨its, rv, ⟨o, m, h1, hc, q, hd⟩, hz⟩
  · exact ⟨its.toList, hv, ⟨o, m, I.kIn a o lk, hc, hn, by simpa using hd⟩, by rw [hv.length]; simpa using hz⟩
end
section
omit [Row]
variable {P : D → Sto → Prop} {E : Str → Str → D → Sto → Prop} {e : Ev} {s : Sto} {m : EM D} {ms : EM (List D)} {n : Nat}
@[simp ↓] theorem z_mUn : (mUn m e s).wp P E = (m e s).wp (fun d s1 => P (unP s1 d) s1) E := by
  unfold mUn
  rw [z_bind]
  rfl
@[simp ↓] theorem z_mPt : (mPt ms e s).wp P E = (ms e s).wp (fun ds s1 => ds.length ≤ sizeLine ∧ P (.ref s1.length) (s1 ++ [.ptp ds])) E := by
  unfold mPt
  rw [z_bind]
  congr 1
  funext ds s1
  rw [z_iteN, z_ok]
@[simp ↓] theorem z_ptuple : (fPtuple [.ref n] s).wp P E = lstP (lstAt s n) fun xs => P (.ref s.length) (s ++ [.ptp xs]) := by
  unfold fPtuple lstP
  dsimp only
  cases lstAt s n <;> rfl
end
end Z

set_option Elab.async false
set_option linter.all false
set_option maxRecDepth 100000
set_option maxHeartbeats 4000000
namespace Z
open PySem PySem.Spec PyProof.Rows L2
/-! ### what is never reached; d.get(k, x) -/
def mNo : EM D := fun _ _ => .no
def mGet2 (mo me mf : EM D) : EM D := fun env s => (mo env s).bind fun x s1 => match x with
  | .ref n => (match dctAt s1 n with
    | some _ => (me env s1).bind fun y s2 => (mf env s2).bind fun z s3 => dGet2 x y z s3
    | none => .no)
  | _ => .no
variable [Row]
section
variable {X : Cx} {W : WX} {apos cpos : Pos} {o e f : Expr} {mo me mf : EM D}
end
section
omit [Row]
variable {P : D → Sto → Prop} {E : Str → Str → D → Sto → Prop} {e : Ev} {s : Sto} {a b c : EM D}
@[simp ↓] theorem z_mNo : (mNo e s).wp P E = False := nr rfl
@[simp ↓] theorem z_mGet2 : (mGet2 a b c e s).wp P E = (a e s).wp (fun d s1 => refP d fun n => optP (dctAt s1 n) fun _ => (b e s1).wp (fun y s2 => (c e s2).wp (fun z s3 => (dGet2 (.ref n) y z s3).wp P E) E) E) E := by
  unfold mGet2
  rw [z_bind]
  congr 1
  funext d s1
  unfold refP
  cases d with
  | ref n =>
    dsimp only
    cases dctAt s1 n with
    | none => rfl
    | some kvs => simp only [z_bind, optP_some]
  | _ => rfl
end
end Z

set_option Elab.async false
set_option linter.all false
set_option maxRecDepth 100000
set_option maxHeartbeats 4000000
namespace Z
open PySem PySem.Spec PyProof.Rows L2 TL
open PySem.PyData (strOk)
/-! ### links: what a link holds, plainly -/
/-- what a name is bound to: a body, or the program's own -/
abbrev Bd := Option Int
def bdD : Bd → D
  | none => .str "own"
  | some i => .int i
abbrev DefB := Str × Bd
def fdD (p : DefB) : D := .tup [.str p.1, bdD p.2]
abbrev Row3 := Str × Str × Str
structure LA where
  rows : List Row3
  found : List (Str × List DefB)
  wby : List (Str × Option (Str × Str))
def wbD : Option (Str × Str) → D
  | none => .non
  | some p => .tup [.str p.1, .str p.2]
def lrow (r : Row3) : D := .tup [.str r.1, .str r.2.1, .str r.2.2]
def lgot (r : Row3) : D × D := (.tup [.str r.1, .str r.2.1], .str r.2.2)
def rkey (r : Row3) : Str × Str := (r.1, r.2.1)
def openL (a : LA) : List Str := sortS ((a.wby.map (·.1)).filter fun x => !decide (x ∈ a.found.map (·.1)))
def dns (m : MemA) : List Str := m.defs.map (·.1)
def fitsB (a : LA) (an : Str) (m : MemA) : Bool := !decide ((an, m.name) ∈ a.rows.map rkey) && (openL a).any fun x => decide (x ∈ dns m)
def nextM (a : LA) (r : ArcA) : Option MemA := r.mems.find? (fitsB a r.name)
def causeL (a : LA) (m : MemA) : Str := ((openL a).filter fun x => decide (x ∈ dns m)).headD ""
def putF (f : List (Str × List DefB)) (x : Str) (v : DefB) : List (Str × List DefB) :=
  if x ∈ f.map (·.1) then f.map (fun q => if q.1 = x then (q.1, q.2 ++ [v]) else q) else f ++ [(x, [v])]
def putW (w : List (Str × Option (Str × Str))) (x : Str) (v : Option (Str × Str)) : List (Str × Option (Str × Str)) :=
  if x ∈ w.map (·.1) then w else w ++ [(x, v)]
def takeL (a : LA) (an : Str) (m : MemA) : LA :=
  ⟨a.rows ++ [(an, m.name, causeL a m)], m.defs.foldl (fun f d => putF f d.1 (d.2.1, some d.2.2)) a.found, m.wants.foldl (fun w x => putW w x (some (an, m.name))) a.wby⟩
/-! ### what stands for it -/
structure LkP where
  w : Nat
  r : Nat
  g : Nat
  f : Nat
  y : Nat
def lkFs (base : D) (p : LkP) : List (Str × D) := [("words", .ref p.w), ("base", base), ("rows", .ref p.r), ("got", .ref p.g), ("found", .ref p.f), ("wanted_by", .ref p.y)]
def fndD (f : List (Str × List DefB)) (ls : List Nat) : List (D × D) := (f.zip ls).map fun q => (.str q.1.1, .ref q.2)
structure IsLk (s0 s : Sto) (l : Nat) (base : D) (p : LkP) (ls : List Nat) (rows gots : List Row3) (fd : List (Str × List DefB)) (wb : List (Str × Option (Str × Str))) : Prop where
  ef : Eff [] s0 s
  ins : s[l]? = some (.ins "Link" (lkFs base p))
  rows : mlAt s p.r = some (rows.map lrow)
  got : s[p.g]? = some (.dict true (gots.map lgot))
  fnd : s[p.f]? = some (.dict false (fndD fd ls))
  len : ls.length = fd.length
  lst : ∀ (i : Nat) (q : Str × List DefB) (n : Nat), fd[i]? = some q → ls[i]? = some n → mlAt s n = some (q.2.map fdD)
  nd : ls.Nodup
  nr : p.r ∉ ls
  wby : s[p.y]? = some (.dict false (wb.map fun q => (.str q.1, wbD q.2)))
  fy : p.f ≠ p.y
  lo : s0.length ≤ l ∧ s0.length ≤ p.r ∧ s0.length ≤ p.g ∧ s0.length ≤ p.f ∧ s0.length ≤ p.y
  los : ∀ n ∈ ls, s0.length ≤ n
abbrev IsLa (s0 s : Sto) (l : Nat) (base : D) (p : LkP) (ls : List Nat) (a : LA) : Prop := IsLk s0 s l base p ls a.rows a.rows a.found a.wby
/-- sizes and names; c0: what the program has -/
structure LaOk (c0 : Nat) (a : LA) : Prop where
  c : c0 ≤ 1000 ∧ a.rows.length ≤ 1000
  fn : (a.found.map (·.1)).Nodup
  wn : (a.wby.map (·.1)).Nodup
  wok : ∀ x ∈ a.wby.map (·.1), strOk x = true
  gk : (a.rows.map rkey).Nodup
  fl : a.found.length ≤ c0 + 10 * a.rows.length
  wl : a.wby.length ≤ c0 + 10 * a.rows.length
  ll : ∀ q ∈ a.found, q.2.length ≤ c0 + 10 * a.rows.length
section
variable {s0 s t : Sto} {l : Nat} {base : D} {p : LkP} {ls : List Nat} {a : LA} {c0 : Nat}
theorem IsLk.eff {rows gots : List Row3} {fd : List (Str × List DefB)} {wb : List (Str × Option (Str × Str))} (h : IsLk s0 s l base p ls rows gots fd wb) (e : Eff [] s t) : IsLk s0 t l base p ls rows gots fd wb :=
  ⟨h.ef.trans e, e.get h.ins (by simp), e.ml h.rows (by simp), e.get h.got (by simp), e.get h.fnd (by simp), h.len, fun i q n h1 h2 => e.ml (h.lst i q n h1 h2) (by simp), h.nd, h.nr, e.get h.wby (by simp), h.fy, h.lo, h.los⟩
theorem IsLk.lt {rows gots : List Row3} {fd : List (Str × List DefB)} {wb : List (Str × Option (Str × Str))} (h : IsLk s0 s l base p ls rows gots fd wb) : l < s.length := (List.getElem?_eq_some_iff.mp h.ins).1
theorem fndD_keys : ∀ {f : List (Str × List DefB)} {ls : List Nat}, ls.length = f.length → (fndD f ls).map (·.1) = (f.map (·.1)).map D.str
  | [], ls, h => by
    have : ls = [] := List.eq_nil_of_length_eq_zero h
    subst this
    rfl
  | q :: f, n :: ls, h => by
    have := fndD_keys (f := f) (ls := ls) (by simpa using h)
    unfold fndD at this ⊢
    simpa using this
/-! ### open_names -/
def tOpen (cs : List Str) : SM := (sLkA (mFld cs "wanted_by" (mV 0)) (sR (mN fSortA (aC (mL (iKy jKey (mFld cs "wanted_by" (mV 0))) (gN 1) (toB (m2 (dInD true) (mV 1) (mFld cs "found" (mV 0)))) (mV 1) [1]) aN))))
end
end Z

set_option Elab.async false
set_option linter.all false
set_option maxRecDepth 100000
set_option maxHeartbeats 4000000
namespace Z
open PySem PySem.Spec PyProof.Rows L2 TL
open PySem.PyData (strOk)
/-! ### fits, next_member -/
/-- a member whose parts can be looked at -/
structure MemK (m : MemA) : Prop where
  ok : okM m
  dl : m.defs.length ≤ 10
  wl : m.wants.length ≤ 10
def InMem (B : D → D → Sto → Rs D) : Prop := ∀ {s : Sto} {dm : D} {m : MemA} {x : Str}, IsMem s dm m → MemK m → strOk x = true → (B (.str x) dm s).wp fun d s' => d = .bl (decide (x ∈ dns m)) ∧ Eff [] s s'
section
variable {s0 s t : Sto} {l : Nat} {base : D} {p : LkP} {ls : List Nat} {a : LA} {c0 : Nat} {tbO : Tb} {FO : MF} {cs : List Str} {B : D → D → Sto → Rs D}
def OpenOk (F : MF) : Prop := ∀ {s0 s : Sto} {l : Nat} {base : D} {p : LkP} {ls : List Nat} {a : LA} {c0 : Nat}, IsLa s0 s l base p ls a → LaOk c0 a → (F [.ref l] s).wp fun d s' => Eff [] s s' ∧ ∃ k, d = .ref k ∧ s.length ≤ k ∧ mlAt s' k = some ((openL a).map D.str)
def tFits (cs csM : List Str) (tbO : Tb) (B : D → D → Sto → Rs D) : SM := (sR (mAnd (m2 (dInT true) (mN fTup (aC (mV 1) (aC (mFld csM "name" (mV 2)) aN))) (mFld cs "got" (mV 0))) (mN (fAllAny false) (aC (mL (iSq (mMeth tbO "open_names" (mV 0) aN)) (gN 3) tY (m2 B (mV 3) (mV 2)) [3]) aN))))
def FitsOk (F : MF) : Prop := ∀ {s0 s : Sto} {l : Nat} {base : D} {p : LkP} {ls : List Nat} {a : LA} {c0 : Nat} {an : Str} {dm : D} {m : MemA}, IsLa s0 s l base p ls a → LaOk c0 a → IsMem s dm m → MemK m → (F [.ref l, .str an, dm] s).wp fun d s' => d = .bl (fitsB a an m) ∧ Eff [] s s'
def tNext (itb : Itb) (csA : List Str) (tbF : Tb) : SM := (sR (mNx (iOwn itb (mV 1)) (gN 2) (toT (mMeth tbF "fits" (mV 0) (aC (mFld csA "name" (mV 1)) (aC (mV 2) aN)))) (mV 2) [2]))
def NextOk (F : MF) : Prop := ∀ {s0 s : Sto} {l : Nat} {base : D} {p : LkP} {ls : List Nat} {a : LA} {c0 : Nat} {da : D} {r : ArcA}, IsLa s0 s l base p ls a → LaOk c0 a → IsArc s0 da r → (∀ m ∈ r.mems, MemK m) → (F [.ref l, da] s).wp fun d s' => Eff [] s s' ∧ (match nextM a r with | none => d = .non | some m => IsMem s0 d m)
end
end Z

set_option Elab.async false
set_option linter.all false
set_option maxRecDepth 100000
set_option maxHeartbeats 4000000
namespace Z
open PySem PySem.Spec PyProof.Rows L2 TL
open PySem.PyData (strOk)
/-! ### take -/
section
variable {s0 s t : Sto} {l : Nat} {base : D} {p : LkP} {ls : List Nat} {a : LA} {c0 : Nat} {rows gots : List Row3} {fd : List (Str × List DefB)} {wb : List (Str × Option (Str × Str))} {x : Str} {v : DefB}
theorem ne_kind {s : Sto} {i j : Nat} {o o' : SO} (h : s[i]? = some o) (h2 : s[j]? = some o') (hne : o ≠ o') : i ≠ j := fun e => by
  subst e
  rw [h] at h2
  exact hne (Option.some.inj h2)
theorem putF_keys : (putF fd x v).map (·.1) = if x ∈ fd.map (·.1) then fd.map (·.1) else fd.map (·.1) ++ [x] := by
  unfold putF
  split
  · rw [List.map_map]
    refine List.map_congr_left fun q _ => ?_
    dsimp only [Function.comp]
    split <;> rfl
  · rw [List.map_append]
    rfl
theorem mem_at {fd : List (Str × List DefB)} {x : Str} (h : x ∈ fd.map (·.1)) : ∃ (i : Nat) (q : Str × List DefB), fd[i]? = some q ∧ q.1 = x := by
  obtain ⟨q, hq, e⟩ := List.mem_map.mp h
  obtain ⟨i, hi, rfl⟩ := List.getElem_of_mem hq
  exact ⟨i, _, List.getElem?_eq_getElem hi, e⟩
theorem fndD_at {i n : Nat} {q : Str × List DefB} (hi : fd[i]? = some q) (hn : ls[i]? = some n) : (fndD fd ls)[i]? = some (.str q.1, .ref n) := by
  unfold fndD
  rw [List.getElem?_map, (List.getElem?_zip_eq_some (z := (q, n))).mpr ⟨hi, hn⟩]
  rfl
end
end Z

set_option Elab.async false
set_option linter.all false
set_option maxRecDepth 100000
set_option maxHeartbeats 4000000
namespace Z
open PySem PySem.Spec PyProof.Rows L2 TL
open PySem.PyData (strOk)
section
variable {s0 s t : Sto} {l : Nat} {base : D} {p : LkP} {ls : List Nat} {a : LA} {c0 : Nat} {rows gots : List Row3} {fd : List (Str × List DefB)} {wb : List (Str × Option (Str × Str))} {x : Str} {v : DefB}
theorem putW_keys {u : Option (Str × Str)} : (putW wb x u).map (·.1) = if x ∈ wb.map (·.1) then wb.map (·.1) else wb.map (·.1) ++ [x] := by
  unfold putW
  split
  · rfl
  · rw [List.map_append]; rfl
/-! ### what stays of LaOk -/
theorem fold_keys : ∀ (ds : List DefA) (fd : List (Str × List DefB)), (fd.map (·.1)).Nodup → ((ds.foldl (fun f d => putF f d.1 (d.2.1, some d.2.2)) fd).map (·.1)).Nodup ∧ (ds.foldl (fun f d => putF f d.1 (d.2.1, some d.2.2)) fd).length ≤ fd.length + ds.length ∧ ∀ B, (∀ q ∈ fd, q.2.length ≤ B) → 0 < B + ds.length → ∀ q ∈ ds.foldl (fun f d => putF f d.1 (d.2.1, some d.2.2)) fd, q.2.length ≤ B + ds.length
  | [], fd, h => ⟨h, Nat.le_refl _, fun B hB _ => hB⟩
  | d :: ds, fd, h => by
    have h1 : ((putF fd d.1 (d.2.1, some d.2.2)).map (·.1)).Nodup := by
      rw [putF_keys]
      split
      · exact h
      · rename_i hn
        rw [List.nodup_append]
        exact ⟨h, by simp, fun a ha b hb e => by simp at hb; subst hb; subst e; exact hn ha⟩
    have h2 : (putF fd d.1 (d.2.1, some d.2.2)).length ≤ fd.length + 1 := by
      unfold putF
      split <;> simp
    obtain ⟨k1, k2, k3⟩ := fold_keys ds _ h1
    refine ⟨k1, by simp only [List.foldl_cons, List.length_cons] at *; omega, fun B hB hpos q hq => ?_⟩
    have hB1 : ∀ q ∈ putF fd d.1 (d.2.1, some d.2.2), q.2.length ≤ B + 1 := fun q hq => by
      unfold putF at hq
      split at hq
      · obtain ⟨r, hr, rfl⟩ := List.mem_map.mp hq
        have := hB r hr
        split
        · simp; omega
        · omega
      · rcases List.mem_append.mp hq with hq | hq
        · have := hB q hq; omega
        · simp at hq
          subst hq
          simp
    have := k3 (B + 1) hB1 (by omega) q hq
    rw [List.length_cons]
    omega
theorem foldw_keys (u : Option (Str × Str)) : ∀ (ws : List Str) (wb : List (Str × Option (Str × Str))), (wb.map (·.1)).Nodup → ((ws.foldl (fun w x => putW w x u) wb).map (·.1)).Nodup ∧ (ws.foldl (fun w x => putW w x u) wb).length ≤ wb.length + ws.length ∧ ∀ y ∈ (ws.foldl (fun w x => putW w x u) wb).map (·.1), y ∈ wb.map (·.1) ∨ y ∈ ws
  | [], wb, h => ⟨h, Nat.le_refl _, fun y hy => .inl hy⟩
  | x :: ws, wb, h => by
    have h1 : ((putW wb x u).map (·.1)).Nodup := by
      rw [putW_keys]
      split
      · exact h
      · rename_i hn
        rw [List.nodup_append]
        exact ⟨h, by simp, fun a ha b hb e => by simp at hb; subst hb; subst e; exact hn ha⟩
    have h2 : (putW wb x u).length ≤ wb.length + 1 := by
      unfold putW
      split <;> simp
    obtain ⟨k1, k2, k3⟩ := foldw_keys u ws _ h1
    refine ⟨k1, by simp only [List.foldl_cons, List.length_cons] at *; omega, fun y hy => ?_⟩
    rcases k3 y hy with hy | hy
    · rw [putW_keys] at hy
      split at hy
      · exact .inl hy
      · rcases List.mem_append.mp hy with hy | hy
        · exact .inl hy
        · simp at hy
          subst hy
          exact .inr (by simp)
    · exact .inr (by simp [hy])
theorem LaOk.take (o : LaOk c0 a) {an : Str} {m : MemA} (k : MemK m) (hf : fitsB a an m = true) (hl : a.rows.length < 1000) : LaOk c0 (takeL a an m) := by
  have hn : (an, m.name) ∉ a.rows.map rkey := by
    unfold fitsB at hf
    rw [Bool.and_eq_true, Bool.not_eq_true', decide_eq_false_iff_not] at hf
    exact hf.1
  obtain ⟨f1, f2, f3⟩ := fold_keys m.defs a.found o.fn
  obtain ⟨w1, w2, w3⟩ := foldw_keys (some (an, m.name)) m.wants a.wby o.wn
  have hd := k.dl
  have hw := k.wl
  have ofl := o.fl
  have owl := o.wl
  have oc := o.c
  have rl : (takeL a an m).rows.length = a.rows.length + 1 := by
    unfold takeL
    rw [List.length_append]
    rfl
  refine ⟨⟨oc.1, by rw [rl]; omega⟩, f1, w1, fun y hy => ?_, ?_, ?_, ?_, fun q hq => ?_⟩
  · rcases w3 y hy with hy | hy
    · exact o.wok y hy
    · exact k.ok.2.2 y hy
  · unfold takeL
    dsimp only
    rw [List.map_append, List.nodup_append]
    refine ⟨o.gk, by simp, fun x hx y hy e => ?_⟩
    simp at hy
    subst hy
    subst e
    exact hn hx
  · rw [rl]
    have : (takeL a an m).found.length ≤ a.found.length + m.defs.length := f2
    omega
  · rw [rl]
    have : (takeL a an m).wby.length ≤ a.wby.length + m.wants.length := w2
    omega
  · rw [rl]
    by_cases h0 : 0 < c0 + 10 * a.rows.length + m.defs.length
    · have := f3 (c0 + 10 * a.rows.length) o.ll h0 q hq
      omega
    · have h1 : a.found.length = 0 := by omega
      have h2 : m.defs.length = 0 := by omega
      have h3 : (takeL a an m).found = [] := by
        show m.defs.foldl _ a.found = []
        rw [List.eq_nil_of_length_eq_zero h2, List.eq_nil_of_length_eq_zero h1]
        rfl
      rw [h3] at hq
      cases hq
/-! ### take -/
def tTake (cs csM : List Str) (tbO : Tb) (B : D → D → Sto → Rs D) : SM := (sC (sA 3 (m2 dIx (mL (iSq (mMeth tbO "open_names" (mV 0) aN)) (gN 8) (toB (m2 B (mV 8) (mV 2))) (mV 8) [8]) (mC (.int 0)))) (sC (sE (mBM "list" (mtL lAppend) (mFld cs "rows" (mV 0)) (aC (mN fTup (aC (mV 1) (aC (mFld csM "name" (mV 2)) (aC (mV 3) aN)))) aN))) (sC (sSetT (mV 3) (mFld cs "got" (mV 0)) (aC (mV 1) (aC (mFld csM "name" (mV 2)) aN))) (sC (sF (iSq (mFld csM "defines" (mV 2))) (gT [(gN 5), (gN 6), (gN 7)]) (sE (mBM "list" (mtL lAppend) (mSetd (mFld cs "found" (mV 0)) (mV 5) (mN fLst aN)) (aC (mN fTup (aC (mV 6) (aC (mV 7) aN))) aN)))) (sF (iSq (mFld csM "wants" (mV 2))) (gN 4) (sE (mSetd (mFld cs "wanted_by" (mV 0)) (mV 4) (mN fTup (aC (mV 1) (aC (mFld csM "name" (mV 2)) aN))))))))))
structure TkI (s0 : Sto) (l : Nat) (base : D) (p : LkP) (rows : List Row3) (an : Str) (dm : D) (cause : Str) (fd : List (Str × List DefB)) (wb : List (Str × Option (Str × Str))) (e : Ev) (s : Sto) : Prop where
  lk : ∃ ls, IsLk s0 s l base p ls rows rows fd wb
  ev : ∃ o4 o5 o6 o7 o8, e = [some (.ref l), some (.str an), some dm, some (.str cause), o4, o5, o6, o7, o8]
end
end Z

set_option Elab.async false
set_option linter.all false
set_option maxRecDepth 100000
set_option maxHeartbeats 4000000
namespace Z
open PySem PySem.Spec PyProof.Rows L2 TL
open PySem.PyData (strOk)
/-! ### search, search_all: plainly -/
def leftL (a : LA) (r : ArcA) : Nat := (r.mems.filter fun m => !decide ((r.name, m.name) ∈ a.rows.map rkey)).length
def searchN (r : ArcA) : Nat → LA → LA
  | 0, a => a
  | n + 1, a => match nextM a r with
    | none => a
    | some m => searchN r n (takeL a r.name m)
def searchA (a : LA) (r : ArcA) : LA := searchN r (leftL a r) a
def arcOf (as : List ArcA) (x : Str) : Option ArcA := as.find? fun r => decide (r.name = x)
def roundA (as : List ArcA) (names : List Str) (a : LA) : LA := names.foldl (fun a x => match arcOf as x with | some r => searchA a r | none => a) a
def memKeys (as : List ArcA) : List (Str × Str) := as.flatMap fun r => r.mems.map fun m => (r.name, m.name)
def groupN (as : List ArcA) (names : List Str) : Nat → LA → LA
  | 0, a => a
  | n + 1, a => if (roundA as names a).rows.length = a.rows.length then roundA as names a else groupN as names n (roundA as names a)
def groupA (as : List ArcA) (names : List Str) (a : LA) : LA := groupN as names ((memKeys as).length + 1 - a.rows.length) a
structure StoK (as : List ArcA) : Prop where
  nd : (as.map (·.name)).Nodup
  ok : ∀ r ∈ as, strOk r.name = true
  len : as.length ≤ 100
  ml : ∀ r ∈ as, r.mems.length ≤ 100
  mks : ∀ r ∈ as, ∀ m ∈ r.mems, MemK m
  tot : (memKeys as).length ≤ 900
theorem nextM_some {a : LA} {r : ArcA} {m : MemA} (h : nextM a r = some m) : m ∈ r.mems ∧ fitsB a r.name m = true := ⟨List.mem_of_find?_eq_some h, List.find?_some h⟩
theorem fits_new {a : LA} {an : Str} {m : MemA} (h : fitsB a an m = true) : (an, m.name) ∉ a.rows.map rkey := by
  unfold fitsB at h
  rw [Bool.and_eq_true, Bool.not_eq_true', decide_eq_false_iff_not] at h
  exact h.1
theorem take_rows {a : LA} {an : Str} {m : MemA} : (takeL a an m).rows = a.rows ++ [(an, m.name, causeL a m)] := rfl
theorem left_take {a : LA} {r : ArcA} {m : MemA} (h : nextM a r = some m) : leftL (takeL a r.name m) r < leftL a r := by
  obtain ⟨hm, hf⟩ := nextM_some h
  have hn := fits_new hf
  unfold leftL
  rw [take_rows, List.map_append]
  have sub : ∀ x : MemA, (!decide ((r.name, x.name) ∈ a.rows.map rkey ++ [(r.name, m.name, causeL a m)].map rkey)) = true → (!decide ((r.name, x.name) ∈ a.rows.map rkey)) = true := fun x hx => by
    rw [Bool.not_eq_true', decide_eq_false_iff_not] at hx ⊢
    exact fun z => hx (List.mem_append_left _ z)
  have key : ∀ ms : List MemA, m ∈ ms → (ms.filter fun x => !decide ((r.name, x.name) ∈ a.rows.map rkey ++ [(r.name, m.name, causeL a m)].map rkey)).length < (ms.filter fun x => !decide ((r.name, x.name) ∈ a.rows.map rkey)).length := by
    intro ms
    have le : ∀ ms : List MemA, (ms.filter fun x => !decide ((r.name, x.name) ∈ a.rows.map rkey ++ [(r.name, m.name, causeL a m)].map rkey)).length ≤ (ms.filter fun x => !decide ((r.name, x.name) ∈ a.rows.map rkey)).length := fun ms => by
      induction ms with
      | nil => exact Nat.le_refl _
      | cons x ms ih =>
        rw [List.filter_cons, List.filter_cons]
        split
        · rename_i hx
          rw [if_pos (sub x hx), List.length_cons, List.length_cons]
          omega
        · split
          · rw [List.length_cons]; omega
          · exact ih
    induction ms with
    | nil => intro h; cases h
    | cons x ms ih =>
      intro hx
      rcases List.mem_cons.mp hx with rfl | hx
      · rw [List.filter_cons_of_neg (by simp [rkey]), List.filter_cons_of_pos (by simpa using hn), List.length_cons]
        have := le ms
        omega
      · have := ih hx
        rw [List.filter_cons, List.filter_cons]
        split
        · rename_i hx
          rw [if_pos (sub x hx), List.length_cons, List.length_cons]
          omega
        · split
          · rw [List.length_cons]; omega
          · exact this
  exact key r.mems hm
theorem left_zero {a : LA} {r : ArcA} (h : leftL a r = 0) : nextM a r = none := by
  cases q : nextM a r with
  | none => rfl
  | some m => have := left_take q; omega
theorem searchN_more {r : ArcA} : ∀ (n k : Nat) (a : LA), leftL a r ≤ n → leftL a r ≤ k → searchN r n a = searchN r k a
  | 0, k, a, h, h2 => by
    have hz := left_zero (a := a) (r := r) (by omega)
    cases k with
    | zero => rfl
    | succ k => rw [searchN, searchN, hz]
  | n + 1, 0, a, h, h2 => by
    have hz := left_zero (a := a) (r := r) (by omega)
    rw [searchN, searchN, hz]
  | n + 1, k + 1, a, h, h2 => by
    rw [searchN, searchN]
    cases q : nextM a r with
    | none => rfl
    | some m =>
      have := left_take q
      exact searchN_more n k _ (by omega) (by omega)
theorem searchA_none {a : LA} {r : ArcA} (h : nextM a r = none) : searchA a r = a := by
  unfold searchA
  cases leftL a r with
  | zero => rfl
  | succ n => rw [searchN, h]
theorem searchA_some {a : LA} {r : ArcA} {m : MemA} (h : nextM a r = some m) : searchA a r = searchA (takeL a r.name m) r := by
  have hlt := left_take h
  unfold searchA
  obtain ⟨k, hk⟩ : ∃ k, leftL a r = k + 1 := ⟨leftL a r - 1, by omega⟩
  rw [hk, searchN, h]
  exact searchN_more k _ _ (by omega) (Nat.le_refl _)
/-- what searching keeps -/
theorem search_ind {r : ArcA} (I : LA → Prop) (st : ∀ a m, nextM a r = some m → I a → I (takeL a r.name m)) : ∀ a : LA, I a → I (searchA a r) := by
  have main : ∀ n a, I a → I (searchN r n a) := by
    intro n
    induction n with
    | zero => exact fun a h => h
    | succ n ih =>
      intro a h
      rw [searchN]
      cases q : nextM a r with
      | none => exact h
      | some m => exact ih _ (st a m q h)
  exact fun a h => main _ a h
theorem round_ind {as : List ArcA} (I : LA → Prop) (st : ∀ r ∈ as, ∀ a m, nextM a r = some m → I a → I (takeL a r.name m)) : ∀ (names : List Str) (a : LA), I a → I (roundA as names a)
  | [], a, h => h
  | x :: names, a, h => by
    unfold roundA
    rw [List.foldl_cons]
    refine round_ind I st names _ ?_
    cases q : arcOf as x with
    | none => exact h
    | some r => exact search_ind I (st r (List.mem_of_find?_eq_some q)) a h
theorem group_ind {as : List ArcA} (I : LA → Prop) (st : ∀ r ∈ as, ∀ a m, nextM a r = some m → I a → I (takeL a r.name m)) (names : List Str) (a : LA) (h : I a) : I (groupA as names a) := by
  have main : ∀ n a, I a → I (groupN as names n a) := by
    intro n
    induction n with
    | zero => exact fun a h => h
    | succ n ih =>
      intro a h
      have h1 := round_ind I st names a h
      rw [groupN]
      split
      · exact h1
      · exact ih _ h1
  exact main _ a h
/-- the rows tell members of the store, each once -/
structure RowsOk (as : List ArcA) (a : LA) : Prop where
  nd : (a.rows.map rkey).Nodup
  sub : ∀ k ∈ a.rows.map rkey, k ∈ memKeys as
theorem nodup_len {α : Type} [DecidableEq α] : ∀ {xs ys : List α}, xs.Nodup → (∀ x ∈ xs, x ∈ ys) → xs.length ≤ ys.length
  | [], ys, _, _ => Nat.zero_le _
  | x :: xs, ys, h, hs => by
    rw [List.nodup_cons] at h
    have hx := hs x (by simp)
    have h1 := nodup_len (xs := xs) (ys := ys.erase x) h.2 fun y hy => (List.mem_erase_of_ne (fun e => h.1 (by rw [← e]; exact hy))).mpr (hs y (by simp [hy]))
    rw [List.length_erase_of_mem hx] at h1
    have : 0 < ys.length := List.length_pos_of_mem hx
    rw [List.length_cons]
    omega
theorem RowsOk.len {as : List ArcA} {a : LA} (h : RowsOk as a) : a.rows.length ≤ (memKeys as).length := by
  have := nodup_len h.nd h.sub
  rwa [List.length_map] at this
theorem RowsOk.take {as : List ArcA} {a : LA} {r : ArcA} {m : MemA} (h : RowsOk as a) (hr : r ∈ as) (q : nextM a r = some m) : RowsOk as (takeL a r.name m) := by
  obtain ⟨hm, hf⟩ := nextM_some q
  have hn := fits_new hf
  refine ⟨?_, fun k hk => ?_⟩
  · rw [take_rows, List.map_append, List.nodup_append]
    refine ⟨h.nd, by simp, fun x hx y hy e => ?_⟩
    simp at hy
    subst hy
    subst e
    exact hn hx
  · rw [take_rows, List.map_append] at hk
    rcases List.mem_append.mp hk with hk | hk
    · exact h.sub k hk
    · simp at hk
      subst hk
      exact List.mem_flatMap.mpr ⟨r, hr, List.mem_map.mpr ⟨m, hm, rfl⟩⟩
end Z

set_option Elab.async false
set_option linter.all false
set_option maxRecDepth 100000
set_option maxHeartbeats 4000000
namespace Z
open PySem PySem.Spec PyProof.Rows L2 TL
open PySem.PyData (strOk)
/-! ### search, search_all: the code -/
section
variable {s0 s t : Sto} {l : Nat} {base : D} {p : LkP} {ls : List Nat} {a : LA} {c0 : Nat}
def TakeMOk (F : MF) : Prop := ∀ {s0 s : Sto} {l : Nat} {base : D} {p : LkP} {ls : List Nat} {a : LA} {c0 : Nat} {an : Str} {dm : D} {m : MemA}, IsLa s0 s l base p ls a → LaOk c0 a → IsMem s0 dm m → MemK m → fitsB a an m = true → a.rows.length < 1000 → (F [.ref l, .str an, dm] s).wp fun d s' => d = .non ∧ ∃ ls', IsLa s0 s' l base p ls' (takeL a an m)
def tSearch (csA : List Str) (tbN tbT : Tb) : SM := (sC (sA 2 (mMeth tbN "next_member" (mV 0) (aC (mV 1) aN))) (sW 1000 (toB (m2 dNotN2 (mV 2) (mC .non))) (sC (sE (mMeth tbT "take" (mV 0) (aC (mFld csA "name" (mV 1)) (aC (mV 2) aN)))) (sA 2 (mMeth tbN "next_member" (mV 0) (aC (mV 1) aN))))))
structure SeI (s0 : Sto) (l : Nat) (base : D) (p : LkP) (as : List ArcA) (c0 : Nat) (a : LA) (r : ArcA) (da : D) (k : Nat) (e : Ev) (s : Sto) : Prop where
  ex : ∃ ls b d, IsLa s0 s l base p ls b ∧ LaOk c0 b ∧ RowsOk as b ∧ leftL b r ≤ k ∧ searchA b r = searchA a r ∧ e = [some (.ref l), some da, some d] ∧ (match nextM b r with | none => d = .non | some m => IsMem s0 d m)
def SearchOk (F : MF) : Prop := ∀ {s0 s : Sto} {l : Nat} {base : D} {p : LkP} {ls : List Nat} {a : LA} {c0 : Nat} {as : List ArcA} {da : D} {r : ArcA}, IsLa s0 s l base p ls a → LaOk c0 a → StoK as → RowsOk as a → r ∈ as → IsArc s0 da r →
  (F [.ref l, da] s).wp fun d s' => d = .non ∧ ∃ ls', IsLa s0 s' l base p ls' (searchA a r) ∧ LaOk c0 (searchA a r) ∧ RowsOk as (searchA a r)
/-- store[name], told at the world of old -/
def GetS0 (F : MF) : Prop := ∀ {s0 s : Sto} {d : D} {as : List ArcA} {r : ArcA}, Eff [] s0 s → IsSto s0 d as → StoK as → r ∈ as → (F [d, .str r.name] s).wp fun d' s' => IsArc s0 d' r ∧ Eff [] s s'
def tGet0 (tb : Tb) (cs csI : List Str) (st : SM) : SM := (sC (sI (toB (m2 (dInO true tb dNo2) (mV 1) (mV 0))) st sN) (sR (m2 dIx (mL (iSq (mFld cs "archives" (mV 0))) (gN 2) (toB (m2 dEq (mFld csI "name" (mV 2)) (mV 1))) (mV 2) [2]) (mC (.int 0)))))
/-- a walk over a name's tuple, however it is typed -/
def WalkT (i : Nat) (it : EM (Nat × Stp)) : Prop := ∀ {e : Ev} {s : Sto} {xs : List D}, e[i]? = some (some (.tup xs)) → it e s = .ok (xs.length, jTup xs) s
def tAll (cs : List Str) (it : EM (Nat × Stp)) (tbS tbG : Tb) : SM := (sC (sA 2 (m1 dNeg (mC (.int 1)))) (sW 1000 (toB (m2 dNe (mV 2) (mN fLen (aC (mFld cs "rows" (mV 0)) aN)))) (sC (sA 2 (mN fLen (aC (mFld cs "rows" (mV 0)) aN))) (sF it (gN 3) (sE (mMeth tbS "search" (mV 0) (aC (m2 (dIxO tbG dNo2) (mFld cs "base" (mV 0)) (mV 3)) aN)))))))
/-- the number that is kept from the last round -/
structure GrI (s0 : Sto) (l : Nat) (base : D) (p : LkP) (as : List ArcA) (c0 : Nat) (names : List Str) (a : LA) (k : Nat) (e : Ev) (s : Sto) : Prop where
  ex : ∃ ls b i o, IsLa s0 s l base p ls b ∧ LaOk c0 b ∧ RowsOk as b ∧ e = [some (.ref l), some (.tup (names.map D.str)), some (.int i), o] ∧
    ((i = b.rows.length ∧ b = groupA as names a) ∨ (i ≠ b.rows.length ∧ (memKeys as).length + 1 - b.rows.length ≤ k ∧ groupA as names b = groupA as names a ∧ i < b.rows.length))
structure RdI (s0 : Sto) (l : Nat) (base : D) (p : LkP) (as : List ArcA) (c0 : Nat) (names : List Str) (b : LA) (e : Ev) (i : Nat) (e' : Ev) (s : Sto) : Prop where
  ex : ∃ ls o, IsLa s0 s l base p ls (roundA as (names.take i) b) ∧ LaOk c0 (roundA as (names.take i) b) ∧ RowsOk as (roundA as (names.take i) b) ∧ e' = e.set 3 o
theorem groupN_more {as : List ArcA} {names : List Str} : ∀ (n k : Nat) (a : LA), RowsOk as a → (∀ b, RowsOk as b → RowsOk as (roundA as names b)) → (∀ b, b.rows.length ≤ (roundA as names b).rows.length) → (memKeys as).length + 1 - a.rows.length ≤ n → (memKeys as).length + 1 - a.rows.length ≤ k → groupN as names n a = groupN as names k a
  | 0, _, a, R, _, _, h, _ => by have := R.len; omega
  | _ + 1, 0, a, R, _, _, _, h => by have := R.len; omega
  | n + 1, k + 1, a, R, st, mo, h1, h2 => by
    rw [groupN, groupN]
    split
    · rfl
    · rename_i hne
      have := mo a
      have := (st a R).len
      exact groupN_more n k _ (st a R) st mo (by omega) (by omega)
theorem groupA_step {as : List ArcA} {names : List Str} {a : LA} (R : RowsOk as a) (st : ∀ b, RowsOk as b → RowsOk as (roundA as names b)) (mo : ∀ b, b.rows.length ≤ (roundA as names b).rows.length) :
    groupA as names a = if (roundA as names a).rows.length = a.rows.length then roundA as names a else groupA as names (roundA as names a) := by
  have := R.len
  unfold groupA
  obtain ⟨k, hk⟩ : ∃ k, (memKeys as).length + 1 - a.rows.length = k + 1 := ⟨(memKeys as).length - a.rows.length, by omega⟩
  rw [hk, groupN]
  split
  · rfl
  · rename_i hne
    have h1 := mo a
    have h2 := (st a R).len
    exact groupN_more k _ _ (st a R) st mo (by omega) (Nat.le_refl _)
theorem round_rows {as : List ArcA} {names : List Str} : ∀ b, RowsOk as b → RowsOk as (roundA as names b) := fun b R => round_ind (fun a => RowsOk as a) (fun r hr a m q h => h.take hr q) names b R
theorem round_mono {as : List ArcA} {names : List Str} : ∀ b : LA, b.rows.length ≤ (roundA as names b).rows.length := fun b => round_ind (as := as) (fun a => b.rows.length ≤ a.rows.length) (fun r hr a m q h => by rw [take_rows, List.length_append]; omega) names b (Nat.le_refl _)
def GroupOk (F : MF) : Prop := ∀ {s0 s : Sto} {l : Nat} {base : D} {p : LkP} {ls : List Nat} {a : LA} {c0 : Nat} {as : List ArcA} {names : List Str}, IsLa s0 s l base p ls a → LaOk c0 a → StoK as → RowsOk as a → IsSto s0 base as → (∀ x ∈ names, x ∈ as.map (·.name)) →
  (F [.ref l, .tup (names.map D.str)] s).wp fun d s' => d = .non ∧ ∃ ls', IsLa s0 s' l base p ls' (groupA as names a) ∧ LaOk c0 (groupA as names a) ∧ RowsOk as (groupA as names a)
end
end Z

set_option Elab.async false
set_option linter.all false
set_option maxRecDepth 100000
set_option maxHeartbeats 4000000
namespace Z
open PySem PySem.Spec PyProof.Rows L2
/-! ### enumerate(a tuple) -/
def enT (xs : List D) : List D := xs.mapIdx fun i d => .tup [.int i, d]
def iEnT (ms : EM (List D)) : EM (Nat × Stp) := fun e s => (ms e s).bind fun ds s1 => match ds with
  | [.tup xs] => .ok (xs.length, jTup (enT xs)) s1
  | _ => .no
section
variable {prog : Program} {w : World} {A : Around} {E : Value → Shared → Prop} {s : Shared}
end
/-- the tuple at a, its items in new pairs -/
def Itet (K : PySem.W.Frag) (a : Addr) : L2.It where
  go := fun i H => ∃ (vs : List V) (v : V), SqT K H a vs ∧ vs[i]? = some v
  yld := fun i H u H2 => ∃ T v, u = .ref T ∧ H T = none ∧ H2 = upd H T (.tup [.int (i : Nat), v]) ∧ ∀ vs, SqT K H a vs → vs[i]? = some v
  stop := fun i H => ∃ vs : List V, SqT K H a vs ∧ vs.length ≤ i
variable [Row]
section
variable {X : Cx} {W : WX} {p pos tpos : Pos} {e : Expr} {elts : List Expr} {kk : Nat} {ms : EM (List D)}
end
section
omit [Row]
variable {PI : Nat × Stp → Sto → Prop} {E : Str → Str → D → Sto → Prop} {e : Ev} {s : Sto} {ms : EM (List D)}
@[simp ↓] theorem z_iEnT : (iEnT ms e s).wp PI E = (ms e s).wp (fun ds s1 => ∃ xs, ds = [.tup xs] ∧ PI (xs.length, jTup (enT xs)) s1) E := by
  unfold iEnT
  rw [z_bind]
  congr 1
  funext ds s1
  split
  · rw [z_ok, eq_iff_iff]
    refine ⟨fun h => ⟨_, rfl, h⟩, ?_⟩
    rintro ⟨xs, h1, h2⟩
    cases h1
    exact h2
  · rename_i hn
    simp only [z_no, eq_iff_iff, false_iff, not_exists]
    rintro xs ⟨h, _⟩
    exact hn xs h
end
end Z

set_option Elab.async false
set_option linter.all false
set_option maxRecDepth 100000
set_option maxHeartbeats 4000000
namespace Z
open PySem PySem.Spec PyProof.Rows L2 TL
open PySem.PyData (strOk)
/-! ### dict comprehensions, plainly -/
section
variable {j : Stp} {g : GN} {t : EM Bool} {mk mv : EM D} {l N : Nat}
def DcStep (j : Stp) (g : GN) (t : EM Bool) (mk mv : EM D) (l : Nat) (I : Nat → List (D × D) → Sto → Prop) (N i : Nat) (kvs : List (D × D)) (e : Ev) (s : Sto) : Prop :=
  (i = N → j i s = some none) ∧ (i < N → ∃ d e1, j i s = some (some d) ∧ g d e = some e1 ∧
    (t e1 s).wp fun q s1 => if q then (mk e1 s1).wp fun y s2 => (mv e1 s2).wp fun z s3 => s3[l]? = some (.dict false kvs) ∧ kvs.length < sizeLine ∧ ∃ k, keyD y = some k ∧ I (i + 1) (putKd kvs y k z) (s3.set l (.dict false (putKd kvs y k z)))
      else s1[l]? = some (.dict false kvs) ∧ I (i + 1) kvs s1)
end
section
variable {PI : Nat × Stp → Sto → Prop} {P : D → Sto → Prop} {E : Str → Str → D → Sto → Prop} {e : Ev} {s : Sto} {mi : EM (Nat × Stp)} {g : GN} {t : EM Bool} {mk mv : EM D} {vs : List Nat}
@[simp ↓] theorem z_mDc : (mDc mi g t mk mv vs e s).wp P E = (mi e s).wp (fun jt s1 => (dcL jt.2 g t mk mv s1.length jt.1 0 (wipeD e vs) (s1 ++ [.dict false []])).wp P E) E := by
  unfold mDc; rw [z_bind]
end
/-! ### faces -/
abbrev FaceA := List (Str × Str)
def faceDs (f : FaceA) : List D := f.map fun p => .tup [.str p.1, .str p.2]
def facePs (f : FaceA) : List (D × D) := f.map fun p => (.str p.1, .str p.2)
def initF (f : FaceA) : List (Str × List DefB) := (f.filter fun p => !decide (p.2 = ("wanted" : Str))).map fun p => (p.1, [(p.2, none)])
def initW (f : FaceA) : List (Str × Option (Str × Str)) := (f.filter fun p => decide (p.2 = ("wanted" : Str))).map fun p => (p.1, none)
def initA (f : FaceA) : LA := ⟨[], initF f, initW f⟩
theorem filt_nd {f : FaceA} {p : Str × Str → Bool} (h : (f.map (·.1)).Nodup) : ((f.filter p).map (·.1)).Nodup := h.sublist (List.filter_sublist.map _)
section
variable {s0 : Sto} {j : Stp} {N : Nat} {e : Ev} {f : FaceA}
structure FcI (s0 : Sto) (f : FaceA) (i : Nat) (kvs : List (D × D)) (s : Sto) : Prop where
  ef : Eff [] s0 s
  lt : s0.length < s.length
  ex : ∃ ls : List Nat, kvs = fndD (initF (f.take i)) ls ∧ ls.length = (initF (f.take i)).length ∧ ls.Pairwise (· < ·) ∧ (∀ n ∈ ls, s0.length < n ∧ n < s.length) ∧
    ∀ (k : Nat) (q : Str × List DefB) (n : Nat), (initF (f.take i))[k]? = some q → ls[k]? = some n → mlAt s n = some (q.2.map fdD)
end
end Z

set_option Elab.async false
set_option linter.all false
set_option maxRecDepth 100000
set_option maxHeartbeats 4000000
namespace Z
open PySem PySem.Spec PyProof.Rows L2 TL
open PySem.PyData (strOk)
/-! ### is_name asked of any text -/
def NmOk (F : MF) : Prop := ∀ {s : Sto} {x : Str}, strOk x = true → x.length ≤ 16 → (F [.str x] s).wp fun d s' => d = .bl (nmB x) ∧ Eff [] s s'
theorem NmOk.name {F : MF} (h : NmOk F) : IsNameOk F := fun {s x} hx => wp_ne (h hx.ok (by have := hx.l8; omega)) fun d s' ⟨e, ef⟩ => ⟨by rw [e, nmB_iff.mpr hx], ef⟩
/-! ### faces -/
def wordL : List Str := ["wanted", "weak", "common", "strong"]
def wordsD : D := .tup [.str "wanted", .str "weak", .str "common", .str "strong"]
def wdsD (r : List Str) : D := .tup (r.map D.str)
def rowB2 (r : List Str) : Bool := match r with
  | [x, w] => nmB x && decide (w ∈ wordL)
  | _ => false
def nm1 (r : List Str) : Str := r.headD ""
/-- rows of words: a face, or not -/
structure RowsT (rs : List (List Str)) : Prop where
  ok : ∀ r ∈ rs, ∀ x ∈ r, strOk x = true ∧ x.length ≤ 16
  len : rs.length ≤ 1000
  wid : ∀ r ∈ rs, r.length ≤ 1000000
def tIsFace (FN FT : MF) : SM := (sC (sI (bOr (bNot (toT (mIsi "tuple" (mV 0)))) (bNot (toT (mN (fAllAny true) (aC (mL (iSq (mV 0)) (gN 2) tY (mAnd (mIsi "tuple" (mV 2)) (m2 dEq (mN fLen (aC (mV 2) aN)) (mC (.int 2)))) [2]) aN))))) (sR (mC (.bl false))) sN) (sC (sI (bNot (toT (mN (fAllAny true) (aC (mL (iSq (mV 0)) (gT [(gN 3), (gN 4)]) tY (mAnd (mN FN (aC (mV 3) aN)) (mAnd (mIsi "str" (mV 4)) (m2 (dInB false) (mV 4) (mC wordsD)))) [3, 4]) aN)))) (sR (mC (.bl false))) sN) (sC (sA 1 (mL (iSq (mV 0)) (gN 2) tY (m2 dIx (mV 2) (mC (.int 0))) [2])) (sR (mAnd (m2 dEq (mV 1) (mN fSortA (aC (mV 1) aN))) (m2 dIsN2 (mN FT (aC (mV 1) aN)) (mC .non)))))))
def faceB (rs : List (List Str)) : Bool := rs.all rowB2 && decide (sortS (rs.map nm1) = rs.map nm1) && decide (rs.map nm1).Nodup
def IsFaceOk (F : MF) : Prop := ∀ {s : Sto} {rs : List (List Str)}, RowsT rs → (F [.tup (rs.map wdsD)] s).wp fun d s' => d = .bl (faceB rs) ∧ Eff [] s s'
/-- a face -/
structure FaceOk (f : FaceA) : Prop where
  nm : ∀ p ∈ f, IsName p.1
  wd : ∀ p ∈ f, p.2 ∈ wordL
  nd : (f.map (·.1)).Nodup
  so : sortS (f.map (·.1)) = f.map (·.1)
  len : f.length ≤ 1000
def fRows (f : FaceA) : List (List Str) := f.map fun p => [p.1, p.2]
theorem FaceOk.rows {f : FaceA} (h : FaceOk f) : RowsT (fRows f) := by
  have hw : ∀ w ∈ wordL, strOk w = true ∧ w.length ≤ 16 := by decide +kernel
  refine ⟨fun r hr x hx => ?_, by unfold fRows; rw [List.length_map]; exact h.len, fun r hr => ?_⟩
  · obtain ⟨p, hp, rfl⟩ := List.mem_map.mp hr
    rcases List.mem_cons.mp hx with rfl | hx
    · exact ⟨(h.nm p hp).ok, by have := (h.nm p hp).l8; omega⟩
    · rw [List.mem_singleton.mp hx]
      exact hw _ (h.wd p hp)
  · obtain ⟨p, hp, rfl⟩ := List.mem_map.mp hr
    simp
/-- look_face(face): a face at a place -/
def tLookFace (FF : MF) (st : SM) : SM := (sC (sI (bNot (toT (mN FF (aC (mUn (mV 0)) aN)))) st sN) (sR (mV 0)))
/-! ### items and lines -/
inductive ItA where
  | one (x : Str)
  | grp (xs : List Str)
def ItA.names : ItA → List Str
  | .one x => [x]
  | .grp xs => xs
def ItA.d : ItA → D
  | .one x => .str x
  | .grp xs => .tup (xs.map D.str)
def ItA.isG : ItA → Bool
  | .one _ => false
  | .grp _ => true
structure ItOkA (i : ItA) : Prop where
  ne : i.names ≠ []
  nm : ∀ x ∈ i.names, IsName x
  len : i.names.length ≤ 1000
def tIsItem (it : EM (Nat × Stp)) (FN : MF) : SM := (sC (sI (toT (mIsi "tuple" (mV 0))) (sR (mAnd (m2 dNe (mV 0) (mN fTup aN)) (mN (fAllAny true) (aC (mL it (gN 1) tY (mN FN (aC (mV 1) aN)) [1]) aN)))) sN) (sR (mN FN (aC (mV 0) aN))))
def IsItemOk (F : MF) (gs : Bool) : Prop := ∀ {s : Sto} {i : ItA}, ItOkA i → (i.isG = true → gs = true) → (F [i.d] s).wp fun d s' => d = .bl true ∧ Eff [] s s'
def tArchivesOf : SM := (sR (mIf (toT (mIsi "tuple" (mV 0))) (mV 0) (mN fTup (aC (mV 0) aN))))
end Z

set_option Elab.async false
set_option linter.all false
set_option maxRecDepth 100000
set_option maxHeartbeats 4000000
namespace Z
open PySem PySem.Spec PyProof.Rows L2 TL
open PySem.PyData (strOk)
/-! ### look_line, a right line -/
def lineD (line : List ItA) : List D := line.map ItA.d
structure LineOk (as : List ArcA) (line : List ItA) : Prop where
  it : ∀ i ∈ line, ItOkA i
  here : ∀ i ∈ line, ∀ x ∈ i.names, x ∈ as.map (·.name)
  len : line.length ≤ 100000
def tLookLine (s1 s2 s3 : SM) (itL : EM (Nat × Stp)) (itb : Itb) (FI FA : MF) (tbC : Tb) : SM := (sC (sI (bNot (toT (mIsi "tuple" (mV 1)))) s1 sN) (sC (sF (iEnT (aC (mV 1) aN)) (gT [(gN 3), (gN 2)]) (sI (bNot (toT (mN FI (aC (mV 2) aN)))) s2 sN)) (sF itL (gN 2) (sF (iAny itb (mN FA (aC (mV 2) aN))) (gN 4) (sI (toB (m2 (dInO true tbC dNo2) (mV 4) (mV 0))) s3 sN)))))
def LookLineOk (F : MF) (gs : Bool) : Prop := ∀ {s0 s : Sto} {d : D} {as : List ArcA} {line : List ItA}, Eff [] s0 s → IsSto s0 d as → StoK as → LineOk as line → (∀ i ∈ line, i.isG = true → gs = true) → (F [d, .tup (lineD line)] s).wp fun d' s' => d' = .non ∧ Eff [] s s'
end Z

set_option Elab.async false
set_option linter.all false
set_option maxRecDepth 100000
set_option maxHeartbeats 4000000
namespace Z
open PySem PySem.Spec PyProof.Rows L2 TL
open PySem.PyData (strOk)
/-! ### all places but one stay -/
structure Oth (l : Nat) (s t : Sto) : Prop where
  le : s.length ≤ t.length
  eq : ∀ i, i < s.length → i ≠ l → t[i]? = s[i]?
section
variable {l n : Nat} {s t u : Sto} {o : SO}
theorem Oth.refl : Oth l s s := ⟨Nat.le_refl _, fun _ _ _ => rfl⟩
theorem Oth.trans (a : Oth l s t) (b : Oth l t u) : Oth l s u := ⟨Nat.le_trans a.le b.le, fun i hi hn => by rw [b.eq i (Nat.lt_of_lt_of_le hi a.le) hn, a.eq i hi hn]⟩
theorem Oth.eff (e : Eff [] s t) : Oth l s t := ⟨e.le, fun i hi _ => e.eq i hi (by simp)⟩
theorem Oth.push : Oth l s (s ++ [o]) := .eff Eff.push
theorem Oth.set : Oth l s (s.set l o) := ⟨by simp, fun i _ hn => List.getElem?_set_ne (Ne.symm hn)⟩
theorem Oth.get (h : Oth l s t) (hs : s[n]? = some o) (hn : n ≠ l) : t[n]? = some o := by
  rw [h.eq n (List.getElem?_eq_some_iff.mp hs).1 hn]
  exact hs
end
section
variable {Q : En} {s0 t : Sto} {e : Ev} {cs : List Str} {fs : List (Str × D)} {l w : Nat} {f : FaceA}
def tDcF (cs : List Str) : SM := (sLkA (mFld cs "words" (mV 0)) (sFldD cs "found" (mV 0) (mDc (iKy jItm (mFld cs "words" (mV 0))) (gT [(gN 5), (gN 6)]) (toB (m2 dNe (mV 6) (mC (.str "wanted")))) (mV 5) (mN fLst (aC (mN fTup (aC (mV 6) (aC (mC (.str "own")) aN))) aN)) [5, 6])))
def tDcW (cs : List Str) : SM := (sLkA (mFld cs "words" (mV 0)) (sFldD cs "wanted_by" (mV 0) (mDc (iKy jItm (mFld cs "words" (mV 0))) (gT [(gN 5), (gN 6)]) (toB (m2 dEq (mV 6) (mC (.str "wanted")))) (mV 5) (mC .non) [5, 6])))
structure DcEnv (e : Ev) (l : Nat) : Prop where
  h0 : e[0]? = some (some (.ref l))
  w0 : (wipeD e [5, 6])[0]? = some (some (.ref l))
  wl : 6 < (wipeD e [5, 6]).length
  wt : ∀ (x w : Str), gT [gN 5, gN 6] (.tup [.str x, .str w]) (wipeD e [5, 6]) = some (((wipeD e [5, 6]).set 5 (some (.str x))).set 6 (some (.str w)))
end
end Z

set_option Elab.async false
set_option linter.all false
set_option maxRecDepth 100000
set_option maxHeartbeats 4000000
namespace Z
open PySem PySem.Spec PyProof.Rows L2 TL
open PySem.PyData (strOk)
/-! ### Link(store, line, face) -/
def linkA (as : List ArcA) (line : List ItA) (f : FaceA) : LA := line.foldl (fun a i => groupA as i.names a) (initA f)
theorem initA_rows {as : List ArcA} (f : FaceA) : RowsOk as (initA f) := by
  constructor <;> simp [initA]
def tLinkInit (LL LF FA : MF) (cs : List Str) (itL : EM (Nat × Stp)) (tbS : Tb) : SM := (sC (sE (mN LL (aC (mV 1) (aC (mV 2) aN)))) (sC (sFldD cs "words" (mV 0) (mN fDictP (aC (mN LF (aC (mV 3) aN)) aN))) (sC (sFldD cs "base" (mV 0) (mV 1)) (sC (sFldD cs "rows" (mV 0) (mN fLst aN)) (sC (sFldD cs "got" (mV 0) mDT) (sC (tDcF cs) (sC (tDcW cs) (sF itL (gN 4) (sE (mMeth tbS "search_all" (mV 0) (aC (mN FA (aC (mV 4) aN)) aN)))))))))))
def LookFaceOk (F : MF) : Prop := ∀ {s : Sto} {n : Nat} {f : FaceA}, s[n]? = some (.ptp (faceDs f)) → FaceOk f → (F [.ref n] s).wp fun d s' => d = .ref n ∧ Eff [] s s'
def LinkOk (F : MF) (gs : Bool) : Prop := ∀ {s0 s : Sto} {d : D} {as : List ArcA} {line : List ItA} {n : Nat} {f : FaceA}, Eff [] s0 s → IsSto s0 d as → StoK as → LineOk as line → (∀ i ∈ line, i.isG = true → gs = true) → s[n]? = some (.ptp (faceDs f)) → FaceOk f →
  (mkD "Link" F [d, .tup (lineD line), .ref n] s).wp fun d' s' => d' = .ref s.length ∧ Eff [] s s' ∧ ∃ p ls, IsLa s s' s.length d p ls (linkA as line f) ∧ LaOk f.length (linkA as line f) ∧ RowsOk as (linkA as line f)
end Z

set_option Elab.async false
set_option linter.all false
set_option maxRecDepth 100000
set_option maxHeartbeats 4000000
namespace Z
open PySem PySem.Spec PyProof.Rows L2 LamX
/-! ### t.index(x) of a written tuple of texts -/
section
variable {X : Cx} {ws : List Str}
def rTix (K : PySem.W.Frag) (ws : List Str) : V → List V → Hp → VK → Prop := fun x xs H Q => ∃ a k, x = .ref a ∧ xs = [.str k] ∧ SqT K H a (ws.map V.str) ∧ k ∈ ws ∧ Q (.int (ws.idxOf k : Nat)) H
end
/-! ### a lambda of one parameter, called by a built-in -/
section
variable [Row] {X : Cx} {pins : List (Addr × Obj)} {σ : L2.St} {H : Hp} {s : Shared}
abbrev keyX (X : Cx) (N : List Str) (sc : Scope) (f co : Addr) (A : Around) (s : Shared) (H : Hp) : Cx := cxOf C8.CX0 X.prog X.w X.K X.mg X.base N (X.env.qual ++ "<lambda>") sc f (.ref co) A X.stack s H C8.E0
/-- what the walk of a list knows, whatever its items look like now -/
def LSt (l It : Addr) (vs : List V) (i : Nat) (s : Shared) : Prop := s.heap.IsListIter It l i ∧ ∃ its : Array Value, s.heap.IsList l its ∧ Vals vs its.toList
def LPt (vs : List V) (i : Nat) (u : Value) : Prop := ∃ x, vs[i]? = some x ∧ RelV x u
/-! ### max(rows, key=lambda row: WORDS.index(row[0]), default=(None, None)) -/
def keyIxD (ws : List Str) : D → Option Nat
  | .tup (.str k :: _) => if k ∈ ws then some (ws.idxOf k) else none
  | _ => none
def bestD (ks : List Nat) : Nat := argBest (fun i j => decide ((ks.getD i 0 : Int) > (ks.getD j 0 : Int))) (ks.length - 1)
def maxKD (ws : List Str) (d : D) (s1 : Sto) : Rs D := match d with
  | .ref n => match lstAt s1 n with
    | some xs => match xs.mapM (keyIxD ws) with
      | some ks => .ok ((xs[bestD ks]?).getD (.tup [.non, .non])) s1
      | none => .no
    | none => .no
  | _ => .no
def mMaxK (ws : List Str) (me : EM D) : EM D := fun e s => (me e s).bind (maxKD ws)
end
section
variable {P : D → Sto → Prop} {E : Str → Str → D → Sto → Prop} {e : Ev} {s : Sto} {ws : List Str} {me : EM D}
@[simp ↓] theorem z_mMaxK : (mMaxK ws me e s).wp P E = (me e s).wp (fun d s1 => refP d fun n => lstP (lstAt s1 n) fun xs => optP (xs.mapM (keyIxD ws)) fun ks => P ((xs[bestD ks]?).getD (.tup [.non, .non])) s1) E := by
  unfold mMaxK
  rw [z_bind]
  congr 1
  funext d s1
  unfold maxKD refP lstP optP
  cases d with
  | ref n =>
    dsimp only
    cases lstAt s1 n with
    | none => rfl
    | some xs =>
      dsimp only
      cases xs.mapM (keyIxD ws) <;> rfl
  | _ => rfl
end
end Z

set_option Elab.async false
set_option linter.all false
set_option maxRecDepth 100000
set_option maxHeartbeats 4000000
namespace Z
open PySem PySem.Spec PyProof.Rows L2
/-! ### list(range(n)) -/
def mLstR (m : EM D) : EM D := fun e s => (m e s).bind fun d s1 => match d with
  | .int n => if 0 ≤ n ∧ n ≤ 16777216 then .ok (.ref s1.length) (s1 ++ [.lst ((List.range n.toNat).map fun i => .int (i : Nat))]) else .no
  | _ => .no
section
variable [Row] {X : Cx} {W : WX} {e : Expr} {m : EM D} {p q pos pos2 : Pos}
end
section
variable {P : D → Sto → Prop} {E : Str → Str → D → Sto → Prop} {e : Ev} {s : Sto} {m : EM D}
@[simp ↓] theorem z_mLstR : (mLstR m e s).wp P E = (m e s).wp (fun d s1 => ∃ n : Int, d = .int n ∧ (0 ≤ n ∧ n ≤ 16777216) ∧ P (.ref s1.length) (s1 ++ [.lst ((List.range n.toNat).map fun i => .int (i : Nat))])) E := by
  unfold mLstR
  rw [z_bind]
  congr 1
  funext d s1
  split
  · rename_i n
    rw [z_iteN, z_ok, eq_iff_iff]
    exact ⟨fun h => ⟨n, rfl, h⟩, fun ⟨k, h1, h2⟩ => by cases h1; exact h2⟩
  · rename_i hn
    simp only [z_no, eq_iff_iff, false_iff, not_exists]
    rintro n ⟨h, _⟩
    exact hn n h
end
end Z

set_option Elab.async false
set_option linter.all false
set_option maxRecDepth 100000
set_option maxHeartbeats 4000000
namespace Z
open PySem PySem.Spec PyProof.Rows L2 TL
open PySem.PyData (strOk)
/-! ### what a link answers -/
def kindL : List Str := ["weak", "common", "strong"]
structure FdOk (a : LA) : Prop where
  nm : ∀ q ∈ a.found, strOk q.1 = true
  kd : ∀ q ∈ a.found, ∀ d ∈ q.2, d.1 ∈ kindL
def StoKd (as : List ArcA) : Prop := ∀ r ∈ as, ∀ m ∈ r.mems, ∀ d ∈ m.defs, d.2.1 ∈ kindL
section
variable {s0 s t : Sto} {l : Nat} {base : D} {p : LkP} {ls : List Nat} {a : LA} {c0 : Nat}
/-! ### taken, lacks -/
def tTaken (cs : List Str) : SM := (sR (mL (iSq (mFld cs "rows" (mV 0))) (gT [(gN 1), (gN 2), (gN 3)]) tY (mN fTup (aC (mV 1) (aC (mV 2) aN))) [1, 2, 3]))
def tkD (r : Row3) : D := .tup [.str r.1, .str r.2.1]
def TakenOk (F : MF) : Prop := ∀ {s0 s : Sto} {l : Nat} {base : D} {p : LkP} {ls : List Nat} {a : LA} {c0 : Nat}, IsLa s0 s l base p ls a → LaOk c0 a → (F [.ref l] s).wp fun d s' => d = .ref s.length ∧ Eff [] s s' ∧ mlAt s' s.length = some (a.rows.map tkD)
def tLacks (tb : Tb) : SM := (sR (mMeth tb "open_names" (mV 0) aN))
def LacksOk (F : MF) : Prop := ∀ {s0 s : Sto} {l : Nat} {base : D} {p : LkP} {ls : List Nat} {a : LA} {c0 : Nat}, IsLa s0 s l base p ls a → LaOk c0 a → (F [.ref l] s).wp fun d s' => Eff [] s s' ∧ ∃ k, d = .ref k ∧ s.length ≤ k ∧ mlAt s' k = some ((openL a).map D.str)
/-! ### clashes -/
def clashB (ds : List DefB) : Bool := decide (1 < (ds.filter fun d => decide (d.1 = ("strong" : Str))).length)
def clashL (a : LA) : List Str := sortS ((a.found.filter fun q => clashB q.2).map (·.1))
def tIsClash : SM := (sR (m2 dGt (mN fLen (aC (mL (iSq (mV 0)) (gT [(gN 1), (gN 2)]) (toB (m2 dEq (mV 1) (mC (.str "strong")))) (mV 1) [1, 2]) aN)) (mC (.int 1))))
def IsClashOk (F : MF) : Prop := ∀ {s : Sto} {n : Nat} {ds : List DefB}, mlAt s n = some (ds.map fdD) → ds.length ≤ 100000 → (F [.ref n] s).wp fun d s' => d = .bl (clashB ds) ∧ Eff [] s s'
def tClashes (cs : List Str) (FC : MF) : SM := (sLkA (mFld cs "found" (mV 0)) (sR (mN fSortA (aC (mL (iKy jItm (mFld cs "found" (mV 0))) (gT [(gN 1), (gN 2)]) (toT (mN FC (aC (mV 2) aN))) (mV 1) [1, 2]) aN))))
def ClashesOk (F : MF) : Prop := ∀ {s0 s : Sto} {l : Nat} {base : D} {p : LkP} {ls : List Nat} {a : LA} {c0 : Nat}, IsLa s0 s l base p ls a → LaOk c0 a → FdOk a → (F [.ref l] s).wp fun d s' => Eff [] s s' ∧ ∃ k, d = .ref k ∧ s.length ≤ k ∧ mlAt s' k = some ((clashL a).map D.str)
end
end Z

set_option Elab.async false
set_option linter.all false
set_option maxRecDepth 100000
set_option maxHeartbeats 4000000
namespace Z
open PySem PySem.Spec PyProof.Rows L2 TL
open PySem.PyData (strOk)
/-! ### strongest, bound -/
def kIx (d : DefB) : Nat := kindL.idxOf d.1
def strongB (ds : List DefB) : Option DefB := ds[bestD (ds.map kIx)]?
def strongD (ds : List DefB) : D := match strongB ds with
  | some d => bdD d.2
  | none => .non
def fdOf (a : LA) (x : Str) : List DefB := ((a.found.find? fun q => decide (q.1 = x)).map (·.2)).getD []
def tStrongest : SM := (sR (m2 dIx (mMaxK ["weak", "common", "strong"] (mV 0)) (mC (.int 1))))
def StrongestOk (F : MF) : Prop := ∀ {s : Sto} {n : Nat} {ds : List DefB}, mlAt s n = some (ds.map fdD) → (∀ d ∈ ds, d.1 ∈ kindL) → (F [.ref n] s).wp fun d s' => d = strongD ds ∧ s' = s
def tBound (cs : List Str) (FS' : MF) : SM := (sR (mN FS' (aC (mGet2 (mFld cs "found" (mV 0)) (mV 1) (mN fLst aN)) aN)))
def BoundOk (F : MF) : Prop := ∀ {s0 s : Sto} {l : Nat} {base : D} {p : LkP} {ls : List Nat} {a : LA} {c0 : Nat} {x : Str}, IsLa s0 s l base p ls a → LaOk c0 a → FdOk a → (F [.ref l, .str x] s).wp fun d s' => d = strongD (fdOf a x) ∧ Eff [] s s'
/-! ### works -/
def tWorks (tpL tpC : Tb) : SM := (sR (mAnd (m2 dEq (mProp tpL (mV 0)) (mN fLst aN)) (m2 dEq (mProp tpC (mV 0)) (mN fLst aN))))
def worksB (a : LA) : Bool := decide (openL a = []) && decide (clashL a = [])
def WorksOk (F : MF) : Prop := ∀ {s0 s : Sto} {l : Nat} {base : D} {p : LkP} {ls : List Nat} {a : LA} {c0 : Nat}, IsLa s0 s l base p ls a → LaOk c0 a → FdOk a → (F [.ref l] s).wp fun d s' => d = .bl (worksB a) ∧ Eff [] s s'
end Z

set_option Elab.async false
set_option linter.all false
set_option maxRecDepth 100000
set_option maxHeartbeats 4000000
namespace Z
open PySem PySem.Spec PyProof.Rows L2 TL
open PySem.PyData (strOk)
/-! ### faces, sorted -/
def fcD (p : Str × Str) : D := .tup [.str p.1, .str p.2]
def encF (p : Str × Str) : PyData := .tuple [.str p.1, .str p.2]
def leF (a b : Str × Str) : Bool := PySem.W.dataLe false encF a b
def sortF (ps : FaceA) : FaceA := ps.mergeSort leF
theorem sortF_perm (ps : FaceA) : (sortF ps).Perm ps := List.mergeSort_perm _ _
def okF (p : Str × Str) : Prop := strOk p.1 = true ∧ strOk p.2 = true
theorem leF_ne {a b : Str × Str} (h : a.1 ≠ b.1) (h1 : leF a b = true) : leS a.1 b.1 = true := by
  have : leF a b = leS a.1 b.1 := by
    unfold leF
    rw [PySem.W.dataLe_eq]
    simp only [cond_false]
    unfold encF
    rw [PySem.W.dataLt_tuple, PySem.W.dataLt_cons (by simp [PySem.W.alike]), PySem.W.dataLt_str]
    have : PyData.eqv (.str b.1) (.str a.1) = false := by
      simp only [PyData.eqv, beq_eq_false_iff_ne]
      exact fun e => h e.symm
    rw [if_neg (by rw [this]; exact Bool.false_ne_true), PySem.W.not_lt_str]
    rfl
  rw [← this]
  exact h1
theorem leF_total : PySem.W.TotalLe leF := by
  unfold leF PySem.W.dataLe
  exact PySem.W.sortLe_total _ _ _
theorem sortF_ok {g : FaceA} (nm : ∀ p ∈ g, IsName p.1) (wd : ∀ p ∈ g, p.2 ∈ wordL) (nd : (g.map (·.1)).Nodup) (hl : g.length ≤ 1000) : FaceOk (sortF g) := by
  have hp := sortF_perm g
  have T := leF_total
  have tot : ∀ a b : Str × Str, (leF a b || leF b a) = true := fun a b => by rw [Bool.or_eq_true]; exact T.total a b
  have nd2 : ((sortF g).map (·.1)).Nodup := (hp.map _).nodup_iff.mpr nd
  refine ⟨fun p h => nm p (hp.mem_iff.mp h), fun p h => wd p (hp.mem_iff.mp h), nd2, ?_, by rw [hp.length_eq]; exact hl⟩
  refine sortS_of ?_
  rw [List.pairwise_map]
  have h1 : (sortF g).Pairwise fun a b => leF a b = true := List.pairwise_mergeSort T.trans tot g
  have h2 : (sortF g).Pairwise fun a b => a.1 ≠ b.1 := List.pairwise_map.mp nd2
  exact (h1.and h2).imp fun ⟨a, b⟩ => leF_ne b a
theorem FaceOk.okF {f : FaceA} (h : FaceOk f) : ∀ p ∈ f, okF p := fun p hp => by
  have hw : ∀ w ∈ wordL, strOk w = true := by decide +kernel
  exact ⟨(h.nm p hp).ok, hw _ (h.wd p hp)⟩
end Z

set_option Elab.async false
set_option linter.all false
set_option maxRecDepth 100000
set_option maxHeartbeats 4000000
namespace Z
open PySem PySem.Spec PyProof.Rows L2 TL
open PySem.PyData (strOk)
/-! ### a link told by the members that were taken, in their order -/
/-- what is known of a name, in its order -/
def fdN (f : List (Str × List DefB)) (x : Str) : List DefB := ((f.find? fun q => decide (q.1 = x)).map (·.2)).getD []
theorem fdN_none {f : List (Str × List DefB)} {x : Str} (h : x ∉ f.map (·.1)) : fdN f x = [] := by
  unfold fdN
  cases q : f.find? fun q => decide (q.1 = x) with
  | none => rfl
  | some r => exact absurd (List.mem_map.mpr ⟨r, List.mem_of_find?_eq_some q, by simpa using List.find?_some q⟩) h
theorem fdN_map {x : Str} {v : DefB} {y : Str} : ∀ f : List (Str × List DefB), fdN (f.map fun q => if q.1 = x then (q.1, q.2 ++ [v]) else q) y = if y = x ∧ y ∈ f.map (·.1) then fdN f y ++ [v] else fdN f y
  | [] => by simp [fdN]
  | q :: f => by
    have ih := fdN_map (x := x) (v := v) (y := y) f
    unfold fdN at ih ⊢
    rw [List.map_cons, List.find?_cons, List.find?_cons]
    have e1 : (if q.1 = x then (q.1, q.2 ++ [v]) else q).1 = q.1 := by split <;> rfl
    rw [e1]
    by_cases hy : q.1 = y
    · rw [decide_eq_true hy]
      dsimp only
      by_cases hx : q.1 = x
      · rw [if_pos hx, if_pos ⟨hy.symm.trans hx, by simp [hy]⟩]
        rfl
      · rw [if_neg hx, if_neg fun z => hx (hy.trans z.1)]
    · rw [decide_eq_false hy]
      dsimp only
      rw [ih]
      have : (y = x ∧ y ∈ f.map (·.1)) ↔ (y = x ∧ y ∈ (q :: f).map (·.1)) := by
        rw [List.map_cons, List.mem_cons]
        constructor
        · exact fun h => ⟨h.1, .inr h.2⟩
        · rintro ⟨h1, h2 | h2⟩
          · exact absurd h2.symm hy
          · exact ⟨h1, h2⟩
      by_cases c : y = x ∧ y ∈ f.map (·.1)
      · rw [if_pos c, if_pos (this.mp c)]
      · rw [if_neg c, if_neg fun z => c (this.mpr z)]
theorem fdN_put {f : List (Str × List DefB)} {x y : Str} {v : DefB} : fdN (putF f x v) y = fdN f y ++ if y = x then [v] else [] := by
  unfold putF
  split
  · rename_i h
    rw [fdN_map]
    by_cases e : y = x
    · subst e
      rw [if_pos ⟨rfl, h⟩, if_pos rfl]
    · rw [if_neg fun z => e z.1, if_neg e, List.append_nil]
  · rename_i h
    by_cases e : y = x
    · subst e
      rw [if_pos rfl, fdN_none h]
      unfold fdN
      rw [List.find?_append, List.find?_eq_none.mpr (fun q hq => by
        simp only [decide_eq_true_eq]
        exact fun z => h (z ▸ List.mem_map_of_mem hq))]
      simp
    · rw [if_neg e, List.append_nil]
      unfold fdN
      rw [List.find?_append]
      have : ([(x, [v])] : List (Str × List DefB)).find? (fun q => decide (q.1 = y)) = none := by simp [Ne.symm e]
      rw [this]
      cases f.find? fun q => decide (q.1 = y) <;> rfl
theorem putF_mem {f : List (Str × List DefB)} {x y : Str} {v : DefB} : y ∈ (putF f x v).map (·.1) ↔ y ∈ f.map (·.1) ∨ y = x := by
  rw [putF_keys]
  split
  · rename_i h
    exact ⟨.inl, fun z => z.elim id fun e => e ▸ h⟩
  · rw [List.mem_append, List.mem_singleton]
theorem putW_mem {w : List (Str × Option (Str × Str))} {x y : Str} {u : Option (Str × Str)} : y ∈ (putW w x u).map (·.1) ↔ y ∈ w.map (·.1) ∨ y = x := by
  rw [putW_keys]
  split
  · rename_i h
    exact ⟨.inl, fun z => z.elim id fun e => e ▸ h⟩
  · rw [List.mem_append, List.mem_singleton]
/-- a member's definitions of a name -/
def defsN (m : MemA) (x : Str) : List DefB := (m.defs.filter fun d => decide (d.1 = x)).map fun d => (d.2.1, some d.2.2)
theorem foldF_fdN (x : Str) : ∀ (ds : List DefA) (f : List (Str × List DefB)), fdN (ds.foldl (fun f d => putF f d.1 (d.2.1, some d.2.2)) f) x = fdN f x ++ (ds.filter fun d => decide (d.1 = x)).map fun d => (d.2.1, some d.2.2)
  | [], f => by simp
  | d :: ds, f => by
    rw [List.foldl_cons, foldF_fdN x ds, fdN_put, List.filter_cons, List.append_assoc]
    congr 1
    by_cases e : d.1 = x
    · rw [if_pos e.symm, if_pos (decide_eq_true e)]
      rfl
    · rw [if_neg (Ne.symm e), if_neg (by simpa using e)]
      rfl
theorem foldF_mem (x : Str) : ∀ (ds : List DefA) (f : List (Str × List DefB)), x ∈ (ds.foldl (fun f d => putF f d.1 (d.2.1, some d.2.2)) f).map (·.1) ↔ x ∈ f.map (·.1) ∨ x ∈ ds.map (·.1)
  | [], f => by simp
  | d :: ds, f => by
    rw [List.foldl_cons, foldF_mem x ds, putF_mem, List.map_cons, List.mem_cons, or_assoc]
theorem foldW_mem (u : Option (Str × Str)) (x : Str) : ∀ (ws : List Str) (w : List (Str × Option (Str × Str))), x ∈ (ws.foldl (fun w y => putW w y u) w).map (·.1) ↔ x ∈ w.map (·.1) ∨ x ∈ ws
  | [], w => by simp
  | y :: ws, w => by
    rw [List.foldl_cons, foldW_mem u x ws, putW_mem, List.mem_cons, or_assoc]
abbrev Tk := List (Str × MemA)
structure TkL (f : FaceA) (T : Tk) (a : LA) : Prop where
  rows : a.rows.map rkey = T.map fun t => (t.1, t.2.name)
  key : ∀ y, y ∈ a.found.map (·.1) ↔ y ∈ (initF f).map (·.1) ∨ ∃ t ∈ T, y ∈ dns t.2
  fd : ∀ y, fdN a.found y = fdN (initF f) y ++ T.flatMap fun t => defsN t.2 y
  wk : ∀ y, y ∈ a.wby.map (·.1) ↔ y ∈ (initW f).map (·.1) ∨ ∃ t ∈ T, y ∈ t.2.wants
theorem tkL_nil {f : FaceA} : TkL f [] (initA f) := ⟨rfl, fun y => by simp [initA], fun y => by simp [initA], fun y => by simp [initA]⟩
theorem ex_snoc {T : Tk} {t0 : Str × MemA} {Pt : Str × MemA → Prop} : (∃ t ∈ T ++ [t0], Pt t) ↔ (∃ t ∈ T, Pt t) ∨ Pt t0 := by
  constructor
  · rintro ⟨t, ht, hp⟩
    rcases List.mem_append.mp ht with ht | ht
    · exact .inl ⟨t, ht, hp⟩
    · rw [List.mem_singleton.mp ht] at hp
      exact .inr hp
  · rintro (⟨t, ht, hp⟩ | hp)
    · exact ⟨t, List.mem_append_left _ ht, hp⟩
    · exact ⟨t0, by simp, hp⟩
theorem TkL.take {f : FaceA} {T : Tk} {a : LA} (h : TkL f T a) (an : Str) (m : MemA) : TkL f (T ++ [(an, m)]) (takeL a an m) := by
  refine ⟨?_, fun y => ?_, fun y => ?_, fun y => ?_⟩
  · show (a.rows ++ [(an, m.name, causeL a m)]).map rkey = _
    rw [List.map_append, List.map_append, h.rows]
    rfl
  · rw [ex_snoc, ← or_assoc, ← h.key]
    exact foldF_mem y m.defs a.found
  · rw [List.flatMap_append, ← List.append_assoc, ← h.fd]
    have := foldF_fdN y m.defs a.found
    show fdN (m.defs.foldl (fun f d => putF f d.1 (d.2.1, some d.2.2)) a.found) y = _
    rw [this]
    simp [defsN]
  · rw [ex_snoc, ← or_assoc, ← h.wk]
    exact foldW_mem _ y m.wants a.wby
/-- open, by what was taken -/
def opnT (f : FaceA) (T : Tk) (y : Str) : Prop := (y ∈ (initW f).map (·.1) ∨ ∃ t ∈ T, y ∈ t.2.wants) ∧ ¬ (y ∈ (initF f).map (·.1) ∨ ∃ t ∈ T, y ∈ dns t.2)
theorem TkL.opn {f : FaceA} {T : Tk} {a : LA} (h : TkL f T a) (y : Str) : y ∈ openL a ↔ opnT f T y := by
  unfold openL opnT
  rw [(sortS_perm _).mem_iff, List.mem_filter, h.wk, ← h.key]
  simp
def fitsT (f : FaceA) (T : Tk) (an : Str) (m : MemA) : Prop := (an, m.name) ∉ T.map (fun t => (t.1, t.2.name)) ∧ ∃ y ∈ dns m, opnT f T y
theorem TkL.fits {f : FaceA} {T : Tk} {a : LA} (h : TkL f T a) {an : Str} {m : MemA} : fitsB a an m = true ↔ fitsT f T an m := by
  unfold fitsB fitsT
  rw [Bool.and_eq_true, h.rows]
  simp only [Bool.not_eq_true', decide_eq_false_iff_not, List.any_eq_true, decide_eq_true_eq]
  exact and_congr Iff.rfl ⟨fun ⟨y, h1, h2⟩ => ⟨y, h2, (h.opn y).mp h1⟩, fun ⟨y, h1, h2⟩ => ⟨y, (h.opn y).mpr h2, h1⟩⟩
/-- the first member that fits -/
def NxT (f : FaceA) (T : Tk) (r : ArcA) (m : MemA) : Prop := ∃ us vs, r.mems = us ++ m :: vs ∧ (∀ u ∈ us, ¬ fitsT f T r.name u) ∧ fitsT f T r.name m
def NoT (f : FaceA) (T : Tk) (r : ArcA) : Prop := ∀ u ∈ r.mems, ¬ fitsT f T r.name u
theorem TkL.next_some {f : FaceA} {T : Tk} {a : LA} (h : TkL f T a) {r : ArcA} {m : MemA} (q : NxT f T r m) : nextM a r = some m := by
  obtain ⟨us, vs, e, h1, h2⟩ := q
  unfold nextM
  rw [e]
  have : ∀ us : List MemA, (∀ u ∈ us, ¬ fitsT f T r.name u) → (us ++ m :: vs).find? (fitsB a r.name) = some m := by
    intro us
    induction us with
    | nil => intro _; rw [List.nil_append, List.find?_cons, h.fits.mpr h2]
    | cons u us ih =>
      intro hu
      have hn : fitsB a r.name u = false := by rw [Bool.eq_false_iff]; exact fun z => hu u (by simp) (h.fits.mp z)
      rw [List.cons_append, List.find?_cons, hn]
      exact ih fun v hv => hu v (by simp [hv])
  exact this us h1
theorem TkL.next_none {f : FaceA} {T : Tk} {a : LA} (h : TkL f T a) {r : ArcA} (q : NoT f T r) : nextM a r = none := by
  unfold nextM
  exact List.find?_eq_none.mpr fun u hu z => q u hu (h.fits.mp z)
/-- a search, told by what is taken -/
inductive Run (f : FaceA) (r : ArcA) : Tk → Tk → Prop
  | done {T : Tk} (h : NoT f T r) : Run f r T T
  | step {T T' : Tk} {m : MemA} (h : NxT f T r m) (h2 : Run f r (T ++ [(r.name, m)]) T') : Run f r T T'
theorem Run.search {f : FaceA} {r : ArcA} {T T' : Tk} (h : Run f r T T') : ∀ {a : LA}, TkL f T a → TkL f T' (searchA a r) ∧ NoT f T' r := by
  induction h with
  | done h => exact fun {a} t => by rw [searchA_none (t.next_none h)]; exact ⟨t, h⟩
  | step h _ ih => exact fun {a} t => by rw [searchA_some (t.next_some h)]; exact ih (t.take _ _)
end Z

set_option Elab.async false
set_option linter.all false
set_option maxRecDepth 100000
set_option maxHeartbeats 4000000
namespace Z
open PySem PySem.Spec PyProof.Rows L2 TL
open PySem.PyData (strOk)
/-! ### reasons (Link.why) -/
inductive WhyL (a : LA) : Option (Str × Str) → List Row3 → Prop
  | nil : WhyL a none []
  | cons {r : Row3} {w : Option (Str × Str)} {L : List Row3} (h1 : r ∈ a.rows) (h2 : (r.2.2, w) ∈ a.wby) (h3 : WhyL a w L) : WhyL a (some (rkey r)) (r :: L)
def tWhy (cs : List Str) (FN : MF) (s1 : SM) : SM := (sC (sP 3 4 (aC (mN fLst aN) (aC (mN fTup (aC (mV 1) (aC (mV 2) aN))) aN))) (sC (sI (bOr (bNot (toT (mN FN (aC (mV 1) aN)))) (bOr (bNot (toT (mN FN (aC (mV 2) aN)))) (toB (m2 (dInT true) (mV 4) (mFld cs "got" (mV 0)))))) s1 sN) (sC (sW 1000 (toB (m2 dNotN2 (mV 4) (mC .non))) (sC (sE (mBM "list" (mtL lAppend) (mV 3) (aC (mN fTup (aC (m2 dIx (mV 4) (mC (.int 0))) (aC (m2 dIx (mV 4) (mC (.int 1))) (aC (m2 dGetT (mFld cs "got" (mV 0)) (mV 4)) aN)))) aN))) (sA 4 (m2 dGetD (mFld cs "wanted_by" (mV 0)) (m2 dGetT (mFld cs "got" (mV 0)) (mV 4)))))) (sR (mV 3)))))
def WhyOk (F : MF) : Prop := ∀ {s0 s : Sto} {l : Nat} {base : D} {p : LkP} {ls : List Nat} {a : LA} {c0 : Nat} {x y : Str} {L : List Row3}, IsLa s0 s l base p ls a → LaOk c0 a → IsName x → IsName y → WhyL a (some (x, y)) L → L.length ≤ 900 → (F [.ref l, .str x, .str y] s).wp fun d s' => Eff [] s s' ∧ ∃ k, d = .ref k ∧ s.length ≤ k ∧ mlAt s' k = some (L.map lrow)
structure WhI (a : LA) (L : List Row3) (s : Sto) (l : Nat) (x y : Str) (m : Nat) (e : Ev) (s' : Sto) : Prop where
  ex : Eff [] s s' ∧ ∃ L1 L2 w, L = L1 ++ L2 ∧ L2.length = m ∧ WhyL a w L2 ∧ mlAt s' s.length = some (L1.map lrow) ∧ e = [some (.ref l), some (.str x), some (.str y), some (.ref s.length), some (wbD w)]
end Z

set_option Elab.async false
set_option linter.all false
set_option maxRecDepth 100000
set_option maxHeartbeats 4000000
namespace Z
open PySem PySem.Spec PyProof.Rows L2
/-! ### tuple * int, once too -/
def rRep1 (K : PySem.W.Frag) : R2 := fun x y H Q => ∃ l xs, x = .ref l ∧ y = .int 1 ∧ SqT K H l xs ∧ Q (.ref l) H
def rRepA (K : PySem.W.Frag) : R2 := fun x y H Q => rRepT K x y H Q ∨ rRep1 K x y H Q
section
variable {X : Cx}
end
def dMulT (x y : D) (s : Sto) : Rs D := match x, y with
  | .tup xs, .int k => if xs ≠ [] ∧ 1 ≤ k ∧ k ≤ 1000 ∧ xs.length ≤ 1000 then .ok (.tup (List.replicate k.toNat xs).flatten) s else .no
  | _, _ => .no
section
variable [Row] {X : Cx} {W : WX}
end
section
variable {P : D → Sto → Prop} {E : Str → Str → D → Sto → Prop} {s : Sto}
@[simp ↓] theorem z_mulT {xs : List D} {k : Int} : (dMulT (.tup xs) (.int k) s).wp P E = ((xs ≠ [] ∧ 1 ≤ k ∧ k ≤ 1000 ∧ xs.length ≤ 1000) ∧ P (.tup (List.replicate k.toNat xs).flatten) s) := by
  show (if _ then _ else _ : Rs D).wp P E = _
  rw [z_iteN, z_ok]
end
end Z

set_option Elab.async false
set_option linter.all false
set_option maxRecDepth 100000
set_option maxHeartbeats 4000000
namespace Z
open PySem PySem.Spec PySem.Calls PyProof.Rows L2
open PySem.PyData (strOk)
variable [Row]
/-! ### sorted(a dict of texts) -/
section
variable {X : Cx} {W : WX}
def fSortK (B : MF) : MF := fun ds s => match ds with
  | [.ref n] => match s[n]? with
    | some (.dict false kvs) => match (kvs.map (·.1)).mapM strD with
      | some zs => if zs.all strOk = true ∧ zs.length ≤ 100000 then .ok (.ref s.length) (s ++ [.lst ((sortS zs).map D.str)]) else .no
      | none => .no
    | _ => B ds s
  | _ => B ds s
end
section
omit [Row]
end
end Z

set_option Elab.async false
set_option linter.all false
set_option maxRecDepth 100000
set_option maxHeartbeats 4000000
namespace Z
open PySem PySem.Spec PyProof.Rows L2 TL
open PySem.PyData (strOk)
/-! ### the result of a link; links compared -/
def fdKeys (a : LA) : List Str := sortS (a.found.map (·.1))
def bindsD (a : LA) : List D := (fdKeys a).map fun x => .tup [.str x, strongD (fdOf a x)]
def resD (a : LA) : D := .tup [.tup (bindsD a), .tup ((openL a).map D.str), .tup ((clashL a).map D.str)]
def tResult (cs : List Str) (B FS' : MF) (tpL tpC : Tb) : SM := (sC (sA 1 (mN fTuple (aC (mL (iSq (mN (fSortK B) (aC (mFld cs "found" (mV 0)) aN))) (gN 2) tY (mN fTup (aC (mV 2) (aC (mN FS' (aC (m2 dGetD (mFld cs "found" (mV 0)) (mV 2)) aN)) aN))) [2]) aN))) (sR (mN fTup (aC (mV 1) (aC (mN fTuple (aC (mProp tpL (mV 0)) aN)) (aC (mN fTuple (aC (mProp tpC (mV 0)) aN)) aN))))))
def ResultOk (F : MF) : Prop := ∀ {s0 s : Sto} {l : Nat} {base : D} {p : LkP} {ls : List Nat} {a : LA} {c0 : Nat}, IsLa s0 s l base p ls a → LaOk c0 a → FdOk a → (F [.ref l] s).wp fun d s' => d = resD a ∧ Eff [] s s'
theorem fdKeys_in {a : LA} {x : Str} : x ∈ fdKeys a ↔ x ∈ a.found.map (·.1) := (sortS_perm _).mem_iff
def tEqLk (cls : List Str) (tpR : Tb) : SM := (sR (mAnd (mIsiC cls "Link" (mV 1)) (m2 dEq (mProp tpR (mV 0)) (mProp tpR (mV 1)))))
end Z

set_option Elab.async false
set_option linter.all false
set_option maxRecDepth 100000
set_option maxHeartbeats 4000000
namespace Z
open PySem PySem.Spec PyProof.Rows L2 TL
open PySem.PyData (strOk)
/-! ### drawn lines and faces -/
def tLineB (take of_ : MF) : SM := (sI (toB (m2 dEq (mN take (aC (mV 0) (aC (mC (.int 4)) aN))) (mC (.int 0)))) (sE (mBM "list" (mtL lAppend) (mV 3) (aC (mN fTuple (aC (mL (iR1 (aC (m2 dAdd (mC (.int 1)) (mN take (aC (mV 0) (aC (mC (.int 3)) aN)))) aN)) (gN 5) tY (mN of_ (aC (mV 0) (aC (mV 1) aN))) [5]) aN)) aN))) (sE (mBM "list" (mtL lAppend) (mV 3) (aC (mN of_ (aC (mV 0) (aC (mV 1) aN))) aN))))
def tLineR : SM := (sR (mN fTuple (aC (mV 3) aN)))
def tLine1 (take of_ : MF) : SM := (sC (sF (iR1 (aC (m2 dMul2 (mN take (aC (mV 0) (aC (m2 dAdd (mV 2) (mC (.int 1))) aN))) (mN fInt (aC (m2 dNe (mV 1) (mN fLst aN)) aN))) aN)) (gN 4) (tLineB take of_)) tLineR)
def tLine (take of_ : MF) : SM := (sC (sA 3 (mN fLst aN)) (tLine1 take of_))
/-- items of a drawn line -/
structure ItW (archs : List Str) (i : ItA) : Prop where
  ne : i.names ≠ []
  sub : ∀ x ∈ i.names, x ∈ archs
  len : i.names.length ≤ 3
structure LiI (archs : List Str) (s : Sto) (k n : Nat) (m : Int) (q : Nat) (i : Nat) (e : Ev) (s' : Sto) : Prop where
  ex : Eff [k] s s' ∧ ∃ (line : List ItA) (o4 o5 : Option D), line.length = i ∧ (∀ it ∈ line, ItW archs it) ∧ mlAt s' q = some (lineD line) ∧ e = [some (.ref k), some (.ref n), some (.int m), some (.ref q), o4, o5]
/-! faces -/
def tFaceR (take of_ : MF) : SM := (sR (mN fPtuple (aC (mL (iSq (mN fSortA (aC (mV 1) aN))) (gN 3) (toB (m2 dGt (mN take (aC (mV 0) (aC (mC (.int 3)) aN))) (mC (.int 0)))) (mN fTup (aC (mV 3) (aC (mN of_ (aC (mV 0) (aC (mV 2) aN))) aN))) [3]) aN)))
def tFace (take of_ : MF) : SM := (sC (sA 2 (mN fLst (aC (mC (.str "wanted")) (aC (mC (.str "wanted")) (aC (mC (.str "weak")) (aC (mC (.str "common")) (aC (mC (.str "strong")) aN))))))) (tFaceR take of_))
def fiveW : List Str := ["wanted", "wanted", "weak", "common", "strong"]
end Z

set_option Elab.async false
set_option linter.all false
set_option maxRecDepth 100000
set_option maxHeartbeats 4000000
namespace Z
open PySem PySem.Spec PyProof.Rows L2 TL
open PySem.PyData (strOk)
/-! ### each taken member has its reason -/
theorem putW_keep {w : List (Str × Option (Str × Str))} {x : Str} {v : Option (Str × Str)} {q : Str × Option (Str × Str)} (h : q ∈ w) : q ∈ putW w x v := by
  unfold putW
  split
  · exact h
  · exact List.mem_append_left _ h
theorem putW_from {w : List (Str × Option (Str × Str))} {x : Str} {v : Option (Str × Str)} {q : Str × Option (Str × Str)} (h : q ∈ putW w x v) : q ∈ w ∨ q.2 = v := by
  unfold putW at h
  split at h
  · exact .inl h
  · rcases List.mem_append.mp h with h | h
    · exact .inl h
    · rw [List.mem_singleton.mp h]; exact .inr rfl
theorem foldW_old {v : Option (Str × Str)} : ∀ (ws : List Str) {w : List (Str × Option (Str × Str))} {q : Str × Option (Str × Str)}, q ∈ w → q ∈ ws.foldl (fun w x => putW w x v) w
  | [], w, q, h => h
  | y :: ws, w, q, h => foldW_old ws (putW_keep h)
theorem foldW_new {v : Option (Str × Str)} : ∀ (ws : List Str) {w : List (Str × Option (Str × Str))} {q : Str × Option (Str × Str)}, q ∈ ws.foldl (fun w x => putW w x v) w → q ∈ w ∨ q.2 = v
  | [], w, q, h => .inl h
  | y :: ws, w, q, h => by
    rcases foldW_new ws h with h | h
    · exact putW_from h
    · exact .inr h
theorem wby_take {a : LA} {an : Str} {m : MemA} {q : Str × Option (Str × Str)} (h : q ∈ a.wby) : q ∈ (takeL a an m).wby := foldW_old m.wants h
structure WyI (a : LA) : Prop where
  rw : ∀ (i : Nat) (r : Row3), a.rows[i]? = some r → ∃ w, (r.2.2, w) ∈ a.wby ∧ (w = none ∨ ∃ (j : Nat) (r' : Row3), j < i ∧ a.rows[j]? = some r' ∧ w = some (rkey r'))
  wb : ∀ q ∈ a.wby, q.2 = none ∨ ∃ (j : Nat) (r' : Row3), a.rows[j]? = some r' ∧ q.2 = some (rkey r')
/-- the name for which a member that fits is taken -/
theorem cause_in {a : LA} {an : Str} {m : MemA} (h : fitsB a an m = true) : causeL a m ∈ openL a ∧ causeL a m ∈ dns m := by
  unfold fitsB at h
  rw [Bool.and_eq_true, List.any_eq_true] at h
  obtain ⟨y, hy, hd⟩ := h.2
  have hy2 : y ∈ (openL a).filter fun x => decide (x ∈ dns m) := List.mem_filter.mpr ⟨hy, hd⟩
  unfold causeL
  cases q : (openL a).filter fun x => decide (x ∈ dns m) with
  | nil => rw [q] at hy2; cases hy2
  | cons z zs =>
    have : z ∈ (openL a).filter fun x => decide (x ∈ dns m) := by rw [q]; simp
    obtain ⟨h1, h2⟩ := List.mem_filter.mp this
    exact ⟨h1, of_decide_eq_true h2⟩
theorem open_in {a : LA} {y : Str} : y ∈ openL a ↔ y ∈ a.wby.map (·.1) ∧ y ∉ a.found.map (·.1) := by
  unfold openL
  rw [(sortS_perm _).mem_iff, List.mem_filter]
  simp
theorem WyI.take {a : LA} {r : ArcA} {m : MemA} (h : WyI a) (q : nextM a r = some m) : WyI (takeL a r.name m) := by
  obtain ⟨hm, hf⟩ := nextM_some q
  obtain ⟨c1, c2⟩ := cause_in hf
  have at_old : ∀ {j : Nat} {r' : Row3}, a.rows[j]? = some r' → (takeL a r.name m).rows[j]? = some r' := fun {j r'} e => by
    rw [take_rows, List.getElem?_append_left (List.getElem?_eq_some_iff.mp e).1]
    exact e
  have lst : (takeL a r.name m).rows[a.rows.length]? = some (r.name, m.name, causeL a m) := by
    rw [take_rows, List.getElem?_append_right (Nat.le_refl _)]
    simp
  refine ⟨fun i r0 hi => ?_, fun p hp => ?_⟩
  · rw [take_rows] at hi
    by_cases hlt : i < a.rows.length
    · rw [List.getElem?_append_left hlt] at hi
      obtain ⟨w, h1, h2⟩ := h.rw i r0 hi
      refine ⟨w, wby_take h1, ?_⟩
      rcases h2 with h2 | ⟨j, r', h3, h4, h5⟩
      · exact .inl h2
      · exact .inr ⟨j, r', h3, at_old h4, h5⟩
    · have hi' := (List.getElem?_eq_some_iff.mp hi).1
      rw [List.length_append, List.length_singleton] at hi'
      have hie : i = a.rows.length := by omega
      subst hie
      rw [List.getElem?_append_right (Nat.le_refl _)] at hi
      simp at hi
      subst hi
      obtain ⟨p, hp, hpe⟩ := List.mem_map.mp (open_in.mp c1).1
      refine ⟨p.2, ?_, ?_⟩
      · show (causeL a m, p.2) ∈ _
        rw [← hpe]
        exact wby_take hp
      · rcases h.wb p hp with h2 | ⟨j, r', h4, h5⟩
        · exact .inl h2
        · exact .inr ⟨j, r', (List.getElem?_eq_some_iff.mp h4).1, at_old h4, h5⟩
  · rcases foldW_new m.wants (show p ∈ m.wants.foldl (fun w x => putW w x (some (r.name, m.name))) a.wby from hp) with hp | hp
    · rcases h.wb p hp with h2 | ⟨j, r', h4, h5⟩
      · exact .inl h2
      · exact .inr ⟨j, r', at_old h4, h5⟩
    · exact .inr ⟨_, _, lst, hp⟩
theorem WyI.why {a : LA} (h : WyI a) : ∀ (n i : Nat) (r : Row3), i ≤ n → a.rows[i]? = some r → ∃ L, WhyL a (some (rkey r)) L ∧ L.length ≤ i + 1 := by
  intro n
  induction n with
  | zero =>
    intro i r hi hr
    obtain ⟨w, h1, h2⟩ := h.rw i r hr
    rcases h2 with rfl | ⟨j, r', h3, _, _⟩
    · exact ⟨[r], .cons (List.mem_of_getElem? hr) h1 .nil, by simp⟩
    · omega
  | succ n ih =>
    intro i r hi hr
    obtain ⟨w, h1, h2⟩ := h.rw i r hr
    rcases h2 with rfl | ⟨j, r', h3, h4, rfl⟩
    · exact ⟨[r], .cons (List.mem_of_getElem? hr) h1 .nil, by simp⟩
    · obtain ⟨L, g1, g2⟩ := ih j r' (by omega) h4
      exact ⟨r :: L, .cons (List.mem_of_getElem? hr) h1 g1, by rw [List.length_cons]; omega⟩
/-! ### what a taken member defines is found -/
structure NamesU (as : List ArcA) : Prop where
  nd : (as.map (·.name)).Nodup
  mn : ∀ r ∈ as, (r.mems.map (·.name)).Nodup
theorem NamesU.arc {as : List ArcA} (h : NamesU as) {r r' : ArcA} (h1 : r ∈ as) (h2 : r' ∈ as) (e : r.name = r'.name) : r = r' := by
  obtain ⟨i, hi⟩ := List.mem_iff_getElem?.mp h1
  obtain ⟨j, hj⟩ := List.mem_iff_getElem?.mp h2
  obtain ⟨hil, hie⟩ := List.getElem?_eq_some_iff.mp hi
  obtain ⟨hjl, hje⟩ := List.getElem?_eq_some_iff.mp hj
  have pw := List.pairwise_iff_getElem.mp h.nd
  have e2 : (as.map (·.name))[i]'(by simpa using hil) = (as.map (·.name))[j]'(by simpa using hjl) := by
    rw [List.getElem_map, List.getElem_map, hie, hje, e]
  rcases Nat.lt_trichotomy i j with h | h | h
  · exact absurd e2 (pw i j (by simpa using hil) (by simpa using hjl) h)
  · subst h
    rw [hi] at hj
    exact Option.some.inj hj
  · exact absurd e2.symm (pw j i (by simpa using hjl) (by simpa using hil) h)
theorem nodup_name {ms : List MemA} (nd : (ms.map (·.name)).Nodup) {m m' : MemA} (h1 : m ∈ ms) (h2 : m' ∈ ms) (e : m.name = m'.name) : m = m' := by
  induction ms with
  | nil => cases h1
  | cons x ms ih =>
    rw [List.map_cons, List.nodup_cons] at nd
    rcases List.mem_cons.mp h1 with e1 | g1
    · rcases List.mem_cons.mp h2 with e2 | g2
      · rw [e1, e2]
      · refine absurd ?_ nd.1
        rw [← e1, e]
        exact List.mem_map_of_mem g2
    · rcases List.mem_cons.mp h2 with e2 | g2
      · refine absurd ?_ nd.1
        rw [← e2, ← e]
        exact List.mem_map_of_mem g1
      · exact ih nd.2 g1 g2
/-- what taken members define is found -/
def TkF (as : List ArcA) (a : LA) : Prop := ∀ r ∈ as, ∀ m ∈ r.mems, (r.name, m.name) ∈ a.rows.map rkey → ∀ y ∈ dns m, y ∈ a.found.map (·.1)
theorem found_take {a : LA} {an : Str} {m : MemA} {y : Str} : y ∈ (takeL a an m).found.map (·.1) ↔ y ∈ a.found.map (·.1) ∨ y ∈ dns m := foldF_mem y m.defs a.found
theorem TkF.take {as : List ArcA} (U : NamesU as) {a : LA} (h : TkF as a) {r : ArcA} (hr : r ∈ as) {m : MemA} (hm : m ∈ r.mems) : TkF as (takeL a r.name m) := fun r2 hr2 m2 hm2 hk y hy => by
  rw [found_take]
  rw [take_rows, List.map_append, List.mem_append] at hk
  rcases hk with hk | hk
  · exact .inl (h r2 hr2 m2 hm2 hk y hy)
  · have e : (r2.name, m2.name) = (r.name, m.name) := List.mem_singleton.mp hk
    injection e with e1 e2
    have := U.arc hr2 hr e1
    subst this
    have := nodup_name (U.mn _ hr2) hm2 hm e2
    subst this
    exact .inr hy
/-! ### two stores in which the same members come next -/
structure Like (J : LA → Prop) (as bs : List ArcA) (g : ArcA → ArcA) : Prop where
  nm : ∀ r, (g r).name = r.name
  arc : ∀ x, arcOf bs x = (arcOf as x).map g
  mem : ∀ r ∈ as, g r ∈ bs
  nx : ∀ r ∈ as, ∀ a, J a → nextM a (g r) = nextM a r
  st : ∀ r ∈ as, ∀ a m, nextM a r = some m → J a → J (takeL a r.name m)
section
variable {J : LA → Prop} {as bs : List ArcA} {g : ArcA → ArcA} (H : Like J as bs g)
include H
theorem Like.search {r : ArcA} (hr : r ∈ as) : ∀ (n : Nat) (a : LA), leftL a r ≤ n → J a → searchA a (g r) = searchA a r := by
  intro n
  induction n with
  | zero =>
    intro a hn ha
    cases q : nextM a r with
    | none => rw [searchA_none q, searchA_none (by rw [H.nx r hr a ha]; exact q)]
    | some m =>
      have := left_take q
      omega
  | succ n ih =>
    intro a hn ha
    cases q : nextM a r with
    | none => rw [searchA_none q, searchA_none (by rw [H.nx r hr a ha]; exact q)]
    | some m =>
      have hl := left_take q
      rw [searchA_some q, searchA_some (r := g r) (m := m) (by rw [H.nx r hr a ha]; exact q), H.nm]
      exact ih _ (by omega) (H.st r hr a m q ha)
theorem Like.round : ∀ (names : List Str) (a : LA), J a → roundA bs names a = roundA as names a ∧ J (roundA as names a)
  | [], a, h => ⟨rfl, h⟩
  | x :: names, a, h => by
    have e : ∀ cs : List ArcA, roundA cs (x :: names) a = roundA cs names (match arcOf cs x with | some r => searchA a r | none => a) := fun cs => by
      unfold roundA
      rw [List.foldl_cons]
      first | done | (cases arcOf cs x <;> rfl)
    rw [e bs, e as, H.arc]
    cases q : arcOf as x with
    | none => exact Like.round names a h
    | some r =>
      have hr : r ∈ as := List.mem_of_find?_eq_some q
      dsimp only [Option.map_some]
      rw [H.search hr _ a (Nat.le_refl _) h]
      exact Like.round names _ (search_ind J (fun a m q h => H.st r hr a m q h) a h)
theorem Like.group (names : List Str) : ∀ (n : Nat) (a : LA), RowsOk as a → RowsOk bs a → (memKeys as).length - a.rows.length ≤ n → J a → groupA bs names a = groupA as names a ∧ J (groupA as names a) ∧ RowsOk bs (groupA as names a) := by
  intro n
  induction n with
  | zero =>
    intro a R1 R2 hn ha
    obtain ⟨r1, r2⟩ := H.round names a ha
    have s1 := groupA_step (names := names) R1 (fun b => round_rows b) (fun b => round_mono b)
    have s2 := groupA_step (names := names) R2 (fun b => round_rows b) (fun b => round_mono b)
    have R1' := round_rows (names := names) a R1
    have R2' := round_rows (names := names) a R2
    have mo := round_mono (as := as) (names := names) a
    have l1 := R1'.len
    rw [r1] at s2 R2'
    have e : (roundA as names a).rows.length = a.rows.length := by omega
    rw [if_pos e] at s1 s2
    rw [s1, s2]
    exact ⟨rfl, r2, R2'⟩
  | succ n ih =>
    intro a R1 R2 hn ha
    obtain ⟨r1, r2⟩ := H.round names a ha
    have s1 := groupA_step (names := names) R1 (fun b => round_rows b) (fun b => round_mono b)
    have s2 := groupA_step (names := names) R2 (fun b => round_rows b) (fun b => round_mono b)
    have R1' := round_rows (names := names) a R1
    have R2' := round_rows (names := names) a R2
    have mo := round_mono (as := as) (names := names) a
    rw [r1] at s2 R2'
    by_cases e : (roundA as names a).rows.length = a.rows.length
    · rw [if_pos e] at s1 s2
      rw [s1, s2]
      exact ⟨rfl, r2, R2'⟩
    · rw [if_neg e] at s1 s2
      rw [s1, s2]
      exact ih _ R1' R2' (by omega) r2
theorem Like.link (line : List ItA) (f : FaceA) (h0 : J (initA f)) : linkA bs line f = linkA as line f ∧ J (linkA as line f) ∧ RowsOk bs (linkA as line f) := by
  have main : ∀ (line : List ItA) (a : LA), RowsOk as a → RowsOk bs a → J a → line.foldl (fun a i => groupA bs i.names a) a = line.foldl (fun a i => groupA as i.names a) a ∧ J (line.foldl (fun a i => groupA as i.names a) a) ∧ RowsOk bs (line.foldl (fun a i => groupA as i.names a) a) := by
    intro line
    induction line with
    | nil => exact fun a _ R2 h => ⟨rfl, h, R2⟩
    | cons i line ih =>
      intro a R1 R2 h
      obtain ⟨g1, g2, g3⟩ := H.group i.names _ a R1 R2 (Nat.le_refl _) h
      rw [List.foldl_cons, List.foldl_cons, g1]
      exact ih _ (group_ind (fun a => RowsOk as a) (fun r hr a m q h => h.take hr q) i.names a R1) g3 g2
  exact main line (initA f) (initA_rows f) (initA_rows f) h0
end
end Z

set_option Elab.async false
set_option linter.all false
set_option maxRecDepth 100000
set_option maxHeartbeats 4000000
namespace Z
open PySem PySem.Spec PySem.Calls PyProof.Rows L2
/-! ### bool(x) -/
section
variable {prog : Program} {w : World} {A : Around} {E : Value → Shared → Prop} {s : Shared}
end
variable [Row]
section
variable {X : Cx} {W : WX} {k : Nat} {tb : Tb}
/-- bool(x): a bool, an int, an own instance with __bool__ -/
def fBoolO (tb : Tb) : MF := fun ds s => match ds with
  | [.bl b] => .ok (.bl b) s
  | [d] => match insC s d with
    | some c => match tb.lookup c with
      | some F => (F [d] s).bind fun d1 s1 => match d1 with | .bl b => .ok (.bl b) s1 | _ => .no
      | none => .no
    | none => .no
  | _ => .no
def fBool1 : MF := fun ds s => match ds with
  | [.bl b] => .ok (.bl b) s
  | _ => .no
end
section
omit [Row]
variable {P : D → Sto → Prop} {E : Str → Str → D → Sto → Prop} {s : Sto}
@[simp ↓] theorem z_bool1 {b : Bool} : (fBool1 [.bl b] s).wp P E = P (.bl b) s := nr rfl
end
end Z

set_option Elab.async false
set_option linter.all false
set_option maxRecDepth 100000
set_option maxHeartbeats 4000000
namespace Z
open PySem PySem.Spec PyProof.Rows L2
/-! ### the run's equation, part by part (each part alone takes less memory) -/
end Z

set_option Elab.async false
set_option linter.all false
set_option maxRecDepth 100000
set_option maxHeartbeats 4000000
namespace Z
open PySem PySem.Spec PyProof.Rows L2
/-! ### dict(a list of pairs) -/
def fDictL : MF := fun ds s => match ds with
  | [.ref n] => match lstAt s n with
    | some xs => match xs.mapM pr2D with
      | some ps => .ok (.ref s.length) (s ++ [.dict false (mergeD [] ps)])
      | none => .no
    | _ => .no
  | _ => .no
variable [Row]
section
variable {X : Cx} {W : WX}
end
section
omit [Row]
variable {P : D → Sto → Prop} {E : Str → Str → D → Sto → Prop} {e : Ev} {s : Sto} {n : Nat}
end
end Z

set_option Elab.async false
set_option linter.all false
set_option maxRecDepth 100000
set_option maxHeartbeats 4000000
namespace Z
open PySem PySem.Spec PyProof.Rows L2 HT
/-! ### t[::-1] of a tuple -/
section
variable {prog : Program} {w : World} {A : Around} {E : Value → Shared → Prop} {s : Shared}
end
section
variable {X : Cx}
def tRevT (K : PySem.W.Frag) (te : TE) : TE := fun σ H Q => te σ H fun x H1 => ∃ a xs, x = .ref a ∧ SqT K H1 a xs ∧ ∀ p, H1 p = none → Q (.ref p) (upd H1 p (.tup xs.reverse))
end
variable [Row]
def mRevT (m : EM D) : EM D := fun e s => (m e s).bind fun d s1 => match d with
  | .tup xs => .ok (.tup xs.reverse) s1
  | _ => .no
section
omit [Row]
variable {P : D → Sto → Prop} {E : Str → Str → D → Sto → Prop} {e : Ev} {s : Sto} {m : EM D}
def tupP (d : D) (P : List D → Prop) : Prop := match d with
  | .tup xs => P xs
  | _ => False
@[simp] theorem tupP_tup {xs : List D} {P : List D → Prop} : tupP (.tup xs) P = P xs := rfl
@[simp ↓] theorem z_mRevT : (mRevT m e s).wp P E = (m e s).wp (fun d s1 => tupP d fun xs => P (.tup xs.reverse) s1) E := by
  unfold mRevT
  rw [z_bind]
  congr 1
  funext d s1
  unfold tupP
  cases d <;> rfl
end
end Z

set_option Elab.async false
set_option linter.all false
set_option maxRecDepth 100000
set_option maxHeartbeats 4000000
namespace Z
open PySem PySem.Spec PyProof.Rows L2 TL
open PySem.PyData (strOk)
/-! ### lines of single archives, told by the members taken -/
/-- the taken ones are of the store -/
def InS (as : List ArcA) (T : Tk) : Prop := ∀ t ∈ T, ∃ r ∈ as, t.1 = r.name ∧ t.2 ∈ r.mems
theorem InS.nil {as : List ArcA} : InS as [] := fun t h => by cases h
theorem InS.snoc {as : List ArcA} {T : Tk} (h : InS as T) {r : ArcA} {m : MemA} (hr : r ∈ as) (hm : m ∈ r.mems) : InS as (T ++ [(r.name, m)]) := fun t ht => by
  rcases List.mem_append.mp ht with ht | ht
  · exact h t ht
  · rw [List.mem_singleton.mp ht]
    exact ⟨r, hr, rfl, hm⟩
theorem uniq_name {α : Type} {g : α → Str} : ∀ {xs : List α}, (xs.map g).Nodup → ∀ {a b : α}, a ∈ xs → b ∈ xs → g a = g b → a = b
  | [], _, a, b, ha, _, _ => by cases ha
  | x :: xs, nd, a, b, ha, hb, e => by
    rw [List.map_cons, List.nodup_cons] at nd
    rcases List.mem_cons.mp ha with ha' | ha' <;> rcases List.mem_cons.mp hb with hb' | hb'
    · rw [ha', hb']
    · exact absurd (ha' ▸ e ▸ List.mem_map_of_mem hb') nd.1
    · exact absurd (hb' ▸ e ▸ List.mem_map_of_mem ha') nd.1
    · exact uniq_name nd.2 ha' hb' e
theorem fits_iff {as : List ArcA} (U : NamesU as) {f : FaceA} {T : Tk} (h : InS as T) {r : ArcA} (hr : r ∈ as) {u : MemA} (hu : u ∈ r.mems) : fitsT f T r.name u ↔ ∃ y ∈ dns u, opnT f T y := by
  constructor
  · exact fun h => h.2
  · rintro ⟨y, hy, ho⟩
    refine ⟨fun hk => ?_, y, hy, ho⟩
    obtain ⟨t, ht, e⟩ := List.mem_map.mp hk
    obtain ⟨q, hq, e1, e2⟩ := h t ht
    have e3 : t.1 = r.name := congrArg (·.1) e
    have e4 : t.2.name = u.name := congrArg (·.2) e
    obtain rfl : q = r := uniq_name U.nd hq hr (e1.symm.trans e3)
    have e5 : t.2 = u := uniq_name (U.mn q hq) e2 hu e4
    exact ho.2 (.inr ⟨t, ht, by rw [e5]; exact hy⟩)
/-- one name is open -/
def Op1 (f : FaceA) (T : Tk) (z : Str) : Prop := ∀ y, opnT f T y ↔ y = z
def Op0 (f : FaceA) (T : Tk) : Prop := ∀ y, ¬ opnT f T y
/-- the first definer -/
def firstM (z : Str) (r : ArcA) : Option MemA := r.mems.find? fun u => decide (z ∈ dns u)
section
variable {as : List ArcA} (U : NamesU as) {f : FaceA} {T : Tk} (h : InS as T) {a : LA} (t : TkL f T a)
include U h
theorem Op1.fits {z : Str} (o : Op1 f T z) {r : ArcA} (hr : r ∈ as) {u : MemA} (hu : u ∈ r.mems) : fitsT f T r.name u ↔ z ∈ dns u := by
  rw [fits_iff U h hr hu]
  exact ⟨fun ⟨y, h1, h2⟩ => (o y).mp h2 ▸ h1, fun h1 => ⟨z, h1, (o z).mpr rfl⟩⟩
theorem Op0.no (o : Op0 f T) {r : ArcA} (hr : r ∈ as) : NoT f T r := fun u hu hf => by
  obtain ⟨y, _, h2⟩ := (fits_iff U h hr hu).mp hf
  exact o y h2
theorem Op1.no {z : Str} (o : Op1 f T z) {r : ArcA} (hr : r ∈ as) (q : firstM z r = none) : NoT f T r := fun u hu hf => by
  have := List.find?_eq_none.mp q u hu
  exact this (decide_eq_true ((o.fits U h hr hu).mp hf))
theorem Op1.nx {z : Str} (o : Op1 f T z) {r : ArcA} (hr : r ∈ as) {m : MemA} (q : firstM z r = some m) : NxT f T r m := by
  obtain ⟨h1, us, vs, e, h2⟩ := List.find?_eq_some_iff_append.mp q
  have hm : m ∈ r.mems := by rw [e]; simp
  refine ⟨us, vs, e, fun u hu hf => ?_, (o.fits U h hr hm).mpr (of_decide_eq_true h1)⟩
  have hum : u ∈ r.mems := by rw [e]; exact List.mem_append_left _ hu
  have := h2 u hu
  have h3 := (o.fits U h hr hum).mp hf
  simp [h3] at this
include t
end
end Z

set_option Elab.async false
set_option linter.all false
set_option maxRecDepth 100000
set_option maxHeartbeats 4000000
namespace Z
open PySem PySem.Spec PyProof.Rows L2
/-! ### xs.index(x), xs.count(x) of texts, xs.insert(i, x) -/
section
variable {X : Cx}
def rIdxS (K : PySem.W.Frag) : V → List V → Hp → VK → Prop := fun x xs H Q => ∃ (a : Addr) (k : Str) (ys : List Str), x = .ref a ∧ xs = [.str k] ∧ SqL K H a (ys.map V.str) ∧ k ∈ ys ∧ Q (.int (ys.idxOf k : Nat)) H
def rCntS (K : PySem.W.Frag) : V → List V → Hp → VK → Prop := fun x xs H Q => ∃ (a : Addr) (k : Str) (ys : List Str), x = .ref a ∧ xs = [.str k] ∧ SqL K H a (ys.map V.str) ∧ Q (.int (ys.count k : Nat)) H
def rInsL (x : V) (vs : List V) (H : Hp) (Q : VK) : Prop := ∃ (l : Addr) (xs : List V) (i : Int) (y : V), x = .ref l ∧ vs = [.int i, y] ∧ H l = some (.lst xs) ∧ xs.length < sizeLine ∧ 0 ≤ i ∧ i < 2 ^ 63 ∧ Q .non (upd H l (.lst (xs.take i.toNat ++ [y] ++ xs.drop i.toNat)))
end
variable [Row]
section
variable {X : Cx} {W : WX}
def fIdxL (x : D) (ds : List D) (s : Sto) : Rs D := match x, ds with
  | .ref n, [.str k] => match lstAt s n with
    | some xs => match xs.mapM strD with
      | some ys => if k ∈ ys then .ok (.int (ys.idxOf k : Nat)) s else .no
      | none => .no
    | none => .no
  | _, _ => .no
def fCntL (x : D) (ds : List D) (s : Sto) : Rs D := match x, ds with
  | .ref n, [.str k] => match lstAt s n with
    | some xs => match xs.mapM strD with
      | some ys => .ok (.int (ys.count k : Nat)) s
      | none => .no
    | none => .no
  | _, _ => .no
def lIns (xs ds : List D) : Option (List D × D) := match ds with
  | [.int i, d] => if xs.length < sizeLine ∧ 0 ≤ i ∧ i < 2 ^ 63 then some (xs.take i.toNat ++ [d] ++ xs.drop i.toNat, .non) else none
  | _ => none
end
section
omit [Row]
variable {P : D → Sto → Prop} {E : Str → Str → D → Sto → Prop} {s : Sto} {n : Nat}
end
end Z

set_option Elab.async false
set_option linter.all false
set_option maxRecDepth 100000
set_option maxHeartbeats 4000000
namespace Z
open PySem PySem.Spec PyProof.Rows L2
/-! ### sum(a list of ints) -/
variable [Row]
def numD : D → Option Int
  | .int b => some b
  | _ => none
section
variable {X : Cx} {W : WX}
def fSum (ds : List D) (s : Sto) : Rs D := match ds with
  | [.ref n] => match (lstAt s n).bind fun xs => xs.mapM numD with
    | some bs => .ok (.int bs.sum) s
    | none => .no
  | _ => .no
end
section
omit [Row]
variable {P : D → Sto → Prop} {E : Str → Str → D → Sto → Prop} {s : Sto} {n : Nat}
end
end Z

set_option Elab.async false
set_option linter.all false
set_option maxRecDepth 100000
set_option maxHeartbeats 4000000
namespace Z
open PySem PySem.Spec PyProof.Rows L2 TL
open PySem.PyData (strOk)
/-! ### two links side by side: the same members are taken -/
structure Two (c : Nat) (R : LA → LA → Prop) (as bs : List ArcA) (g : ArcA → ArcA) (X : List Str) : Prop where
  nm : ∀ r ∈ as, (g r).name = r.name
  arc : ∀ x ∈ X, arcOf bs x = (arcOf as x).map g
  nx : ∀ r ∈ as, ∀ a b, R a b → nextM b (g r) = nextM a r
  st : ∀ r ∈ as, ∀ a b m, nextM a r = some m → R a b → R (takeL a r.name m) (takeL b r.name m)
  len : ∀ a b, R a b → a.rows.length = b.rows.length + c
section
variable {c : Nat} {R : LA → LA → Prop} {as bs : List ArcA} {g : ArcA → ArcA} {X : List Str} (H : Two c R as bs g X)
include H
theorem Two.search {r : ArcA} (hr : r ∈ as) : ∀ (n : Nat) (a b : LA), leftL a r ≤ n → R a b → R (searchA a r) (searchA b (g r)) := by
  intro n
  induction n with
  | zero =>
    intro a b hn h
    have h1 := left_zero (a := a) (r := r) (by omega)
    rw [searchA_none (a := a) h1, searchA_none (a := b) (by rw [H.nx r hr a b h, h1])]
    exact h
  | succ n ih =>
    intro a b hn h
    cases q : nextM a r with
    | none =>
      rw [searchA_none (a := a) q, searchA_none (a := b) (by rw [H.nx r hr a b h, q])]
      exact h
    | some m =>
      have := left_take q
      rw [searchA_some (a := a) q, searchA_some (a := b) (r := g r) (m := m) (by rw [H.nx r hr a b h, q]), H.nm r hr]
      exact ih _ _ (by omega) (H.st r hr a b m q h)
theorem Two.round : ∀ (names : List Str), (∀ x ∈ names, x ∈ X) → ∀ (a b : LA), R a b → R (roundA as names a) (roundA bs names b)
  | [], _, a, b, h => h
  | x :: names, hx, a, b, h => by
    have e : ∀ (cs : List ArcA) (c : LA), roundA cs (x :: names) c = roundA cs names (match arcOf cs x with | some r => searchA c r | none => c) := fun cs c => by
      unfold roundA
      rw [List.foldl_cons]
      first | done | (cases arcOf cs x <;> rfl)
    rw [e as, e bs, H.arc x (hx x (by simp))]
    have hx' : ∀ y ∈ names, y ∈ X := fun y hy => hx y (List.mem_cons_of_mem _ hy)
    cases q : arcOf as x with
    | none => exact Two.round names hx' a b h
    | some r =>
      dsimp only [Option.map_some]
      exact Two.round names hx' _ _ (H.search (List.mem_of_find?_eq_some q) _ a b (Nat.le_refl _) h)
theorem Two.group (names : List Str) (hx : ∀ x ∈ names, x ∈ X) : ∀ (n : Nat) (a b : LA), RowsOk as a → RowsOk bs b → (memKeys as).length - a.rows.length ≤ n → R a b → R (groupA as names a) (groupA bs names b) := by
  intro n
  induction n with
  | zero =>
    intro a b R1 R2 hn h
    have r1 := H.round names hx a b h
    have s1 := groupA_step (names := names) R1 (fun b => round_rows b) (fun b => round_mono b)
    have s2 := groupA_step (names := names) R2 (fun b => round_rows b) (fun b => round_mono b)
    have R1' := round_rows (names := names) a R1
    have mo := round_mono (as := as) (names := names) a
    have l1 := R1'.len
    have q1 := H.len _ _ r1
    have q0 := H.len _ _ h
    have e : (roundA as names a).rows.length = a.rows.length := by omega
    rw [if_pos e] at s1
    rw [if_pos (by omega)] at s2
    rw [s1, s2]
    exact r1
  | succ n ih =>
    intro a b R1 R2 hn h
    have r1 := H.round names hx a b h
    have s1 := groupA_step (names := names) R1 (fun b => round_rows b) (fun b => round_mono b)
    have s2 := groupA_step (names := names) R2 (fun b => round_rows b) (fun b => round_mono b)
    have R1' := round_rows (names := names) a R1
    have R2' := round_rows (names := names) b R2
    have mo := round_mono (as := as) (names := names) a
    have q1 := H.len _ _ r1
    have q0 := H.len _ _ h
    by_cases e : (roundA as names a).rows.length = a.rows.length
    · rw [if_pos e] at s1
      rw [if_pos (by omega)] at s2
      rw [s1, s2]
      exact r1
    · rw [if_neg e] at s1
      rw [if_neg (by omega)] at s2
      rw [s1, s2]
      exact ih _ _ R1' R2' (by omega) r1
theorem Two.line : ∀ (line : List ItA), (∀ i ∈ line, ∀ x ∈ i.names, x ∈ X) → ∀ (a b : LA), RowsOk as a → RowsOk bs b → R a b → R (line.foldl (fun a i => groupA as i.names a) a) (line.foldl (fun a i => groupA bs i.names a) b)
  | [], _, a, b, _, _, h => h
  | i :: line, hl, a, b, R1, R2, h => by
    rw [List.foldl_cons, List.foldl_cons]
    exact Two.line line (fun j hj => hl j (List.mem_cons_of_mem _ hj)) _ _ (group_ind (fun a => RowsOk as a) (fun r hr a m q h => h.take hr q) i.names a R1) (group_ind (fun a => RowsOk bs a) (fun r hr a m q h => h.take hr q) i.names b R2) (H.group i.names (hl i (by simp)) _ a b R1 R2 (Nat.le_refl _) h)
theorem Two.link (line : List ItA) (hl : ∀ i ∈ line, ∀ x ∈ i.names, x ∈ X) (f f' : FaceA) (h0 : R (initA f) (initA f')) : R (linkA as line f) (linkA bs line f') := H.line line hl _ _ (initA_rows f) (initA_rows f') h0
end
/-! ### a face with names that no archive mentions -/
/-- no member of the store defines or wants one of some names -/
def FarN (as : List ArcA) (Y : List Str) : Prop := ∀ r ∈ as, ∀ m ∈ r.mems, ∀ y ∈ Y, y ∉ dns m ∧ y ∉ m.wants
structure FSim (Y : List Str) (a b : LA) : Prop where
  rows : b.rows = a.rows
  fk : ∀ y, y ∉ Y → (y ∈ b.found.map (·.1) ↔ y ∈ a.found.map (·.1))
  wk : ∀ y, y ∉ Y → ∀ v, (y, v) ∈ b.wby ↔ (y, v) ∈ a.wby
theorem wby_keys {w : List (Str × Option (Str × Str))} {y : Str} : y ∈ w.map (·.1) ↔ ∃ v, (y, v) ∈ w := by
  rw [List.mem_map]
  constructor
  · rintro ⟨⟨a, b⟩, h, rfl⟩
    exact ⟨b, h⟩
  · rintro ⟨v, h⟩
    exact ⟨_, h, rfl⟩
theorem FSim.opn {Y : List Str} {a b : LA} (s : FSim Y a b) {y : Str} (h : y ∉ Y) : y ∈ openL b ↔ y ∈ openL a := by
  rw [open_in, open_in, s.fk y h, wby_keys, wby_keys]
  simp only [s.wk y h]
theorem FSim.fits {Y : List Str} {a b : LA} (s : FSim Y a b) {x : Str} {m : MemA} (h : ∀ y ∈ dns m, y ∉ Y) : fitsB b x m = fitsB a x m := by
  unfold fitsB
  rw [s.rows]
  congr 1
  rw [Bool.eq_iff_iff, List.any_eq_true, List.any_eq_true]
  constructor
  · rintro ⟨y, h1, h2⟩
    have hy := of_decide_eq_true h2
    exact ⟨y, (s.opn (h y hy)).mp h1, h2⟩
  · rintro ⟨y, h1, h2⟩
    have hy := of_decide_eq_true h2
    exact ⟨y, (s.opn (h y hy)).mpr h1, h2⟩
theorem sorted_eq {xs ys : List Str} (p : xs.Perm ys) (h1 : xs.Pairwise fun a b => leS a b = true) (h2 : ys.Pairwise fun a b => leS a b = true) : xs = ys := by
  have := sortS_uniq p
  rwa [sortS_of h1, sortS_of h2] at this
theorem openL_sorted (a : LA) : (openL a).Pairwise fun x y => leS x y = true := by
  unfold openL
  exact sortS_sorted _
theorem FSim.cause {Y : List Str} {a b : LA} (s : FSim Y a b) (na : (openL a).Nodup) (nb : (openL b).Nodup) {m : MemA} (h : ∀ y ∈ dns m, y ∉ Y) : causeL b m = causeL a m := by
  unfold causeL
  congr 1
  refine sorted_eq ?_ ((openL_sorted b).filter _) ((openL_sorted a).filter _)
  refine (List.perm_ext_iff_of_nodup (nb.filter _) (na.filter _)).mpr fun y => ?_
  rw [List.mem_filter, List.mem_filter]
  constructor
  · rintro ⟨h1, h2⟩
    exact ⟨(s.opn (h y (of_decide_eq_true h2))).mp h1, h2⟩
  · rintro ⟨h1, h2⟩
    exact ⟨(s.opn (h y (of_decide_eq_true h2))).mpr h1, h2⟩
theorem putW_memV {w : List (Str × Option (Str × Str))} {x y : Str} {u v : Option (Str × Str)} : (y, v) ∈ putW w x u ↔ (y, v) ∈ w ∨ (y = x ∧ v = u ∧ x ∉ w.map (·.1)) := by
  unfold putW
  split
  · rename_i h
    exact ⟨.inl, fun z => z.elim id fun e => absurd h e.2.2⟩
  · rename_i h
    rw [List.mem_append, List.mem_singleton]
    constructor
    · rintro (h1 | h1)
      · exact .inl h1
      · injection h1 with h1 h2
        exact .inr ⟨h1, h2, h⟩
    · rintro (h1 | ⟨h1, h2, _⟩)
      · exact .inl h1
      · exact .inr (by rw [h1, h2])
theorem foldW_sim {Y : List Str} {v : Option (Str × Str)} : ∀ (ws : List Str) (w w' : List (Str × Option (Str × Str))), (∀ x ∈ ws, x ∉ Y) → (∀ y, y ∉ Y → ∀ u, (y, u) ∈ w' ↔ (y, u) ∈ w) → ∀ y, y ∉ Y → ∀ u, (y, u) ∈ ws.foldl (fun w x => putW w x v) w' ↔ (y, u) ∈ ws.foldl (fun w x => putW w x v) w
  | [], w, w', _, h => h
  | x :: ws, w, w', hx, h => by
    rw [List.foldl_cons, List.foldl_cons]
    refine foldW_sim ws _ _ (fun y hy => hx y (List.mem_cons_of_mem _ hy)) fun y hy u => ?_
    rw [putW_memV, putW_memV, h y hy, wby_keys, wby_keys]
    have := h x (hx x (by simp))
    simp only [this]
theorem FSim.take {as : List ArcA} {Y : List Str} (F : FarN as Y) {a b : LA} (s : FSim Y a b) (na : (openL a).Nodup) (nb : (openL b).Nodup) {r : ArcA} (hr : r ∈ as) {m : MemA} (hm : m ∈ r.mems) : FSim Y (takeL a r.name m) (takeL b r.name m) := by
  have h1 : ∀ y ∈ dns m, y ∉ Y := fun y hy z => (F r hr m hm y z).1 hy
  have h2 : ∀ y ∈ m.wants, y ∉ Y := fun y hy z => (F r hr m hm y z).2 hy
  refine ⟨?_, fun y hy => ?_, foldW_sim m.wants _ _ h2 s.wk⟩
  · rw [take_rows, take_rows, s.rows, s.cause na nb h1]
  · rw [found_take, found_take, s.fk y hy]
/-- the two faces: g has more names, all of them in Y -/
structure More (Y : List Str) (f g : FaceA) : Prop where
  mem : ∀ y, y ∉ Y → ∀ w, (y, w) ∈ g ↔ (y, w) ∈ f
theorem initW_memV {f : FaceA} {y : Str} {v : Option (Str × Str)} : (y, v) ∈ initW f ↔ (y, ("wanted" : Str)) ∈ f ∧ v = none := by
  unfold initW
  rw [List.mem_map]
  constructor
  · rintro ⟨p, hp, e⟩
    obtain ⟨h1, h2⟩ := List.mem_filter.mp hp
    have : p.2 = ("wanted" : Str) := of_decide_eq_true h2
    injection e with e1 e2
    refine ⟨?_, e2.symm⟩
    rw [← e1, ← this]
    exact h1
  · rintro ⟨h, rfl⟩
    exact ⟨_, List.mem_filter.mpr ⟨h, by simp⟩, rfl⟩
theorem initF_memV {f : FaceA} {y : Str} : y ∈ (initF f).map (·.1) ↔ ∃ w, (y, w) ∈ f ∧ w ≠ ("wanted" : Str) := by
  unfold initF
  rw [List.map_map, List.mem_map]
  constructor
  · rintro ⟨p, hp, rfl⟩
    obtain ⟨h1, h2⟩ := List.mem_filter.mp hp
    exact ⟨p.2, h1, by simpa using h2⟩
  · rintro ⟨w, h1, h2⟩
    exact ⟨(y, w), List.mem_filter.mpr ⟨h1, by simpa using h2⟩, rfl⟩
theorem FSim.init {Y : List Str} {f g : FaceA} (M : More Y f g) : FSim Y (initA f) (initA g) := by
  refine ⟨rfl, fun y hy => ?_, fun y hy v => ?_⟩
  · show y ∈ (initF g).map (·.1) ↔ y ∈ (initF f).map (·.1)
    rw [initF_memV, initF_memV]
    simp only [M.mem y hy]
  · show (y, v) ∈ initW g ↔ (y, v) ∈ initW f
    rw [initW_memV, initW_memV, M.mem y hy]
theorem openL_nd {a : LA} (h : (a.wby.map (·.1)).Nodup) : (openL a).Nodup := by
  unfold openL
  exact (sortS_perm _).nodup_iff.mpr (h.filter _)
end Z

set_option Elab.async false
set_option linter.all false
set_option maxRecDepth 100000
set_option maxHeartbeats 4000000
namespace Z
open PySem PySem.Spec PyProof.Rows L2
/-! ### {k: v for a in .. for b in ..}: the machine's two loops -/
abbrev dE (kx vx t0 i0 : Expr) (f0 : List Expr) (t1 i1 : Expr) (f1 : List Expr) (sc : Scope) (ps : Pos) : Expr := .DictComp kx vx [⟨t0, i0, f0, 0⟩, ⟨t1, i1, f1, 0⟩] sc ps
/-- a clause's tests, one after another -/
abbrev tsts (fs : List Expr) (env : Env) : Sem Bool := forIn fs true fun c r => if r = true then do let ok ← isTrue c env (eval c env); pure (ForInStep.yield ok) else pure (ForInStep.yield r)
section
variable {kx vx t0 i0 t1 i1 : Expr} {f0 f1 : List Expr} {sc : Scope} {ps : Pos} {env : Env} {it acc : Value} {D : Addr}
variable {P : Program} {w : World} {A : Around} {R : Result → Shared → Prop} {s : Shared}
/-- what no evaluation of the block does -/
abbrev NoE : Value → Shared → Prop := fun _ _ => False
/-- a turn: the next item stored and looked at; body where the tests hold -/
def TurnW (P : Program) (w : World) (A : Around) (tg : Expr) (fs : List Expr) (env : Env) (it : Value) (fin : Shared → Prop) (body next : Shared → Prop) (s : Shared) : Prop :=
  wpAny (model P w) A (pyNext it) (fun r s1 => match r with
    | none => fin s1
    | some u => wpAny (model P w) A (letOwnedTupleGo tg it u) (fun _ s2 => wpAny (model P w) A (assign tg env u) (fun _ s3 =>
        wpAny (model P w) A (tsts fs env) (fun b s4 => if b = true then body s4 else next s4) NoE s3) NoE s2) NoE s1) NoE s
end
end Z

set_option Elab.async false
set_option linter.all false
set_option maxRecDepth 100000
set_option maxHeartbeats 4000000
namespace Z
open PySem PySem.Spec PyProof.Rows L2
/-! ### {k: v for a in .. for b in ..}: a rule -/
section
variable {Y : Cx} {tg : Expr} {fs : List Expr} {J : It} {fp : List Addr} {it : Addr} {tn : Nat → Heap → Prop} {g : L2.TG} {tt : TT} {vs : List Nat}
/-- behind a turn's store and tests: the iterator's objects are pinned -/
structure Aft (Y : Cx) (fp : List Addr) (tn : Nat → Heap → Prop) (vs : List Nat) (j : Nat) (pins : List (Addr × Obj)) (σ : L2.St) (B : L2.St → Hp → Prop) (s : Shared) : Prop where
  ex : ∃ (τ : L2.St) (H : Hp) (hp : Heap), Inv Y (pins ++ pinsAt fp hp) τ H s ∧ wipe τ vs = wipe σ vs ∧ tn (j + 1) hp ∧ B τ H
/-- what a clause is to tell of its j-th turn -/
def ClauseT (J : It) (g : L2.TG) (tt : TT) (vs : List Nat) (σ : L2.St) (j : Nat) (H : Hp) (Fin Nx : Hp → Prop) (Bd : L2.St → Hp → Prop) : Prop :=
  (J.stop j H ∧ Fin H) ∨ (J.go j H ∧ ∀ x H1, J.yld j H x H1 → g x (wipe σ vs) H1 fun τ H2 => wipe τ vs = wipe σ vs ∧ tt τ H2 fun b H3 => if b = true then Bd τ H3 else Nx H3)
end
section
variable {X : Cx}
/-- the rule's word: as for a list of two walks, the last step puts a key -/
def tDc2 (wi : L2.TI) (g : L2.TG) (tt : TT) (wi1 : L2.TI) (g1 : L2.TG) (tt1 : TT) (tk tv : TE) (vs vs1 : List Nat) : TE := fun σ H Q => wi σ H fun J H1 => ∀ D, H1 D = none → ∃ W : Nat → Nat → Hp → Prop, (∃ m, W 0 m (upd H1 D (.dK []))) ∧
  ∀ i m H, W i m H → ∃ Nx : Hp → Prop, (∀ H', Nx H' → ∃ m', m' < m ∧ W (i + 1) m' H') ∧ ClauseT J g tt vs σ i H (Q (.ref D)) Nx fun τ H3 => wi1 τ H3 fun J1 H4 => ∃ W1 : Nat → Nat → Hp → Prop, (∃ m, W1 0 m H4) ∧
    ∀ j k H, W1 j k H → ∃ Nx1 : Hp → Prop, (∀ H', Nx1 H' → ∃ k', k' < k ∧ W1 (j + 1) k' H') ∧ ClauseT J1 g1 tt1 vs1 τ j H Nx Nx1 fun τ1 H6 => tk τ1 H6 fun y H7 => tv τ1 H7 fun z H8 => ∃ kvs k, y = kV k ∧ H8 D = some (.dK kvs) ∧ kvs.length < sizeLine ∧ Nx1 (upd H8 D (.dK (putK kvs k z)))
variable {kx vx t0 i0 t1 i1 : Expr} {f0 f1 : List Expr} {sc : Scope} {ps ps' : Pos} {own : List (Str × Nat)} {vs1 : List Nat} {wi wi1 : L2.TI} {g g1 : L2.TG} {tt tt1 : TT} {tk tv : TE}
/-- a rule of the block, wherever the block stands -/
abbrev InBlk (X : Cx) (sc : Scope) (F : Cx → Prop) : Prop := ∀ (s : Shared) (H : Hp) (C : Addr) (cl : List (Str × Addr)) (fp : List Addr), F (X.blk s H sc (compEnvC sc cl C X.env) fp)
end
end Z

set_option Elab.async false
set_option linter.all false
set_option maxRecDepth 100000
set_option maxHeartbeats 4000000
namespace Z
open PySem PySem.Spec PyProof.Rows L2
section
variable {X : Cx} {kx vx t0 i0 t1 i1 : Expr} {f0 f1 : List Expr} {sc : Scope} {ps ps' : Pos} {own : List (Str × Nat)} {vs1 : List Nat} {wi wi1 : L2.TI} {g g1 : L2.TG} {tt tt1 : TT} {tk tv : TE}
end
end Z

set_option Elab.async false
set_option linter.all false
set_option maxRecDepth 100000
set_option maxHeartbeats 4000000
namespace Z
open PySem PySem.Spec PyProof.Rows L2
/-! ### {k: v for a in .. for b in ..} of values -/
def dcI (j : Stp) (g : GN) (t : EM Bool) (mk mv : EM D) (l : Nat) : Nat → Nat → Ev → Sto → Rs Unit
  | 0, i, e, s => match j i s with
    | some none => .ok () s
    | _ => .no
  | f + 1, i, e, s => match j i s with
    | none => .no
    | some none => .ok () s
    | some (some d) => match g d e with
      | none => .no
      | some e1 => (t e1 s).nox.bind fun q s1 => if q then (mk e1 s1).nox.bind fun y s2 => (mv e1 s2).nox.bind fun z s3 => match s3[l]? with
          | some (.dict false kvs) => match keyD y with
            | some k => if kvs.length < sizeLine then dcI j g t mk mv l f (i + 1) e (s3.set l (.dict false (putKd kvs y k z))) else .no
            | none => .no
          | _ => .no
        else dcI j g t mk mv l f (i + 1) e s1
def dcL2 (j : Stp) (g : GN) (t : EM Bool) (mi1 : EM (Nat × Stp)) (g1 : GN) (t1 : EM Bool) (mk mv : EM D) (vs1 : List Nat) (l : Nat) : Nat → Nat → Ev → Sto → Rs D
  | 0, i, e, s => match j i s with
    | some none => .ok (.ref l) s
    | _ => .no
  | f + 1, i, e, s => match j i s with
    | none => .no
    | some none => .ok (.ref l) s
    | some (some d) => match g d e with
      | none => .no
      | some e1 => (t e1 s).nox.bind fun q s1 => if q then (mi1 e1 s1).nox.bind fun jt s2 => (dcI jt.2 g1 t1 mk mv l jt.1 0 (wipeD e1 vs1) s2).bind fun _ s3 => dcL2 j g t mi1 g1 t1 mk mv vs1 l f (i + 1) e s3
        else dcL2 j g t mi1 g1 t1 mk mv vs1 l f (i + 1) e s1
def mDc2 (mi : EM (Nat × Stp)) (g : GN) (t : EM Bool) (mi1 : EM (Nat × Stp)) (g1 : GN) (t1 : EM Bool) (mk mv : EM D) (vs vs1 : List Nat) : EM D := fun e s => (mi e s).bind fun jt s1 => dcL2 jt.2 g t mi1 g1 t1 mk mv vs1 s1.length jt.1 0 (wipeD e vs) (s1 ++ [.dict false []])
variable [Row]
section
variable {X : Cx} {W : WX} {pos : Pos} {kx vx tg iter tg1 iter1 : Expr} {ifs ifs1 : List Expr} {scope : Scope} {own : List (Str × Nat)} {mi mi1 : EM (Nat × Stp)} {g g1 : GN} {is is1 : List Nat} {t t1 : EM Bool} {mk mv : EM D}
end
end Z

set_option Elab.async false
set_option linter.all false
set_option maxRecDepth 100000
set_option maxHeartbeats 4000000
namespace Z
open PySem PySem.Spec PyProof.Rows L2
/-! ### d.update(another dict) -/
section
variable {X : Cx}
def rUpdD : V → List V → Hp → VK → Prop := fun x xs H Q => ∃ (a b : Addr) (ks ls : List (Key × V)), x = .ref a ∧ xs = [.ref b] ∧ H a = some (.dK ks) ∧ H b = some (.dK ls) ∧ a ≠ b ∧ ks.length + ls.length ≤ sizeLine ∧ Q .non (upd H a (.dK (mergeK ks ls)))
end
variable [Row]
section
variable {X : Cx} {W : WX}
def fUpdD (x : D) (ds : List D) (s : Sto) : Rs D := match x, ds with
  | .ref n, [.ref m] => match s[n]?, s[m]? with
    | some (.dict false ks), some (.dict false ls) => if n ≠ m ∧ ks.length + ls.length ≤ sizeLine then .ok .non (s.set n (.dict false (mergeD ks ls))) else .no
    | _, _ => .no
  | _, _ => .no
end
section
omit [Row]
variable {P : D → Sto → Prop} {E : Str → Str → D → Sto → Prop} {s : Sto} {n m : Nat}
end
end Z

set_option Elab.async false
set_option linter.all false
set_option maxRecDepth 100000
set_option maxHeartbeats 4000000
namespace Z
open PySem PySem.Spec PySem.Calls PyProof.Rows L2
/-! ### sorted(d.items()) -/
section
variable {X : Cx}
def rItemsK : V → List V → Hp → VK → Prop := fun x xs H Q => ∃ (a : Addr) (ks : List (Key × V)), x = .ref a ∧ xs = [] ∧ H a = some (.dK ks) ∧ ∀ p, H p = none → Q (.ref p) (upd H p (L2.DX.itemsO p a))
/-- sorted(view): the pairs come as tuples ts, and are sorted by what they read as -/
def rSortView (X : Cx) : List V → Hp → VK → Prop := fun xs H Q => ∃ (p a : Addr) (ks : List (Key × V)), xs = [.ref p] ∧ H p = some (L2.DX.itemsO p a) ∧ H a = some (.dK ks) ∧
  ∀ (H1 : Hp) (ts : List Addr), (∀ b o, H b = some o → H1 b = some o) → ts.length = ks.length → (∀ (j : Nat) (t : Addr) (q : Key × V), ts[j]? = some t → ks[j]? = some q → H1 t = some (.tup [kV q.1, q.2])) →
    ∃ ps : List (PyData × V), ps.map (·.2) = ts.map V.ref ∧ (∀ p ∈ ps, Dp X.K H1 p.2 p.1) ∧ PySem.W.AllAlike (ps.map (·.1)) ∧ PySem.W.Sortable (ps.map (·.1)) ∧ (∀ p ∈ ps, X.A.units + 2 + p.1.depth < cLine) ∧
      ∀ l, H1 l = none → Q (.ref l) (upd H1 l (.lst ((ps.mergeSort (PySem.W.dataLe false (·.1))).map (·.2))))
end
variable [Row]
section
variable {X : Cx} {W : WX}
def fSortI : MF := fun ds s => match ds with
  | [.ref n] => match s[n]? with
    | some (.dict false kvs) => if canSort s (kvs.map fun p => .tup [p.1, p.2]) = true then .ok (.ref s.length) (s ++ [.lst (sortD s (kvs.map fun p => .tup [p.1, p.2]))]) else .no
    | _ => .no
  | _ => .no
end
section
omit [Row]
variable {P : D → Sto → Prop} {E : Str → Str → D → Sto → Prop} {s : Sto} {n : Nat}
end
end Z

set_option Elab.async false
set_option linter.all false
set_option maxRecDepth 100000
set_option maxHeartbeats 4000000
namespace Z
open PySem PySem.Spec PySem.Calls PyProof.Rows L2
/-! ### isinstance(x, (list, tuple)) -/
def KdLT (K : PySem.W.Frag) (H : Hp) (x : V) (b : Bool) : Prop := (b = true ∧ ∃ (t : Addr) (xs : List V), x = .ref t ∧ (SqT K H t xs ∨ SqL K H t xs)) ∨ (b = false ∧ (x = .non ∨ (∃ q, x = .bl q) ∨ (∃ i, x = .int i) ∨ ∃ y, x = .str y))
def tIsLT (K : PySem.W.Frag) (te : TE) : TE := fun σ H Q => te σ H fun x H1 => ∃ b, KdLT K H1 x b ∧ ∀ T, H1 T = none → Q (.bl b) (upd H1 T (.tup [.ty "list", .ty "tuple"]))
section
variable {X : Cx} {p pos tpos : Pos} {e : Expr} {es : List Expr} {te : TE}
end
def ltB (s : Sto) : D → Option Bool
  | .tup _ => some true
  | .ref n => match s[n]? with
    | some (.lst _) => some true
    | some (.frz _) => some true
    | some (.ptp _) => some true
    | _ => none
  | .non => some false
  | .bl _ => some false
  | .int _ => some false
  | .str _ => some false
def mIsLT (m : EM D) : EM D := fun e s => (m e s).bind fun d s1 => match ltB s1 d with
  | some b => .ok (.bl b) s1
  | none => .no
variable [Row]
section
variable {X : Cx} {W : WX} {p p1 p2 pos tpos : Pos} {e : Expr} {m : EM D} {k : Nat}
end
section
omit [Row]
variable {P : D → Sto → Prop} {E : Str → Str → D → Sto → Prop} {e : Ev} {s : Sto} {m : EM D}
@[simp ↓] theorem z_mIsLT : (mIsLT m e s).wp P E = (m e s).wp (fun d s1 => optP (ltB s1 d) fun b => P (.bl b) s1) E := by
  unfold mIsLT
  rw [z_bind]
  congr 1
  funext d s1
  cases ltB s1 d with
  | none => rfl
  | some b => simp only [z_ok, optP_some]
end
end Z

set_option Elab.async false
set_option linter.all false
set_option maxRecDepth 100000
set_option maxHeartbeats 4000000
namespace Z
open PySem PySem.Spec PyProof.Rows L2 TL
open PySem.PyData (strOk)
/-! ### dicts from texts to texts -/
def lookF (f : FaceA) (y : Str) : Option Str := (f.find? fun p => decide (p.1 = y)).map (·.2)
def putFd (f : FaceA) (y w : Str) : FaceA := if y ∈ f.map (·.1) then f.map (fun p => if p.1 = y then (p.1, w) else p) else f ++ [(y, w)]
theorem putFd_keys (f : FaceA) (y w : Str) : (putFd f y w).map (·.1) = if y ∈ f.map (·.1) then f.map (·.1) else f.map (·.1) ++ [y] := by
  unfold putFd
  split
  · rw [List.map_map]
    refine List.map_congr_left fun p _ => ?_
    show (if p.1 = y then (p.1, w) else p).1 = p.1
    split <;> rfl
  · rw [List.map_append]
    rfl
theorem putFd_nd {f : FaceA} {y w : Str} (h : (f.map (·.1)).Nodup) : ((putFd f y w).map (·.1)).Nodup := by
  rw [putFd_keys]
  split
  · exact h
  · rename_i hy
    rw [List.nodup_append]
    exact ⟨h, by simp, fun a ha b hb e => hy (by rw [List.mem_singleton.mp hb] at e; exact e ▸ ha)⟩
theorem putFd_mem {f : FaceA} {y w : Str} (h : (f.map (·.1)).Nodup) (z v : Str) : (z, v) ∈ putFd f y w ↔ (z = y ∧ v = w) ∨ (z ≠ y ∧ (z, v) ∈ f) := by
  unfold putFd
  split
  · rename_i hy
    rw [List.mem_map]
    constructor
    · rintro ⟨p, hp, e⟩
      split at e
      · rename_i q
        injection e with e1 e2
        exact .inl ⟨by rw [← e1, q], e2.symm⟩
      · rename_i q
        subst e
        exact .inr ⟨q, hp⟩
    · rintro (⟨rfl, rfl⟩ | ⟨h1, h2⟩)
      · obtain ⟨p, hp, e⟩ := List.mem_map.mp hy
        exact ⟨p, hp, by rw [if_pos e, e]⟩
      · exact ⟨_, h2, if_neg h1⟩
  · rename_i hy
    rw [List.mem_append, List.mem_singleton]
    constructor
    · rintro (h1 | h1)
      · exact .inr ⟨fun e => hy (by rw [← e]; exact List.mem_map_of_mem (f := (·.1)) h1), h1⟩
      · injection h1 with e1 e2
        exact .inl ⟨e1, e2⟩
    · rintro (⟨rfl, rfl⟩ | ⟨_, h2⟩)
      · exact .inr rfl
      · exact .inl h2
theorem lookF_mem {f : FaceA} {y w : Str} (nd : (f.map (·.1)).Nodup) : lookF f y = some w ↔ (y, w) ∈ f := by
  unfold lookF
  constructor
  · intro h
    obtain ⟨p, h1, h2⟩ := Option.map_eq_some_iff.mp h
    have e : p.1 = y := by simpa using List.find?_some h1
    have hm := List.mem_of_find?_eq_some h1
    obtain ⟨a, b⟩ := p
    have e : a = y := e
    have h2 : b = w := h2
    subst e h2
    exact hm
  · intro h
    cases q : f.find? fun p => decide (p.1 = y) with
    | none =>
      have := List.find?_eq_none.mp q _ h
      simp at this
    | some p =>
      have e : p.1 = y := by simpa using List.find?_some q
      have := uniq_name (g := fun p : Str × Str => p.1) nd (List.mem_of_find?_eq_some q) h e
      rw [this]
      rfl
theorem lookF_none {f : FaceA} {y : Str} : lookF f y = none ↔ y ∉ f.map (·.1) := by
  unfold lookF
  rw [Option.map_eq_none_iff, List.find?_eq_none]
  constructor
  · intro h z
    obtain ⟨p, hp, rfl⟩ := List.mem_map.mp z
    have := h p hp
    simp at this
  · intro h p hp
    simp only [decide_eq_true_eq]
    exact fun e => h (by rw [← e]; exact List.mem_map_of_mem hp)
theorem lookF_put {f : FaceA} {y w z : Str} (nd : (f.map (·.1)).Nodup) : lookF (putFd f y w) z = if z = y then some w else lookF f z := by
  by_cases e : z = y
  · rw [if_pos e]
    exact (lookF_mem (putFd_nd nd)).mpr ((putFd_mem nd z w).mpr (.inl ⟨e, rfl⟩))
  · rw [if_neg e]
    cases q : lookF f z with
    | some v => exact (lookF_mem (putFd_nd nd)).mpr ((putFd_mem nd z v).mpr (.inr ⟨e, (lookF_mem nd).mp q⟩))
    | none =>
      refine lookF_none.mpr fun h => ?_
      obtain ⟨p, hp, rfl⟩ := List.mem_map.mp h
      rcases (putFd_mem nd p.1 p.2).mp hp with ⟨h1, _⟩ | ⟨_, h1⟩
      · exact e h1
      · exact lookF_none.mp q (List.mem_map_of_mem h1)
end Z

set_option Elab.async false
set_option linter.all false
set_option maxRecDepth 100000
set_option maxHeartbeats 4000000
namespace Z
open PySem PySem.Spec PyProof.Rows L2 TL
open PySem.PyData (strOk)
/-! ### drawn stores -/
theorem dns_mB {w : RowB} {z : Str} : z ∈ dns (memB w) ↔ z ∈ w.gs.map (·.1) := by
  show z ∈ (sortP w.gs).map (·.1) ↔ _
  exact ((sortP_perm w.gs).map _).mem_iff
theorem wants_mB {w : RowB} {z : Str} : z ∈ (memB w).wants ↔ z ∈ w.ws := (sortS_perm w.ws).mem_iff
def arcQ (ps : List ArcB) (x : Str) : Option ArcB := ps.find? fun p => decide (p.1 = x)
def rowsQ (ps : List ArcB) (x : Str) : List RowB := ((arcQ ps x).map (·.2)).getD []
/-! the members by archives, as a dict -/
def memKv (ps : List ArcB) : List (D × D) := ps.map fun p => (.str p.1, .tup (p.2.map rowB))
/-! ### a link told by the members taken, any face -/
theorem fits_iff2 {a : LA} {x : Str} {m : MemA} : fitsB a x m = true ↔ (x, m.name) ∉ a.rows.map rkey ∧ ∃ y ∈ dns m, y ∈ openL a := by
  unfold fitsB
  rw [Bool.and_eq_true, Bool.not_eq_true', decide_eq_false_iff_not, List.any_eq_true]
  refine and_congr Iff.rfl ⟨?_, ?_⟩
  · rintro ⟨y, h1, h2⟩
    exact ⟨y, of_decide_eq_true h2, h1⟩
  · rintro ⟨y, h1, h2⟩
    exact ⟨y, h2, decide_eq_true h1⟩
end Z

set_option Elab.async false
set_option linter.all false
set_option maxRecDepth 100000
set_option maxHeartbeats 4000000
namespace Z
open PySem PySem.Spec PyProof.Rows L2 TL
open PySem.PyData (strOk)
/-! ### what is bound: the names found -/
end Z

set_option Elab.async false
set_option linter.all false
set_option maxRecDepth 100000
set_option maxHeartbeats 4000000
namespace Z
open PySem PySem.Spec PyProof.Rows L2 TL
open PySem.PyData (strOk)
/-! ### dict comprehensions with two generators, with pure parts -/
/-- what one step of the inner walk does -/
def DcB (g : GN) (t : EM Bool) (mk mv : EM D) (e : Ev) (d : D) (F : Option (D × D)) : Prop :=
  ∃ e1, g d e = some e1 ∧ ∀ s, match F with
    | none => t e1 s = .ok false s
    | some p => t e1 s = .ok true s ∧ mk e1 s = .ok p.1 s ∧ (keyD p.1).isSome = true ∧ mv e1 s = .ok p.2 s
end Z

set_option Elab.async false
set_option linter.all false
set_option maxRecDepth 100000
set_option maxHeartbeats 4000000
namespace Z
open PySem PySem.Spec PyProof.Rows L2 TL
open PySem.PyData (strOk)
/-! ### enumerate(a list or a tuple) -/
def iEnB (ms : EM (List D)) : EM (Nat × Stp) := fun e s => match ms e s with
  | .ok [.tup _] _ => iEnT ms e s
  | _ => iEn ms e s
section
variable [Row] {X : Cx} {W : WX} {p pos tpos : Pos} {e : Expr} {elts : List Expr} {kk : Nat} {ms : EM (List D)}
end
end Z

set_option Elab.async false
set_option linter.all false
set_option maxRecDepth 100000
set_option maxHeartbeats 4000000
namespace Z
open PySem PySem.Spec PyProof.Rows L2 TL
open PySem.PyData (strOk)
/-! ### the objects of a program -/
abbrev ObA := List (Str × Str) × List Str
def obD (o : ObA) : D := .tup [.tup (o.1.map fcD), .tup (o.2.map D.str)]
structure ObOk (o : ObA) : Prop where
  nm : ∀ p ∈ o.1, IsName p.1
  kd : ∀ p ∈ o.1, p.2 ∈ kinds
  nd : (o.1.map (·.1)).Nodup
  wn : ∀ x ∈ o.2, IsName x
  l1 : o.1.length ≤ 100
  l2 : o.2.length ≤ 100
def tAreDefines (FN FK : MF) : SM := (sC (sI (bOr (bNot (toT (mIsi "tuple" (mV 0)))) (bNot (toT (mN (fAllAny true) (aC (mL (iSq (mV 0)) (gN 3) tY (mAnd (mIsi "tuple" (mV 3)) (m2 dEq (mN fLen (aC (mV 3) aN)) (mC (.int 2)))) [3]) aN))))) (sR (mC (.bl false))) sN) (sR (mN (fAllAny true) (aC (mL (iSq (mV 0)) (gT [(gN 1), (gN 2)]) tY (mAnd (mN FN (aC (mV 1) aN)) (mN FK (aC (mV 2) aN))) [1, 2]) aN))))
def tIsObject (FA FN FT : MF) : SM := (sC (sI (bOr (bNot (toT (mIsi "tuple" (mV 0)))) (toB (m2 dNe (mN fLen (aC (mV 0) aN)) (mC (.int 2))))) (sR (mC (.bl false))) sN) (sC (sG (gT [(gN 1), (gN 2)]) (mV 0)) (sC (sI (bOr (bNot (toT (mN FA (aC (mV 1) aN)))) (bOr (bNot (toT (mIsi "tuple" (mV 2)))) (bNot (toT (mN (fAllAny true) (aC (mL (iSq (mV 2)) (gN 4) tY (mN FN (aC (mV 4) aN)) [4]) aN)))))) (sR (mC (.bl false))) sN) (sR (m2 dIsN2 (mN FT (aC (mL (iSq (mV 1)) (gN 3) tY (m2 dIx (mV 3) (mC (.int 0))) [3]) aN)) (mC .non))))))
def tLookObjects (s1 s2 : SM) (it : EM (Nat × Stp)) (FO : MF) : SM := (sC (sI (bNot (toT (mIsLT (mV 0)))) s1 sN) (sF it (gT [(gN 1), (gN 2)]) (sI (bNot (toT (mN FO (aC (mV 2) aN)))) s2 sN)))
def EnOk (it : EM (Nat × Stp)) (Sq : Sto → D → List D → Prop) : Prop := ∀ {PI : Nat × Stp → Sto → Prop} {E : Str → Str → D → Sto → Prop} {s : Sto} {e : Ev} {d : D} {xs : List D}, e[0]? = some (some d) → Sq s d xs → (∀ j, (∀ i t, (∀ n, n < s.length → t[n]? = s[n]?) → j i t = some ((xs[i]?).map fun d => .tup [.int i, d])) → PI (xs.length, j) s) → (it e s).wp PI E
end Z

set_option Elab.async false
set_option linter.all false
set_option maxRecDepth 100000
set_option maxHeartbeats 4000000
namespace Z
open PySem PySem.Spec PyProof.Rows L2 TL
open PySem.PyData (strOk)
/-! ### the face of a program, plainly -/
def mergeF (f es : FaceA) : FaceA := es.foldl (fun w p => putFd w p.1 p.2) f
theorem mergeF_nd : ∀ (es : FaceA) {f : FaceA}, (f.map (·.1)).Nodup → ((mergeF f es).map (·.1)).Nodup
  | [], f, h => h
  | p :: es, f, h => mergeF_nd es (f := putFd f p.1 p.2) (putFd_nd h)
theorem mergeF_look {v : Str} : ∀ (es : FaceA) {f : FaceA}, (f.map (·.1)).Nodup → (∀ p ∈ es, p.2 = v) → ∀ y, lookF (mergeF f es) y = if y ∈ es.map (·.1) then some v else lookF f y
  | [], f, _, _, y => by simp [mergeF]
  | p :: es, f, h, hv, y => by
    have ih := mergeF_look es (f := putFd f p.1 p.2) (putFd_nd h) (fun q hq => hv q (List.mem_cons_of_mem _ hq)) y
    show lookF (mergeF (putFd f p.1 p.2) es) y = _
    rw [ih, lookF_put h, hv p (by simp)]
    by_cases c : y ∈ es.map (·.1)
    · rw [if_pos c, if_pos (by simp only [List.map_cons, List.mem_cons]; exact .inr c)]
    · rw [if_neg c]
      by_cases d : y = p.1
      · rw [if_pos d, if_pos (by simp [d])]
      · rw [if_neg d, if_neg (by simp only [List.map_cons, List.mem_cons]; exact fun z => z.elim d c)]
def defsO (os : List ObA) : List (Str × Str) := os.flatMap (·.1)
def wantsO (os : List ObA) : List Str := os.flatMap (·.2)
def ents0 (os : List ObA) : FaceA := os.flatMap fun o => o.2.map fun x => (x, ("wanted" : Str))
def entsK (os : List ObA) (k : Str) : FaceA := os.flatMap fun o => o.1.filterMap fun p => if p.2 = k then some (p.1, k) else none
def wordsO (os : List ObA) : FaceA := kinds.foldl (fun w k => mergeF w (mergeF [] (entsK os k))) (mergeF [] (ents0 os))
def faceO (os : List ObA) : FaceA := sortF (wordsO os)
def strongsO (os : List ObA) : List Str := os.flatMap fun o => (o.1.filter fun p => decide (p.2 = ("strong" : Str))).map (·.1)
theorem ents0_key {os : List ObA} {y : Str} : y ∈ (ents0 os).map (·.1) ↔ y ∈ wantsO os := by
  have : (ents0 os).map (·.1) = wantsO os := by
    unfold ents0 wantsO
    rw [List.map_flatMap]
    congr 1
    funext o
    rw [List.map_map]
    exact List.map_id _
  rw [this]
theorem ents0_v {os : List ObA} : ∀ p ∈ ents0 os, p.2 = ("wanted" : Str) := by
  intro p hp
  obtain ⟨o, _, h⟩ := List.mem_flatMap.mp hp
  obtain ⟨x, _, rfl⟩ := List.mem_map.mp h
  rfl
theorem entsK_v {os : List ObA} {k : Str} : ∀ p ∈ entsK os k, p.2 = k := by
  intro p hp
  obtain ⟨o, _, h⟩ := List.mem_flatMap.mp hp
  obtain ⟨x, _, h⟩ := List.mem_filterMap.mp h
  split at h
  · cases h; rfl
  · cases h
theorem entsK_key {os : List ObA} {k y : Str} : y ∈ (entsK os k).map (·.1) ↔ (y, k) ∈ defsO os := by
  rw [List.mem_map]
  unfold entsK defsO
  constructor
  · rintro ⟨p, hp, rfl⟩
    obtain ⟨o, ho, h⟩ := List.mem_flatMap.mp hp
    obtain ⟨x, hx, h⟩ := List.mem_filterMap.mp h
    split at h
    · rename_i e
      cases h
      refine List.mem_flatMap.mpr ⟨o, ho, ?_⟩
      rw [← e]
      exact hx
    · cases h
  · intro h
    obtain ⟨o, ho, h⟩ := List.mem_flatMap.mp h
    exact ⟨(y, k), List.mem_flatMap.mpr ⟨o, ho, List.mem_filterMap.mpr ⟨_, h, if_pos rfl⟩⟩, rfl⟩
theorem mergeF_key {v : Str} {es : FaceA} (h : ∀ p ∈ es, p.2 = v) {y : Str} : y ∈ (mergeF [] es).map (·.1) ↔ y ∈ es.map (·.1) := by
  have := mergeF_look es (f := []) List.nodup_nil h y
  by_cases c : y ∈ es.map (·.1)
  · rw [if_pos c] at this
    refine ⟨fun _ => c, fun _ => Classical.byContradiction fun z => ?_⟩
    rw [lookF_none.mpr z] at this
    cases this
  · rw [if_neg c] at this
    refine ⟨fun z => absurd this ?_, fun z => absurd z c⟩
    show lookF (mergeF [] es) y ≠ none
    rw [Ne, lookF_none]
    exact fun w => w z
theorem mergeF_v {v : Str} {es : FaceA} (h : ∀ p ∈ es, p.2 = v) : ∀ p ∈ mergeF [] es, p.2 = v := by
  have nd := mergeF_nd es (f := []) List.nodup_nil
  intro p hp
  have hl := (lookF_mem nd).mpr (show (p.1, p.2) ∈ _ from hp)
  rw [mergeF_look es (f := []) List.nodup_nil h] at hl
  split at hl
  · exact (Option.some.inj hl).symm
  · cases hl
theorem mergeK_look {os : List ObA} {k : Str} {f : FaceA} (nd : (f.map (·.1)).Nodup) (y : Str) : lookF (mergeF f (mergeF [] (entsK os k))) y = if (y, k) ∈ defsO os then some k else lookF f y := by
  rw [mergeF_look _ nd (mergeF_v entsK_v)]
  by_cases c : (y, k) ∈ defsO os
  · rw [if_pos c, if_pos ((mergeF_key entsK_v).mpr (entsK_key.mpr c))]
  · rw [if_neg c, if_neg fun z => c (entsK_key.mp ((mergeF_key entsK_v).mp z))]
theorem words_nd (os : List ObA) : ((wordsO os).map (·.1)).Nodup := by
  unfold wordsO kinds
  simp only [List.foldl_cons, List.foldl_nil]
  exact mergeF_nd _ (mergeF_nd _ (mergeF_nd _ (mergeF_nd _ List.nodup_nil)))
/-- the word of a name -/
def wordOf (os : List ObA) (y : Str) : Option Str :=
  if (y, ("strong" : Str)) ∈ defsO os then some "strong" else if (y, ("common" : Str)) ∈ defsO os then some "common" else if (y, ("weak" : Str)) ∈ defsO os then some "weak" else if y ∈ wantsO os then some "wanted" else none
theorem words_look (os : List ObA) (y : Str) : lookF (wordsO os) y = wordOf os y := by
  have n0 : ((mergeF [] (ents0 os)).map (·.1)).Nodup := mergeF_nd _ List.nodup_nil
  have h0 : lookF (mergeF [] (ents0 os)) y = if y ∈ wantsO os then some ("wanted" : Str) else none := by
    rw [mergeF_look _ (f := []) List.nodup_nil ents0_v]
    by_cases c : y ∈ wantsO os
    · rw [if_pos c, if_pos (ents0_key.mpr c)]
    · rw [if_neg c, if_neg fun z => c (ents0_key.mp z)]
      rfl
  unfold wordsO kinds wordOf
  simp only [List.foldl_cons, List.foldl_nil]
  rw [mergeK_look (mergeF_nd _ (mergeF_nd _ n0)), mergeK_look (mergeF_nd _ n0), mergeK_look n0, h0]
theorem faceO_mem {os : List ObA} {y w : Str} : (y, w) ∈ faceO os ↔ wordOf os y = some w := by
  unfold faceO
  rw [(sortF_perm _).mem_iff, ← lookF_mem (words_nd os), words_look]
theorem wordOf_word {os : List ObA} {y w : Str} (h : wordOf os y = some w) : w ∈ wordL := by
  unfold wordOf at h
  repeat' split at h
  all_goals first | (cases h; decide +kernel) | cases h
theorem wordOf_in {os : List ObA} {y w : Str} (h : wordOf os y = some w) : (∃ k, (y, k) ∈ defsO os) ∨ y ∈ wantsO os := by
  unfold wordOf at h
  split at h
  · exact .inl ⟨_, by assumption⟩
  split at h
  · exact .inl ⟨_, by assumption⟩
  split at h
  · exact .inl ⟨_, by assumption⟩
  split at h
  · exact .inr (by assumption)
  · cases h
structure ObsOk (os : List ObA) : Prop where
  ob : ∀ o ∈ os, ObOk o
  st : (strongsO os).Nodup
  len : (defsO os).length + (wantsO os).length ≤ 1000
theorem ObsOk.nmD {os : List ObA} (h : ObsOk os) : ∀ p ∈ defsO os, IsName p.1 := fun p hp => by
  obtain ⟨o, ho, hp⟩ := List.mem_flatMap.mp hp
  exact (h.ob o ho).nm p hp
theorem ObsOk.kdD {os : List ObA} (h : ObsOk os) : ∀ p ∈ defsO os, p.2 ∈ kinds := fun p hp => by
  obtain ⟨o, ho, hp⟩ := List.mem_flatMap.mp hp
  exact (h.ob o ho).kd p hp
theorem ObsOk.nmW {os : List ObA} (h : ObsOk os) : ∀ x ∈ wantsO os, IsName x := fun x hx => by
  obtain ⟨o, ho, hx⟩ := List.mem_flatMap.mp hx
  exact (h.ob o ho).wn x hx
theorem ObsOk.words {os : List ObA} (h : ObsOk os) : (∀ p ∈ wordsO os, IsName p.1) ∧ (∀ p ∈ wordsO os, p.2 ∈ wordL) ∧ (wordsO os).length ≤ 1000 := by
  have key : ∀ p ∈ wordsO os, wordOf os p.1 = some p.2 := fun p hp => by
    rw [← words_look]
    exact (lookF_mem (words_nd os)).mpr hp
  have inn : ∀ p ∈ wordsO os, p.1 ∈ (defsO os).map (·.1) ++ wantsO os := fun p hp => by
    rcases wordOf_in (key p hp) with ⟨k, hk⟩ | hw
    · exact List.mem_append_left _ (List.mem_map_of_mem (f := (·.1)) hk)
    · exact List.mem_append_right _ hw
  refine ⟨fun p hp => ?_, fun p hp => wordOf_word (key p hp), ?_⟩
  · rcases List.mem_append.mp (inn p hp) with hm | hm
    · obtain ⟨q, hq, e⟩ := List.mem_map.mp hm
      rw [← e]
      exact h.nmD q hq
    · exact h.nmW _ hm
  · have := List.Nodup.length_le_of_subset (words_nd os) (l₂ := (defsO os).map (·.1) ++ wantsO os) fun y hy => by
      obtain ⟨p, hp, rfl⟩ := List.mem_map.mp hy
      exact inn p hp
    rw [List.length_map, List.length_append, List.length_map] at this
    have := h.len
    omega
theorem faceO_ok {os : List ObA} (h : ObsOk os) : FaceOk (faceO os) := by
  obtain ⟨h1, h2, h3⟩ := h.words
  exact sortF_ok h1 h2 (words_nd os) h3
end Z

set_option Elab.async false
set_option linter.all false
set_option maxRecDepth 100000
set_option maxHeartbeats 4000000
namespace Z
open PySem PySem.Spec PyProof.Rows L2 TL
open PySem.PyData (strOk)
/-! ### face_of -/
def obWs (d : D) : List D := match d with
  | .tup [_, .tup ws] => ws
  | _ => []
def obDs (d : D) : List D := match d with
  | .tup [.tup ds, _] => ds
  | _ => []
def keyF (k : Str) (z : D) : Option (D × D) := match z with
  | .tup [.str y, .str w] => if w = k then some (.str y, .str k) else none
  | _ => none
def fo6T : SM := (sR (mN fPtuple (aC (mN fSortI (aC (mV 3) aN)) aN)))
def fo5b : SM := (sE (mBM "dict" fUpdD (mV 3) (aC (mDc2 (iSq (mV 0)) (gT [(gN 6), (gN 7)]) tY (iSq (mV 6)) (gT [(gN 5), (gN 8)]) (toB (m2 dEq (mV 8) (mV 4))) (mV 5) (mV 4) [6, 7, 5, 8] [5, 8]) aN)))
def fo5T (c : D) : SM := (sC (sF (iSq (mC c)) (gN 4) fo5b) fo6T)
def fo4T (c : D) : SM := (sC (sA 3 (mDc2 (iSq (mV 0)) (gT [(gN 6), (gN 7)]) tY (iSq (mV 7)) (gN 5) tY (mV 5) (mC (.str "wanted")) [6, 7, 5] [5])) (fo5T c))
def fo3T (st : SM) (c : D) : SM := (sC (sI (toB (m2 dNotN2 (mV 2) (mC .non))) st sN) (fo4T c))
def fo2T (FT : MF) (st : SM) (c : D) : SM := (sC (sA 2 (mN FT (aC (mV 1) aN))) (fo3T st c))
def fo1T (FT : MF) (st : SM) (c : D) : SM := (sC (sA 1 (mN fSortA (aC (mL2 (iSq (mV 0)) (gT [(gN 6), (gN 7)]) tY (iSq (mV 6)) (gT [(gN 5), (gN 4)]) (toB (m2 dEq (mV 4) (mC (.str "strong")))) (mV 5) [6, 7, 5, 4] [5, 4]) aN))) (fo2T FT st c))
def tFaceOf (LO FT : MF) (st : SM) (c : D) : SM := (sC (sE (mN LO (aC (mV 0) aN))) (fo1T FT st c))
section
variable {os : List ObA} {d : D} {s : Sto} {Q : En} {o1 o2 o4 o5 o6 o7 o8 : Option D} (h : ObsOk os)
include h
end
end Z

set_option Elab.async false
set_option linter.all false
set_option maxRecDepth 100000
set_option maxHeartbeats 4000000
namespace Z
open PySem PySem.Spec PyProof.Rows L2 TL
open PySem.PyData (strOk)
/-! ### a line walked with plain rows: the store -/
structure WA where
  taken : List (Str × Str)
  found : List (Str × List DefB)
  asked : List Str
def tkP (t : Str × Str) : D := .tup [.str t.1, .str t.2]
structure WkI (s0 s : Sto) (lf la lt lm : Nat) (ls : List Nat) (ps : List ArcB) (w : WA) : Prop where
  ef : Eff [] s0 s
  fnd : s[lf]? = some (.dict false (fndD w.found ls))
  len : ls.length = w.found.length
  lst : ∀ (i : Nat) (q : Str × List DefB) (n : Nat), w.found[i]? = some q → ls[i]? = some n → mlAt s n = some (q.2.map fdD)
  nd : ls.Nodup
  ask : mlAt s la = some (w.asked.map D.str)
  tak : mlAt s lt = some (w.taken.map tkP)
  mem : s[lm]? = some (.dict false (memKv ps))
  na : la ∉ ls
  nt : lt ∉ ls
  nat : la ≠ lt
  nm : lm ≠ lf
  lo : s0.length ≤ lf ∧ s0.length ≤ la ∧ s0.length ≤ lt
  los : ∀ n ∈ ls, s0.length ≤ n
structure WSz (n : Nat) (w : WA) : Prop where
  nd : (w.found.map (·.1)).Nodup
  fl : w.found.length ≤ n
  ll : ∀ q ∈ w.found, q.2.length ≤ n
  al : w.asked.length ≤ n
  ak : ∀ x ∈ w.asked, strOk x = true
  tk : w.taken.length ≤ n
  tok : ∀ t ∈ w.taken, strOk t.1 = true ∧ strOk t.2 = true
section
variable {s0 s t : Sto} {lf la lt lm : Nat} {ls : List Nat} {ps : List ArcB} {w : WA} {x : Str} {v : DefB}
theorem WkI.eff (h : WkI s0 s lf la lt lm ls ps w) (e : Eff [] s t) : WkI s0 t lf la lt lm ls ps w :=
  ⟨h.ef.trans e, e.get h.fnd (by simp), h.len, fun i q n h1 h2 => e.ml (h.lst i q n h1 h2) (by simp), h.nd, e.ml h.ask (by simp), e.ml h.tak (by simp), e.get h.mem (by simp), h.na, h.nt, h.nat, h.nm, h.lo, h.los⟩
/-- more names asked for -/
theorem WkI.asks (h : WkI s0 s lf la lt lm ls ps w) {ws : List Str} : WkI s0 (s.set la (.lst ((w.asked ++ ws).map D.str))) lf la lt lm ls ps ⟨w.taken, w.found, w.asked ++ ws⟩ := by
  have ha := mlAt_get h.ask
  have hl := (List.getElem?_eq_some_iff.mp ha).1
  have nf : la ≠ lf := ne_kind ha h.fnd (fun z => nomatch z)
  have nm : la ≠ lm := ne_kind ha h.mem (fun z => nomatch z)
  refine ⟨h.ef.set h.lo.2.1, by rw [List.getElem?_set_ne nf]; exact h.fnd, h.len, fun i q n h1 h2 => ?_, h.nd, by rw [mlAt_set_self hl], by rw [mlAt_set_ne h.nat]; exact h.tak, by rw [List.getElem?_set_ne nm]; exact h.mem, h.na, h.nt, h.nat, h.nm, h.lo, h.los⟩
  have : la ≠ n := fun e => h.na (e ▸ List.mem_of_getElem? h2)
  rw [mlAt_set_ne this]
  exact h.lst i q n h1 h2
/-- a member taken -/
theorem WkI.takes (h : WkI s0 s lf la lt lm ls ps w) {t : Str × Str} : WkI s0 (s.set lt (.lst ((w.taken ++ [t]).map tkP))) lf la lt lm ls ps ⟨w.taken ++ [t], w.found, w.asked⟩ := by
  have ht := mlAt_get h.tak
  have hl := (List.getElem?_eq_some_iff.mp ht).1
  have nf : lt ≠ lf := ne_kind ht h.fnd (fun z => nomatch z)
  have nm : lt ≠ lm := ne_kind ht h.mem (fun z => nomatch z)
  refine ⟨h.ef.set h.lo.2.2, by rw [List.getElem?_set_ne nf]; exact h.fnd, h.len, fun i q n h1 h2 => ?_, h.nd, by rw [mlAt_set_ne (Ne.symm h.nat)]; exact h.ask, by rw [mlAt_set_self hl], by rw [List.getElem?_set_ne nm]; exact h.mem, h.na, h.nt, h.nat, h.nm, h.lo, h.los⟩
  have : lt ≠ n := fun e => h.nt (e ▸ List.mem_of_getElem? h2)
  rw [mlAt_set_ne this]
  exact h.lst i q n h1 h2
theorem WSz.mono {n m : Nat} (h : WSz n w) (hm : n ≤ m) : WSz m w := ⟨h.nd, by have := h.fl; omega, fun q hq => by have := h.ll q hq; omega, by have := h.al; omega, h.ak, by have := h.tk; omega, h.tok⟩
theorem WSz.put {n : Nat} (h : WSz n w) : WSz (n + 1) ⟨w.taken, putF w.found x v, w.asked⟩ := by
  have h1 := h.fl
  refine ⟨?_, ?_, fun q hq => ?_, by have := h.al; exact Nat.le_succ_of_le this, h.ak, Nat.le_succ_of_le h.tk, h.tok⟩
  · show ((putF w.found x v).map (·.1)).Nodup
    rw [putF_keys]
    split
    · exact h.nd
    · rename_i hx
      rw [List.nodup_append]
      exact ⟨h.nd, by simp, fun a ha b hb e => hx (by rw [List.mem_singleton.mp hb] at e; exact e ▸ ha)⟩
  · show (putF w.found x v).length ≤ n + 1
    unfold putF
    split
    · rw [List.length_map]; omega
    · rw [List.length_append, List.length_singleton]; omega
  · have hq : q ∈ putF w.found x v := hq
    unfold putF at hq
    split at hq
    · obtain ⟨r, hr, rfl⟩ := List.mem_map.mp hq
      have := h.ll r hr
      split
      · rw [List.length_append, List.length_singleton]; omega
      · omega
    · rcases List.mem_append.mp hq with hq | hq
      · have := h.ll q hq
        omega
      · rw [List.mem_singleton.mp hq]
        show [v].length ≤ n + 1
        rw [List.length_singleton]
        omega
theorem WSz.asks {n : Nat} (h : WSz n w) {ws : List Str} (hw : ∀ x ∈ ws, strOk x = true) : WSz (n + ws.length) ⟨w.taken, w.found, w.asked ++ ws⟩ :=
  ⟨h.nd, by have := h.fl; exact Nat.le_trans this (by omega), fun q hq => by have := h.ll q hq; omega, by
    show (w.asked ++ ws).length ≤ _
    have := h.al
    rw [List.length_append]; omega, fun x hx => by
    rcases List.mem_append.mp hx with hx | hx
    · exact h.ak x hx
    · exact hw x hx, Nat.le_trans h.tk (by omega), h.tok⟩
theorem WSz.takes {n : Nat} (h : WSz n w) {t : Str × Str} (ht : strOk t.1 = true ∧ strOk t.2 = true) : WSz (n + 1) ⟨w.taken ++ [t], w.found, w.asked⟩ :=
  ⟨h.nd, Nat.le_succ_of_le h.fl, fun q hq => Nat.le_succ_of_le (h.ll q hq), Nat.le_succ_of_le h.al, h.ak, by
    show (w.taken ++ [t]).length ≤ _
    have := h.tk
    rw [List.length_append, List.length_singleton]; omega, fun u hu => by
    rcases List.mem_append.mp hu with hu | hu
    · exact h.tok u hu
    · rw [List.mem_singleton.mp hu]; exact ht⟩
def tPutW : SM := (sC (sA 4 (mSetd (mV 0) (mV 1) (mN fLst aN))) (sE (mBM "list" (mtL lAppend) (mV 4) (aC (mN fTup (aC (mV 2) (aC (mV 3) aN))) aN))))
def PutOkW (F : MF) : Prop := ∀ {s0 s : Sto} {lf la lt lm : Nat} {ls : List Nat} {ps : List ArcB} {w : WA} {x : Str} {v : DefB} {n : Nat}, WkI s0 s lf la lt lm ls ps w → WSz n w → n ≤ 20000 → (F [.ref lf, .str x, .str v.1, bdD v.2] s).wp fun d s' => s.length ≤ s'.length ∧ ∃ ls', WkI s0 s' lf la lt lm ls' ps ⟨w.taken, putF w.found x v, w.asked⟩
end
end Z

set_option Elab.async false
set_option linter.all false
set_option maxRecDepth 100000
set_option maxHeartbeats 4000000
namespace Z
open PySem PySem.Spec PyProof.Rows L2 TL
open PySem.PyData (strOk)
/-! ### the next member, by plain rows -/
def fitW (w : WA) (x : Str) (r : RowB) : Bool := (r.gs.any fun d => decide (d.1 ∈ w.asked) && !decide (d.1 ∈ w.found.map (·.1))) && !decide ((x, r.mem) ∈ w.taken)
def nextW (w : WA) (x : Str) (rows : List RowB) : Option RowB := rows.find? (fitW w x)
structure RowSz (r : RowB) : Prop where
  nm : strOk r.mem = true
  gn : ∀ d ∈ r.gs, strOk d.1 = true
  kn : ∀ d ∈ r.gs, strOk d.2.1 = true
  wn : ∀ x ∈ r.ws, strOk x = true
  l1 : r.gs.length ≤ 10
  l2 : r.ws.length ≤ 2
def nw1 : SM := (sI (bAnd (toT (mV 8)) (toB (m2 (dInB true) (mN fTup (aC (mV 0) (aC (mV 5) aN))) (mV 4)))) (sR (mN fTup (aC (mV 5) (aC (mV 6) (aC (mV 7) aN))))) sN)
def nw0 : SM := (sC (sA 8 (m2 dNe (mL (iSq (mV 6)) (gN 9) (bAnd (toB (m2 (dInB false) (m2 dIx (mV 9) (mC (.int 0))) (mV 3))) (toB (m2 (dInD true) (m2 dIx (mV 9) (mC (.int 0))) (mV 2)))) (mV 9) [9]) (mN fLst aN))) nw1)
def tNextW : SM := (sC (sF (iSq (mV 1)) (gT [(gN 5), (gN 6), (gN 7)]) nw0) (sR (mC .non)))
def NextOkW (F : MF) : Prop := ∀ {s0 s : Sto} {lf la lt lm : Nat} {ls : List Nat} {ps : List ArcB} {w : WA} {x : Str} {rows : List RowB} {n : Nat}, WkI s0 s lf la lt lm ls ps w → WSz n w → n ≤ 20000 → strOk x = true → (∀ r ∈ rows, RowSz r) → rows.length ≤ 1000 → (F [.str x, .tup (rows.map rowB), .ref lf, .ref la, .ref lt] s).wp fun d s' => Eff [] s s' ∧ d = (match nextW w x rows with | none => .non | some r => rowB r)
section
variable {s0 s t : Sto} {lf la lt lm : Nat} {ls : List Nat} {ps : List ArcB} {w : WA} {x : Str} {v : DefB} {n : Nat} {rows : List RowB} {Q : En} {o1 o5 o6 o7 o8 o9 : Option D}
end
end Z

set_option Elab.async false
set_option linter.all false
set_option maxRecDepth 100000
set_option maxHeartbeats 4000000
namespace Z
open PySem PySem.Spec PyProof.Rows L2 TL
open PySem.PyData (strOk)
/-! ### a line walked with plain rows, and the link -/
def ownL (os : List ObA) (y : Str) : List DefB := ((defsO os).filter fun p => decide (p.1 = y)).map fun p => (p.2, none)
def gsN (r : RowB) (y : Str) : List DefB := (r.gs.filter fun d => decide (d.1 = y)).map fun d => (d.2.1, some d.2.2)
def takeW (w : WA) (x : Str) (r : RowB) : WA := ⟨w.taken ++ [(x, r.mem)], r.gs.foldl (fun f d => putF f d.1 (d.2.1, some d.2.2)) w.found, w.asked ++ r.ws⟩
def startW (os : List ObA) : WA := ⟨[], (defsO os).foldl (fun f p => putF f p.1 (p.2, none)) [], wantsO os⟩
abbrev RkR := List (Str × RowB)
def rkT (R : RkR) : Tk := R.map fun t => (t.1, memB t.2)
structure TkWr (os : List ObA) (R : RkR) (w : WA) : Prop where
  tak : w.taken = R.map fun t => (t.1, t.2.mem)
  key : ∀ y, y ∈ w.found.map (·.1) ↔ (∃ k, (y, k) ∈ defsO os) ∨ ∃ t ∈ R, y ∈ t.2.gs.map (·.1)
  fd : ∀ y, fdN w.found y = ownL os y ++ R.flatMap fun t => gsN t.2 y
  asl : w.asked = wantsO os ++ R.flatMap fun t => t.2.ws
theorem TkWr.ask {os : List ObA} {R : RkR} {w : WA} (h : TkWr os R w) (y : Str) : y ∈ w.asked ↔ y ∈ wantsO os ∨ ∃ t ∈ R, y ∈ t.2.ws := by
  rw [h.asl, List.mem_append, List.mem_flatMap]
structure SimW (ps : List ArcB) (os : List ObA) (R : RkR) (w : WA) (a : LA) : Prop where
  of : ∀ t ∈ R, ∃ p ∈ ps, t.1 = p.1 ∧ t.2 ∈ p.2
  tl : TkL (faceO os) (rkT R) a
  tw : TkWr os R w
theorem ex_rkT {R : RkR} {p : Str × MemA → Prop} : (∃ t ∈ rkT R, p t) ↔ ∃ t ∈ R, p (t.1, memB t.2) := by
  unfold rkT
  constructor
  · rintro ⟨t, ht, hp⟩
    obtain ⟨u, hu, rfl⟩ := List.mem_map.mp ht
    exact ⟨u, hu, hp⟩
  · rintro ⟨u, hu, hp⟩
    exact ⟨_, List.mem_map_of_mem hu, hp⟩
theorem foldG_key {α : Type} (nm : α → Str) (vl : α → DefB) : ∀ (gs : List α) (f : List (Str × List DefB)) (y : Str), y ∈ (gs.foldl (fun f d => putF f (nm d) (vl d)) f).map (·.1) ↔ y ∈ f.map (·.1) ∨ y ∈ gs.map nm
  | [], f, y => by simp
  | g :: gs, f, y => by
    rw [List.foldl_cons, foldG_key nm vl gs, putF_keys, List.map_cons, List.mem_cons]
    split
    · rename_i h
      constructor
      · rintro (h1 | h1)
        · exact .inl h1
        · exact .inr (.inr h1)
      · rintro (h1 | rfl | h1)
        · exact .inl h1
        · exact .inl h
        · exact .inr h1
    · rw [List.mem_append, List.mem_singleton, or_assoc]
theorem foldG_fd {α : Type} (nm : α → Str) (vl : α → DefB) : ∀ (gs : List α) (f : List (Str × List DefB)) (y : Str), fdN (gs.foldl (fun f d => putF f (nm d) (vl d)) f) y = fdN f y ++ (gs.filter fun d => decide (nm d = y)).map vl
  | [], f, y => by simp
  | g :: gs, f, y => by
    rw [List.foldl_cons, foldG_fd nm vl gs, fdN_put, List.filter_cons]
    by_cases c : nm g = y
    · rw [if_pos c.symm, if_pos (decide_eq_true c), List.map_cons, List.append_assoc]
      rfl
    · rw [if_neg (Ne.symm c), if_neg (by simpa using c), List.append_nil]
theorem TkWr.take {os : List ObA} {R : RkR} {w : WA} (h : TkWr os R w) (x : Str) (r : RowB) : TkWr os (R ++ [(x, r)]) (takeW w x r) := by
  refine ⟨?_, fun y => ?_, fun y => ?_, ?_⟩
  · show w.taken ++ _ = _
    rw [h.tak, List.map_append]
    rfl
  · show y ∈ (r.gs.foldl (fun f d => putF f d.1 (d.2.1, some d.2.2)) w.found).map (·.1) ↔ _
    rw [foldG_key (fun d : DefA => d.1) (fun d => (d.2.1, some d.2.2)), h.key, or_assoc]
    refine or_congr Iff.rfl ?_
    simp only [List.mem_append, List.mem_singleton]
    constructor
    · rintro (⟨t, ht, hy⟩ | hy)
      · exact ⟨t, .inl ht, hy⟩
      · exact ⟨_, .inr rfl, hy⟩
    · rintro ⟨t, ht | rfl, hy⟩
      · exact .inl ⟨t, ht, hy⟩
      · exact .inr hy
  · show fdN (r.gs.foldl (fun f d => putF f d.1 (d.2.1, some d.2.2)) w.found) y = _
    rw [foldG_fd (fun d : DefA => d.1) (fun d => (d.2.1, some d.2.2)), h.fd, List.flatMap_append, List.append_assoc]
    congr 2
    simp [gsN]
  · show w.asked ++ r.ws = _
    rw [h.asl, List.flatMap_append, List.append_assoc]
    congr 2
    simp
theorem TkWr.start (os : List ObA) : TkWr os [] (startW os) := by
  refine ⟨rfl, fun y => ?_, fun y => ?_, ?_⟩
  · show y ∈ ((defsO os).foldl (fun f p => putF f p.1 (p.2, none)) []).map (·.1) ↔ _
    rw [foldG_key (fun p : Str × Str => p.1) (fun p => (p.2, none))]
    constructor
    · rintro (h | h)
      · cases h
      · obtain ⟨p, hp, rfl⟩ := List.mem_map.mp h
        exact .inl ⟨p.2, hp⟩
    · rintro (⟨k, h⟩ | ⟨t, ht, _⟩)
      · exact .inr (List.mem_map.mpr ⟨_, h, rfl⟩)
      · cases ht
  · show fdN ((defsO os).foldl (fun f p => putF f p.1 (p.2, none)) []) y = _
    rw [foldG_fd (fun p : Str × Str => p.1) (fun p => (p.2, none))]
    rw [show fdN [] y = [] from rfl, List.nil_append, List.flatMap_nil, List.append_nil]
    rfl
  · show wantsO os = _
    simp
theorem wordOf_def {os : List ObA} (hk : ∀ p ∈ defsO os, p.2 ∈ kinds) {y : Str} : (∃ w, (y, w) ∈ faceO os ∧ w ≠ ("wanted" : Str)) ↔ ∃ k, (y, k) ∈ defsO os := by
  have n1 : ("strong" : Str) ≠ "wanted" ∧ ("common" : Str) ≠ "wanted" ∧ ("weak" : Str) ≠ "wanted" := by decide +kernel
  simp only [faceO_mem]
  unfold wordOf
  constructor
  · rintro ⟨w, h, hw⟩
    split at h
    · exact ⟨_, by assumption⟩
    split at h
    · exact ⟨_, by assumption⟩
    split at h
    · exact ⟨_, by assumption⟩
    split at h
    · exact absurd (Option.some.inj h).symm hw
    · cases h
  · rintro ⟨k, h⟩
    have := hk _ h
    unfold kinds at this
    simp only [List.mem_cons, List.not_mem_nil, or_false] at this
    split
    · exact ⟨_, rfl, n1.1⟩
    split
    · exact ⟨_, rfl, n1.2.1⟩
    split
    · exact ⟨_, rfl, n1.2.2⟩
    · rename_i h1 h2 h3
      rcases this with e | e | e
      · exact absurd (e ▸ h) h3
      · exact absurd (e ▸ h) h2
      · exact absurd (e ▸ h) h1
theorem wordOf_want {os : List ObA} (hk : ∀ p ∈ defsO os, p.2 ∈ kinds) {y : Str} : (y, ("wanted" : Str)) ∈ faceO os ↔ (¬ ∃ k, (y, k) ∈ defsO os) ∧ y ∈ wantsO os := by
  have n1 : ("strong" : Str) ≠ "wanted" ∧ ("common" : Str) ≠ "wanted" ∧ ("weak" : Str) ≠ "wanted" := by decide +kernel
  rw [faceO_mem]
  unfold wordOf
  constructor
  · intro h
    split at h
    · exact absurd (Option.some.inj h) n1.1
    split at h
    · exact absurd (Option.some.inj h) n1.2.1
    split at h
    · exact absurd (Option.some.inj h) n1.2.2
    split at h
    · refine ⟨?_, by assumption⟩
      rintro ⟨k, h⟩
      rename_i h1 h2 h3 _ _
      have := hk _ h
      unfold kinds at this
      simp only [List.mem_cons, List.not_mem_nil, or_false] at this
      rcases this with e | e | e
      · exact absurd (e ▸ h) h3
      · exact absurd (e ▸ h) h2
      · exact absurd (e ▸ h) h1
    · cases h
  · rintro ⟨h1, h2⟩
    rw [if_neg fun z => h1 ⟨_, z⟩, if_neg fun z => h1 ⟨_, z⟩, if_neg fun z => h1 ⟨_, z⟩, if_pos h2]
theorem SimW.start {ps : List ArcB} (os : List ObA) : SimW ps os [] (startW os) (initA (faceO os)) := ⟨fun t ht => (by cases ht), tkL_nil, TkWr.start os⟩
section
variable {ps : List ArcB} {os : List ObA} (hk : ∀ p ∈ defsO os, p.2 ∈ kinds) {R : RkR} {w : WA} {a : LA} (h : SimW ps os R w a)
include hk h
theorem SimW.found (y : Str) : y ∈ w.found.map (·.1) ↔ y ∈ a.found.map (·.1) := by
  rw [h.tw.key, h.tl.key, ex_rkT, initF_memV, wordOf_def hk]
  simp only [dns_mB]
theorem SimW.opn (y : Str) : y ∈ openL a ↔ y ∈ w.asked ∧ y ∉ w.found.map (·.1) := by
  have hf := h.found hk y
  rw [open_in, ← hf, h.tl.wk, ex_rkT]
  have e1 : y ∈ (initW (faceO os)).map (·.1) ↔ (y, ("wanted" : Str)) ∈ faceO os := by
    rw [wby_keys]
    exact ⟨fun ⟨v, z⟩ => (initW_memV.mp z).1, fun z => ⟨none, initW_memV.mpr ⟨z, rfl⟩⟩⟩
  rw [e1, wordOf_want hk, h.tw.ask]
  simp only [wants_mB]
  have hkey := h.tw.key y
  constructor
  · rintro ⟨h1 | h1, h2⟩
    · exact ⟨.inl h1.2, h2⟩
    · exact ⟨.inr h1, h2⟩
  · rintro ⟨h1 | h1, h2⟩
    · exact ⟨.inl ⟨fun z => h2 (hkey.mpr (.inl z)), h1⟩, h2⟩
    · exact ⟨.inr h1, h2⟩
theorem SimW.fit (x : Str) (r : RowB) : fitW w x r = fitsB a x (memB r) := by
  rw [Bool.eq_iff_iff, fits_iff2]
  unfold fitW
  rw [Bool.and_eq_true, List.any_eq_true, Bool.not_eq_true', decide_eq_false_iff_not, and_comm]
  have e : a.rows.map rkey = w.taken := by
    rw [h.tl.rows, h.tw.tak]
    unfold rkT
    rw [List.map_map]
    rfl
  rw [e]
  refine and_congr Iff.rfl ?_
  constructor
  · rintro ⟨d, hd, hz⟩
    simp only [Bool.and_eq_true, decide_eq_true_eq, Bool.not_eq_true', decide_eq_false_iff_not] at hz
    exact ⟨d.1, dns_mB.mpr (List.mem_map_of_mem hd), (h.opn hk d.1).mpr hz⟩
  · rintro ⟨y, hy, ho⟩
    obtain ⟨d, hd, rfl⟩ := List.mem_map.mp (dns_mB.mp hy)
    refine ⟨d, hd, ?_⟩
    simp only [Bool.and_eq_true, decide_eq_true_eq, Bool.not_eq_true', decide_eq_false_iff_not]
    exact (h.opn hk d.1).mp ho
theorem SimW.next (p : ArcB) : nextM a (arcW p) = (nextW w p.1 p.2).map memB := by
  unfold nextM nextW
  show (p.2.map memB).find? (fitsB a p.1) = _
  rw [List.find?_map]
  congr 2
  funext r
  exact (h.fit hk p.1 r).symm
omit hk in
theorem SimW.take {p : ArcB} (hp : p ∈ ps) {r : RowB} (hr : r ∈ p.2) : SimW ps os (R ++ [(p.1, r)]) (takeW w p.1 r) (takeL a p.1 (memB r)) := by
  refine ⟨fun t ht => ?_, ?_, h.tw.take p.1 r⟩
  · rcases List.mem_append.mp ht with ht | ht
    · exact h.of t ht
    · rw [List.mem_singleton.mp ht]
      exact ⟨p, hp, rfl, hr⟩
  · unfold rkT
    rw [List.map_append]
    exact h.tl.take _ _
end
end Z

set_option Elab.async false
set_option linter.all false
set_option maxRecDepth 100000
set_option maxHeartbeats 4000000
namespace Z
open PySem PySem.Spec PyProof.Rows L2 TL
open PySem.PyData (strOk)
/-! ### _law_linked -/
section
variable (FN FP : MF) (itb : Itb)
def lkNx : EM D := (mN FN (aC (mV 13) (aC (m2 dGetD (mV 7) (mV 13)) (aC (mV 4) (aC (mV 5) (aC (mV 6) aN))))))
def lkW3 : SM := (sC (sF (iSq (m2 dIx (mV 14) (mC (.int 1)))) (gT [(gN 11), (gN 12), (gN 15)]) (sE (mN FP (aC (mV 4) (aC (mV 11) (aC (mV 12) (aC (mV 15) aN))))))) (sA 14 (lkNx FN)))
def lkW2 : SM := (sC (sE (mBM "list" lExtend (mV 5) (aC (m2 dIx (mV 14) (mC (.int 2))) aN))) (lkW3 FN FP))
def lkW1 : SM := (sC (sE (mBM "list" (mtL lAppend) (mV 6) (aC (mN fTup (aC (mV 13) (aC (m2 dIx (mV 14) (mC (.int 0))) aN))) aN))) (lkW2 FN FP))
def lkS : SM := (sC (sA 14 (lkNx FN)) (sW 1000 (toB (m2 dNotN2 (mV 14) (mC .non))) (lkW1 FN FP)))
def lkR : SM := (sF (iAny itb (mIf (toT (mIsi "tuple" (mV 3))) (mV 3) (mN fTup (aC (mV 3) aN)))) (gN 13) (lkS FN FP))
def lkG : SM := (sC (sA 10 (m1 dNeg (mC (.int 1)))) (sW 1000 (toB (m2 dNe (mV 10) (mN fLen (aC (mV 6) aN)))) (sC (sA 10 (mN fLen (aC (mV 6) aN))) (lkR FN FP itb))))
def lk3 : SM := (sR (mN fTup (aC (mV 6) (aC (mV 4) (aC (mV 5) aN)))))
def lk2 : SM := (sC (sF (iSq (mV 1)) (gN 3) (lkG FN FP itb)) lk3)
def lk1c : SM := (sF (iSq (mV 8)) (gT [(gN 11), (gN 12)]) (sE (mN FP (aC (mV 4) (aC (mV 11) (aC (mV 12) (aC (mC (.str "own")) aN)))))))
def lk1b : SM := (sC (sE (mBM "list" lExtend (mV 5) (aC (mV 9) aN))) (lk1c FP))
def lk1 : SM := (sC (sF (iSq (mV 2)) (gT [(gN 8), (gN 9)]) (lk1b FP)) (lk2 FN FP itb))
def tLinkedW : SM := (sC (sG (gT [(gN 4), (gN 5), (gN 6), (gN 7)]) (mN fTup (aC mDN (aC (mN fLst aN) (aC (mN fLst aN) (aC (mN fDictL (aC (mV 0) aN)) aN)))))) (lk1 FN FP itb))
end
structure PsOk (ps : List ArcB) : Prop where
  nd : (ps.map (·.1)).Nodup
  ok : ∀ p ∈ ps, strOk p.1 = true
  rw : ∀ p ∈ ps, ∀ r ∈ p.2, RowSz r
  ln : ∀ p ∈ ps, p.2.length ≤ 1000
  tot : (memKeys (ps.map arcW)).length ≤ 900
/-- the walk so far: at the link a -/
structure LkI (s0 s : Sto) (lf la lt lm : Nat) (ps : List ArcB) (os : List ObA) (a : LA) (ls : List Nat) (R : RkR) (w : WA) : Prop where
  i : WkI s0 s lf la lt lm ls ps w
  z : WSz (1000 + 21 * w.taken.length) w
  m : SimW ps os R w a
  r : RowsOk (ps.map arcW) a
theorem LkI.eff {s0 s t : Sto} {lf la lt lm : Nat} {ps : List ArcB} {os : List ObA} {a : LA} {ls : List Nat} {R : RkR} {w : WA} (h : LkI s0 s lf la lt lm ps os a ls R w) (e : Eff [] s t) : LkI s0 t lf la lt lm ps os a ls R w := ⟨h.i.eff e, h.z, h.m, h.r⟩
theorem LkI.len {s0 s : Sto} {lf la lt lm : Nat} {ps : List ArcB} {os : List ObA} {a : LA} {ls : List Nat} {R : RkR} {w : WA} (h : LkI s0 s lf la lt lm ps os a ls R w) : w.taken.length = a.rows.length := by
  have h1 := congrArg List.length h.m.tl.rows
  have h2 := congrArg List.length h.m.tw.tak
  unfold rkT at h1
  simp only [List.length_map] at h1 h2
  omega
theorem LkI.n {s0 s : Sto} {lf la lt lm : Nat} {ps : List ArcB} (P : PsOk ps) {os : List ObA} {a : LA} {ls : List Nat} {R : RkR} {w : WA} (h : LkI s0 s lf la lt lm ps os a ls R w) : w.taken.length ≤ 900 := by
  rw [h.len]
  exact Nat.le_trans h.r.len P.tot
section
variable {FN FP : MF} (hN : NextOkW FN) (hP : PutOkW FP) {itb : Itb} {s0 s : Sto} {lf la lt lm : Nat} {ps : List ArcB} (P : PsOk ps) {os : List ObA} (hk : ∀ p ∈ defsO os, p.2 ∈ kinds) {a : LA} {ls : List Nat} {R : RkR} {w : WA} {Q : En} {o0 o1 o2 o3 o4 o5 o6 o7 o8 o9 o10 o11 o12 o13 o14 o15 : Option D}
def nxD (w : WA) (p : ArcB) : D := match nextW w p.1 p.2 with | none => .non | some r => rowB r
end
end Z

set_option Elab.async false
set_option linter.all false
set_option maxRecDepth 100000
set_option maxHeartbeats 4000000
namespace Z
open PySem PySem.Spec PyProof.Rows L2 TL
open PySem.PyData (strOk)
/-! ### _law_result -/
def rankB (d : DefB) : Nat := kinds.idxOf d.1
def bestS (b d : DefB) : DefB := if rankB b < rankB d then d else b
def bestF (ds : List DefB) : DefB := ds.foldl bestS (ds.headD ("", none))
def keysW (w : WA) : List Str := sortS (w.found.map (·.1))
def bindsW (w : WA) : List D := (keysW w).map fun x => .tup [.str x, bdD (bestF (fdN w.found x)).2]
def clashW (w : WA) : List Str := (keysW w).filter fun x => clashB (fdN w.found x)
def lacksW (w : WA) : List Str := sortS (onceS (w.asked.filter fun x => !decide (x ∈ w.found.map (·.1))))
def resW (w : WA) : D := .tup [.tup (bindsW w), .tup ((lacksW w).map D.str), .tup ((clashW w).map D.str)]
structure FdW (w : WA) : Prop where
  nm : ∀ q ∈ w.found, strOk q.1 = true
  ne : ∀ q ∈ w.found, q.2 ≠ []
  kd : ∀ q ∈ w.found, ∀ d ∈ q.2, d.1 ∈ kinds
theorem strs_D : ∀ xs : List Str, (xs.map D.str).mapM strD = some xs
  | [] => rfl
  | x :: xs => by
    rw [List.map_cons, List.mapM_cons, strs_D xs]
    rfl
def rs1c : SM := (sE (mBM "list" (mtL lAppend) (mV 5) (aC (mN fTup (aC (mV 2) (aC (m2 dIx (mV 7) (mC (.int 1))) aN))) aN)))
def rs1bb : SM := (sI (toB (m2 dGt (mBM "list" fIdxL (mV 6) (aC (m2 dIx (mV 8) (mC (.int 0))) aN)) (mBM "list" fIdxL (mV 6) (aC (m2 dIx (mV 7) (mC (.int 0))) aN)))) (sA 7 (mV 8)) sN)
def rs1b : SM := (sC (sF (iSq (m2 dGetD (mV 0) (mV 2))) (gN 8) rs1bb) rs1c)
def rs1a : SM := (sC (sA 7 (m2 dIx (m2 dGetD (mV 0) (mV 2)) (mC (.int 0)))) rs1b)
def rs4 : SM := (sR (mN fTup (aC (mN fTuple (aC (mV 5) aN)) (aC (mN fTuple (aC (mV 4) aN)) (aC (mN fTuple (aC (mV 3) aN)) aN)))))
def rs3 : SM := (sC (sA 4 (mN (fSortZ fSortA) (aC (mN fSetL (aC (mL (iSq (mV 1)) (gN 2) (toB (m2 (dInD true) (mV 2) (mV 0))) (mV 2) [2]) aN)) aN))) rs4)
def rs2 : SM := (sC (sA 3 (mL (iSq (mN (fSortK fSortA) (aC (mV 0) aN))) (gN 2) (toB (m2 dGt (mN fLen (aC (mL (iSq (m2 dGetD (mV 0) (mV 2))) (gN 8) (toB (m2 dEq (m2 dIx (mV 8) (mC (.int 0))) (mC (.str "strong")))) (mV 8) [8]) aN)) (mC (.int 1)))) (mV 2) [2])) rs3)
def rs1 : SM := (sC (sF (iSq (mN (fSortK fSortA) (aC (mV 0) aN))) (gN 2) rs1a) rs2)
def tResultW : SM := (sC (sP 5 6 (aC (mN fLst aN) (aC (mN fLst (aC (mC (.str "weak")) (aC (mC (.str "common")) (aC (mC (.str "strong")) aN)))) aN))) rs1)
/-- the walk, read only -/
structure RoI (s : Sto) (lf la : Nat) (w : WA) : Prop where
  ask : mlAt s la = some (w.asked.map D.str)
  fnd : ∃ ls, s[lf]? = some (.dict false (fndD w.found ls)) ∧ ls.length = w.found.length
  get : ∀ x ∈ w.found.map (·.1), ∃ n kvs, dctAt s lf = some kvs ∧ getK kvs (.inr x) = some (.ref n) ∧ mlAt s n = some ((fdN w.found x).map fdD)
theorem WkI.ro {s0 s : Sto} {lf la lt lm : Nat} {ls : List Nat} {ps : List ArcB} {w : WA} (h : WkI s0 s lf la lt lm ls ps w) (nd : (w.found.map (·.1)).Nodup) : RoI s lf la w := by
  refine ⟨h.ask, ⟨ls, h.fnd, h.len⟩, fun x hx => ?_⟩
  obtain ⟨i, q, hi, rfl⟩ := mem_at hx
  have hil : i < ls.length := by rw [h.len]; exact (List.getElem?_eq_some_iff.mp hi).1
  have hn : ls[i]? = some ls[i] := List.getElem?_eq_getElem hil
  refine ⟨ls[i], _, dctAt_dict h.fnd, getK_at (fndD_keys h.len) nd (i := i) (fndD_at hi hn), ?_⟩
  rw [h.lst i q _ hi hn]
  have : fdN w.found q.1 = q.2 := by
    unfold fdN
    have hm := List.mem_of_getElem? hi
    cases c : w.found.find? fun r => decide (r.1 = q.1) with
    | none =>
      have := List.find?_eq_none.mp c q hm
      simp at this
    | some r =>
      have h1 := List.mem_of_find?_eq_some c
      have h2 := List.find?_some c
      rw [uniq_name (g := fun r : Str × List DefB => r.1) nd h1 hm (of_decide_eq_true h2)]
      rfl
  rw [this]
theorem RoI.eff {s t : Sto} {lf la : Nat} {w : WA} (h : RoI s lf la w) (e : Eff [] s t) : RoI t lf la w := by
  obtain ⟨ls, h1, h2⟩ := h.fnd
  refine ⟨e.ml h.ask (by simp), ⟨ls, e.get h1 (by simp), h2⟩, fun x hx => ?_⟩
  obtain ⟨n, kvs, g1, g2, g3⟩ := h.get x hx
  refine ⟨n, kvs, ?_, g2, e.ml g3 (by simp)⟩
  rw [dctAt_dict h1] at g1
  rw [dctAt_dict (e.get h1 (by simp))]
  exact g1
section
variable {s s0 t : Sto} {lf la k5 k6 : Nat} {w : WA} {n : Nat} {Q : En} {o2 o3 o4 o5 o6 o7 o8 : Option D} {x : Str}
end
end Z

set_option Elab.async false
set_option linter.all false
set_option maxRecDepth 100000
set_option maxHeartbeats 4000000
namespace Z
open PySem PySem.Spec PyProof.Rows L2 TL
open PySem.PyData (strOk)
/-! ### the walk's result is the link's -/
theorem best_take {ds : List DefB} {d0 : DefB} (h0 : ds[0]? = some d0) : ∀ n, n < ds.length → ds[argBest (fun i j => decide (((ds.map kIx).getD i 0 : Int) > ((ds.map kIx).getD j 0 : Int))) n]? = some ((ds.take (n + 1)).foldl bestS d0)
  | 0, h => by
    show ds[0]? = _
    rw [List.take_add_one, List.take_zero, h0]
    show some d0 = some (bestS d0 d0)
    unfold bestS
    split <;> rfl
  | n + 1, h => by
    have ih := best_take h0 n (by omega)
    have hd : ds[n + 1]? = some ds[n + 1] := List.getElem?_eq_getElem h
    have e : (ds.take (n + 1 + 1)).foldl bestS d0 = bestS ((ds.take (n + 1)).foldl bestS d0) ds[n + 1] := by
      rw [List.take_add_one, hd, List.foldl_append]
      rfl
    rw [e]
    generalize (ds.take (n + 1)).foldl bestS d0 = b at ih
    unfold argBest
    generalize argBest (fun i j => decide (((ds.map kIx).getD i 0 : Int) > ((ds.map kIx).getD j 0 : Int))) n = j at ih ⊢
    have e1 : (ds.map kIx).getD (n + 1) 0 = rankB ds[n + 1] := by
      rw [List.getD_eq_getElem?_getD, List.getElem?_map, hd]
      rfl
    have e2 : (ds.map kIx).getD j 0 = rankB b := by
      rw [List.getD_eq_getElem?_getD, List.getElem?_map, ih]
      rfl
    rw [e1, e2]
    unfold bestS
    by_cases c : rankB b < rankB ds[n + 1]
    · rw [if_pos c, if_pos (by rw [decide_eq_true_eq]; omega)]
      exact hd
    · rw [if_neg c, if_neg (by rw [decide_eq_true_eq]; omega)]
      exact ih
theorem strongD_best {ds : List DefB} (ne : ds ≠ []) : strongD ds = bdD (bestF ds).2 := by
  obtain ⟨d0, r, e⟩ := List.exists_cons_of_ne_nil ne
  have h0 : ds[0]? = some d0 := by rw [e]; rfl
  have hl : 0 < ds.length := List.length_pos_iff.mpr ne
  have hb := best_take h0 (ds.length - 1) (by omega)
  rw [show ds.length - 1 + 1 = ds.length by omega, List.take_length] at hb
  unfold strongD strongB bestD
  rw [List.length_map, hb]
  show _ = bdD (ds.foldl bestS (ds.headD ("", none))).2
  rw [show ds.headD ("", none) = d0 by rw [e]; rfl]
/-- the best of what stands first comes to stand for it -/
theorem bestF_app {os xs : List DefB} (ne : os ≠ []) : bestF (os ++ xs) = xs.foldl bestS (bestF os) := by
  obtain ⟨d0, r, e⟩ := List.exists_cons_of_ne_nil ne
  unfold bestF
  rw [List.foldl_append]
  congr 2
  rw [e]
  rfl
theorem bestF_one (d : DefB) : bestF [d] = d := by
  show bestS d d = d
  unfold bestS
  split <;> rfl
theorem bestF_mem : ∀ {ds : List DefB}, ds ≠ [] → bestF ds ∈ ds ∧ ∀ d ∈ ds, rankB d ≤ rankB (bestF ds) := by
  intro ds ne
  obtain ⟨d0, r, e⟩ := List.exists_cons_of_ne_nil ne
  have key : ∀ (xs : List DefB) (b : DefB), (xs.foldl bestS b = b ∨ xs.foldl bestS b ∈ xs) ∧ rankB b ≤ rankB (xs.foldl bestS b) ∧ ∀ d ∈ xs, rankB d ≤ rankB (xs.foldl bestS b) := by
    intro xs
    induction xs with
    | nil => intro b; exact ⟨.inl rfl, Nat.le_refl _, fun d h => by cases h⟩
    | cons y xs ih =>
      intro b
      obtain ⟨h1, h2, h3⟩ := ih (bestS b y)
      rw [List.foldl_cons]
      have hb : rankB b ≤ rankB (bestS b y) ∧ rankB y ≤ rankB (bestS b y) := by
        unfold bestS
        split <;> omega
      refine ⟨?_, by omega, fun d hd => ?_⟩
      · rcases h1 with h1 | h1
        · rw [h1]
          unfold bestS
          split
          · exact .inr (by simp)
          · exact .inl rfl
        · exact .inr (List.mem_cons_of_mem _ h1)
      · rcases List.mem_cons.mp hd with rfl | hd
        · omega
        · exact h3 d hd
  have e1 : bestF ds = ds.foldl bestS d0 := by unfold bestF; rw [e]; rfl
  rw [e1]
  obtain ⟨h1, h2, h3⟩ := key ds d0
  refine ⟨?_, h3⟩
  rcases h1 with h1 | h1
  · rw [h1, e]; simp
  · exact h1
theorem kind_nw : ∀ v ∈ kinds, v ≠ ("wanted" : Str) := by decide +kernel
/-- what the program itself brings: its best stands for its all -/
theorem own_face {os : List ObA} (O : ObsOk os) (y : Str) : fdN (initF (faceO os)) y = if ownL os y = [] then [] else [bestF (ownL os y)] := by
  have nd := (faceO_ok O).nd
  have mem : ∀ k, (k, (none : Bd)) ∈ ownL os y ↔ (y, k) ∈ defsO os := fun k => by
    unfold ownL
    rw [List.mem_map]
    constructor
    · rintro ⟨p, hp, e⟩
      obtain ⟨h1, h2⟩ := List.mem_filter.mp hp
      have h2 := of_decide_eq_true h2
      injection e with e _
      subst e h2
      exact h1
    · intro h
      exact ⟨_, List.mem_filter.mpr ⟨h, by simp⟩, rfl⟩
  have non : ∀ d ∈ ownL os y, d.2 = none := fun d hd => by
    unfold ownL at hd
    obtain ⟨p, _, rfl⟩ := List.mem_map.mp hd
    rfl
  have keyI : ∀ y, y ∈ (initF (faceO os)).map (·.1) ↔ ∃ k, (y, k) ∈ defsO os := fun y => by rw [initF_memV, wordOf_def O.kdD]
  by_cases c : ownL os y = []
  · rw [if_pos c]
    refine fdN_none fun h => ?_
    obtain ⟨k, hk⟩ := (keyI y).mp h
    have := (mem k).mpr hk
    rw [c] at this
    cases this
  · rw [if_neg c]
    obtain ⟨b1, b2⟩ := bestF_mem c
    generalize bestF (ownL os y) = b at b1 b2 ⊢
    obtain ⟨k, v⟩ := b
    have hv : v = none := non _ b1
    subst hv
    have hk := (mem k).mp b1
    have hkk := O.kdD _ hk
    have hw : wordOf os y = some k := by
      have mx : ∀ k', (y, k') ∈ defsO os → kinds.idxOf k' ≤ kinds.idxOf k := fun k' h' => b2 _ ((mem k').mpr h')
      have ixs : kinds.idxOf ("strong" : Str) = 2 ∧ kinds.idxOf ("common" : Str) = 1 ∧ kinds.idxOf ("weak" : Str) = 0 := by decide +kernel
      have hk3 : k = "weak" ∨ k = "common" ∨ k = "strong" := by
        unfold kinds at hkk
        simpa using hkk
      unfold wordOf
      by_cases c1 : (y, ("strong" : Str)) ∈ defsO os
      · rw [if_pos c1]
        have := mx _ c1
        rcases hk3 with rfl | rfl | rfl
        · omega
        · omega
        · rfl
      · rw [if_neg c1]
        by_cases c2 : (y, ("common" : Str)) ∈ defsO os
        · rw [if_pos c2]
          have := mx _ c2
          rcases hk3 with rfl | rfl | rfl
          · omega
          · rfl
          · exact absurd hk c1
        · rw [if_neg c2]
          rcases hk3 with rfl | rfl | rfl
          · rw [if_pos hk]
          · exact absurd hk c2
          · exact absurd hk c1
    have hne : k ≠ ("wanted" : Str) := (kind_nw _ hkk)
    have hm := faceO_mem.mpr hw
    unfold fdN initF
    rw [List.find?_map]
    have hf : ((faceO os).filter (fun p => !decide (p.2 = ("wanted" : Str)))).find? ((fun q : Str × List DefB => decide (q.1 = y)) ∘ fun p => (p.1, [(p.2, none)])) = some (y, k) := by
      have hm2 : (y, k) ∈ (faceO os).filter (fun p => !decide (p.2 = ("wanted" : Str))) := List.mem_filter.mpr ⟨hm, by simpa using hne⟩
      have nd2 : (((faceO os).filter (fun p => !decide (p.2 = ("wanted" : Str)))).map (·.1)).Nodup := filt_nd nd
      cases q : ((faceO os).filter (fun p => !decide (p.2 = ("wanted" : Str)))).find? ((fun q : Str × List DefB => decide (q.1 = y)) ∘ fun p => (p.1, [(p.2, none)])) with
      | none =>
        have := List.find?_eq_none.mp q _ hm2
        simp at this
      | some r =>
        have h1 := List.mem_of_find?_eq_some q
        have h2 := List.find?_some q
        have h2 : r.1 = y := by simpa using h2
        rw [uniq_name (g := fun p : Str × Str => p.1) nd2 h1 hm2 h2]
    rw [hf]
    rfl
end Z

set_option Elab.async false
set_option linter.all false
set_option maxRecDepth 100000
set_option maxHeartbeats 4000000
namespace Z
open PySem PySem.Spec PyProof.Rows L2 TL
open PySem.PyData (strOk)
theorem perm_le1 {α : Type} {xs ys : List α} (p : xs.Perm ys) (h : ys.length ≤ 1) : xs = ys := by
  match ys, h with
  | [], _ => exact List.perm_nil.mp p
  | [y], _ => exact List.perm_singleton.mp p
theorem gsN_memB {names : List Str} {r : RowB} (g : RowG1 names r) (y : Str) : defsN (memB r) y = gsN r y := by
  have nd : (r.gs.map (·.1)).Nodup := (List.nodup_append.mp g.nd).1
  unfold defsN gsN
  show ((sortP r.gs).filter fun d => decide (d.1 = y)).map _ = _
  have p : ((sortP r.gs).filter fun d : DefA => decide (d.1 = y)).Perm (r.gs.filter fun d => decide (d.1 = y)) := (sortP_perm r.gs).filter _
  have l : (r.gs.filter fun d : DefA => decide (d.1 = y)).length ≤ 1 := by
    have := nodup_len (xs := (r.gs.filter fun d : DefA => decide (d.1 = y)).map (·.1)) (ys := [y]) (nd.sublist (List.filter_sublist.map _)) fun x hx => by
      obtain ⟨d, hd, rfl⟩ := List.mem_map.mp hx
      exact List.mem_singleton.mpr (of_decide_eq_true (List.mem_filter.mp hd).2)
    simpa using this
  rw [perm_le1 p l]
theorem strongs_flat (os : List ObA) : strongsO os = ((defsO os).filter fun p => decide (p.2 = ("strong" : Str))).map (·.1) := by
  unfold strongsO defsO
  rw [List.filter_flatMap, List.map_flatMap]
theorem own_strong {os : List ObA} (O : ObsOk os) (y : Str) : ((ownL os y).filter fun d => decide (d.1 = ("strong" : Str))).length ≤ 1 := by
  have h := O.st
  rw [strongs_flat] at h
  have e : ((ownL os y).filter fun d => decide (d.1 = ("strong" : Str))).length = ((((defsO os).filter fun p => decide (p.2 = ("strong" : Str))).map (·.1)).filter fun x => decide (x = y)).length := by
    unfold ownL
    rw [List.filter_map, List.length_map, List.filter_filter, List.filter_map, List.length_map, List.filter_filter]
    congr 1
    refine List.filter_congr fun p _ => ?_
    show (decide (p.2 = _) && decide (p.1 = y)) = (decide (p.1 = y) && decide (p.2 = _))
    exact Bool.and_comm _ _
  rw [e]
  have := nodup_len (ys := [y]) (h.filter fun x => decide (x = y)) fun x hx => List.mem_singleton.mpr (of_decide_eq_true (List.mem_filter.mp hx).2)
  simpa using this
theorem own_kd {os : List ObA} (O : ObsOk os) (y : Str) : ∀ d ∈ ownL os y, d.1 ∈ kinds := fun d hd => by
  unfold ownL at hd
  obtain ⟨p, hp, rfl⟩ := List.mem_map.mp hd
  exact O.kdD p (List.mem_filter.mp hp).1
theorem own_count {os : List ObA} (O : ObsOk os) (y : Str) (ne : ownL os y ≠ []) : ((ownL os y).filter fun d => decide (d.1 = ("strong" : Str))).length = ([bestF (ownL os y)].filter fun d => decide (d.1 = ("strong" : Str))).length := by
  have l1 := own_strong O y
  obtain ⟨b1, b2⟩ := bestF_mem ne
  have kb := own_kd O y _ b1
  by_cases c : ∃ d ∈ ownL os y, d.1 = ("strong" : Str)
  · obtain ⟨d, hd, e⟩ := c
    have hr := b2 d hd
    have e2 : (bestF (ownL os y)).1 = ("strong" : Str) := by
      unfold rankB at hr
      rw [e] at hr
      have ixs : kinds.idxOf ("strong" : Str) = 2 ∧ kinds.idxOf ("common" : Str) = 1 ∧ kinds.idxOf ("weak" : Str) = 0 := by decide +kernel
      generalize (bestF (ownL os y)).1 = k at hr kb
      unfold kinds at kb
      simp only [List.mem_cons, List.not_mem_nil, or_false] at kb
      rcases kb with rfl | rfl | rfl
      · omega
      · omega
      · rfl
    have h1 : 0 < ((ownL os y).filter fun d => decide (d.1 = ("strong" : Str))).length := List.length_pos_of_mem (List.mem_filter.mpr ⟨hd, decide_eq_true e⟩)
    rw [List.filter_cons, if_pos (decide_eq_true e2), List.filter_nil]
    show _ = 1
    omega
  · have e2 : ¬ (bestF (ownL os y)).1 = ("strong" : Str) := fun z => c ⟨_, b1, z⟩
    rw [List.filter_cons, if_neg (by simpa using e2), List.filter_nil]
    have : (ownL os y).filter (fun d => decide (d.1 = ("strong" : Str))) = [] := List.filter_eq_nil_iff.mpr fun d hd z => c ⟨d, hd, of_decide_eq_true z⟩
    rw [this]
section
variable {names : List Str} {ps : List ArcB} (S : StoW names ps) {os : List ObA} (O : ObsOk os) {R : RkR} {w : WA} {a : LA} (h : SimW ps os R w a) {n c0 : Nat} (z : WSz n w) (ok : LaOk c0 a)
include S h
theorem SimW.flat (y : Str) : ((rkT R).flatMap fun t => defsN t.2 y) = R.flatMap fun t => gsN t.2 y := by
  unfold rkT
  rw [List.flatMap_map]
  have : ∀ L : RkR, (∀ t ∈ L, ∃ p ∈ ps, t.1 = p.1 ∧ t.2 ∈ p.2) → (L.flatMap fun t => defsN (memB t.2) y) = L.flatMap fun t => gsN t.2 y := by
    intro L
    induction L with
    | nil => intro _; rfl
    | cons t L ih =>
      intro hL
      obtain ⟨p, hp, _, hw⟩ := hL t (by simp)
      rw [List.flatMap_cons, List.flatMap_cons, ih fun u hu => hL u (List.mem_cons_of_mem _ hu), gsN_memB ((S.arc p hp).row t.2 hw)]
  exact this R h.of
theorem SimW.fdA (y : Str) : fdN a.found y = fdN (initF (faceO os)) y ++ R.flatMap fun t => gsN t.2 y := by
  rw [h.tl.fd, h.flat S]
include O z ok
theorem SimW.keys : keysW w = fdKeys a := sortS_same z.nd ok.fn fun y => h.found O.kdD y
theorem SimW.bind {y : Str} (hne : fdN a.found y ≠ []) : bdD (bestF (fdN w.found y)).2 = strongD (fdOf a y) := by
  show _ = strongD (fdN a.found y)
  rw [strongD_best hne, h.fdA S, h.tw.fd, own_face O]
  by_cases c : ownL os y = []
  · rw [c, if_pos rfl]
  · rw [if_neg c, bestF_app c, bestF_app (by simp), bestF_one]
theorem SimW.clash (y : Str) : clashB (fdN w.found y) = clashB (fdN a.found y) := by
  unfold clashB
  rw [h.fdA S, h.tw.fd, own_face O]
  by_cases c : ownL os y = []
  · rw [c, if_pos rfl]
  · rw [if_neg c, List.filter_append, List.filter_append, List.length_append, List.length_append, own_count O y c]
omit z in
theorem fdN_at {q : Str × List DefB} (hq : q ∈ a.found) : fdN a.found q.1 = q.2 := by
  unfold fdN
  cases c : a.found.find? fun r => decide (r.1 = q.1) with
  | none =>
    have := List.find?_eq_none.mp c q hq
    simp at this
  | some r =>
    have h1 := List.mem_of_find?_eq_some c
    have h2 := List.find?_some c
    rw [uniq_name (g := fun r : Str × List DefB => r.1) ok.fn h1 hq (of_decide_eq_true h2)]
    rfl
theorem SimW.clashes : clashW w = clashL a := by
  have e1 : clashW w = sortS (clashW w) := by
    refine (sortS_of ?_).symm
    unfold clashW keysW
    exact (sortS_sorted _).filter _
  rw [e1]
  refine sortS_same ?_ ?_ fun y => ?_
  · unfold clashW keysW
    exact ((sortS_perm _).nodup_iff.mpr z.nd).filter _
  · exact ok.fn.sublist (List.filter_sublist.map _)
  · unfold clashW
    rw [List.mem_filter, h.keys S O z ok, fdKeys_in, h.clash S O z ok]
    constructor
    · rintro ⟨hy, hc⟩
      obtain ⟨q, hq, rfl⟩ := List.mem_map.mp hy
      rw [fdN_at S O h ok hq] at hc
      exact List.mem_map.mpr ⟨q, List.mem_filter.mpr ⟨hq, hc⟩, rfl⟩
    · intro hz
      obtain ⟨q, hq, rfl⟩ := List.mem_map.mp hz
      obtain ⟨h1, h2⟩ := List.mem_filter.mp hq
      exact ⟨List.mem_map_of_mem h1, by rw [fdN_at S O h ok h1]; exact h2⟩
theorem SimW.lacks : lacksW w = openL a := by
  have e1 : openL a = sortS (openL a) := (sortS_of (openL_sorted a)).symm
  rw [e1]
  unfold lacksW
  refine sortS_same (onceS_nodup _) (openL_nd ok.wn) fun y => ?_
  rw [onceS_mem, List.mem_filter, h.opn O.kdD y]
  simp
end
end Z

set_option Elab.async false
set_option linter.all false
set_option maxRecDepth 100000
set_option maxHeartbeats 4000000
namespace Z
open PySem PySem.Spec PyProof.Rows L2 TL
open PySem.PyData (strOk)
/-! ### _law_objects -/
section
variable (take of_ : MF)
def ob3 : SM := (sI (toB (m2 dEq (mV 9) (mC (.str "strong")))) (sE (mBM "list" (mtL lAppend) (mV 4) (aC (mV 10) aN))) sN)
def ob2 : SM := (sC (sE (mBM "list" (mtL lAppend) (mV 7) (aC (mN fTup (aC (mV 10) (aC (mV 9) aN))) aN))) ob3)
def ob1 : SM := (sC (sA 9 (mIf (toB (m2 (dInB false) (mV 10) (mV 4))) (mC (.str "weak")) (mV 9))) ob2)
def ob0 : SM := (sC (sP 10 9 (aC (mBM "list" (mtL lPopAt) (mV 6) (aC (mN take (aC (mV 0) (aC (mN fLen (aC (mV 6) aN)) aN))) aN)) (aC (mN of_ (aC (mV 0) (aC (mN fLst (aC (mC (.str "weak")) (aC (mC (.str "common")) (aC (mC (.str "strong")) aN)))) aN))) aN))) ob1)
def oc0 : SM := (sE (mBM "list" (mtL lAppend) (mV 8) (aC (mN of_ (aC (mV 0) (aC (mV 1) aN))) aN)))
def oa3 : SM := (sE (mBM "list" (mtL lAppend) (mV 3) (aC (mN fTup (aC (mN fTuple (aC (mV 7) aN)) (aC (mN fTuple (aC (mV 8) aN)) aN))) aN)))
def oa2 : SM := (sC (sF (iR1 (aC (m2 dAdd (mC (.int 1)) (mN take (aC (mV 0) (aC (mC (.int 3)) aN)))) aN)) (gN 5) (oc0 of_)) oa3)
def oa1 : SM := (sC (sF (iR1 (aC (mN take (aC (mV 0) (aC (mN fMin2 (aC (mC (.int 3)) (aC (m2 dAdd (mN fLen (aC (mV 6) aN)) (mC (.int 1))) aN))) aN))) aN)) (gN 5) (ob0 take of_)) (oa2 take of_))
def oa0 : SM := (sC (sP3 6 7 8 (aC (mN fList (aC (mV 1) aN)) (aC (mN fLst aN) (aC (mN fLst aN) aN)))) (oa1 take of_))
def ox2 : SM := (sR (mN fTuple (aC (mV 3) aN)))
def ox1 : SM := (sC (sF (iR1 (aC (m2 dAdd (mC (.int 1)) (mN take (aC (mV 0) (aC (mC (.int 3)) aN)))) aN)) (gN 2) (oa0 take of_)) ox2)
def tObjectsW : SM := (sC (sP 3 4 (aC (mN fLst aN) (aC (mN fLst aN) aN))) (ox1 take of_))
end
structure ObI (s0 s : Sto) (k p3 p4 p6 p7 p8 : Nat) (os : List ObA) (st left : List Str) (gv : List (Str × Str)) (nd : List Str) : Prop where
  ef : Eff [k] s0 s
  m3 : mlAt s p3 = some (os.map obD)
  m4 : mlAt s p4 = some (st.map D.str)
  m6 : mlAt s p6 = some (left.map D.str)
  m7 : mlAt s p7 = some (gv.map fcD)
  m8 : mlAt s p8 = some (nd.map D.str)
  lo : k < s0.length ∧ s0.length ≤ p3 ∧ p3 < p4 ∧ p4 < p6 ∧ p6 < p7 ∧ p7 < p8
section
variable {s0 s t : Sto} {k p3 p4 p6 p7 p8 : Nat} {os : List ObA} {st left : List Str} {gv : List (Str × Str)} {nd : List Str}
theorem ObI.eff (h : ObI s0 s k p3 p4 p6 p7 p8 os st left gv nd) (e : Eff [k] s t) : ObI s0 t k p3 p4 p6 p7 p8 os st left gv nd := by
  obtain ⟨l0, l1, l2, l3, l4, l5⟩ := h.lo
  exact ⟨h.ef.trans e, e.ml h.m3 (by simp; omega), e.ml h.m4 (by simp; omega), e.ml h.m6 (by simp; omega), e.ml h.m7 (by simp; omega), e.ml h.m8 (by simp; omega), h.lo⟩
theorem ObI.s3 (h : ObI s0 s k p3 p4 p6 p7 p8 os st left gv nd) {os' : List ObA} : ObI s0 (s.set p3 (.lst (os'.map obD))) k p3 p4 p6 p7 p8 os' st left gv nd := by
  obtain ⟨l0, l1, l2, l3, l4, l5⟩ := h.lo
  have hl := lstAt_lt (lstAt_ml h.m3)
  exact ⟨h.ef.set l1, mlAt_set_self hl, by rw [mlAt_set_ne (by omega)]; exact h.m4, by rw [mlAt_set_ne (by omega)]; exact h.m6, by rw [mlAt_set_ne (by omega)]; exact h.m7, by rw [mlAt_set_ne (by omega)]; exact h.m8, h.lo⟩
theorem ObI.s4 (h : ObI s0 s k p3 p4 p6 p7 p8 os st left gv nd) {st' : List Str} : ObI s0 (s.set p4 (.lst (st'.map D.str))) k p3 p4 p6 p7 p8 os st' left gv nd := by
  obtain ⟨l0, l1, l2, l3, l4, l5⟩ := h.lo
  have hl := lstAt_lt (lstAt_ml h.m4)
  exact ⟨h.ef.set (by omega), by rw [mlAt_set_ne (by omega)]; exact h.m3, mlAt_set_self hl, by rw [mlAt_set_ne (by omega)]; exact h.m6, by rw [mlAt_set_ne (by omega)]; exact h.m7, by rw [mlAt_set_ne (by omega)]; exact h.m8, h.lo⟩
theorem ObI.s6 (h : ObI s0 s k p3 p4 p6 p7 p8 os st left gv nd) {l' : List Str} : ObI s0 (s.set p6 (.lst (l'.map D.str))) k p3 p4 p6 p7 p8 os st l' gv nd := by
  obtain ⟨l0, l1, l2, l3, l4, l5⟩ := h.lo
  have hl := lstAt_lt (lstAt_ml h.m6)
  exact ⟨h.ef.set (by omega), by rw [mlAt_set_ne (by omega)]; exact h.m3, by rw [mlAt_set_ne (by omega)]; exact h.m4, mlAt_set_self hl, by rw [mlAt_set_ne (by omega)]; exact h.m7, by rw [mlAt_set_ne (by omega)]; exact h.m8, h.lo⟩
theorem ObI.s7 (h : ObI s0 s k p3 p4 p6 p7 p8 os st left gv nd) {g' : List (Str × Str)} : ObI s0 (s.set p7 (.lst (g'.map fcD))) k p3 p4 p6 p7 p8 os st left g' nd := by
  obtain ⟨l0, l1, l2, l3, l4, l5⟩ := h.lo
  have hl := lstAt_lt (lstAt_ml h.m7)
  exact ⟨h.ef.set (by omega), by rw [mlAt_set_ne (by omega)]; exact h.m3, by rw [mlAt_set_ne (by omega)]; exact h.m4, by rw [mlAt_set_ne (by omega)]; exact h.m6, mlAt_set_self hl, by rw [mlAt_set_ne (by omega)]; exact h.m8, h.lo⟩
theorem ObI.s8 (h : ObI s0 s k p3 p4 p6 p7 p8 os st left gv nd) {n' : List Str} : ObI s0 (s.set p8 (.lst (n'.map D.str))) k p3 p4 p6 p7 p8 os st left gv n' := by
  obtain ⟨l0, l1, l2, l3, l4, l5⟩ := h.lo
  have hl := lstAt_lt (lstAt_ml h.m8)
  exact ⟨h.ef.set (by omega), by rw [mlAt_set_ne (by omega)]; exact h.m3, by rw [mlAt_set_ne (by omega)]; exact h.m4, by rw [mlAt_set_ne (by omega)]; exact h.m6, by rw [mlAt_set_ne (by omega)]; exact h.m7, mlAt_set_self hl, h.lo⟩
end
/-- the program so far, plainly -/
structure ObP (names : List Str) (os : List ObA) (st left : List Str) (gv : List (Str × Str)) : Prop where
  pm : (gv.map (·.1) ++ left).Perm names
  kd : ∀ p ∈ gv, p.2 ∈ kinds
  se : st = strongsO os ++ (gv.filter fun p => decide (p.2 = ("strong" : Str))).map (·.1)
  sn : st.Nodup
  sn2 : ∀ y ∈ st, y ∈ names
section
variable {take of_ : MF} (T : TakeOk take) (O : OfOk of_) {s0 s : Sto} {k p3 p4 p6 p7 p8 : Nat} {os : List ObA} {names st left : List Str} {gv : List (Str × Str)} {nd : List Str} {Q : En} {o1 o2 o5 o9 o10 : Option D} (hb : Bag s0 k) (hn : ∀ x ∈ names, IsName x) (nn : names.Nodup) (nl : names.length ≤ 1000)
include T O hb hn nn nl
end
/-- the objects drawn so far -/
structure ObsW (names : List Str) (os : List ObA) : Prop where
  ob : ∀ o ∈ os, ObOk o
  st : (strongsO os).Nodup
  sub : ∀ o ∈ os, (∀ p ∈ o.1, p.1 ∈ names) ∧ ∀ x ∈ o.2, x ∈ names
  l1 : ∀ o ∈ os, o.1.length ≤ 2 ∧ o.2.length ≤ 3
theorem strongs_snoc (os : List ObA) (o : ObA) : strongsO (os ++ [o]) = strongsO os ++ (o.1.filter fun p => decide (p.2 = ("strong" : Str))).map (·.1) := by
  unfold strongsO
  rw [List.flatMap_append]
  simp
theorem ObsW.snoc {names : List Str} (hn : ∀ x ∈ names, IsName x) (nn : names.Nodup) {os : List ObA} (h : ObsW names os) {st left : List Str} {gv : List (Str × Str)} {nd : List Str} (P : ObP names os st left gv) (hg : gv.length ≤ 2) (hl : nd.length ≤ 3) (hd : ∀ y ∈ nd, y ∈ names) : ObsW names (os ++ [(gv, nd)]) ∧ st = strongsO (os ++ [(gv, nd)]) := by
  have e : st = strongsO (os ++ [(gv, nd)]) := by rw [strongs_snoc]; exact P.se
  have sub : ∀ p ∈ gv, p.1 ∈ names := fun p hp => P.pm.mem_iff.mp (List.mem_append_left _ (List.mem_map_of_mem hp))
  have gnd : (gv.map (·.1)).Nodup := (List.nodup_append.mp (P.pm.nodup_iff.mpr nn)).1
  refine ⟨⟨fun o ho => ?_, e ▸ P.sn, fun o ho => ?_, fun o ho => ?_⟩, e⟩
  · rcases List.mem_append.mp ho with ho | ho
    · exact h.ob o ho
    · rw [List.mem_singleton.mp ho]
      exact ⟨fun p hp => hn _ (sub p hp), P.kd, gnd, fun x hx => hn x (hd x hx), by show gv.length ≤ 100; omega, by show nd.length ≤ 100; omega⟩
  · rcases List.mem_append.mp ho with ho | ho
    · exact h.sub o ho
    · rw [List.mem_singleton.mp ho]
      exact ⟨sub, hd⟩
  · rcases List.mem_append.mp ho with ho | ho
    · exact h.l1 o ho
    · rw [List.mem_singleton.mp ho]
      exact ⟨hg, hl⟩
theorem ObsW.lens {names : List Str} : ∀ {os : List ObA}, ObsW names os → (defsO os).length ≤ 2 * os.length ∧ (wantsO os).length ≤ 3 * os.length := by
  intro os h
  replace h := h.l1
  induction os with
  | nil => exact ⟨Nat.le_refl _, Nat.le_refl _⟩
  | cons o os ih =>
    obtain ⟨i1, i2⟩ := ih fun x hx => h x (List.mem_cons_of_mem _ hx)
    obtain ⟨j1, j2⟩ := h o (by simp)
    unfold defsO wantsO at *
    rw [List.flatMap_cons, List.flatMap_cons, List.length_append, List.length_append, List.length_cons]
    omega
theorem ObsW.ok {names : List Str} {os : List ObA} (h : ObsW names os) (hl : os.length ≤ 100) : ObsOk os := by
  obtain ⟨h1, h2⟩ := h.lens
  exact ⟨h.ob, h.st, by omega⟩
section
variable {take of_ : MF} (T : TakeOk take) (O : OfOk of_) {s : Sto} {k l1 : Nat} {names : List Str} (hb : Bag s k) (hn : ∀ x ∈ names, IsName x) (nn : names.Nodup) (nl : names.length ≤ 1000) (m1 : mlAt s l1 = some (names.map D.str)) (h1 : l1 ≠ k) (ne : names ≠ [])
include T O hb hn nn nl m1 h1 ne
end
end Z

set_option Elab.async false
set_option linter.all false
set_option maxRecDepth 100000
set_option maxHeartbeats 4000000
namespace Z
open PySem PySem.Spec PyProof.Rows L2 TL
open PySem.PyData (strOk)
/-! ### face_of, where its answer is a plain tuple -/
def fv6T : SM := (sR (mN fTuple (aC (mN fSortI (aC (mV 3) aN)) aN)))
def fv5T (c : D) : SM := (sC (sF (iSq (mC c)) (gN 4) fo5b) fv6T)
def fv4T (c : D) : SM := (sC (sA 3 (mDc2 (iSq (mV 0)) (gT [(gN 6), (gN 7)]) tY (iSq (mV 7)) (gN 5) tY (mV 5) (mC (.str "wanted")) [6, 7, 5] [5])) (fv5T c))
def fv3T (st : SM) (c : D) : SM := (sC (sI (toB (m2 dNotN2 (mV 2) (mC .non))) st sN) (fv4T c))
def fv2T (FT : MF) (st : SM) (c : D) : SM := (sC (sA 2 (mN FT (aC (mV 1) aN))) (fv3T st c))
def fv1T (FT : MF) (st : SM) (c : D) : SM := (sC (sA 1 (mN fSortA (aC (mL2 (iSq (mV 0)) (gT [(gN 6), (gN 7)]) tY (iSq (mV 6)) (gT [(gN 5), (gN 4)]) (toB (m2 dEq (mV 4) (mC (.str "strong")))) (mV 5) [6, 7, 5, 4] [5, 4]) aN))) (fv2T FT st c))
def tFaceOfV (LO FT : MF) (st : SM) (c : D) : SM := (sC (sE (mN LO (aC (mV 0) aN))) (fv1T FT st c))
section
variable {os : List ObA} {d : D} {s : Sto} {Q : En} {o1 o2 o4 o5 o6 o7 o8 : Option D} (h : ObsOk os)
include h
end
end Z

set_option Elab.async false
set_option linter.all false
set_option maxRecDepth 100000
set_option maxHeartbeats 4000000
namespace Z
open PySem PySem.Spec PyProof.Rows L2 TL
open PySem.PyData (strOk)
/-! ### drawn names have at most one letter besides a, z, q, m -/
def isAz (c : Nat) : Prop := c ∈ [97, 122, 113, 109]
instance (c : Nat) : Decidable (isAz c) := by unfold isAz; infer_instance
theorem isAz.low {c : Nat} (h : isAz c) : isLow c := by
  unfold isAz at h
  simp only [List.mem_cons, List.not_mem_nil, or_false] at h
  unfold isLow
  omega
def Drw (x : Str) : Prop := (tl x).countP (fun c => !decide (isAz c)) ≤ 1
instance (x : Str) : Decidable (Drw x) := by unfold Drw; infer_instance
def NamesOkD (F : List D → Sto → Rs D) : Prop := ∀ {s : Sto} {k n : Nat}, Bag s k → n ≤ 26 → (F [.ref k, .int n] s).wp fun d s' => ∃ (l : Nat) (ms : List Str), d = .ref l ∧ s.length ≤ l ∧ mlAt s' l = some (ms.map D.str) ∧ ms.length = n ∧ ms.Nodup ∧ (∀ x ∈ ms, IsName x ∧ Drw x) ∧ Eff [k] s s'
/-- the archives so far -/
structure PlID (q : Nat) (names tags : List Str) (s : Sto) (k n b L : Nat) (B0 : Int) (i : Nat) (ps : List ArcB) (s2 : Sto) : Prop where
  ef : Eff [k] s s2
  hz : b < s2.length
  m5 : mlAt s2 s.length = some (ps.map arcB)
  mL : mlAt s2 L = some (tags.map D.str)
  hi : ps.length = i
  hm : ps.map (·.1) = tags.take i
  arc : ∀ p ∈ ps, ArcG1 names p
  dr : ∀ p ∈ ps, Drw p.1 ∧ (∀ r ∈ p.2, Drw r.mem) ∧ p.2.length ≤ q
  bx : ∃ B pre, mlAt s2 b = some (pre ++ [.int B]) ∧ pre.length ≤ 21 * i ∧ BodW B0 B (bodP ps) ∧ B0 ≤ B ∧ B ≤ B0 + 63 * i
structure PlED (q : Nat) (names tags : List Str) (s : Sto) (k n b L : Nat) (B0 : Int) (m : Int) (i : Nat) (e : Ev) (s2 : Sto) : Prop where
  ex : ∃ ps o4 o7 o8 o9 o10, PlID q names tags s k n b L B0 i ps s2 ∧ e = [some (.ref k), some (.ref n), some (.int m), some (.int q), o4, some (.ref s.length), some (.ref b), o7, o8, o9, o10]
end Z

set_option Elab.async false
set_option linter.all false
set_option maxRecDepth 100000
set_option maxHeartbeats 4000000
namespace Z
open PySem PySem.Spec PyProof.Rows L2
/-! ### a default that is an empty tuple: at a place -/
variable [Row]
section
variable {K : PySem.W.Frag} {mg : Str → Option Value} {ρ : Nat → Addr} {H : Hp}
end
/-- an empty tuple without a dict stands at a -/
def tupPB (K : PySem.W.Frag) (a : Addr) : Bool := match K.lookup a with
  | some ⟨.type c, none, .seq its _, _⟩ => decide (c = "tuple") && decide (its.size = 0)
  | _ => false
section
variable {P : Program} {w : World} {K : PySem.W.Frag} {mg : Str → Option Value} {base : Heap} {k : Nat} {f : Addr} {fd : FuncData} {x qual : Str} {params : Arguments} {body : List Stmt} {scope : Scope} {kws : List (Str × V)} {N ps : List Str} {m : SM}
end
end Z

set_option Elab.async false
set_option linter.all false
set_option maxRecDepth 100000
set_option maxHeartbeats 4000000
namespace Z
open PySem PySem.Spec PyProof.Rows L2 TL
open PySem.PyData (strOk)
/-! ### Link(store, line), with the default face -/
def LinkOk3 (F : MF) (gs : Bool) : Prop := ∀ {s0 s : Sto} {d : D} {as : List ArcA} {line : List ItA}, Eff [] s0 s → IsSto s0 d as → StoK as → LineOk as line → (∀ i ∈ line, i.isG = true → gs = true) →
  (mkD "Link" (fun ds s => F (pick [0, 1, 2, 3] (ds ++ [.ref s.length])) (s ++ [.ptp []])) [d, .tup (lineD line)] s).wp fun d' s' => d' = .ref s.length ∧ Eff [] s s' ∧ ∃ p ls, IsLa s s' s.length d p ls (linkA as line []) ∧ LaOk 0 (linkA as line []) ∧ RowsOk as (linkA as line [])
end Z

set_option Elab.async false
set_option linter.all false
set_option maxRecDepth 100000
set_option maxHeartbeats 4000000
namespace Z
open PySem PySem.Spec PySem.Calls PyProof.Rows L2
/-! ### sorted: tuples whose first parts decide, where the other parts are unlike -/
section
open PySem.W
/-- the first parts are alike; the others too, if the first ones are equal -/
def alikeF : PyData → PyData → Bool
  | .tuple (x :: xs), .tuple (y :: ys) => alike x y && (!PyData.eqv x y || alikeAll xs ys)
  | _, _ => false
def AllF (ds : List PyData) : Prop := ∀ d, d ∈ ds → ∀ d', d' ∈ ds → alikeF d d' = true
section
variable {prog : Program} {w : World} {A : Around} {s : Shared}
end
end
end Z

set_option Elab.async false
set_option linter.all false
set_option maxRecDepth 100000
set_option maxHeartbeats 4000000
namespace Z
open PySem PySem.Spec PySem.Calls PyProof.Rows L2
variable [Row]
section
variable {X : Cx} {W : WX}
open PySem.W in
open PySem.W in
def rSrtF (X : Cx) : List V → Hp → VK → Prop := fun vs H Q => ∃ (a : Addr) (ps : List (D × V)) (enc : D → PyData), vs = [.ref a] ∧ (SqL X.K H a (ps.map (·.2)) ∨ SqT X.K H a (ps.map (·.2))) ∧ (∀ p ∈ ps, Dp X.K H p.2 (enc p.1)) ∧
  AllF (ps.map fun p => enc p.1) ∧ (∀ p ∈ ps, X.A.units + 2 + (enc p.1).depth < cLine) ∧ ∀ q, H q = none → Q (.ref q) (upd H q (.lst ((ps.mergeSort (dataLe false fun p => enc p.1)).map (·.2))))
def canSortF (s : Sto) (xs : List D) : Bool := (xs.all fun d => (shp s d).isSome) && xs.all fun d => xs.all fun e => alikeF (encD s d) (encD s e)
/-- sorted of a list or a tuple of tuples, by their first parts -/
def fSortF (ds : List D) (s : Sto) : Rs D := match ds with
  | [d] => match seqD s d with
    | some xs => if canSortF s xs = true then .ok (.ref s.length) (s ++ [.lst (sortD s xs)]) else .no
    | none => .no
  | _ => .no
end
section
omit [Row]
variable {P : D → Sto → Prop} {E : Str → Str → D → Sto → Prop} {s : Sto} {n : Nat} {xs : List D}
end
end Z

set_option Elab.async false
set_option linter.all false
set_option maxRecDepth 100000
set_option maxHeartbeats 4000000
namespace Z
open PySem PySem.Spec PyProof.Rows L2
/-! ### enumerate(a text) -/
def enS (x : Str) : List D := x.cps.toList.mapIdx fun i c => .tup [.int i, .str ⟨#[c]⟩]
def iEnS (ms : EM (List D)) : EM (Nat × Stp) := fun e s => (ms e s).bind fun ds s1 => match ds with
  | [.str x] => .ok (x.cps.size, jTup (enS x)) s1
  | _ => .no
/-- the text's letters in new pairs -/
def Ites (x : Str) : L2.It where
  go := fun i _ => ∃ c, x.cps[i]? = some c
  yld := fun i H u H2 => ∃ T c, u = .ref T ∧ H T = none ∧ H2 = upd H T (.tup [.int (i : Nat), .str ⟨#[c]⟩]) ∧ x.cps[i]? = some c
  stop := fun i _ => x.cps.size ≤ i
variable [Row]
section
variable {X : Cx} {W : WX} {p pos tpos : Pos} {e : Expr} {elts : List Expr} {kk : Nat} {ms : EM (List D)}
end
section
omit [Row]
variable {PI : Nat × Stp → Sto → Prop} {E : Str → Str → D → Sto → Prop} {e : Ev} {s : Sto} {ms : EM (List D)}
@[simp ↓] theorem z_iEnS : (iEnS ms e s).wp PI E = (ms e s).wp (fun ds s1 => ∃ x, ds = [.str x] ∧ PI (x.cps.size, jTup (enS x)) s1) E := by
  unfold iEnS
  rw [z_bind]
  congr 1
  funext ds s1
  split
  · rw [z_ok, eq_iff_iff]
    refine ⟨fun h => ⟨_, rfl, h⟩, ?_⟩
    rintro ⟨xs, h1, h2⟩
    cases h1
    exact h2
  · rename_i hn
    simp only [z_no, eq_iff_iff, false_iff, not_exists]
    rintro xs ⟨h, _⟩
    exact hn xs h
end
end Z

set_option Elab.async false
set_option linter.all false
set_option maxRecDepth 100000
set_option maxHeartbeats 4000000
namespace Z
open PySem PySem.Spec PyProof.Rows L2
/-! ### d.get(k); a tuple of places of plain tuples, told by what stands there -/
def dGet1 (x y : D) (s : Sto) : Rs D := match x with
  | .ref n => (match keyD y with
    | some k => (match dctAt s n with
      | some kvs => .ok ((getK kvs k).getD .non) s
      | none => .no)
    | none => .no)
  | _ => .no
def mGet1 (mo me : EM D) : EM D := fun env s => (mo env s).bind fun x s1 => match x with
  | .ref n => (match dctAt s1 n with
    | some _ => (me env s1).bind fun y s2 => dGet1 (.ref n) y s2
    | none => .no)
  | _ => .no
def unP2 (s : Sto) (d : D) : D := match d with
  | .tup ds => .tup (ds.map (unP s))
  | d => unP s d
def mUn2 (m : EM D) : EM D := fun e s => (m e s).bind fun d s1 => .ok (unP2 s1 d) s1
variable [Row]
section
variable {X : Cx} {W : WX} {apos cpos : Pos} {o e : Expr} {mo me m : EM D}
end
section
omit [Row]
variable {P : D → Sto → Prop} {E : Str → Str → D → Sto → Prop} {e : Ev} {s : Sto} {a b m : EM D}
@[simp ↓] theorem z_mUn2 : (mUn2 m e s).wp P E = (m e s).wp (fun d s1 => P (unP2 s1 d) s1) E := by
  unfold mUn2
  rw [z_bind]
  rfl
@[simp ↓] theorem z_mGet1 : (mGet1 a b e s).wp P E = (a e s).wp (fun d s1 => refP d fun n => optP (dctAt s1 n) fun _ => (b e s1).wp (fun y s2 => optP (keyD y) fun k => optP (dctAt s2 n) fun kvs => P ((getK kvs k).getD .non) s2) E) E := by
  unfold mGet1
  rw [z_bind]
  congr 1
  funext d s1
  unfold refP
  cases d with
  | ref n =>
    dsimp only
    cases dctAt s1 n with
    | none => rfl
    | some kvs =>
      simp only [z_bind, optP_some]
      congr 1
      funext y s2
      unfold dGet1
      dsimp only
      cases keyD y with
      | none => rfl
      | some k =>
        dsimp only
        rw [optP_some]
        cases dctAt s2 n with
        | none => rfl
        | some kvs => dsimp only; rw [optP_some, z_ok]
  | _ => rfl
end
end Z

set_option Elab.async false
set_option linter.all false
set_option maxRecDepth 100000
set_option maxHeartbeats 4000000
namespace Z
open PySem PySem.Spec PySem.Calls PyProof.Rows L2
/-! ### len of a set -/
def fLenZ (B : MF) : MF := fun ds s => match ds with
  | [.ref n] => match setAt s n with
    | some xs => .ok (.int xs.length) s
    | none => B ds s
  | _ => B ds s
variable [Row]
end Z

set_option Elab.async false
set_option linter.all false
set_option maxRecDepth 100000
/-! S166: a list comprehension whose element may raise -/
namespace PySem
theorem noteFrame_frame {e : Value} {env env' : Env} (h : env.frame = env'.frame) : noteFrame e env = noteFrame e env' := by
  unfold noteFrame frameOf
  rw [h]
namespace HandSPX
section
variable {M : Model} {A : Around} {E : Value → Shared → Prop} {s : Shared} {Z : Obj → Prop} {base : Heap} {env : Env} {outer l : List Env} {L L' e : Addr}
/-- noted at another place: noted here too -/
theorem note_otherZ {Q : Unit → Shared → Prop} (hZ : Steady Z) (hfr : A.frames = some (env :: outer)) (hf : env.frame = some L) (hne : L' ≠ L) (hfl : HeldZ base (env :: outer) e Z L' s.heap)
    (hQ : ∀ h', HeldZ base (env :: outer) e Z L h' → s.heap.UpToSlots h' → Q () { s with heap := h' }) : wpAny M A (noteFrame (.ref e) env) Q E s := by
  obtain ⟨hkb, hen, hl, oe, vs, T, oT, ts, he, hz, hd, h1, hnT, hTe, hT, hdT, h3⟩ := hfl
  unfold noteFrame
  simp only [hf]
  refine wpAny_bind (wpAny_field he hd h1 ?_)
  rw [if_pos (show (Value.ref T != Value.none) = true from by simp)]
  refine wpAny_bind (wpAny_field hT hdT h3 ?_)
  rw [if_neg (show ¬ ((rawInt L' == rawInt L) = true) from fun q => hne (Int.ofNat.inj (by simpa [rawInt] using q)))]
  refine wpAny_bind (wpAny_setField hT hdT (Array.getElem?_eq_some_iff.mp h3).1 ?_)
  have other : ∀ b, b ≠ T → (s.heap.update T (Obj.mapFields (·.setIfInBounds 3 Value.none))).get? b = s.heap.get? b := fun b hb => Heap.get?_update_other _ _ (Ne.symm hb)
  have noRecord : ∀ b o, s.heap.get? b = some o → (∀ vs, o.data ≠ .fields vs) → b ≠ T := fun b o hb hnf q => by
    rw [q, hT] at hb; injection hb with hb; subst hb; exact hnf ts hdT
  refine wpAny_entryZ hZ hfr (hl.of_keeps fun b o hb hnf => ⟨o, (other b (noRecord b o hb hnf)).trans hb, rfl⟩) hf ((other e (Ne.symm hTe)).trans he)
    (fun b o hbo => (other b fun q => by rw [q, hnT] at hbo; cases hbo).trans (hkb b o hbo)) hen hd (Array.getElem?_eq_some_iff.mp h1).1 hz fun h' hN => ?_
  obtain ⟨x1, x2, x3, x4⟩ := hN
  exact hQ h' ⟨x1, hen, x2, x3⟩ fun b o hb hnf => x4 b o ((other b (noRecord b o hb hnf)).trans hb) hnf
end
end HandSPX
end PySem

namespace L2
open PySem PySem.Spec PyProof.Rows
section
variable {X : Cx} {pins : List (Addr × Obj)} {σ : St} {H : Hp} {s : Shared} {W : WX} {scope : Scope} {ce : Env} {fp : List Addr}
/-- what a block's exception is to reach -/
def Cx.out (X : Cx) (ce : Env) : Value → Shared → Prop := notedBy (model X.prog X.w) X.A ce (CompFails (model X.prog X.w) X.A X.xe ce)
abbrev Cx.blkX (X : Cx) (s : Shared) (H : Hp) (scope : Scope) (ce : Env) (fp : List Addr) : Cx := (X.blk s H scope ce fp).wish (X.out ce)
theorem takes_blk (hs : X.stack = X.env :: X.outer) (hf : X.env.frame = some X.env.locals) (tk : Takes X W) (I : Inv X pins σ H s) (f3 : ∀ b ∈ fp, FpOk X pins H b) (cL : ce.locals = s.heap.objs.size) (cf : ce.frame = X.env.frame) :
    Takes (X.blkX s H scope ce fp) (fun cls d _ H' => W cls d σ H') := by
  rintro u s' ⟨a, B, sI, pins', σ', H', cls, d, rfl, I6, nb, up, sky, na, os, ag, w⟩
  have hfr : X.A.frames = some (X.env :: X.outer) := by rw [I.ok.frames, hs]
  have nC : H' ce.locals = none := I6.free
  obtain ⟨m, hn, _⟩ := I6.loc
  have hn : sI.heap.Ns ce.locals m := hn
  -- the block of names is no frame
  have nCf : ce.locals ∉ frs X.stack := fun hm => by
    have z := I.stack.mem hm
    obtain ⟨_, o, e, _⟩ := z
    rw [cL] at e
    exact absurd (Heap.lt_size e) (Nat.lt_irrefl _)
  have I7 : Inv X pins σ H' sI := I.call' (ch := fp) I6.os I6.base I6.hok I6.bare fun b hb => ⟨(f3 b hb).2.2.2.1, (f3 b hb).2.1, (f3 b hb).2.2.2.2.1, (f3 b hb).2.2.2.2.2⟩
  have fC : FpOk X pins H' ce.locals := by
    rw [cL] at nC ⊢
    exact I.fpOk (Nat.le_refl _) nC
  obtain ⟨f0, f1, f2, f3', f4, f5⟩ := fC
  obtain ⟨oC, es, ep, hC, hCd, hCr⟩ := hn
  have bC : B.get? ce.locals = some oC := nb _ _ hC nCf
  have fin : ∀ h1, HandSPX.HeldZ B (X.env :: X.outer) a (Zc cls d) X.env.locals h1 → s'.heap.UpToSlots h1 → CompFails (model X.prog X.w) X.A X.xe ce (.ref a) { s' with heap := h1 } := fun h1 hh up1 => by
    obtain ⟨hB, hen, hl, oe, vs, T, oT, ts, he, hz, hd, h1', hnT, hTe, hT, hdT, h3⟩ := hh
    refine ⟨m, ⟨oC, es, ep, hB _ _ bC, hCd, hCr⟩, fun h2 m2 hn2 sb => ?_⟩
    have aC : a ≠ ce.locals := fun q => by rw [q, bC] at hen; cases hen
    have tC : T ≠ ce.locals := fun q => by rw [q, bC] at hnT; cases hnT
    unfold PySem.passOn
    refine wpAny_bind (wpAny_field ((sb.2 a aC).trans he) hd h1' ?_)
    rw [if_neg (show ¬ ((Value.ref T == Value.none) = true) from by simp)]
    have hh2 : HandSPX.HeldZ (PySem.W.hideAll B [ce.locals]) (X.env :: X.outer) a (Zc cls d) X.env.locals h2 := by
      refine ⟨fun b o e => ?_, ?_, ?_, oe, vs, T, oT, ts, (sb.2 a aC).trans he, hz, hd, h1', ?_, hTe, (sb.2 T tC).trans hT, hdT, h3⟩
      · by_cases q : b = ce.locals
        · rw [q, PySem.W.hideAll_none _ (by simp)] at e; cases e
        · exact (sb.2 b q).trans (hB _ _ (PySem.W.of_hideAll _ e))
      · cases q : (PySem.W.hideAll B [ce.locals]).get? a with
        | none => rfl
        | some o => rw [PySem.W.of_hideAll _ q] at hen; cases hen
      · have hl2 := hl.sameBut sb hn2
        refine funFrames_none hl2 fun b hb => ?_
        cases q : (PySem.W.hideAll B [ce.locals]).get? b with
        | none => rfl
        | some o =>
          have z := (hl2.mem hb).1
          rw [PySem.W.of_hideAll _ q] at z; cases z
      · cases q : (PySem.W.hideAll B [ce.locals]).get? T with
        | none => rfl
        | some o => rw [PySem.W.of_hideAll _ q] at hnT; cases hnT
    have go : wpAny (model X.prog X.w) X.A (setFlight (.ref a) ce.frame) (fun _ s4 => wpAny (model X.prog X.w) X.A (throw (.ref a) : Sem Value) (fun _ _ => False) X.xe s4) X.xe { s' with heap := h2 } := by
      rw [cf, hf]
      refine HandSPX.setFlight_onZ (s := { s' with heap := h2 }) hh2 fun h4 hh4 up4 => wpAny_throw (tk _ _ ?_)
      refine ⟨a, PySem.W.hideAll B [ce.locals], { sI with heap := PySem.W.hideAll sI.heap [ce.locals] }, pins, σ, H', cls, d, rfl, ?_, fun b o e hb => ?_, fun b o e nf => ?_, .inr (.inr (by rw [hs]; exact hh4)), na, os, ag, w⟩
      · exact I7.turned (t' := sI.toks) (fun b o hb e => PySem.W.hideAll_get _ e (by simpa using hb)) f0 f1 f3' f4 f5
      · have q : b ≠ ce.locals := fun q => by
          rw [q] at e
          have z : (PySem.W.hideAll sI.heap [ce.locals]).get? ce.locals = some o := e
          rw [PySem.W.hideAll_none _ (by simp)] at z; cases z
        exact PySem.W.hideAll_get _ (nb _ _ (PySem.W.of_hideAll _ e) hb) (by simpa using q)
      · have q : b ≠ ce.locals := fun q => by
          rw [q] at e
          have z : (PySem.W.hideAll sI.heap [ce.locals]).get? ce.locals = some o := e
          rw [PySem.W.hideAll_none _ (by simp)] at z; cases z
        obtain ⟨sl1, e1⟩ := up b o (PySem.W.of_hideAll _ e) nf
        obtain ⟨sl2, e2⟩ := up1 b _ e1 nf
        obtain ⟨sl3, e3⟩ := up4 b _ ((sb.2 b q).trans e2) nf
        exact ⟨sl3, e3⟩
    first
      | exact wpAny_bind (wpAny_pure (wpAny_bind go))
      | exact wpAny_bind go
  show wpAny (model X.prog X.w) X.A (noteFrame (.ref a) ce) _ _ s'
  rw [noteFrame_frame cf]
  have sky : Sky B X.stack a (Zc cls d) ce.locals s'.heap := sky
  rw [hs] at sky
  rcases sky with ⟨hB, hn, hl, oe, vs, he, hz, hd, h1⟩ | fl | hd
  · exact HandSPX.look_newZ Zc.steady hfr hl hf he hB hn hd h1 hz fin
  · exact HandSPX.looks_onZ Zc.steady hfr hf fl fin
  · refine HandSPX.note_otherZ Zc.steady hfr hf (fun q => ?_) hd fin
    have z := I.lt
    rw [cL] at q
    rw [← q] at z
    exact absurd z (Nat.lt_irrefl _)
end
end L2

set_option Elab.async false
set_option linter.all false
set_option maxRecDepth 100000
set_option maxHeartbeats 4000000
/-! S167: a list comprehension whose element may raise: the rule -/
namespace L2
open PySem PySem.Spec PyProof.Rows
section
variable {X : Cx} {W : WX}
theorem lcx_core {pins : List (Addr × Obj)} {s : Shared} {σ : St} {H : Hp} {Q : VK} {elt tg iter : Expr} {ifs : List Expr} {scope : Scope} {own : List (Str × Nat)} {pos pos' : Pos} {wi : TI} {g : TG} {tt : TT} {te : WX → TE} {use : Option (Value → Sem Unit)} {Qf : Value → Shared → Prop}
    (hst : X.stack = X.env :: X.outer) (hfr : X.env.frame = some X.env.locals) (tk : Takes X W)
    (hc : X.calm = true) (hN : X.N.Nodup) (I : Inv X pins σ H s) (hi : PI X tg iter wi) (ok : BlkOk X.N X.env.scope scope own)
    (hg : ∀ (s : Shared) (H : Hp) (C : Addr) (cl : List (Str × Addr)) (fp : List Addr), PG (X.blk s H scope (compEnvC scope cl C X.env) fp) tg g) (ht : ∀ (s : Shared) (H : Hp) (C : Addr) (cl : List (Str × Addr)) (fp : List Addr), PTs (X.blk s H scope (compEnvC scope cl C X.env) fp) ifs tt)
    (he : ∀ (s : Shared) (H : Hp) (C : Addr) (cl : List (Str × Addr)) (fp : List Addr) (xe : Value → Shared → Prop) (W' : WX), Takes ((X.blk s H scope (compEnvC scope cl C X.env) fp).wish xe) W' → PE ((X.blk s H scope (compEnvC scope cl C X.env) fp).wish xe) elt (te W')) (hs : ∀ x, foldedSetIterable iter X.env x = pure x)
    (h : tLc wi g tt (te fun cls d _ H' => W cls d σ H') (own.map (·.2)) σ H Q)
    (hRR : ∀ D (ce : Env) s' m H', Inv X pins σ H' s' → Q (.ref D) H' → s'.heap.Ns ce.locals m → FpOk X pins H' ce.locals → compEnds (model X.prog X.w) X.A X.xe use Qf (.ref D) ce (.ok .next) s') :
    wpAny (model X.prog X.w) X.A (comprehension (.ListComp elt [⟨tg, iter, ifs, 0⟩] scope pos) scope X.env pos' (newList []) false (eval iter X.env) use) Qf X.xe s := by
  have hfree : ∀ y ∈ scope.names, y.2 = .free → ∃ c, X.env.cells.lookup y.1 = some c := fun y hy e => by
    rcases ok.free y hy e with k | k
    · exact I.ok.has _ (.inl k)
    · exact I.ok.has _ (.inr k)
  refine comprehension_at (use := use) rfl hs (closure_ok hfree) ok.kind (fun y hy e => by rw [ok.uniq y hy, e])
    (thn (hi.run pins s σ H _ I h) fun xv s1 hx => thn hx fun itv s2 h2 => ?_)
  obtain ⟨it, fp, tn, J, H2, e, I2, T, st2, f2, q⟩ := h2
  subst e
  refine wpAny_newObj_type (newEnv_comp ?_) (by show 0 ≤ sizeLine; decide)
  generalize hD : s2.heap.objs.size = D
  have hDn : H2 D = none := I2.hok.fresh (Nat.le_of_eq hD)
  obtain ⟨Wv, ⟨m0, w0⟩, turn⟩ := q D hDn
  generalize hs3 : ({ s2 with heap := s2.heap.push { cls := .type "list", data := .seq ([] : List Value).toArray } } : Shared) = s3
  have I3 : Inv X pins σ (upd H2 D (.lst [])) s3 := by
    rw [← hs3]
    refine I2.laid (t' := s2.toks) (fun b o e => Heap.get?_push_of_some _ e) (Nat.le_of_eq hD) ⟨Nat.zero_le _, [], 0, .nil, ?_⟩
    rw [← hD]
    exact Heap.get?_push_size _ rfl
  have h3 : s3.heap = s2.heap.push { cls := .type "list", data := .seq ([] : List Value).toArray } := by rw [← hs3]
  have sz : ∀ b ∈ fp, b < s2.heap.objs.size := fun b hb => by
    obtain ⟨o, e, _⟩ := T.obj _ _ st2 b hb
    exact Heap.lt_size e
  have f3 : ∀ b ∈ fp, FpOk X pins (upd H2 D (.lst [])) b ∧ b < s3.heap.objs.size := fun b hb => by
    have hlt := sz b hb
    refine ⟨⟨?_, (f2 b hb).2⟩, by rw [h3, Heap.size_push]; exact Nat.lt_succ_of_lt hlt⟩
    rw [upd_ne (by rw [← hD]; exact Nat.ne_of_lt hlt)]
    exact (f2 b hb).1
  have st3 : tn 0 s3.heap := T.keep _ _ _ st2 fun b _ o e => by rw [h3]; exact Heap.get?_push_of_some _ e
  have I4 := block_start I3 ok hN f3
  have pg := hg s3 (upd H2 D (.lst [])) s3.heap.objs.size (cellsFrom (s3.heap.objs.size + 1) scope.names (cloFrom X.env.cells scope.names [])) fp
  have pt := ht s3 (upd H2 D (.lst [])) s3.heap.objs.size (cellsFrom (s3.heap.objs.size + 1) scope.names (cloFrom X.env.cells scope.names [])) fp
  have pe := he s3 (upd H2 D (.lst [])) s3.heap.objs.size (cellsFrom (s3.heap.objs.size + 1) scope.names (cloFrom X.env.cells scope.names [])) fp (X.out (compEnvC scope (cellsFrom (s3.heap.objs.size + 1) scope.names (cloFrom X.env.cells scope.names [])) s3.heap.objs.size X.env)) _
    (takes_blk hst hfr tk I3 (fun b hb => (f3 b hb).1) rfl rfl)
  show codeAny _ _ (.compStart (.ListComp elt [⟨tg, iter, ifs, 0⟩] scope pos) 0 (.ref it) (.ref D) (compEnvC scope (cellsFrom (s3.heap.objs.size + 1) scope.names (cloFrom X.env.cells scope.names [])) s3.heap.objs.size X.env)) (compEnds (model X.prog X.w) X.A X.xe use Qf (.ref D) (compEnvC scope (cellsFrom (s3.heap.objs.size + 1) scope.names (cloFrom X.env.cells scope.names [])) s3.heap.objs.size X.env)) { s3 with heap := pushCells (s3.heap.push { cls := .type "dict", data := .dict #[] }) scope.names }
  have nfp : ∀ b ∈ fp, (upd H2 D (.lst [])) b = none := fun b hb => (f3 b hb).1.1
  generalize hce : compEnvC scope (cellsFrom (s3.heap.objs.size + 1) scope.names (cloFrom X.env.cells scope.names [])) s3.heap.objs.size X.env = ce at I4 pg pt pe ⊢
  have cL : ce.locals = s3.heap.objs.size := by subst hce; rfl
  generalize hH3 : upd H2 D (.lst []) = H3 at I3 I4 pg pt pe w0 nfp f3
  generalize hs4 : ({ s3 with heap := pushCells (s3.heap.push { cls := .type "dict", data := .dict #[] }) scope.names } : Shared) = s4 at I4 ⊢
  have st4 : tn 0 s4.heap := T.keep _ _ _ st3 fun b _ o e => by rw [← hs4]; exact pushCells_keeps _ _ _ _ (Heap.get?_push_of_some _ e)
  have stat : ∀ {σ' : St} {H' : Hp} {s' : Shared}, Inv (X.blk s3 H3 scope ce fp) [] σ' H' s' → (∀ b ∈ fp, H' b = none) → ∀ b ∈ fp, FpOk (X.blk s3 H3 scope ce fp) [] H' b := fun {σ' H' s'} I' hn b hb =>
    ⟨hn b hb, (I'.ok.exf b hb).1, I'.ok.exfs b hb, .inl hb, fun x c e => (I'.ok.exf b hb).2 x c e, fun p hp => absurd (show p ∈ ([] : List (Addr × Obj)) ++ [] from hp) (by simp)⟩
  have loop : codeAny (model X.prog X.w) X.A (.compLoop (.ListComp elt [⟨tg, iter, ifs, 0⟩] scope pos) 0 (.ref it) (.ref D) ce) (compEnds (model X.prog X.w) X.A X.xe use Qf (.ref D) ce) s4 := by
    refine compLoop_any (fun n s' => ∃ i H', Inv (X.blk s3 H3 scope ce fp) [] (wipe σ (own.map (·.2))) H' s' ∧ tn i s'.heap ∧ (∀ b ∈ fp, H' b = none) ∧ Wv i n H') ?_ m0 ⟨0, H3, I4, st4, nfp, w0⟩
    rintro n s5 ⟨i, H5, I5, st5, n5, w5⟩
    rcases turn i n H5 w5 with ⟨stop, qq⟩ | ⟨go, Nx, hNx, step⟩
    · have td := T.done (X.blk s3 H3 scope ce fp) rfl rfl rfl hc i [] s5 _ H5 (fun _ _ => False) I5 (stat I5 n5) st5 stop
      refine thnF td fun r s6 ⟨hr, I6⟩ => ?_
      subst hr
      have I7 : Inv X pins σ H5 s6 := I3.call' (ch := fp) I6.os I6.base I6.hok I6.bare fun b hb => ⟨(f3 b hb).1.2.2.2.1, (f3 b hb).1.2.1, (f3 b hb).1.2.2.2.2.1, (f3 b hb).1.2.2.2.2.2⟩
      have nC : H5 ce.locals = none := I6.free
      obtain ⟨m, hn, _⟩ := I6.loc
      have hn : s6.heap.Ns ce.locals m := hn
      refine hRR D ce s6 m H5 I7 qq hn ?_
      rw [cL] at nC ⊢
      exact I3.fpOk (Nat.le_refl _) nC
    · have ti := T.item (X.blk s3 H3 scope ce fp) rfl rfl rfl hc i [] s5 _ H5 (fun _ _ => False) I5 (stat I5 n5) st5 go
      refine thnF ti fun r s6 ⟨u, hr, h6⟩ => ?_
      subst hr
      refine thnF h6 fun _ s7 ⟨x, H7, I7, r7, y7, st7, n7⟩ => ?_
      have I7' := I7.pinned (stat I7 n7) (T.obj _ _ st7)
      refine thnF (pg.run _ s7 _ H7 x u _ I7' r7 (step x H7 y7)) fun _ s8 ⟨σ8, H8, I8, hw8, q8⟩ => ?_
      refine thnF (pt.run _ s8 σ8 H8 _ I8 q8) fun b s9 ⟨H9, I9, q9⟩ => ?_
      have fin : ∀ {s' : Shared} {H' : Hp}, Inv (X.blk s3 H3 scope ce fp) ([] ++ pinsAt fp s7.heap) σ8 H' s' → Nx H' → ∃ m, m < n ∧ ∃ i H', Inv (X.blk s3 H3 scope ce fp) [] (wipe σ (own.map (·.2))) H' s' ∧ tn i s'.heap ∧ (∀ b ∈ fp, H' b = none) ∧ Wv i m H' := fun {s' H'} I' nx => by
        obtain ⟨m', hm, w'⟩ := hNx H' nx
        have pin' : ∀ b ∈ fp, ∀ o, s7.heap.get? b = some o → s'.heap.get? b = some o ∧ H' b = none := fun b hb o e =>
          let z := I'.pin (b, o) (List.mem_append_right _ (List.mem_append_right _ (mem_pinsAt hb e)))
          ⟨z.1, z.2.1⟩
        have hl : (wipe σ (own.map (·.2))).length = σ8.length := by rw [← hw8, wipe_length]
        refine ⟨m', hm, i + 1, H', (I'.unpinned (pins := [])).weak hl (fun j v e => ?_), T.keep _ _ _ st7 fun b hb o e => (pin' b hb o e).1, fun b hb => ?_, w'⟩
        · rw [← hw8] at e
          exact (wipe_some e).1
        · obtain ⟨o, e, _⟩ := T.obj _ _ st7 b hb
          exact (pin' b hb o e).2
      cases b with
      | false =>
        simp only [Bool.false_eq_true, if_false] at q9 ⊢
        exact fin I9 q9
      | true =>
        simp only [if_true] at q9 ⊢
        refine thn (pe.run _ s9 σ8 H9 _ (I9.wish _) q9) fun z s10 ⟨yv, H10, I10, r10, acc, hD10, hz10, nx⟩ => ?_
        exact app_ok (X := X.blk s3 H3 scope ce fp) (I10.wish (fun _ _ => False)) hD10 hz10 r10 fun s11 I11 => fin I11 nx
  exact codeAny_compStart_list loop (T.self X.A 0 _ _ _ st4 loop)
/-- as a value -/
theorem pe_lcx {elt tg iter : Expr} {ifs : List Expr} {scope : Scope} {own : List (Str × Nat)} {pos : Pos} {wi : TI} {g : TG} {tt : TT} {te : WX → TE}
    (hst : X.stack = X.env :: X.outer) (hfr : X.env.frame = some X.env.locals) (tk : Takes X W) (hc : X.calm = true) (hN : X.N.Nodup) (hi : PI X tg iter wi) (ok : BlkOk X.N X.env.scope scope own)
    (hg : ∀ (s : Shared) (H : Hp) (C : Addr) (cl : List (Str × Addr)) (fp : List Addr), PG (X.blk s H scope (compEnvC scope cl C X.env) fp) tg g) (ht : ∀ (s : Shared) (H : Hp) (C : Addr) (cl : List (Str × Addr)) (fp : List Addr), PTs (X.blk s H scope (compEnvC scope cl C X.env) fp) ifs tt)
    (he : ∀ (s : Shared) (H : Hp) (C : Addr) (cl : List (Str × Addr)) (fp : List Addr) (xe : Value → Shared → Prop) (W' : WX), Takes ((X.blk s H scope (compEnvC scope cl C X.env) fp).wish xe) W' → PE ((X.blk s H scope (compEnvC scope cl C X.env) fp).wish xe) elt (te W')) (hs : ∀ x, foldedSetIterable iter X.env x = pure x := by intro _; rfl) :
    PE X (.ListComp elt [⟨tg, iter, ifs, 0⟩] scope pos) (fun σ H Q => tLc wi g tt (te fun cls d _ H' => W cls d σ H') (own.map (·.2)) σ H Q) := by
  refine ⟨fun pins s σ H Q I h => ?_⟩
  rw [eval_ListComp]
  refine lcx_core hst hfr tk hc hN I hi ok hg ht he hs h fun D ce s' m H' I' q hn f => ⟨m, hn, fun h'' sb => ?_⟩
  obtain ⟨f0, f1, f2, f3, f4, f5⟩ := f
  exact ⟨.ref D, H', I'.turned (t' := s'.toks) (fun b o hb e => (sb.2 b hb).trans e) f0 f1 f3 f4 f5, rfl, q⟩
end
end L2

set_option Elab.async false
set_option linter.all false
set_option maxRecDepth 100000
set_option maxHeartbeats 4000000
/-! S168: a list comprehension whose element may raise: its mirror -/
namespace Z
open PySem PySem.Spec PyProof.Rows L2
variable [Row]
def lcLX (j : Stp) (g : GN) (t : EM Bool) (m : EM D) (l : Nat) : Nat → Nat → Ev → Sto → Rs D
  | 0, i, e, s => match j i s with
    | some none => .ok (.ref l) s
    | _ => .no
  | f + 1, i, e, s => match j i s with
    | none => .no
    | some none => .ok (.ref l) s
    | some (some d) => match g d e with
      | none => .no
      | some e1 => (t e1 s).nox.bind fun q s1 => if q then (m e1 s1).bind fun y s2 => match s2[l]? with
          | some (.lst acc) => if acc.length < sizeLine then lcLX j g t m l f (i + 1) e (s2.set l (.lst (acc ++ [y]))) else .no
          | _ => .no
        else lcLX j g t m l f (i + 1) e s1
def mLX (mi : EM (Nat × Stp)) (g : GN) (t : EM Bool) (m : EM D) (vs : List Nat) : EM D := fun e s => (mi e s).bind fun jt s1 => lcLX jt.2 g t m s1.length jt.1 0 (wipeD e vs) (s1 ++ [.lst []])
section
variable {K : PySem.W.Frag} {mg : Str → Option Value} {ρ : Nat → Addr} {n : Nat} {H : Hp}
theorem Po.wish {α β : Type} {R : Rl α β} {W : WX} {σ σ' : L2.St} {r : Rs α} {Q : β → Hp → Prop} (h : Po K mg R W σ ρ n H r Q) : Po K mg R (fun c d _ H' => W c d σ H') σ' ρ n H r Q := by
  cases r with
  | ok a s => exact h
  | ex c f d s => exact h
  | no => exact h
end
section
variable {X : Cx} {W : WX} {pos : Pos} {elt tg iter : Expr} {ifs : List Expr} {scope : Scope} {own : List (Str × Nat)} {mi : EM (Nat × Stp)} {g : GN} {is : List Nat} {t : EM Bool} {m : EM D}
theorem llcx {K : PySem.W.Frag} {mg : Str → Option Value} {vs : List Nat} {g' : TG} {tt : TT} {te : TE} (his : ∀ i ∈ is, i ∈ vs)
    (gq : GQ K g is g') {σ : L2.St}
    (ht : ∀ σ H Q, lT K mg WF t σ H Q → tt σ H Q) (he : ∀ σ' H Q, lE K mg (fun c d _ H' => W c d σ H') m σ' H Q → te σ' H Q) {H : Hp} {Q : VK} (h : lE K mg W (mLX mi g t m vs) σ H Q) : tLc (lG K mg (RI K mg) W mi) g' tt te vs σ H Q := by
  obtain ⟨ρ, env, s, sr, er, po⟩ := h
  refine ⟨ρ, env, s, sr, er, (Po.bind po).imp fun J H1 ⟨ρ1, s1, jt, e1, sr1, ri, po1⟩ => fun Dl hDl => ?_⟩
  obtain ⟨x2, sr2, r2⟩ := new_lst sr1 hDl (VRs.nil (K := K) (ρ := ρ1) (n := s1.length) (H := H1))
  refine ⟨fun i m2 H2 => ∃ ρ2 s2, Ext (ρup ρ1 s1.length Dl) (s1 ++ [SO.lst []]).length (upd H1 Dl (.lst [])) ρ2 s2.length H2 ∧ SR K mg ρ2 s2 H2 ∧ Po K mg (VR K) W σ ρ2 s2.length H2 (lcLX jt.2 g t m s1.length m2 i (wipeD env vs) s2) Q, ⟨jt.1, ρup ρ1 s1.length Dl, _, Ext.refl, sr2, po1.rebase x2⟩, ?_⟩
  rintro i m2 H2 ⟨ρ2, s2, x3, sr3, po2⟩
  have x23 := x2.trans x3
  have hj := ri ρ2 s2 H2 i x23 sr3
  have lt1 : s1.length < (s1 ++ [SO.lst []]).length := by simp
  have rD : VR K ρ2 s2.length H2 (.ref s1.length) (.ref Dl) := r2.mono x3
  have eD : ρ2 s1.length = Dl := by
    rw [x3.ag _ lt1, ρup_same]
  cases m2 with
  | zero =>
    rw [lcLX] at po2
    cases e : jt.2 i s2 with
    | none => rw [e] at po2; exact po2.elim
    | some o =>
      rw [e] at po2 hj
      cases o with
      | none => exact .inl ⟨hj, po2 ρ2 H2 _ Ext.refl sr3 rD⟩
      | some d => exact po2.elim
  | succ f =>
    rw [lcLX] at po2
    cases e : jt.2 i s2 with
    | none => rw [e] at po2; exact po2.elim
    | some o =>
      rw [e] at po2 hj
      cases o with
      | none => exact .inl ⟨hj, po2 ρ2 H2 _ Ext.refl sr3 rD⟩
      | some d =>
        dsimp only at po2 hj
        obtain ⟨go, yl⟩ := hj
        refine .inr ⟨go, _, fun H' w => ⟨f, Nat.lt_succ_self f, w⟩, fun x H' y => ?_⟩
        obtain ⟨x4, sr4, r4⟩ := yl x H' y
        cases hgd : g d (wipeD env vs) with
        | none => rw [hgd] at po2; exact po2.elim
        | some e4 =>
          rw [hgd] at po2
          dsimp only at po2
          have erw : EnvR K ρ2 s2.length H' (wipeD env vs) (wipe σ vs) := ((er.mono e1).mono (x23.trans x4)).wipe vs
          refine gq ρ2 s2 H' _ _ e4 d x _ erw r4 hgd fun σ4 er4 hw => ⟨?_, ?_⟩
          · rw [hw vs his]
            have ww : ∀ us : List Nat, (∀ u ∈ us, u ∈ vs) → wipe (wipe σ vs) us = wipe σ vs := by
              intro us
              induction us with
              | nil => intro _; rfl
              | cons u us ih =>
                intro hu
                show (wipe (wipe σ vs) us).set u none = wipe σ vs
                rw [ih fun z hz => hu z (List.mem_cons_of_mem _ hz)]
                have key : ∀ ws : List Nat, u ∈ ws → (wipe σ ws).set u none = wipe σ ws := by
                  intro ws
                  induction ws with
                  | nil => intro h; simp at h
                  | cons w ws ihw =>
                    intro h
                    show ((wipe σ ws).set w none).set u none = (wipe σ ws).set w none
                    by_cases q : u = w
                    · subst q
                      rw [List.set_set]
                    · rw [List.set_comm _ _ (Ne.symm q), ihw ((List.mem_cons.mp h).resolve_left q)]
                exact key vs (hu u List.mem_cons_self)
            exact ww vs fun _ h => h
          · refine ht _ _ _ ⟨ρ2, e4, s2, sr4, er4, (Po.bindx (po2.rebase x4)).imp fun q H5 ⟨ρ5, s5, q5, x5, sr5, r5, po5⟩ => ?_⟩
            have eq : q5 = q := r5
            subst eq
            have x35 := (x3.trans x4).trans x5
            cases q5 with
            | false => exact ⟨ρ5, s5, x35, sr5, po5⟩
            | true =>
              rw [if_pos rfl] at po5 ⊢
              refine he _ _ _ ⟨ρ5, e4, s5, sr5, er4.mono x5, (Po.wish (Po.bind po5)).imp fun y6 H6 ⟨ρ6, s6, d6, x6, sr6, r6, po6⟩ => ?_⟩
              have x36 := x35.trans x6
              have eD6 : ρ6 s1.length = Dl := by
                rw [x36.ag _ lt1, ρup_same]
              dsimp only at po6
              cases el : s6[s1.length]? with
              | none => rw [el] at po6; exact po6.elim
              | some o =>
                rw [el] at po6
                cases o with
                | lst acc =>
                  obtain ⟨hl, po7⟩ := Po.ite po6
                  obtain ⟨av, hav, rav⟩ := sr6.ob _ _ el
                  rw [eD6] at hav
                  have ob' := sr6.ob _ _ el
                  have xw : Ext ρ6 s6.length H6 ρ6 s6.length (upd H6 (ρ6 s1.length) (.lst (av ++ [y6]))) := Ext.write (u := .lst (av ++ [y6])) ob' rfl
                  refine ⟨av, hav, by rw [rav.length]; exact hl, ρ6, s6.set s1.length (.lst (acc ++ [d6])), ?_, ?_, ?_⟩
                  · rw [List.length_set]
                    have x7 := x36.trans xw
                    rw [eD6] at x7
                    exact x7
                  · rw [← eD6]
                    exact sr6.write el rfl rfl ⟨av ++ [y6], upd_same, (rav.append (VRs.cons r6 VRs.nil)).mono xw⟩
                  · rw [List.length_set, ← eD6]
                    exact po7.rebase xw
                | _ => exact po6.elim
theorem je_lcx {g' : TG} (hst : X.stack = X.env :: X.outer) (hfr : X.env.frame = some X.env.locals) (tk : Takes X W) (hc : X.calm = true) (hN : X.N.Nodup) (hi : JI X W tg iter mi) (ok : BlkOk X.N X.env.scope scope own) (his : ∀ i ∈ is, i ∈ own.map (·.2))
    (hg' : ∀ (s : Shared) (H : Hp) (C : Addr) (cl : List (Str × Addr)) (fp : List Addr), PG (X.blk s H scope (compEnvC scope cl C X.env) fp) tg g') (gq : GQ X.K g is g')
    (ht : ∀ (s : Shared) (H : Hp) (C : Addr) (cl : List (Str × Addr)) (fp : List Addr), PTs (X.blk s H scope (compEnvC scope cl C X.env) fp) ifs (lT X.K X.mg WF t))
    (he : ∀ (s : Shared) (H : Hp) (C : Addr) (cl : List (Str × Addr)) (fp : List Addr) (xe : Value → Shared → Prop) (W' : WX), Takes ((X.blk s H scope (compEnvC scope cl C X.env) fp).wish xe) W' → JE ((X.blk s H scope (compEnvC scope cl C X.env) fp).wish xe) W' elt m) (hs : ∀ x, foldedSetIterable iter X.env x = pure x := by intro _; rfl) :
    JE X W (.ListComp elt [⟨tg, iter, ifs, 0⟩] scope pos) (mLX mi g t m (own.map (·.2))) := by
  exact PE_imp (pe_lcx (te := fun W' => lE X.K X.mg W' m) hst hfr tk hc hN hi ok hg' ht he hs) fun σ H Q h => llcx his gq (fun _ _ _ z => z) (fun _ _ _ z => z) h
variable {spos : Pos} {i : Nat} {y : Str} {py : Pos}
end
end Z

set_option Elab.async false
set_option linter.all false
set_option maxRecDepth 100000
set_option maxHeartbeats 4000000
/-! S169: what a list comprehension whose element may raise answers -/
namespace Z
open PySem PySem.Spec PyProof.Rows L2 TL
section
variable {α : Type} {P : D → Sto → Prop} {E : Str → Str → D → Sto → Prop} {mi : EM (Nat × Stp)} {j : Stp} {g : GN} {t : EM Bool} {m : EM D} {l N : Nat} {s : Sto} {e : Ev}
@[simp ↓] theorem z_mLX {vs : List Nat} : (mLX mi g t m vs e s).wp P E = (mi e s).wp (fun jt s1 => (lcLX jt.2 g t m s1.length jt.1 0 (wipeD e vs) (s1 ++ [.lst []])).wp P E) E := by
  unfold mLX; rw [z_bind]
def LcStepX (j : Stp) (g : GN) (t : EM Bool) (m : EM D) (l : Nat) (I : Nat → List D → Sto → Prop) (E : Str → Str → D → Sto → Prop) (N i : Nat) (acc : List D) (e : Ev) (s : Sto) : Prop :=
  (i = N → j i s = some none) ∧ (i < N → ∃ d e1, j i s = some (some d) ∧ g d e = some e1 ∧
    (t e1 s).wp fun q s1 => if q then (m e1 s1).wp (fun y s2 => s2[l]? = some (.lst acc) ∧ acc.length < sizeLine ∧ I (i + 1) (acc ++ [y]) (s2.set l (.lst (acc ++ [y])))) E
      else s1[l]? = some (.lst acc) ∧ I (i + 1) acc s1)
theorem lcLX_wp (I : Nat → List D → Sto → Prop) {e : Ev} (st : ∀ i acc s, i ≤ N → I i acc s → s[l]? = some (.lst acc) → LcStepX j g t m l I E N i acc e s) : ∀ (f i : Nat) (acc : List D) (s : Sto), i + f = N → I i acc s → s[l]? = some (.lst acc) →
    (lcLX j g t m l f i e s).wp (fun d s' => d = .ref l ∧ ∃ ys, s'[l]? = some (.lst ys) ∧ I N ys s') E
  | 0, i, acc, s, h, hi, hl => by
    have h1 := (st i acc s (by omega) hi hl).1 (by omega)
    unfold lcLX
    rw [h1]
    have e1 : i = N := by omega
    subst e1
    exact ⟨rfl, acc, hl, hi⟩
  | f + 1, i, acc, s, h, hi, hl => by
    obtain ⟨d, e1, h1, h2, h3⟩ := (st i acc s (by omega) hi hl).2 (by omega)
    unfold lcLX
    rw [h1]
    dsimp only
    rw [h2]
    dsimp only
    rw [z_bind, z_nox]
    refine wp_mono h3 (fun q s1 h4 => ?_) fun _ _ _ _ z => z.elim
    cases q with
    | true =>
      rw [if_pos rfl] at h4 ⊢
      rw [z_bind]
      refine wp_mono h4 (fun y s2 h5 => ?_) fun _ _ _ _ z => z
      obtain ⟨h6, h7, h8⟩ := h5
      rw [h6]
      dsimp only
      rw [if_pos h7]
      have hl2 : l < s2.length := (List.getElem?_eq_some_iff.mp h6).1
      exact lcLX_wp I st f (i + 1) _ _ (by omega) h8 (by rw [List.getElem?_set_self hl2])
    | false =>
      simp only [Bool.false_eq_true, ↓reduceIte] at h4 ⊢
      exact lcLX_wp I st f (i + 1) _ _ (by omega) h4.2 h4.1
end
/-- an element may raise: all are good, or the first that is not raises -/
theorem lcx_allK {α : Type} {ks : List Nat} {e : Ev} {s0 : Sto} {j : Stp} {g : GN} {N : Nat} {xs : List D} {mm : EM D} (R : D → α → Prop) (R2 : Sto → D → α → Prop) (G : α → Prop) (Ex : α → Str → Str → D → Sto → Prop) {E : Str → Str → D → Sto → Prop}
    (mono : ∀ {s t : Sto} {y : D} {a : α}, R2 s y a → Keep s t → R2 t y a) {as : List α} (hR : AllR R xs as) (it : ItOk ks s0 j N xs) (hb : Bags s0 ks) (hl : as.length < sizeLine)
    (body : ∀ d a s, R d a → a ∈ as → Eff ks s0 s → Bags s ks → s0.length < s.length → ∃ e1, g d e = some e1 ∧ (mm e1 s).wp (fun y s2 => Eff ks s s2 ∧ R2 s2 y a ∧ G a) (fun c f v s2 => Eff ks s s2 ∧ Ex a c f v s2))
    (hE : ∀ pre a post c f v s2, as = pre ++ a :: post → (∀ x ∈ pre, G x) → Eff ks s0 s2 → Ex a c f v s2 → E c f v s2) :
    (lcLX j g tY mm s0.length N 0 e (s0 ++ [.lst []])).wp (fun d s' => d = .ref s0.length ∧ Eff ks s0 s' ∧ s0.length < s'.length ∧ (∀ a ∈ as, G a) ∧ ∃ ys, mlAt s' s0.length = some ys ∧ AllR (R2 s') ys as) E := by
  have lks : s0.length ∉ ks := fun h => Nat.lt_irrefl _ (hb _ h).lt
  refine wp_mono (lcLX_wp (E := E) (N := N) (fun i acc s => Eff ks s0 s ∧ s0.length < s.length ∧ AllR (R2 s) acc (as.take i) ∧ ∀ a ∈ as.take i, G a) ?_ N 0 [] _ (by simp) ⟨Eff.push, by simp, by simpa using AllR.nil, by simp⟩ (by simp)) ?_ (fun _ _ _ _ z => z)
  · rintro i acc s hi ⟨ef, hlt, hA, hG⟩ hs
    have hNx := it.1
    have hxa := hR.1
    refine ⟨fun h => ?_, fun h => ?_⟩
    · rw [it.2 i s ef, List.getElem?_eq_none (by omega)]
    · have hi2 : i < xs.length := by omega
      have ha : as[i]? = some (as[i]'(by omega)) := List.getElem?_eq_getElem _
      generalize as[i]'(by omega) = a at ha
      have hbs := hb.eff ef
      obtain ⟨e1, h1, h2⟩ := body xs[i] a s (hR.2 i _ _ (List.getElem?_eq_getElem hi2) ha) (List.mem_of_getElem? ha) ef hbs hlt
      refine ⟨xs[i], e1, by rw [it.2 i s ef, List.getElem?_eq_getElem hi2], h1, ?_⟩
      rw [z_tY, if_pos rfl]
      refine wp_mono h2 ?_ ?_
      · rintro y s2 ⟨ef2, hy, hg⟩
        have hs2 := ef2.get hs lks
        have la : acc.length = i := by rw [hA.1, List.length_take]; omega
        have k2 : Keep s2 (s2.set s0.length (.lst (acc ++ [y]))) := Keep.set hs2 fun c fs h => by cases h
        refine ⟨hs2, by omega, (ef.trans ef2).set (Nat.le_refl _), by rw [List.length_set]; exact Nat.lt_of_lt_of_le hlt ef2.le, ?_⟩
        rw [take_snoc ha]
        refine ⟨⟨by rw [List.length_append, List.length_append, hA.1]; rfl, fun q d b hq hb2 => ?_⟩, fun x hx => ?_⟩
        · by_cases hqi : q < i
          · rw [List.getElem?_append_left (by omega)] at hq
            rw [List.getElem?_append_left (by rw [← hA.1]; omega)] at hb2
            exact mono (hA.2 q d b hq hb2) ((Keep.ofB ef2 hbs).trans k2)
          · have : q = i := by
              have := (List.getElem?_eq_some_iff.mp hq).1
              rw [List.length_append, List.length_singleton] at this
              omega
            subst this
            rw [List.getElem?_append_right (by omega), la, Nat.sub_self] at hq
            rw [List.getElem?_append_right (by rw [← hA.1]; omega), ← hA.1, la, Nat.sub_self] at hb2
            cases hq
            cases hb2
            exact mono hy k2
        · rcases List.mem_append.mp hx with hx | hx
          · exact hG x hx
          · rw [List.mem_singleton.mp hx]; exact hg
      · rintro c f v s2 ⟨ef2, hx⟩
        have hlt2 : i < as.length := (List.getElem?_eq_some_iff.mp ha).1
        refine hE (as.take i) a (as.drop (i + 1)) c f v s2 ?_ hG (ef.trans ef2) hx
        have e2 : as.drop i = a :: as.drop (i + 1) := by
          rw [List.drop_eq_getElem_cons hlt2]
          congr 1
          rw [List.getElem?_eq_getElem hlt2] at ha
          injection ha
        rw [← e2, List.take_append_drop]
  · rintro d s' ⟨rfl, ys, h1, ef, hlt, hA, hG⟩
    refine ⟨rfl, ef, hlt, ?_, ys, mlAt_some h1, ?_⟩
    · intro a ha
      refine hG a ?_
      rw [it.1, hR.1, List.take_length]
      exact ha
    · rw [it.1, hR.1, List.take_length] at hA
      exact hA
end Z

namespace Z
open PySem PySem.Spec PyProof.Rows L2
def c_WORDS : D := .tup [.str "wanted", .str "weak", .str "common", .str "strong"]
abbrev itb : Itb := []
def hs__law_outcome : List Hdl := [("BadText", fun f dv => sR ((xLs (xsC (xSt "refused") (xsC (xRp (xFl "line")) (xsC (xBl true) xsN)))) f dv))]
def s__law_bag : SM := (sC (sA 2 (mIf (toB (m2 dLt (mV 1) (mN fLen (aC (mV 0) aN)))) (m2 dIx (mV 0) (mV 1)) (mC (.int 0)))) (sC (sA 3 (m2 dAdd (m2 dMul2 (mC (.int 1157)) (mV 1)) (mC (.int 168)))) (sC (sF (iEn (aC (mSl dSl (mV 0) oN (oS (mC (.int 60)))) aN)) (gT [(gN 4), (gN 5)]) (sA 3 (m2 dMod (mN fInt (aC (m2 dAdd (m2 dAdd (m2 dAdd (m2 dMul2 (mV 3) (mC (.int 39161))) (m2 dMod (mN fInt (aC (mV 5) aN)) (mC (.int 2147483629)))) (m2 dMul2 (mC (.int 118)) (mV 4))) (mC (.int 13))) aN)) (mC (.int 2147483563))))) (sR (mN fLst (aC (mIf (toB (m2 dGe (mN fAbs (aC (mV 2) aN)) (m2 dPow (mC (.int 10)) (mC (.int 18))))) (mN fAbs (aC (mV 2) aN)) (mC (.int 0))) (aC (mV 3) aN)))))))
def m__law_bag : MF := fnM 2 6 s__law_bag
def s__law_take : SM := (sC (sI (toB (m2 dGt (m2 dIx (mV 0) (mC (.int 0))) (mC (.int 0)))) (sC (sA 2 (m2 dMod (mN fInt (aC (m2 dIx (mV 0) (mC (.int 0))) aN)) (mV 1))) (sC (sX xSetL (mV 0) (mC (.int 0)) (m2 dDiv (m2 dIx (mV 0) (mC (.int 0))) (mV 1))) (sR (mV 2)))) sN) (sC (sX xSetL (mV 0) (mC (.int 1)) (m2 dMod (mN fInt (aC (m2 dAdd (m2 dMul2 (m2 dIx (mV 0) (mC (.int 1))) (mC (.int 61403))) (mC (.int 6319))) aN)) (mC (.int 2147483587)))) (sR (m2 dMod (m2 dDiv (m2 dMod (mN fInt (aC (m2 dMul2 (m2 dDiv (m2 dIx (mV 0) (mC (.int 1))) (mC (.int 19))) (mC (.int 59359))) aN)) (mC (.int 2147483629))) (mC (.int 64))) (mV 1)))))
def m__law_take : MF := fnM 2 3 s__law_take
def s__law_of : SM := (sR (m2 dIx (mV 1) (mN m__law_take (aC (mV 0) (aC (mN fLen (aC (mV 1) aN)) aN)))))
def m__law_of : MF := fnM 2 2 s__law_of
def s__law_bent : SM := (sC (sP 5 6 (aC (mN m__law_take (aC (mV 0) (aC (m2 dAdd (mN fLen (aC (mV 1) aN)) (mC (.int 1))) aN))) (aC (mN m__law_take (aC (mV 0) (aC (mC (.int 5)) aN))) aN))) (sC (sA 2 (mN m__law_of (aC (mV 0) (aC (mN fLst (aC (mC (.str " ")) (aC (mC (.str ",")) (aC (mC (.str "(")) (aC (mC (.str ")")) (aC (mC (.str "+")) (aC (mC (.str "a")) (aC (mC (.str "A")) (aC (mC (.str "-")) (aC (mC (.str "1")) (aC (mC (.str "\n")) (aC (mC (.str "weak")) (aC (mC (.str "z")) aN))))))))))))) aN)))) (sC (sA 3 (mBM "str" fSplit (mV 1) (aC (mC (.str " ")) aN))) (sC (sA 4 (mN m__law_take (aC (mV 0) (aC (mN fLen (aC (mV 3) aN)) aN)))) (sC (sI (toB (m2 dEq (mV 6) (mC (.int 3)))) (sR (mBM "str" fJoin (mC (.str " ")) (aC (m2 dAdd (m2 dAdd (mSl dSl (mV 3) oN (oS (mV 4))) (mRev (mSl dSl (mV 3) (oS (mV 4)) (oS (m2 dAdd (mV 4) (mC (.int 2))))))) (mSl dSl (mV 3) (oS (m2 dAdd (mV 4) (mC (.int 2)))) oN)) aN))) sN) (sC (sI (toB (m2 dEq (mV 6) (mC (.int 4)))) (sR (mBM "str" fJoin (mC (.str " ")) (aC (m2 dAdd (m2 dAdd (mSl dSl (mV 3) oN (oS (mV 4))) (mN fLst (aC (m2 dIx (mV 3) (mV 4)) aN))) (mSl dSl (mV 3) (oS (mV 4)) oN)) aN))) sN) (sR (m2 dAdd (m2 dAdd (mSl dSl (mV 1) oN (oS (mV 5))) (m2 dIx (mN fLst (aC (mC (.str "")) (aC (mV 2) (aC (mV 2) aN)))) (mV 6))) (mSl dSl (mV 1) (oS (m2 dAdd (mV 5) (m2 dIx (mN fLst (aC (mC (.int 1)) (aC (mC (.int 0)) (aC (mC (.int 1)) aN)))) (mV 6)))) oN)))))))))
def m__law_bent : MF := fnM 2 7 s__law_bent
def s__law_drawn : SM := (sC (sA 2 (mN fLst aN)) (sC (sF (iSq (mN fSortA (aC (mV 1) aN))) (gN 3) (sC (sA 4 (mN m__law_of (aC (mV 0) (aC (mN fLst (aC (mC (.str "")) (aC (mC (.str "")) (aC (mC (.str "wanted")) (aC (mC (.str "wanted")) (aC (mC (.str "weak")) (aC (mC (.str "common")) (aC (mC (.str "strong")) aN)))))))) aN)))) (sI (toB (m2 dNe (mV 4) (mC (.str "")))) (sE (mBM "list" (mtL lAppend) (mV 2) (aC (mN fTup (aC (mV 3) (aC (mV 4) aN))) aN))) sN))) (sR (mN fTuple (aC (mV 2) aN)))))
def m__law_drawn : MF := fnM 2 5 s__law_drawn
def s__law_names : SM := (sC (sA 2 (mC (.str "abcdefghijklmnopqrstuvwxyz"))) (sC (sA 3 (mBM "str" fJoin (mC (.str "")) (aC (mL (iR1 (aC (mN m__law_of (aC (mV 0) (aC (mN fLst (aC (mC (.int 0)) (aC (mC (.int 0)) (aC (mC (.int 1)) (aC (mC (.int 3)) (aC (mC (.int 7)) aN)))))) aN))) aN)) (gN 7) tY (m2 dIx (mV 2) (mN m__law_take (aC (mV 0) (aC (mC (.int 26)) aN)))) [7]) aN))) (sC (sG (gT [(gN 5), (gN 6)]) (mN fTup (aC (mN m__law_take (aC (mV 0) (aC (mC (.int 26)) aN))) (aC (mN m__law_take (aC (mV 0) (aC (mC (.int 2)) aN))) aN)))) (sC (sA 4 (mL (iR1 (aC (mV 1) aN)) (gN 7) tY (m2 dIx (mV 2) (m2 dMod (m2 dAdd (mV 5) (m2 dMul2 (mC (.int 5)) (mV 7))) (mC (.int 26)))) [7])) (sR (mL (iSq (mV 4)) (gN 8) tY (mIf (toT (mV 6)) (m2 dAdd (mV 3) (mV 8)) (m2 dAdd (mV 8) (mV 3))) [8]))))))
def m__law_names : MF := fnM 2 9 s__law_names
def s__law_is_name : SM := (sR (mAnd (mCh dLt dLt (mC (.int 0)) (mN fLen (aC (mV 0) aN)) (mC (.int 9))) (m2 dEq (mL (iSt (mV 0)) (gN 1) (toB (m2 (dInB true) (mV 1) (mN (fListZ fList) (aC (mC (.str "abcdefghijklmnopqrstuvwxyz")) aN)))) (mV 1) [1]) (mN fLst aN))))
def m__law_is_name : MF := fnM 1 2 s__law_is_name
def s__law_read_face : SM := (sC (sI (toB (m2 dEq (mV 0) (mC (.str "-")))) (sR (mN fTup aN)) sN) (sC (sA 1 (mL (iSq (mBM "str" fSplit (mV 0) (aC (mC (.str ", ")) aN))) (gN 4) tY (mBM "str" fSplit (mV 4) (aC (mC (.str " ")) aN)) [4])) (sC (sF (iSq (mV 1)) (gN 2) (sI (bOr (toB (m2 dNe (mN fLen (aC (mV 2) aN)) (mC (.int 2)))) (bOr (bNot (toT (mN m__law_is_name (aC (m2 dIx (mV 2) (mC (.int 0))) aN)))) (toB (m2 (dInB true) (m2 dIx (mV 2) (mC (.int 1))) (mN fLst (aC (mC (.str "wanted")) (aC (mC (.str "weak")) (aC (mC (.str "common")) (aC (mC (.str "strong")) aN))))))))) (sR (mC .non)) sN)) (sC (sA 3 (mL (iSq (mV 1)) (gN 2) tY (m2 dIx (mV 2) (mC (.int 0))) [2])) (sR (mIf (toB (m2 dEq (mV 3) (mN (fSortZ fSortA) (aC (mN fSetL (aC (mV 3) aN)) aN)))) (mN fTuple (aC (mL (iSq (mV 1)) (gN 2) tY (mN fTup (aC (m2 dIx (mV 2) (mC (.int 0))) (aC (m2 dIx (mV 2) (mC (.int 1))) aN))) [2]) aN)) (mC .non)))))))
def m__law_read_face : MF := fnM 1 5 s__law_read_face
def s__law_read_line : SM := (sC (sA 1 (mN fLst aN)) (sC (sF (iSq (mIf (toB (m2 dNe (mV 0) (mC (.str "-")))) (mBM "str" fSplit (mV 0) (aC (mC (.str " ")) aN)) (mN fLst aN))) (gN 2) (sC (sI (bAnd (toB (m2 dEq (mSl dSl (mV 2) oN (oS (mC (.int 1)))) (mC (.str "(")))) (toB (m2 dEq (mSl dSl (mV 2) (oS (m1 dNeg (mC (.int 1)))) oN) (mC (.str ")"))))) (sC (sA 3 (mBM "str" fSplit (mSl dSl (mV 2) (oS (mC (.int 1))) (oS (m1 dNeg (mC (.int 1))))) (aC (mC (.str "+")) aN))) (sE (mBM "list" (mtL lAppend) (mV 1) (aC (mN fTuple (aC (mV 3) aN)) aN)))) (sC (sA 3 (mN fLst (aC (mV 2) aN))) (sE (mBM "list" (mtL lAppend) (mV 1) (aC (mV 2) aN))))) (sI (toB (m2 dNe (mL (iSq (mV 3)) (gN 4) (bNot (toT (mN m__law_is_name (aC (mV 4) aN)))) (mV 4) [4]) (mN fLst aN))) (sR (mC .non)) sN))) (sR (mN fTuple (aC (mV 1) aN)))))
def m__law_read_line : MF := fnM 1 5 s__law_read_line
def s_is_name : SM := (sC (sI (bOr (bNot (toT (mIsi "str" (mV 0)))) (bNot (toB (mCh dLe dLe (mC (.int 1)) (mN fLen (aC (mV 0) aN)) (mC (.int 8)))))) (sR (mC (.bl false))) sN) (sR (mN (fAllAny true) (aC (mL (iAny itb (mV 0)) (gN 1) tY (m2 (dInB false) (mV 1) (mC (.str "abcdefghijklmnopqrstuvwxyz"))) [1]) aN))))
def m_is_name : MF := fnM 1 2 s_is_name
def s_twice_in : SM := (sC (sA 1 (mN fLst aN)) (sC (sF (iSq (mV 0)) (gN 2) (sC (sI (toB (m2 (dInB false) (mV 2) (mV 1))) (sR (mV 2)) sN) (sE (mBM "list" (mtL lAppend) (mV 1) (aC (mV 2) aN))))) (sR (mC .non))))
def m_twice_in : MF := fnM 1 3 s_twice_in
def s_is_face : SM := (sC (sI (bOr (bNot (toT (mIsi "tuple" (mV 0)))) (bNot (toT (mN (fAllAny true) (aC (mL (iSq (mV 0)) (gN 2) tY (mAnd (mIsi "tuple" (mV 2)) (m2 dEq (mN fLen (aC (mV 2) aN)) (mC (.int 2)))) [2]) aN))))) (sR (mC (.bl false))) sN) (sC (sI (bNot (toT (mN (fAllAny true) (aC (mL (iSq (mV 0)) (gT [(gN 3), (gN 4)]) tY (mAnd (mN m_is_name (aC (mV 3) aN)) (mAnd (mIsi "str" (mV 4)) (m2 (dInB false) (mV 4) (mC c_WORDS)))) [3, 4]) aN)))) (sR (mC (.bl false))) sN) (sC (sA 1 (mL (iSq (mV 0)) (gN 2) tY (m2 dIx (mV 2) (mC (.int 0))) [2])) (sR (mAnd (m2 dEq (mV 1) (mN fSortA (aC (mV 1) aN))) (m2 dIsN2 (mN m_twice_in (aC (mV 1) aN)) (mC .non)))))))
def m_is_face : MF := fnM 1 5 s_is_face
def s_look_text : SM := (sI (bNot (toT (mIsi "str" (mV 0)))) (sRaise "BadText" "line" (aC (m1 dNeg (mC (.int 1))) aN)) sN)
def m_look_text : MF := fnM 1 1 s_look_text
def s_read_face : SM := (sC (sE (mN m_look_text (aC (mV 0) aN))) (sC (sI (toB (m2 dEq (mV 0) (mC (.str "-")))) (sR (mN fTup aN)) sN) (sC (sA 1 (mN fTuple (aC (mL (iSq (mBM "str" fSplit (mV 0) (aC (mC (.str ", ")) aN))) (gN 2) tY (mN fTuple (aC (mBM "str" fSplit (mV 2) (aC (mC (.str " ")) aN)) aN)) [2]) aN))) (sC (sI (bNot (toT (mN m_is_face (aC (mV 1) aN)))) (sRaise "BadText" "line" (aC (mC (.int 0)) aN)) sN) (sR (mV 1))))))
def m_read_face : MF := fnM 1 3 s_read_face
def s_read_item : SM := (sC (sA 1 (mAnd (m2 dEq (mSl dSl (mV 0) oN (oS (mC (.int 1)))) (mC (.str "("))) (m2 dEq (mSl dSl (mV 0) (oS (m1 dNeg (mC (.int 1)))) oN) (mC (.str ")"))))) (sC (sA 2 (mIf (toT (mV 1)) (mN fTuple (aC (mBM "str" fSplit (mSl dSl (mV 0) (oS (mC (.int 1))) (oS (m1 dNeg (mC (.int 1))))) (aC (mC (.str "+")) aN)) aN)) (mV 0))) (sC (sI (bNot (toT (mN (fAllAny true) (aC (mL (iAny itb (mIf (toT (mV 1)) (mV 2) (mN fLst (aC (mV 2) aN)))) (gN 3) tY (mN m_is_name (aC (mV 3) aN)) [3]) aN)))) (sRaise "BadText" "line" (aC (mC (.int 0)) aN)) sN) (sR (mV 2)))))
def m_read_item : MF := fnM 1 4 s_read_item
def s_read_line : SM := (sC (sE (mN m_look_text (aC (mV 0) aN))) (sR (mIf (toB (m2 dNe (mV 0) (mC (.str "-")))) (mN fTuple (aC (mLX (iSq (mBM "str" fSplit (mV 0) (aC (mC (.str " ")) aN))) (gN 1) tY (mN m_read_item (aC (mV 1) aN)) [1]) aN)) (mN fTup aN))))
def m_read_line : MF := fnM 1 2 s_read_line
def s_law : SM := (sC (sA 1 (mN fLst (aC (mC (.str "")) (aC (mC (.str " ")) (aC (mC (.str "-")) (aC (mC (.str "- -")) (aC (mC (.str "a")) (aC (mC (.str "()")) (aC (mC (.str "(")) (aC (mC (.str ")")) (aC (mC (.str "(a")) (aC (mC (.str "a)")) (aC (mC (.str "(a+)")) (aC (mC (.str "(+a)")) (aC (mC (.str "(a++b)")) (aC (mC (.str "((a))")) (aC (mC (.str "a  b")) (aC (mC (.str "a,b")) aN)))))))))))))))))) (sC (sA 1 (m2 dAdd (mV 1) (mN fLst (aC (mC (.str "a weak,")) (aC (mC (.str "a weak, ")) (aC (mC (.str "a weak b weak")) (aC (mC (.str "b weak, a weak")) (aC (mC (.str "a weak, a strong")) (aC (mC (.str "a own")) (aC (mC (.str "weak a")) aN)))))))))) (sC (sA 1 (m2 dAdd (mV 1) (mN fLst (aC (mC (.str "a weak ")) (aC (mC (.str "(a) (b+a)")) (aC (mC (.str "a weak,b weak")) (aC (mC (.str "a weak, b weak")) aN))))))) (sC (sF (iR1 (aC (mN fMax2 (aC (mC (.int 2)) (aC (mN fMin2 (aC (mC (.int 5)) (aC (mN fLen (aC (mV 0) aN)) aN))) aN))) aN)) (gN 2) (sC (sA 3 (mN m__law_bag (aC (mV 0) (aC (mV 2) aN)))) (sC (sF (iR1 (aC (mC (.int 30)) aN)) (gN 4) (sC (sA 6 (mN m__law_names (aC (mV 3) (aC (m2 dAdd (mC (.int 1)) (mN m__law_take (aC (mV 3) (aC (mC (.int 5)) aN)))) aN)))) (sC (sA 7 (mBM "str" fJoin (mC (.str ", ")) (aC (mL (iSq (mN m__law_drawn (aC (mV 3) (aC (mV 6) aN)))) (gT [(gN 15), (gN 16)]) tY (m2 dAdd (m2 dAdd (mV 15) (mC (.str " "))) (mV 16)) [15, 16]) aN))) (sC (sA 8 (m2 dAdd (mV 6) (mN fLst (aC (m2 dAdd (m2 dAdd (mC (.str "(")) (mBM "str" fJoin (mC (.str "+")) (aC (mV 6) aN))) (mC (.str ")"))) (aC (m2 dAdd (m2 dAdd (mC (.str "(")) (m2 dIx (mV 6) (mC (.int 0)))) (mC (.str ")"))) aN))))) (sC (sA 9 (mBM "str" fJoin (mC (.str " ")) (aC (mL (iR1 (aC (mN m__law_take (aC (mV 3) (aC (mC (.int 5)) aN))) aN)) (gN 13) tY (mN m__law_of (aC (mV 3) (aC (mV 8) aN))) [13]) aN))) (sF (iSq (mN fLst (aC (mN m__law_bent (aC (mV 3) (aC (mV 7) aN))) (aC (mN m__law_bent (aC (mV 3) (aC (mV 9) aN))) (aC (m2 dIx (mV 1) (m2 dMod (mV 4) (mN fLen (aC (mV 1) aN)))) aN))))) (gN 10) (sC (sA 12 (mN fLst (aC (mN m__law_read_face (aC (mV 10) aN)) (aC (mN m__law_read_line (aC (mV 10) aN)) aN)))) (sC (sA 12 (mL (iSq (mV 12)) (gN 14) tY (mIf (toB (m2 dIsN2 (mV 14) (mC .non))) (mN fLst (aC (mC (.str "refused")) (aC (mC (.str "0")) (aC (mC (.bl true)) aN)))) (mV 14)) [14])) (sC (sA 11 (mN fLst (aC (mLamC xcs 1 2 hs__law_outcome true (mN m_read_face (aC (mV 10) aN))) aN))) (sC (sE (mBM "list" (mtL lAppend) (mV 11) (aC (mLamC xcs 1 2 hs__law_outcome true (mN m_read_line (aC (mV 10) aN))) aN))) (sI (toB (m2 dNe (mN fRepr (aC (mV 11) aN)) (mN fRepr (aC (mV 12) aN)))) (sR (mC (.bl false))) sN))))))))))) (sF (iSq (mN fLst (aC (mC .non) (aC (mC (.int 0)) (aC (mC (.bl true)) (aC (mN fTup (aC (mC (.str "a")) aN)) (aC (mN fLst (aC (mC (.str "a")) aN)) (aC (mN fTup aN) (aC (m2 dPow (mC (.int 10)) (mC (.int 19))) aN))))))))) (gN 5) (sC (sA 11 (mN fLst (aC (mLamC xcs 1 2 hs__law_outcome true (mN m_read_face (aC (mV 5) aN))) aN))) (sC (sE (mBM "list" (mtL lAppend) (mV 11) (aC (mLamC xcs 1 2 hs__law_outcome true (mN m_read_line (aC (mV 5) aN))) aN))) (sI (toB (m2 dNe (mV 11) (m2 dMul2 (mN fLst (aC (mN fLst (aC (mC (.str "refused")) (aC (mC (.str "-1")) (aC (mC (.bl true)) aN)))) aN)) (mC (.int 2))))) (sR (mC (.bl false))) sN))))))) (sR (mC (.bl true)))))))
def m_law : MF := fnM 1 17 s_law
end Z
set_option Elab.async false
set_option linter.all false
set_option maxRecDepth 100000
set_option maxHeartbeats 4000000
namespace Z
open PySem PySem.Spec PyProof.Rows L2 TL
open PySem.PyData (strOk)
theorem take_ok : TakeOk m__law_take := take_gen (c1 := 61403) (c2 := 6319) (M := 2147483587) (d1 := 19) (c3 := 59359) (M2 := 2147483629) (d2 := 64) (by decide) (by decide) (by decide) (by decide) (by decide) (by decide)
theorem of_ok : OfOk m__law_of := of_gen take_ok
theorem names_ok : NamesOk m__law_names := names_genB take_ok of_ok
theorem bag_ok {s : Sto} {n : Nat} {ns : List Int} {a : Nat} (hx : lstAt s n = some (ns.map D.int)) : (m__law_bag [.ref n, .int a] s).wp fun d s' => ∃ k, d = .ref k ∧ s.length ≤ k ∧ Bag s' k ∧ Eff [] s s' :=
  bag_gen (c0 := 1157) (c1 := 168) (z := 60) (upd := updB 39161 2147483629 118 13) (M := 2147483563) (p := 18) (by decide) (by decide) (by unfold cPow; decide) (updB_ok (by decide) (by decide) (by decide)) hx
theorem str_isi7 {P : D → Sto → Prop} {E : Str → Str → D → Sto → Prop} {s : Sto} {e : Ev} {i : Nat} {x : Str} (h : e[i]? = some (some (.str x))) (hP : P (.bl true) s) : (mIsi "str" (mV i) e s).wp P E := by
  rw [z_isi, z_mV, h, slotP_some]
  exact ⟨_, _, rfl, kits.1.2.2.2.1, hP⟩
/-- the program's is_name at any text -/
theorem isn_s7 {s : Sto} {x : Str} (hx : strOk x = true) (hl : x.length ≤ 1000000) : (m_is_name [.str x] s).wp fun d' s' => d' = .bl (nmB x) ∧ Eff [] s s' := by
  refine wp_of fun P hP => ?_
  unfold m_is_name
  rw [z_fnM (by rfl)]
  show (tIsNameX itb (mC (.str abc)) [some (.str x), none] s).wp _
  unfold tIsNameX
  simp
  refine str_isi7 rfl ?_
  have hl2 : x.length ≤ sizeLine := by rw [size_line]; omega
  simp [trD, hl2]
  by_cases c1 : (1 : Int) ≤ x.length
  · rw [if_pos c1]
    by_cases c2 : (x.length : Int) ≤ 8
    · rw [if_pos c2]
      refine wp_ne (lc_mapR (ks := []) (fun d c => d = .str (one c)) (fun c => .bl (decide (c ∈ tl abc))) (as := tl x) (AllR.of_map (f := fun c => D.str (one c))) it_str bags_nil (by have := len_tl x; rw [size_line]; omega) fun d c s1 hd hc ef _ => ?_) ?_
      · subst hd
        refine ⟨_, rfl, ?_⟩
        simp
        rw [z_inS, Bool.false_xor]
        exact ⟨Eff.refl, by simp⟩
      rintro d s1 ⟨rfl, ef, hlt, hm⟩
      rw [z_all]
      refine ⟨_, (tl x).map fun c => decide (c ∈ tl abc), lstAt_ml hm, by rw [← mapM_bl, List.map_map]; rfl, ?_⟩
      rw [if_pos rfl]
      refine hP _ _ ⟨?_, ef⟩
      show D.bl _ = D.bl (nmB x)
      unfold nmB
      rw [decide_eq_true (show 1 ≤ x.length ∧ x.length ≤ 8 by omega), Bool.true_and, List.all_map]
      rfl
    · rw [if_neg c2]
      refine hP _ _ ⟨?_, Eff.refl⟩
      show D.bl false = D.bl (nmB x)
      unfold nmB
      rw [decide_eq_false (show ¬ (1 ≤ x.length ∧ x.length ≤ 8) by omega), Bool.false_and]
  · rw [if_neg c1]
    refine hP _ _ ⟨?_, Eff.refl⟩
    show D.bl false = D.bl (nmB x)
    unfold nmB
    rw [decide_eq_false (show ¬ (1 ≤ x.length ∧ x.length ≤ 8) by omega), Bool.false_and]
/-- the law's is_name at any text -/
theorem lisn_s7 {s : Sto} {x : Str} (hx : strOk x = true) (hl : x.length ≤ 1000000) : (m__law_is_name [.str x] s).wp fun d' s' => d' = .bl (nmB x) ∧ Eff [] s s' := by
  refine wp_of fun P hP => ?_
  unfold m__law_is_name s__law_is_name
  rw [z_fnM (by rfl)]
  have hl2 : x.length ≤ sizeLine := by rw [size_line]; omega
  simp [hl2]
  by_cases c1 : 0 < x.length
  · rw [if_pos c1]
    by_cases c2 : (x.length : Int) < 9
    · rw [if_pos c2]
      refine wp_ne (lc_filtR (ks := []) (fun d c => d = .str (one c)) (fun d c => d = .str (one c)) (fun c => !decide (c ∈ tl abc)) (as := tl x) (AllR.of_map (f := fun c => D.str (one c))) it_str bags_nil (by have := len_tl x; rw [size_line]; omega) fun d c s1 hd hc ef _ => ?_) ?_
      · subst hd
        refine ⟨_, rfl, ?_⟩
        simp
        rw [z_listZ (by decide +kernel)]
        have m : mlAt (s1 ++ [SO.lst (strDs abc)]) s1.length = some (((tl abc).map one).map D.str) := by rw [List.map_map]; exact mlAt_push
        have ok : ∀ y ∈ (tl abc).map one, strOk y = true := fun y hy => by
          obtain ⟨b, hb, rfl⟩ := List.mem_map.mp hy
          exact ch_ok (x := abc) (by decide +kernel) hb
        have e : decide (one c ∈ (tl abc).map one) = decide (c ∈ tl abc) := decide_eq_decide.mpr ⟨fun q => by
          obtain ⟨b, hb, e⟩ := List.mem_map.mp q
          have : tl (one b) = tl (one c) := by rw [e]
          have : [b] = [c] := this
          cases this
          exact hb, fun q => List.mem_map_of_mem q⟩
        show (dInB true (D.str (one c)) (D.ref s1.length) (s1 ++ [SO.lst (strDs abc)])).wp _ _
        rw [z_inStr (ch_ok hx hc) (lstAt_ml m) ok, Bool.true_xor, e, blP_bl]
        refine ⟨Eff.push, by simp, fun _ => Eff.refl⟩
      rintro d s1 ⟨rfl, ef, hlt, ys, hm, hR⟩
      rw [hR.eq_map] at hm
      classical
      have ok : ∀ y ∈ ((tl x).filter fun c => !decide (c ∈ tl abc)).map one, strOk y = true := fun y hy => by
        obtain ⟨b, hb, rfl⟩ := List.mem_map.mp hy
        exact ch_ok hx (List.mem_filter.mp hb).1
      have e0 : ((tl x).filter fun c => !decide (c ∈ tl abc)).map (fun c => D.str (one c)) = (((tl x).filter fun c => !decide (c ∈ tl abc)).map one).map D.str := by rw [List.map_map]; rfl
      rw [e0] at hm
      rw [z_eqL (xs := (((tl x).filter fun c => !decide (c ∈ tl abc)).map one).map D.str) (ys := []) (by rw [lstAt_app (lstAt_lt (lstAt_ml hm))]; exact lstAt_ml hm) lstAt_push (plains_strs ok) rfl]
      refine hP _ _ ⟨?_, ef.trans Eff.push⟩
      unfold nmB
      rw [decide_eq_true (show 1 ≤ x.length ∧ x.length ≤ 8 by omega), Bool.true_and]
      congr 1
      rw [Bool.eq_iff_iff, decide_eq_true_eq, List.all_eq_true]
      simp
    · rw [if_neg c2]
      refine hP _ _ ⟨?_, Eff.refl⟩
      unfold nmB
      rw [decide_eq_false (show ¬ (1 ≤ x.length ∧ x.length ≤ 8) by omega), Bool.false_and]
  · rw [if_neg c1]
    refine hP _ _ ⟨?_, Eff.refl⟩
    unfold nmB
    rw [decide_eq_false (show ¬ (1 ≤ x.length ∧ x.length ≤ 8) by omega), Bool.false_and]
end Z

set_option Elab.async false
set_option linter.all false
set_option maxRecDepth 100000
set_option maxHeartbeats 4000000
namespace Z
open PySem PySem.Spec PyProof.Rows L2 TL
open PySem.PyData (strOk)
def words7 : List Str := ["wanted", "weak", "common", "strong"]
def wdsD7 (r : List Str) : D := .tup (r.map D.str)
def rowB27 (r : List Str) : Bool := match r with
  | [x, w] => nmB x && decide (w ∈ words7)
  | _ => false
def nm17 (r : List Str) : Str := r.headD ""
theorem tup_isi7 {P : D → Sto → Prop} {E : Str → Str → D → Sto → Prop} {s : Sto} {e : Ev} {i : Nat} {x : List D} (h : e[i]? = some (some (.tup x))) (hP : P (.bl true) s) : (mIsi "tuple" (mV i) e s).wp P E := by
  rw [z_isi, z_mV, h, slotP_some]
  exact ⟨_, _, rfl, by rfl, hP⟩
theorem c_WORDS_plain7 : plain 20 c_WORDS = true ∧ plains 19 [D.str "wanted", .str "weak", .str "common", .str "strong"] = true := by decide +kernel
/-- rows of words7: a face, or not -/
structure RowsT7 (rs : List (List Str)) : Prop where
  ok : ∀ r ∈ rs, ∀ x ∈ r, strOk x = true ∧ x.length ≤ 1000000
  len : rs.length ≤ 1000
  wid : ∀ r ∈ rs, r.length ≤ 1000000
theorem is_face_any7 {s : Sto} {rs : List (List Str)} (h : RowsT7 rs) : (m_is_face [.tup (rs.map wdsD7)] s).wp fun d s' => d = .bl (rs.all rowB27 && decide (sortS (rs.map nm17) = rs.map nm17) && decide (rs.map nm17).Nodup) ∧ Eff [] s s' := by
  classical
  refine wp_of fun P hP => ?_
  have hlen := h.len
  have hsz : rs.length < sizeLine := by rw [size_line]; omega
  unfold m_is_face s_is_face
  rw [z_fnM (by rfl)]
  simp [-List.map_map]
  refine tup_isi7 rfl ?_
  simp [trD, -List.map_map]
  refine wp_ne (lc_mapR (ks := []) (fun d r => d = wdsD7 r) (fun r => .bl (decide (r.length = 2))) (as := rs) AllR.of_map (it_tup (by simp)) bags_nil hsz fun d r s1 hd hr ef _ => ?_) ?_
  · subst hd
    refine ⟨_, rfl, ?_⟩
    simp
    refine tup_isi7 rfl ?_
    have := h.wid r hr
    simp [wdsD7, Eff.refl]
    omega
  rintro d s1 ⟨rfl, ef1, hlt1, hm1⟩
  rw [z_all]
  refine ⟨_, rs.map fun r => decide (r.length = 2), lstAt_ml hm1, by rw [← mapM_bl, List.map_map]; rfl, ?_⟩
  have e1 : ((rs.map fun r => decide (r.length = 2)).all id) = rs.all fun r => decide (r.length = 2) := by rw [List.all_map]; rfl
  rw [if_pos rfl, e1]
  have row2 : ∀ r, rowB27 r = true → r.length = 2 := fun r hr => by
    match r, hr with
    | [x, w], _ => rfl
  cases q1 : rs.all fun r => decide (r.length = 2) with
  | false =>
    refine .inl ⟨rfl, hP _ _ ⟨?_, ef1⟩⟩
    have : rs.all rowB27 = false := by
      rw [Bool.eq_false_iff] at q1 ⊢
      intro hall
      exact q1 (List.all_eq_true.mpr fun r hr => decide_eq_true (row2 r (List.all_eq_true.mp hall r hr)))
    rw [this]
    rfl
  | true =>
    refine .inr ⟨rfl, ?_⟩
    have two : ∀ r ∈ rs, ∃ x w, r = [x, w] := fun r hr => by
      have := of_decide_eq_true (List.all_eq_true.mp q1 r hr)
      match r, this with
      | [x, w], _ => exact ⟨x, w, rfl⟩
    refine wp_ne (lc_mapR (ks := []) (fun d r => d = wdsD7 r) (fun r => .bl (rowB27 r)) (as := rs) AllR.of_map (it_tup (by simp)) bags_nil hsz fun d r s2 hd hr ef _ => ?_) ?_
    · subst hd
      obtain ⟨x, w, rfl⟩ := two r hr
      have hx := h.ok _ hr x (by simp)
      have hw := h.ok _ hr w (by simp)
      refine ⟨[some (.tup (rs.map wdsD7)), none, none, some (.str x), some (.str w)], rfl, ?_⟩
      simp [-List.map_map]
      refine wp_ne (isn_s7 hx.1 hx.2) ?_
      rintro _ s3 ⟨rfl, ef3⟩
      unfold rowB27
      cases q : nmB x with
      | false => simp [ef3, q]
      | true =>
        simp [-List.map_map]
        refine str_isi7 rfl ?_
        simp
        unfold c_WORDS
        rw [z_inT (by rw [plain]; exact hw.1) c_WORDS_plain7.2, q, Bool.true_and, Bool.false_xor]
        refine ⟨ef3, ?_⟩
        congr 1
        exact decide_eq_decide.mpr (by simp [words7])
    rintro d s2 ⟨rfl, ef2, hlt2, hm2⟩
    rw [z_all]
    refine ⟨_, rs.map rowB27, lstAt_ml hm2, by rw [← mapM_bl, List.map_map]; rfl, ?_⟩
    have e2 : (rs.map rowB27).all id = rs.all rowB27 := by rw [List.all_map]; rfl
    rw [if_pos rfl, e2]
    have e12 := ef1.trans ef2
    cases q2 : rs.all rowB27 with
    | false => exact .inl ⟨rfl, hP _ _ ⟨by rw [q2]; rfl, e12⟩⟩
    | true =>
      refine .inr ⟨rfl, ?_⟩
      refine wp_ne (lc_mapR (ks := []) (fun d r => d = wdsD7 r) (fun r => .str (nm17 r)) (as := rs) AllR.of_map (it_tup (by simp)) bags_nil hsz fun d r s3 hd hr ef _ => ?_) ?_
      · subst hd
        obtain ⟨x, w, rfl⟩ := two r hr
        refine ⟨_, rfl, ?_⟩
        simp [wdsD7, nm17]
        exact Eff.refl
      rintro d s3 ⟨rfl, ef3, hlt3, hm3⟩
      have hm3 : mlAt s3 s2.length = some ((rs.map nm17).map D.str) := by
        rw [hm3, List.map_map]
        rfl
      have hok : ∀ x ∈ rs.map nm17, strOk x = true := fun x hx => by
        obtain ⟨r, hr, rfl⟩ := List.mem_map.mp hx
        obtain ⟨x, w, rfl⟩ := two r hr
        exact (h.ok _ hr x (by simp)).1
      rw [z_sortL, lstAt_ml hm3, lstP_some]
      obtain ⟨s1', s2'⟩ := sortD_strs (s := s3) hok
      refine ⟨s1', ?_⟩
      rw [s2']
      have e4 : Eff [] s3 (s3 ++ [SO.lst ((sortS (rs.map nm17)).map D.str)]) := Eff.push
      have m4 : mlAt (s3 ++ [SO.lst ((sortS (rs.map nm17)).map D.str)]) s3.length = some ((sortS (rs.map nm17)).map D.str) := mlAt_push
      have m3 := e4.ml hm3 (by simp)
      generalize s3 ++ [SO.lst ((sortS (rs.map nm17)).map D.str)] = s4 at e4 m4 m3 ⊢
      have okS : ∀ x ∈ sortS (rs.map nm17), strOk x = true := fun x hx => hok x ((sortS_perm _).mem_iff.mp hx)
      rw [z_eqL (xs := (rs.map nm17).map D.str) (ys := (sortS (rs.map nm17)).map D.str) (lstAt_ml m3) (lstAt_ml m4) (plains_strs hok) (plains_strs okS), blP_bl]
      have e14 := (e12.trans ef3).trans e4
      have eq1 : ((rs.map nm17).map D.str = (sortS (rs.map nm17)).map D.str) ↔ sortS (rs.map nm17) = rs.map nm17 := ⟨fun e => (map_inj' (fun _ _ h => by injection h) e).symm, fun e => by rw [e]⟩
      by_cases q3 : sortS (rs.map nm17) = rs.map nm17
      · rw [decide_eq_true (eq1.mpr q3), if_pos rfl]
        refine wp_ne (twice_x (lstAt_ml m3) hok (by rw [List.length_map]; omega)) ?_
        rintro d s5 ⟨rfl, e5⟩
        refine hP _ _ ⟨?_, e14.trans e5⟩
        rw [q2, decide_eq_true q3, Bool.true_and, Bool.true_and]
        by_cases q4 : (rs.map nm17).Nodup
        · rw [again_nd (seen := []) (by simpa using q4), decide_eq_true q4]
          rfl
        · rw [decide_eq_false q4]
          cases q5 : again1 [] (rs.map nm17) with
          | none => exact absurd (again_none q5) q4
          | some x => rfl
      · rw [decide_eq_false (fun e => q3 (eq1.mp e)), if_neg Bool.false_ne_true]
        refine hP _ _ ⟨?_, e14⟩
        rw [decide_eq_false q3, Bool.and_false, Bool.false_and]
end Z

set_option Elab.async false
set_option linter.all false
set_option maxRecDepth 100000
set_option maxHeartbeats 4000000
namespace Z
open PySem PySem.Spec PyProof.Rows L2 TL
open PySem.PyData (strOk)
theorem sub_okS7 {x : Str} (h : strOk x = true) (i j : Nat) : strOk (Builtin.Str.strSub x i j) = true := by
  unfold PySem.PyData.strOk at h ⊢
  rw [Array.all_eq_true'] at h ⊢
  intro c hc
  refine h c ?_
  simp only [Builtin.Str.strSub] at hc
  rw [Array.mem_def, Array.toList_extract] at hc
  exact Array.mem_def.mpr (List.mem_of_mem_drop (List.mem_of_mem_take hc))
theorem from_okS7 {x : Str} (h : strOk x = true) (w : Nat) : ∀ (cuts : List Nat) (a : Nat), ∀ p ∈ StrLaws.partsFrom x w a cuts, strOk p = true
  | [], a, p, hp => by rw [List.mem_singleton.mp hp]; exact sub_okS7 h _ _
  | c :: r, a, p, hp => by
    rcases List.mem_cons.mp hp with rfl | hp'
    · exact sub_okS7 h _ _
    · exact from_okS7 h w r _ p hp'
theorem part_ok7 {x y a : Str} (hx : strOk x = true) (h : a ∈ Txt.split x y) : strOk a = true := by
  unfold Txt.split at h
  split at h
  · rw [List.mem_singleton.mp h]; exact hx
  · split at h
    · rw [List.mem_singleton.mp h]; exact hx
    · rw [StrLaws.partsBetween_eq] at h
      exact from_okS7 hx _ _ _ _ h
def rowsT7 (x : Str) : List (List Str) := (Txt.split x ", ").map fun p => Txt.split p " "
def faceB7 (rs : List (List Str)) : Bool := rs.all rowB27 && decide (sortS (rs.map nm17) = rs.map nm17) && decide (rs.map nm17).Nodup
theorem rowsT_ok7 {x : Str} (hx : strOk x = true) (hl : x.length ≤ 990) : RowsT7 (rowsT7 x) := by
  refine ⟨fun r hr z hz => ?_, ?_, fun r hr => ?_⟩
  · obtain ⟨p, hp, rfl⟩ := List.mem_map.mp hr
    have h1 := part_short hp
    have h2 := part_short hz
    exact ⟨part_ok7 (part_ok7 hx hp) hz, by omega⟩
  · unfold rowsT7
    have := split_le x ", "
    rw [List.length_map]
    omega
  · obtain ⟨p, hp, rfl⟩ := List.mem_map.mp hr
    have h1 := part_short hp
    have := split_le p " "
    omega
theorem look_text_s7 {s : Sto} {x : Str} : (m_look_text [.str x] s).wp fun d s' => d = .non ∧ Eff [] s s' := by
  unfold m_look_text s_look_text
  rw [z_fnM (by rfl)]
  simp
  refine str_isi7 rfl ?_
  simp [trD]
  exact Eff.refl
/-- the face of a text, or none -/
theorem read_face_any7 {s : Sto} {x : Str} (hx : strOk x = true) (hl : x.length ≤ 990) :
    (m_read_face [.str x] s).wp (fun d s' => ((x = "-" ∧ d = .tup []) ∨ (x ≠ "-" ∧ faceB7 (rowsT7 x) = true ∧ d = .tup ((rowsT7 x).map wdsD7))) ∧ Eff [] s s')
      (fun c f d s' => (x ≠ "-" ∧ faceB7 (rowsT7 x) = false) ∧ c = "BadText" ∧ f = "line" ∧ d = .int 0 ∧ Eff [] s s') := by
  have R := rowsT_ok7 hx hl
  unfold m_read_face s_read_face
  rw [z_fnM (by rfl)]
  rw [z_sCn]
  simp [-List.map_map]
  refine wp_ne look_text_s7 ?_
  rintro _ s1 ⟨rfl, e1⟩
  show nxt _ _ _ _
  rw [z_nxC]
  simp [-List.map_map]
  by_cases h0 : x = "-"
  · rw [if_pos h0]
    exact ⟨.inl h0, e1⟩
  · rw [if_neg h0, z_nxC]
    have l2 : (", " : Str).length = 2 := by decide
    have l1 : (" " : Str).length = 1 := by decide
    have hs := split_le x ", "
    simp [-List.map_map]
    refine ⟨isTy_str, ⟨by rw [l2]; decide, by rw [size_line]; omega⟩, ?_⟩
    have e2 : Eff [] s1 (s1 ++ [SO.lst ((Txt.split x ", ").map D.str)]) := Eff.push
    have m2 : mlAt (s1 ++ [SO.lst ((Txt.split x ", ").map D.str)]) s1.length = some ((Txt.split x ", ").map D.str) := mlAt_push
    have es : s1 ++ [SO.lst ((Txt.split x ", ").map D.str), SO.lst []] = (s1 ++ [SO.lst ((Txt.split x ", ").map D.str)]) ++ [SO.lst []] := by simp
    have el : s1.length + 1 = (s1 ++ [SO.lst ((Txt.split x ", ").map D.str)]).length := by simp
    rw [es, el]
    generalize s1 ++ [SO.lst ((Txt.split x ", ").map D.str)] = s2 at e2 m2
    refine wp_ne (lc_mapR (ks := []) (fun d p => d = .str p) (fun p => wdsD7 (Txt.split p " ")) (as := Txt.split x ", ") AllR.of_map (it_lst (lstAt_ml m2) (by simp) (by simp)) bags_nil (by rw [size_line]; omega) fun d p s3 hd hp ef _ => ?_) ?_
    · subst hd
      refine ⟨_, rfl, ?_⟩
      have hp2 := part_short hp
      have hp3 := split_le p " "
      simp [-List.map_map]
      exact ⟨isTy_str, ⟨by rw [l1]; decide, by rw [size_line]; omega⟩, Eff.push, rfl⟩
    rintro _ s3 ⟨rfl, e3, hlt3, m3⟩
    have er : (Txt.split x ", ").map (fun p => wdsD7 (Txt.split p " ")) = (rowsT7 x).map wdsD7 := by
      unfold rowsT7
      rw [List.map_map]
      rfl
    rw [er] at m3
    rw [z_tupL, lstAt_ml m3, lstP_some]
    show nxt _ _ _ _
    rw [z_nxC]
    simp [-List.map_map]
    have e13 := (e1.trans e2).trans e3
    refine wp_ne (is_face_any7 R) ?_
    rintro _ s4 ⟨rfl, e4⟩
    have e14 := e13.trans e4
    cases q : faceB7 (rowsT7 x) with
    | true =>
      have q' := q
      unfold faceB7 at q'
      rw [q']
      simp [trD, -List.map_map]
      rw [z_nxt]
      simp [-List.map_map]
      exact ⟨.inr h0, e14⟩
    | false =>
      have q' := q
      unfold faceB7 at q'
      rw [q']
      simp [trD, -List.map_map]
      rw [z_sRaise]
      simp [-List.map_map]
      exact ⟨h0, e14⟩
end Z

set_option Elab.async false
set_option linter.all false
set_option maxRecDepth 100000
set_option maxHeartbeats 4000000
namespace Z
open PySem PySem.Spec PyProof.Rows L2 TL
open PySem.PyData (strOk)
/-- names = sorted(set(names)), exactly if they ascend and stand once -/
theorem once_srt7 {ms : List Str} : (ms = sortS (onceS ms)) ↔ (sortS ms = ms ∧ ms.Nodup) := by
  constructor
  · intro e
    have nd : ms.Nodup := by
      rw [e]
      exact (sortS_perm _).nodup_iff.mpr (onceS_nodup ms)
    refine ⟨?_, nd⟩
    have : (sortS (onceS ms)).Pairwise fun a b => leS a b = true := sortS_sorted _
    rw [← e] at this
    exact sortS_of this
  · rintro ⟨h1, nd⟩
    rw [sortS_same (onceS_nodup ms) nd (onceS_mem ms), h1]
end Z

set_option Elab.async false
set_option linter.all false
set_option maxRecDepth 100000
set_option maxHeartbeats 4000000
namespace Z
open PySem PySem.Spec PyProof.Rows L2 TL
open PySem.PyData (strOk)
noncomputable def dueF7 (x : Str) : Option D := by
  classical exact if x = "-" then some (.tup []) else if faceB7 (rowsT7 x) = true then some (.tup ((rowsT7 x).map wdsD7)) else none
/-- a row of words, kept above a place -/
def RowL (n : Nat) (s : Sto) (y : D) (r : List Str) : Prop := ∃ k, y = .ref k ∧ n < k ∧ mlAt s k = some (r.map D.str)
theorem rowB_two {a w : Str} : rowB27 [a, w] = (nmB a && decide (w ∈ words7)) := rfl
theorem lread_face {s : Sto} {x : Str} (hx : strOk x = true) (hl : x.length ≤ 990) : (m__law_read_face [.str x] s).wp fun d s' => d = (dueF7 x).getD .non ∧ Eff [] s s' := by
  classical
  have R := rowsT_ok7 hx hl
  refine wp_of fun P hP => ?_
  unfold m__law_read_face s__law_read_face
  rw [z_fnM (by rfl)]
  rw [z_sCn]
  simp [-List.map_map]
  by_cases h0 : x = "-"
  · rw [if_pos h0]
    refine hP _ _ ⟨?_, Eff.refl⟩
    unfold dueF7
    rw [if_pos h0]; rfl
  · rw [if_neg h0, z_nxC]
    have l2 : (", " : Str).length = 2 := by decide
    have l1 : (" " : Str).length = 1 := by decide
    have hs := split_le x ", "
    simp [-List.map_map]
    refine ⟨isTy_str, ⟨by rw [l2]; decide, by rw [size_line]; omega⟩, ?_⟩
    have e2 : Eff [] s (s ++ [SO.lst ((Txt.split x ", ").map D.str)]) := Eff.push
    have m2 : mlAt (s ++ [SO.lst ((Txt.split x ", ").map D.str)]) s.length = some ((Txt.split x ", ").map D.str) := mlAt_push
    have es : s ++ [SO.lst ((Txt.split x ", ").map D.str), SO.lst []] = (s ++ [SO.lst ((Txt.split x ", ").map D.str)]) ++ [SO.lst []] := by simp
    have el : s.length + 1 = (s ++ [SO.lst ((Txt.split x ", ").map D.str)]).length := by simp
    rw [es, el]
    generalize s ++ [SO.lst ((Txt.split x ", ").map D.str)] = s2 at e2 m2
    refine wp_ne (lc_allT (fun d p => d = .str p) (fun s y p => RowL s2.length s y (Txt.split p " ")) (fun {s t y a} h k => by
      obtain ⟨k', h1, h2, h3⟩ := h
      exact ⟨k', h1, h2, k.ml h2 h3⟩) (as := Txt.split x ", ") AllR.of_map (it_lst (lstAt_ml m2) (by simp) (by simp)) (by rw [size_line]; omega) fun d p s3 hd hp ef hlt => ?_) ?_
    · subst hd
      refine ⟨_, rfl, ?_⟩
      have hp2 := part_short hp
      have hp3 := split_le p " "
      simp [-List.map_map]
      exact ⟨isTy_str, ⟨by rw [l1]; decide, by rw [size_line]; omega⟩, Eff.push, _, rfl, hlt, mlAt_push⟩
    rintro _ s3 ⟨rfl, e3, hlt3, ys, m3, hR⟩
    have hR2 : AllR (RowL s2.length s3) ys (rowsT7 x) := by
      refine ⟨by rw [hR.1, rowsT7, List.length_map], fun i d r h1 h2 => ?_⟩
      rw [rowsT7, List.getElem?_map] at h2
      obtain ⟨p, hp, rfl⟩ := Option.map_eq_some_iff.mp h2
      exact hR.2 i d p h1 hp
    have eD : dueF7 x = if faceB7 (rowsT7 x) = true then some (.tup ((rowsT7 x).map wdsD7)) else none := by
      unfold dueF7
      rw [if_neg h0]
    rw [eD] at hP
    generalize rowsT7 x = rs at R hR2 hP
    have e23 := e2.trans e3
    have hrl : rs.length ≤ 1000 := R.len
    show nxt _ _ _ _
    rw [z_nxC]
    simp [-List.map_map]
    rw [lstAt_ml m3, lstP_some]
    refine for_it (ks := []) (s0 := s3) (xs := ys) (it_lst (lstAt_ml m3) (by simp) rfl) (fun i e t => Eff [] s3 t ∧ (∃ v2, e = [some (.str x), some (.ref s2.length), v2, none, none]) ∧ (rs.take i).all rowB27 = true) (fun i e t h => h.1) ?_ ⟨Eff.refl, ⟨none, rfl⟩, rfl⟩ ?_
    · rintro i d e t hi ⟨ef, ⟨v2, rfl⟩, hall⟩
      obtain ⟨r, hr, k, rfl, hk, hm⟩ := hR2.get hi
      have hmt := ef.ml hm (by simp)
      have hrm : r ∈ rs := List.mem_of_getElem? hr
      have hw := R.wid r hrm
      refine ⟨[some (.str x), some (.ref s2.length), some (.ref k), none, none], rfl, ?_⟩
      have bad : rowB27 r = false → faceB7 rs = false := fun q => by
        have : rs.all rowB27 = false := by
          rw [Bool.eq_false_iff]
          intro hall
          rw [List.all_eq_true.mp hall r hrm] at q
          cases q
        unfold faceB7
        rw [this]
        rfl
      have no : ∀ t', rowB27 r = false → Eff [] s3 t' → P D.non t' := fun t' q ef' => hP _ _ ⟨by rw [if_neg (by rw [bad q]; simp)]; rfl, e23.trans ef'⟩
      simp [lstAt_ml hmt, -List.map_map]
      by_cases c2 : r.length = 2
      · rw [if_pos (by omega)]
        match r, c2, hmt, hrm, hr, no with
        | [a, w], _, hmt, hrm, hr, no =>
          have ha := R.ok _ hrm a (by simp)
          have hw := R.ok _ hrm w (by simp)
          simp [-List.map_map]
          refine wp_ne (lisn_s7 ha.1 ha.2) ?_
          rintro _ t2 ⟨rfl, ef2⟩
          cases q : nmB a with
          | false => exact .inl ⟨rfl, no _ (by rw [rowB_two, q]; rfl) (ef.trans ef2)⟩
          | true =>
            refine .inr ⟨rfl, ?_⟩
            rw [lstAt_ml (ef2.ml hmt (by simp)), lstP_some]
            simp [-List.map_map]
            refine ⟨by decide, ?_⟩
            have m4 : mlAt (t2 ++ [SO.lst (words7.map D.str)]) t2.length = some (words7.map D.str) := mlAt_push
            have e4 : Eff [] t2 (t2 ++ [SO.lst (words7.map D.str)]) := Eff.push
            show (dInB true (D.str w) (D.ref t2.length) (t2 ++ [SO.lst (words7.map D.str)])).wp _ _
            rw [z_inStr hw.1 (lstAt_ml m4) (by decide +kernel), Bool.true_xor, blP_bl]
            by_cases q2 : w ∈ words7
            · rw [decide_eq_true q2]
              refine ⟨(ef.trans ef2).trans e4, ?_⟩
              rw [take_snoc hr]
              intro z hz
              rcases List.mem_append.mp hz with hz | hz
              · exact List.all_eq_true.mp hall z hz
              · rw [List.mem_singleton.mp hz]
                rw [rowB_two, q, decide_eq_true q2]; rfl
            · rw [decide_eq_false q2]
              exact no _ (by rw [rowB_two, q, decide_eq_false q2]; rfl) ((ef.trans ef2).trans e4)
      · rw [if_neg (by omega)]
        refine no _ ?_ ef
        unfold rowB27
        split
        · exact absurd rfl c2
        · rfl
    · rintro e t ⟨ef, ⟨v2, rfl⟩, hall⟩
      have hall : rs.all rowB27 = true := by
        have := hR2.1
        rw [this, List.take_length] at hall
        exact hall
      have m3t := ef.ml m3 (by simp)
      show nxt _ _ _ _
      rw [z_nxC]
      simp [lstAt_ml m3t, -List.map_map]
      have two : ∀ r ∈ rs, ∃ a w, r = [a, w] := fun r hr => by
        have q := List.all_eq_true.mp hall r hr
        match r, q with
        | [a, w], _ => exact ⟨a, w, rfl⟩
      have hsz : rs.length < sizeLine := by rw [size_line]; omega
      refine wp_ne (lc_mapR (ks := []) (RowL s2.length s3) (fun r => .str (nm17 r)) (as := rs) hR2 (it_lst (lstAt_ml m3t) (by simp) rfl) bags_nil hsz fun d r s4 hd hr ef4 _ => ?_) ?_
      · obtain ⟨k, rfl, hk, hm⟩ := hd
        obtain ⟨a, w, rfl⟩ := two r hr
        refine ⟨_, rfl, ?_⟩
        have hm4 := (ef.trans ef4).ml hm (by simp)
        simp [lstAt_ml hm4]
        exact ⟨Eff.refl, rfl⟩
      rintro _ s4 ⟨rfl, ef4, hlt4, m4⟩
      have m4 : mlAt s4 t.length = some ((rs.map nm17).map D.str) := by
        rw [m4, List.map_map]; rfl
      show nxt _ _ _ _
      rw [z_nxt]
      simp [-List.map_map]
      have hok : ∀ x ∈ rs.map nm17, strOk x = true := fun x hx => by
        obtain ⟨r, hr, rfl⟩ := List.mem_map.mp hx
        obtain ⟨a, w, rfl⟩ := two r hr
        exact (R.ok _ hr a (by simp)).1
      rw [z_setOfL (lstAt_ml m4) (keysD_map _) (by rw [List.length_map, List.length_map]; omega), onceD_strs]
      have okO : ∀ z ∈ onceS (rs.map nm17), strOk z = true := fun z hz => hok z ((onceS_mem _ z).mp hz)
      have e5 : Eff [] s4 (s4 ++ [SO.set ((onceS (rs.map nm17)).map D.str)]) := Eff.push
      have g5 : setAt (s4 ++ [SO.set ((onceS (rs.map nm17)).map D.str)]) s4.length = some ((onceS (rs.map nm17)).map D.str) := by
        exact setAt_some (by simp)
      generalize s4 ++ [SO.set ((onceS (rs.map nm17)).map D.str)] = s5 at e5 g5 ⊢
      rw [z_sortZ g5 (strs_D _) okO]
      have e6 : Eff [] s5 (s5 ++ [SO.lst ((sortS (onceS (rs.map nm17))).map D.str)]) := Eff.push
      have g6 : mlAt (s5 ++ [SO.lst ((sortS (onceS (rs.map nm17))).map D.str)]) s5.length = some ((sortS (onceS (rs.map nm17))).map D.str) := mlAt_push
      generalize s5 ++ [SO.lst ((sortS (onceS (rs.map nm17))).map D.str)] = s6 at e6 g6 ⊢
      have okS : ∀ z ∈ sortS (onceS (rs.map nm17)), strOk z = true := fun z hz => okO z ((sortS_perm _).mem_iff.mp hz)
      have e46 := e5.trans e6
      have m46 := e46.ml m4 (by simp)
      rw [z_eqL (xs := (rs.map nm17).map D.str) (ys := (sortS (onceS (rs.map nm17))).map D.str) (lstAt_ml m46) (lstAt_ml g6) (plains_strs hok) (plains_strs okS), blP_bl]
      have eq1 : ((rs.map nm17).map D.str = (sortS (onceS (rs.map nm17))).map D.str) ↔ (sortS (rs.map nm17) = rs.map nm17 ∧ (rs.map nm17).Nodup) := by
        rw [← once_srt7]
        exact ⟨fun e => map_inj' (fun _ _ h => by injection h) e, fun e => by rw [← e]⟩
      have e36 := ((ef.trans ef4).trans e46)
      have m36 := e36.ml m3 (by simp)
      by_cases q : sortS (rs.map nm17) = rs.map nm17 ∧ (rs.map nm17).Nodup
      · have fb : faceB7 rs = true := by
          unfold faceB7
          rw [hall, decide_eq_true q.1, decide_eq_true q.2]; rfl
        rw [decide_eq_true (eq1.mpr q), if_pos rfl, lstAt_ml m36, lstP_some]
        refine wp_ne (lc_mapR (ks := []) (RowL s2.length s3) (fun r => wdsD7 r) (as := rs) hR2 (it_lst (lstAt_ml m36) (by simp) rfl) bags_nil hsz fun d r s7 hd hr ef7 _ => ?_) ?_
        · obtain ⟨k, rfl, hk, hm⟩ := hd
          obtain ⟨a, w, rfl⟩ := two r hr
          refine ⟨_, rfl, ?_⟩
          have hm7 := (e36.trans ef7).ml hm (by simp)
          simp [lstAt_ml hm7]
          exact ⟨by decide, Eff.refl, rfl⟩
        rintro _ s7 ⟨rfl, ef7, hlt7, m7⟩
        rw [z_tupL, lstAt_ml m7, lstP_some]
        refine hP _ _ ⟨?_, (e23.trans e36).trans ef7⟩
        rw [if_pos fb]; rfl
      · have fb : faceB7 rs = false := by
          unfold faceB7
          rw [hall, Bool.true_and]
          by_cases q1 : sortS (rs.map nm17) = rs.map nm17
          · rw [decide_eq_false (fun q2 => q ⟨q1, q2⟩), Bool.and_false]
          · rw [decide_eq_false q1, Bool.false_and]
        rw [decide_eq_false (fun z => q (eq1.mp z)), if_neg Bool.false_ne_true]
        refine hP _ _ ⟨?_, e23.trans e36⟩
        rw [fb]; rfl
end Z

set_option Elab.async false
set_option linter.all false
set_option maxRecDepth 100000
set_option maxHeartbeats 4000000
namespace Z
open PySem PySem.Spec PyProof.Rows L2 TL
open PySem.PyData (strOk)
/-- is a word a group -/
def grpW (w : Str) : Bool := decide (cutS w none (some 1) = "(") && decide (cutS w (some (-1)) none = ")")
def inW (w : Str) : List Str := if grpW w = true then Txt.split (cutS w (some 1) (some (-1))) "+" else [w]
def itemB7 (w : Str) : Bool := (inW w).all nmB
def itemD7 (w : Str) : D := if grpW w = true then .tup ((inW w).map D.str) else .str w
theorem cut_okS {x : Str} {lo hi : Option Int} (h : strOk x = true) : strOk (cutS x lo hi) = true := by
  unfold cutS
  unfold PySem.PyData.strOk at h ⊢
  rw [Array.all_eq_true'] at h ⊢
  intro c hc
  refine h c ?_
  exact Array.mem_def.mpr (List.mem_of_mem_drop (List.mem_of_mem_take (List.mem_toArray.mp hc)))
theorem cut_leS {x : Str} {lo hi : Option Int} : (cutS x lo hi).length ≤ x.length := by
  unfold cutS
  show (List.toArray _).size ≤ x.cps.size
  rw [List.size_toArray]
  exact Nat.le_trans (List.length_take_le' _ _) (by rw [List.length_drop, Array.length_toList]; exact Nat.sub_le _ _)
theorem inW_ok {w : Str} (hx : strOk w = true) (hl : w.length ≤ 990) : (∀ z ∈ inW w, strOk z = true ∧ z.length ≤ 990) ∧ (inW w).length ≤ 1000 := by
  have hcl : (cutS w (some 1) (some (-1))).length ≤ w.length := cut_leS
  have he := split_le (cutS w (some 1) (some (-1))) "+"
  unfold inW
  split
  · exact ⟨fun z hz => ⟨part_ok7 (cut_okS hx) hz, by have := part_short hz; omega⟩, by omega⟩
  · exact ⟨fun z hz => by rw [List.mem_singleton.mp hz]; exact ⟨hx, hl⟩, by simp⟩
def restI : SM := (sC (sI (bNot (toT (mN (fAllAny true) (aC (mL (iAny itb (mIf (toT (mV 1)) (mV 2) (mN fLst (aC (mV 2) aN)))) (gN 3) tY (mN m_is_name (aC (mV 3) aN)) [3]) aN)))) (sRaise "BadText" "line" (aC (mC (.int 0)) aN)) sN) (sR (mV 2)))
theorem item_all {xs : List D} {zs : List Str} {s : Sto} {e : Ev} {j : Stp} {N : Nat} (it : ItOk [] s j N xs) (hz : xs = zs.map D.str) (ok : ∀ z ∈ zs, strOk z = true ∧ z.length ≤ 990) (hl : zs.length ≤ 1000) (he : 3 < e.length) :
    (lcL j (gN 3) tY (mN m_is_name (aC (mV 3) aN)) s.length N 0 e (s ++ [.lst []])).wp fun d s' => d = .ref s.length ∧ Eff [] s s' ∧ s.length < s'.length ∧ mlAt s' s.length = some (zs.map fun z => .bl (nmB z)) := by
  subst hz
  refine lc_mapR (ks := []) (fun d z => d = .str z) (fun z => .bl (nmB z)) (as := zs) AllR.of_map it bags_nil (by rw [size_line]; omega) fun d z s1 hd hz ef _ => ?_
  subst hd
  refine ⟨e.set 3 (some (.str z)), rfl, ?_⟩
  have h3 : (e.set 3 (some (D.str z)))[3]? = some (some (.str z)) := List.getElem?_set_self he
  simp [h3]
  refine wp_ne (isn_s7 (ok z hz).1 (by have := (ok z hz).2; omega)) ?_
  rintro _ s2 ⟨rfl, ef2⟩
  exact ⟨ef2, rfl⟩
def raiseI : SM := (sRaise "BadText" "line" (aC (mC (.int 0)) aN))
theorem all_end {Q : En} {s t : Sto} {k : Nat} {w : Str} {e : Ev} (he : e[2]? = some (some (itemD7 w))) (ef : Eff [] s t) (m : mlAt t k = some ((inW w).map fun z => D.bl (nmB z))) (hP : ∀ t, Eff [] s t → itemB7 w = true → Q.rt (itemD7 w) t) (hE : ∀ e t, Eff [] s t → itemB7 w = false → Q.ex "BadText" "line" (.int 0) e t) :
    (fAllAny true [.ref k] t).wp (fun d s1 => trD s1 d = some false ∧ (raiseI e s1).wp { nx := nxt (sR (mV 2)) Q, rt := Q.rt, bk := Q.bk, ct := Q.ct, ex := Q.ex } ∨ trD s1 d = some true ∧ nxt (sR (mV 2)) Q e s1) fun c f v s => Q.ex c f v e s := by
  rw [z_all]
  refine ⟨_, (inW w).map nmB, lstAt_ml m, by rw [← mapM_bl, List.map_map]; rfl, ?_⟩
  have e1 : ((inW w).map nmB).all id = itemB7 w := by rw [List.all_map]; rfl
  rw [if_pos rfl, e1]
  cases q : itemB7 w with
  | false =>
    refine .inl ⟨rfl, ?_⟩
    unfold raiseI
    rw [z_sRaise]
    simp
    exact hE _ _ ef q
  | true =>
    refine .inr ⟨rfl, ?_⟩
    rw [z_nxt]
    simp [he]
    exact hP _ ef q
theorem item_rest {Q : En} {s : Sto} {w : Str} (hx : strOk w = true) (hl : w.length ≤ 990) (hP : ∀ t, Eff [] s t → itemB7 w = true → Q.rt (itemD7 w) t) (hE : ∀ e t, Eff [] s t → itemB7 w = false → Q.ex "BadText" "line" (.int 0) e t) :
    (restI [some (.str w), some (.bl (grpW w)), some (itemD7 w), none] s).wp Q := by
  have hin := inW_ok hx hl
  unfold restI
  rw [z_sCn]
  cases g : grpW w with
  | true =>
    have e1 : itemD7 w = .tup ((inW w).map D.str) := by unfold itemD7; rw [if_pos g]
    simp [-List.map_map, e1]
    refine wp_ne (item_all (it_tup (by simp)) rfl hin.1 hin.2 (by simp)) ?_
    rintro _ t ⟨rfl, ef, hlt, m⟩
    rw [← e1]
    exact all_end (w := w) (by simp) ef m hP hE
  | false =>
    have e1 : itemD7 w = .str w := by unfold itemD7; rw [if_neg (by rw [g]; simp)]
    have e2 : inW w = [w] := by unfold inW; rw [if_neg (by rw [g]; simp)]
    simp [-List.map_map, e1]
    refine ⟨by decide, ?_⟩
    have ef0 : Eff [] s (s ++ [SO.lst [D.str w]]) := Eff.push
    have m0 : mlAt (s ++ [SO.lst [D.str w]]) s.length = some ([w].map D.str) := mlAt_push
    have es : s ++ [SO.lst [D.str w], SO.lst []] = (s ++ [SO.lst [D.str w]]) ++ [SO.lst []] := by simp
    have el : s.length + 1 = (s ++ [SO.lst [D.str w]]).length := by simp
    rw [itsO_lst (lstAt_ml m0), walkP_ref, lstAt_ml m0, lstP_some]
    dsimp only
    rw [es, el]
    generalize s ++ [SO.lst [D.str w]] = s2 at ef0 m0 ⊢
    refine wp_ne (item_all (zs := inW w) (it_lst (lstAt_ml m0) (by simp) rfl) (by rw [e2]) hin.1 hin.2 (by simp)) ?_
    rintro _ t ⟨rfl, ef, hlt, m⟩
    rw [← e1]
    exact all_end (w := w) (by simp) (ef0.trans ef) m hP hE
theorem item_go {Q : En} {s : Sto} {w : Str} (hx : strOk w = true) (hl : w.length ≤ 990) (hP : ∀ t, Eff [] s t → itemB7 w = true → Q.rt (itemD7 w) t) (hE : ∀ e t, Eff [] s t → itemB7 w = false → Q.ex "BadText" "line" (.int 0) e t) (b : Bool) (hb : b = grpW w) :
    nxt (sC (sA 2 (mIf (toT (mV 1)) (mN fTuple (aC (mBM "str" fSplit (mSl dSl (mV 0) (oS (mC (.int 1))) (oS (m1 dNeg (mC (.int 1))))) (aC (mC (.str "+")) aN)) aN)) (mV 0))) restI) Q [some (.str w), some (.bl b), none, none] s := by
  subst hb
  have hl2 : w.length ≤ sizeLine := by rw [size_line]; omega
  have hc : (cutS w (some 1) (some (-1))).length ≤ w.length := cut_leS
  have l1 : (Str.ofString "+").length = 1 := by decide
  have key : ∀ s2, Eff [] s s2 → (restI [some (.str w), some (.bl (grpW w)), some (itemD7 w), none] s2).wp Q := fun s2 e2 =>
    item_rest hx hl (fun t e q => hP t (e2.trans e) q) (fun e' t e q => hE e' t (e2.trans e) q)
  rw [z_nxC]
  simp [hl2, -List.map_map]
  cases g : grpW w with
  | false =>
    have e1 : itemD7 w = .str w := by unfold itemD7; rw [if_neg (by rw [g]; simp)]
    have := key s Eff.refl
    rw [e1, g] at this
    exact .inl ⟨rfl, this⟩
  | true =>
    have e1 : itemD7 w = .tup ((inW w).map D.str) := by unfold itemD7; rw [if_pos g]
    have e2 : inW w = Txt.split (cutS w (some 1) (some (-1))) "+" := by unfold inW; rw [if_pos g]
    have := key (s ++ [SO.lst ((Txt.split (cutS w (some 1) (some (-1))) "+").map D.str)]) Eff.push
    rw [e1, g, e2] at this
    exact .inr ⟨rfl, isTy_str, ⟨by rw [l1]; decide, by rw [size_line]; omega⟩, this⟩
theorem read_item_ok {s : Sto} {w : Str} (hx : strOk w = true) (hl : w.length ≤ 990) : (m_read_item [.str w] s).wp (fun d s' => Eff [] s s' ∧ d = itemD7 w ∧ itemB7 w = true)
    (fun c f d s' => Eff [] s s' ∧ itemB7 w = false ∧ c = "BadText" ∧ f = "line" ∧ d = .int 0) := by
  have hl2 : w.length ≤ sizeLine := by rw [size_line]; omega
  unfold m_read_item s_read_item
  rw [z_fnM (by rfl)]
  rw [z_sCn]
  simp [hl2, -List.map_map]
  split
  · rename_i c1
    refine item_go hx hl ?_ ?_ _ ?_
    · exact fun t e q => ⟨e, rfl, q⟩
    · exact fun e' t e q => ⟨e, q, rfl, rfl, rfl⟩
    unfold grpW
    rw [decide_eq_true c1, Bool.true_and]
  · rename_i c1
    refine item_go hx hl ?_ ?_ _ ?_
    · exact fun t e q => ⟨e, rfl, q⟩
    · exact fun e' t e q => ⟨e, q, rfl, rfl, rfl⟩
    unfold grpW
    rw [decide_eq_false c1, Bool.false_and]
end Z

set_option Elab.async false
set_option linter.all false
set_option maxRecDepth 100000
set_option maxHeartbeats 4000000
namespace Z
open PySem PySem.Spec PyProof.Rows L2 TL
open PySem.PyData (strOk)
noncomputable def wordsL (x : Str) : List Str := by
  classical exact if x = "-" then [] else Txt.split x " "
noncomputable def dueL7 (x : Str) : Option D := if (wordsL x).all itemB7 = true then some (.tup ((wordsL x).map itemD7)) else none
theorem read_line_any {s : Sto} {x : Str} (hx : strOk x = true) (hl : x.length ≤ 990) :
    (m_read_line [.str x] s).wp (fun d s' => dueL7 x = some d ∧ Eff [] s s') (fun c f d s' => dueL7 x = none ∧ c = "BadText" ∧ f = "line" ∧ d = .int 0 ∧ Eff [] s s') := by
  unfold m_read_line s_read_line
  rw [z_fnM (by rfl)]
  rw [z_sCn]
  simp [-List.map_map]
  refine wp_ne look_text_s7 ?_
  rintro _ s1 ⟨rfl, e1⟩
  show nxt _ _ _ _
  rw [z_nxt]
  simp [-List.map_map]
  by_cases h0 : x = "-"
  · rw [if_pos h0]
    refine ⟨?_, e1⟩
    unfold dueL7 wordsL
    rw [if_pos h0]
    rfl
  · rw [if_neg h0]
    have ew : wordsL x = Txt.split x " " := by
      unfold wordsL
      rw [if_neg h0]
    have l1 : (" " : Str).length = 1 := by decide
    have hs := split_le x " "
    refine ⟨isTy_str, ⟨by rw [l1]; decide, by rw [size_line]; omega⟩, ?_⟩
    have e2 : Eff [] s1 (s1 ++ [SO.lst ((Txt.split x " ").map D.str)]) := Eff.push
    have m2 : mlAt (s1 ++ [SO.lst ((Txt.split x " ").map D.str)]) s1.length = some ((Txt.split x " ").map D.str) := mlAt_push
    have es : s1 ++ [SO.lst ((Txt.split x " ").map D.str), SO.lst []] = (s1 ++ [SO.lst ((Txt.split x " ").map D.str)]) ++ [SO.lst []] := by simp
    have el : s1.length + 1 = (s1 ++ [SO.lst ((Txt.split x " ").map D.str)]).length := by simp
    rw [es, el]
    generalize s1 ++ [SO.lst ((Txt.split x " ").map D.str)] = s2 at e2 m2
    refine wp_mono (lcx_allK (ks := []) (fun d p => d = .str p) (fun _ y p => y = itemD7 p) (fun p => itemB7 p = true) (fun p c f v _ => itemB7 p = false ∧ c = "BadText" ∧ f = "line" ∧ v = .int 0)
      (E := fun c f d s' => dueL7 x = none ∧ c = "BadText" ∧ f = "line" ∧ d = .int 0 ∧ Eff [] s s') (fun h _ => h) (as := Txt.split x " ") AllR.of_map (it_lst (lstAt_ml m2) (by simp) (by simp)) bags_nil (by rw [size_line]; omega) (fun d p s3 hd hp ef _ hlt => ?_) ?_) ?_ ?_
    · subst hd
      refine ⟨_, rfl, ?_⟩
      have hp2 := part_short hp
      simp
      exact wp_mono (read_item_ok (part_ok7 hx hp) (by omega)) (fun d s4 h => h) (fun c f v s4 h => h)
    · rintro pre a post c f v s3 e hpre ef ⟨hb, hc, hf, hv⟩
      refine ⟨?_, hc, hf, hv, (e1.trans e2).trans ef⟩
      unfold dueL7
      rw [ew, if_neg]
      intro q
      have := List.all_eq_true.mp q a (by rw [e]; simp)
      rw [hb] at this
      cases this
    · rintro _ s3 ⟨rfl, e3, hlt, hG, ys, m3, hR⟩
      have : ys = (Txt.split x " ").map itemD7 := AllR.eq_map (f := itemD7) hR
      subst this
      rw [z_tupL, lstAt_ml m3, lstP_some]
      refine ⟨?_, (e1.trans e2).trans e3⟩
      unfold dueL7
      rw [ew, if_pos (List.all_eq_true.mpr hG)]
    · exact fun c f v s3 h => h
end Z

set_option Elab.async false
set_option linter.all false
set_option maxRecDepth 100000
set_option maxHeartbeats 4000000
namespace Z
open PySem PySem.Spec PyProof.Rows L2 TL
open PySem.PyData (strOk)
/-- alike but at l -/
def Bt (l : Nat) (s t : Sto) : Prop := s.length ≤ t.length ∧ ∀ i, i < s.length → i ≠ l → t[i]? = s[i]?
theorem Bt.of {l : Nat} {s t : Sto} (h : Eff [] s t) : Bt l s t := ⟨h.le, fun i hi _ => h.eq i hi (by simp)⟩
theorem Bt.trans {l : Nat} {s t u : Sto} (h : Bt l s t) (h2 : Bt l t u) : Bt l s u := ⟨Nat.le_trans h.1 h2.1, fun i hi hn => by rw [h2.2 i (Nat.lt_of_lt_of_le hi h.1) hn, h.2 i hi hn]⟩
theorem Bt.set {l : Nat} {s : Sto} {o : SO} : Bt l s (s.set l o) := ⟨by simp, fun i _ hn => List.getElem?_set_ne (Ne.symm hn)⟩
theorem Bt.ml {l : Nat} {s t : Sto} (h : Bt l s t) {i : Nat} {xs : List D} (hi : i ≠ l) (hx : mlAt s i = some xs) : mlAt t i = some xs :=
  mlAt_some (by rw [h.2 i (lstAt_lt (lstAt_ml hx)) hi]; exact mlAt_get hx)
theorem Bt.eff {l : Nat} {s t u : Sto} (h : Eff [] s t) (h2 : Bt l t u) (hl : s.length ≤ l) : Eff [] s u :=
  ⟨Nat.le_trans h.le h2.1, fun i hi _ => by rw [h2.2 i (Nat.lt_of_lt_of_le hi h.le) (by omega), h.eq i hi (by simp)], fun k hk => by simp at hk⟩
def lookL : SM := (sI (toB (m2 dNe (mL (iSq (mV 3)) (gN 4) (bNot (toT (mN m__law_is_name (aC (mV 4) aN)))) (mV 4) [4]) (mN fLst aN))) (sR (mC .non)) sN)
theorem lookL_ok {Q : En} {t : Sto} {e : Ev} {w : Str} {k : Nat} (hx : strOk w = true) (hl : w.length ≤ 990) (he : e[3]? = some (some (.ref k))) (he4 : 4 < e.length) (he5 : e.set 4 none = e) (hm : mlAt t k = some ((inW w).map D.str))
    (hP : ∀ t', Eff [] t t' → itemB7 w = true → Q.nx e t') (hN : ∀ t', Eff [] t t' → itemB7 w = false → Q.rt .non t') : (lookL e t).wp Q := by
  have hin := inW_ok hx hl
  unfold lookL
  simp [he, lstAt_ml hm, -List.map_map]
  rw [he5]
  refine wp_ne (lc_filtR (ks := []) (fun d z => d = .str z) (fun d z => d = .str z) (fun z => !nmB z) (as := inW w) AllR.of_map (it_lst (lstAt_ml hm) (by simp) (by simp)) bags_nil (by have := hin.2; rw [size_line]; omega) fun d z s1 hd hz ef _ => ?_) ?_
  · subst hd
    refine ⟨e.set 4 (some (.str z)), rfl, ?_⟩
    have h4 : (e.set 4 (some (D.str z)))[4]? = some (some (.str z)) := List.getElem?_set_self he4
    have hk := hin.1 z hz
    simp [h4]
    refine wp_ne (lisn_s7 hk.1 (by omega)) ?_
    rintro _ s2 ⟨rfl, ef2⟩
    cases q : nmB z with
    | true => simp [trD, ef2]
    | false => simp [trD, ef2, Eff.refl]
  rintro _ s1 ⟨rfl, ef, hlt, ys, hm1, hR⟩
  have ey : ys = ((inW w).filter fun z => !nmB z).map D.str := AllR.eq_map (f := D.str) hR
  subst ey
  have ok : ∀ z ∈ (inW w).filter (fun z => !nmB z), strOk z = true := fun z hz => (hin.1 z (List.mem_filter.mp hz).1).1
  rw [z_neL (xs := ((inW w).filter fun z => !nmB z).map D.str) (ys := []) (by rw [lstAt_app (lstAt_lt (lstAt_ml hm1))]; exact lstAt_ml hm1) lstAt_push (plains_strs ok) rfl, blP_bl]
  have e2 : Eff [] t (s1 ++ [SO.lst []]) := ef.trans Eff.push
  have iffn : (((inW w).filter fun z => !nmB z).map D.str = []) ↔ itemB7 w = true := by
    unfold itemB7
    rw [List.map_eq_nil_iff, List.filter_eq_nil_iff, List.all_eq_true]
    simp
  by_cases q : itemB7 w = true
  · rw [decide_eq_true (iffn.mpr q)]
    exact hP _ e2 q
  · rw [decide_eq_false (fun z => q (iffn.mp z))]
    exact hN _ e2 (by simpa using q)
end Z

set_option Elab.async false
set_option linter.all false
set_option maxRecDepth 100000
set_option maxHeartbeats 4000000
namespace Z
open PySem PySem.Spec PyProof.Rows L2 TL
open PySem.PyData (strOk)
def putL : SM := (sI (bAnd (toB (m2 dEq (mSl dSl (mV 2) oN (oS (mC (.int 1)))) (mC (.str "(")))) (toB (m2 dEq (mSl dSl (mV 2) (oS (m1 dNeg (mC (.int 1)))) oN) (mC (.str ")"))))) (sC (sA 3 (mBM "str" fSplit (mSl dSl (mV 2) (oS (mC (.int 1))) (oS (m1 dNeg (mC (.int 1))))) (aC (mC (.str "+")) aN))) (sE (mBM "list" (mtL lAppend) (mV 1) (aC (mN fTuple (aC (mV 3) aN)) aN)))) (sC (sA 3 (mN fLst (aC (mV 2) aN))) (sE (mBM "list" (mtL lAppend) (mV 1) (aC (mV 2) aN)))))
theorem putL_ok {Q : En} {t : Sto} {x w : Str} {l : Nat} {acc : List D} {o3 : Option D} (hl : w.length ≤ 990) (hm : mlAt t l = some acc) (ha : acc.length < sizeLine)
    (hP : ∀ t' k, Bt l t t' → mlAt t' l = some (acc ++ [itemD7 w]) → k ≠ l → mlAt t' k = some ((inW w).map D.str) → Q.nx [some (.str x), some (.ref l), some (.str w), some (.ref k), none] t') :
    (putL [some (.str x), some (.ref l), some (.str w), o3, none] t).wp Q := by
  have hl2 : w.length ≤ sizeLine := by rw [size_line]; omega
  have hc : (cutS w (some 1) (some (-1))).length ≤ w.length := cut_leS
  have l1 : (Str.ofString "+").length = 1 := by decide
  have lt : l < t.length := lstAt_lt (lstAt_ml hm)
  have gW : grpW w = (decide (cutS w none (some 1) = "(") && decide (cutS w (some (-1)) none = ")")) := rfl
  unfold putL
  simp [hl2, -List.map_map]
  -- a list of words laid, an item put
  have lay : ∀ (ys : List Str) (d : D), inW w = ys → itemD7 w = d → isTy "list" (t ++ [SO.lst (ys.map D.str)]) (.ref l) = true ∧
      lstP (mlAt (t ++ [SO.lst (ys.map D.str)]) l) fun xs => xs.length < sizeLine ∧ Q.nx [some (.str x), some (.ref l), some (.str w), some (.ref t.length), none] ((t ++ [SO.lst (ys.map D.str)]).set l (SO.lst (xs ++ [d]))) := by
    rintro ys d rfl rfl
    have e1 : Eff [] t (t ++ [SO.lst ((inW w).map D.str)]) := Eff.push
    have m1 := e1.ml hm (by simp)
    have m2 : mlAt (t ++ [SO.lst ((inW w).map D.str)]) t.length = some ((inW w).map D.str) := mlAt_push
    have ll : t.length < (t ++ [SO.lst ((inW w).map D.str)]).length := by simp
    generalize t ++ [SO.lst ((inW w).map D.str)] = t2 at e1 m1 m2 ll ⊢
    refine ⟨isTy_ml m1, ?_⟩
    rw [m1, lstP_some]
    refine ⟨ha, hP _ _ ((Bt.of e1).trans Bt.set) (mlAt_set_self (by omega)) (by omega) ?_⟩
    rw [mlAt_set_ne (by omega)]
    exact m2
  have single : grpW w = false → 1 ≤ sizeLine ∧ isTy "list" (t ++ [SO.lst [D.str w]]) (.ref l) = true ∧
      lstP (mlAt (t ++ [SO.lst [D.str w]]) l) fun xs => xs.length < sizeLine ∧ Q.nx [some (.str x), some (.ref l), some (.str w), some (.ref t.length), none] ((t ++ [SO.lst [D.str w]]).set l (SO.lst (xs ++ [D.str w]))) := fun g =>
    ⟨by decide, lay [w] (.str w) (by unfold inW; rw [if_neg (by rw [g]; simp)]) (by unfold itemD7; rw [if_neg (by rw [g]; simp)])⟩
  by_cases c1 : cutS w none (some 1) = Str.ofString "("
  · rw [if_pos c1]
    by_cases c2 : cutS w (some (-1)) none = Str.ofString ")"
    · rw [if_pos c2]
      have g : grpW w = true := by rw [gW, decide_eq_true c1, decide_eq_true c2]; rfl
      have e2 : inW w = Txt.split (cutS w (some 1) (some (-1))) "+" := by unfold inW; rw [if_pos g]
      exact ⟨isTy_str, ⟨by rw [l1]; decide, by rw [size_line]; omega⟩, lay _ _ e2 (by unfold itemD7; rw [if_pos g, e2])⟩
    · rw [if_neg c2]
      exact single (by rw [gW, decide_eq_false c2, Bool.and_false])
  · rw [if_neg c1]
    exact single (by rw [gW, decide_eq_false c1, Bool.false_and])
/-- a word's turn -/
theorem turnL_ok {Q : En} {t : Sto} {x w : Str} {l : Nat} {acc : List D} {o3 : Option D} (hx : strOk w = true) (hl : w.length ≤ 990) (hm : mlAt t l = some acc) (ha : acc.length < sizeLine)
    (hP : ∀ t' k, Bt l t t' → mlAt t' l = some (acc ++ [itemD7 w]) → itemB7 w = true → Q.nx [some (.str x), some (.ref l), some (.str w), some (.ref k), none] t') (hN : ∀ t', Bt l t t' → itemB7 w = false → Q.rt .non t') :
    ((sC putL lookL) [some (.str x), some (.ref l), some (.str w), o3, none] t).wp Q := by
  rw [z_sCn]
  refine putL_ok hl hm ha fun t1 k b1 m1 hk mk => ?_
  show nxt _ _ _ _
  rw [z_nxt]
  exact lookL_ok hx hl rfl (by simp) rfl mk (fun t2 e2 q => hP t2 k (b1.trans (Bt.of e2)) (e2.ml m1 (by simp)) q) (fun t2 e2 q => hN t2 (b1.trans (Bt.of e2)) q)
structure LineI (s : Sto) (x : Str) (ws : List Str) (i : Nat) (e : Ev) (t : Sto) : Prop where
  en : ∃ o2 o3, e = [some (.str x), some (.ref s.length), o2, o3, none]
  ef : Eff [] s t
  fnd : mlAt t s.length = some ((ws.take i).map itemD7)
  wds : mlAt t (s.length + 1) = some (ws.map D.str)
  ok : ∀ w ∈ ws.take i, itemB7 w = true
theorem line_loop {s : Sto} {x : Str} {ws : List Str} (hok : ∀ w ∈ ws, strOk w = true ∧ w.length ≤ 990) (hlen : ws.length ≤ 1000) {P : D → Sto → Prop}
    (hP : ∀ d t, Eff [] s t → d = (if ws.all itemB7 = true then some (D.tup (ws.map itemD7)) else none).getD .non → P d t) :
    (forL (jLst (s.length + 1)) (gN 2) (sC putL lookL) ws.length 0 [some (.str x), some (.ref s.length), none, none, none] (s ++ [SO.lst [], SO.lst (ws.map D.str)])).wp
      { nx := nxt (sR (mN fTuple (aC (mV 1) aN))) { nx := fun _ s => P .non s, rt := P, ex := fun c f v _ s => NE c f v s }, rt := P, ex := fun c f v _ s => NE c f v s } := by
  have es : s ++ [SO.lst [], SO.lst (ws.map D.str)] = (s ++ [SO.lst []]) ++ [SO.lst (ws.map D.str)] := by simp
  have f0 : mlAt (s ++ [SO.lst [], SO.lst (ws.map D.str)]) s.length = some [] := by
    rw [es, mlAt_app (by simp)]; exact mlAt_push
  have w0 : mlAt (s ++ [SO.lst [], SO.lst (ws.map D.str)]) (s.length + 1) = some (ws.map D.str) := by
    have : s.length + 1 = (s ++ [SO.lst []]).length := by simp
    rw [es, this]; exact mlAt_push
  refine for_j (xs := ws.map D.str) (by simp) (LineI s x ws) (fun i e t h => by unfold jLst; rw [mlAt_get h.wds]) ?_ ⟨⟨none, none, rfl⟩, by rw [es]; exact Eff.push.trans Eff.push, f0, w0, by simp⟩ ?_
  · rintro i d e t hi ⟨⟨o2, o3, rfl⟩, ef, fnd, wds, ok⟩
    rw [List.getElem?_map] at hi
    obtain ⟨w, hw, rfl⟩ := Option.map_eq_some_iff.mp hi
    have hwm : w ∈ ws := List.mem_of_getElem? hw
    refine ⟨[some (.str x), some (.ref s.length), some (.str w), o3, none], rfl, ?_⟩
    refine turnL_ok (hok w hwm).1 (hok w hwm).2 fnd (by have := List.length_take_le i ws; rw [List.length_map, size_line]; have := List.length_take_le' i ws; omega) (fun t' k b m q => ?_) (fun t' b q => ?_)
    · refine ⟨⟨_, _, rfl⟩, Bt.eff ef b (Nat.le_refl _), ?_, b.ml (by omega) wds, fun z hz => ?_⟩
      · rw [m, take_snoc hw, List.map_append]; rfl
      · rw [take_snoc hw] at hz
        rcases List.mem_append.mp hz with hz | hz
        · exact ok z hz
        · rw [List.mem_singleton.mp hz]; exact q
    · refine hP _ _ (Bt.eff ef b (Nat.le_refl _)) ?_
      rw [if_neg (fun h => by rw [List.all_eq_true.mp h w hwm] at q; cases q)]
      rfl
  · rintro e t ⟨⟨o2, o3, rfl⟩, ef, fnd, wds, ok⟩
    rw [List.length_map, List.take_length] at fnd ok
    show nxt _ _ _ _
    rw [z_nxt]
    simp [-List.map_map]
    rw [lstAt_ml fnd, lstP_some]
    refine hP _ _ ef ?_
    rw [if_pos (List.all_eq_true.mpr ok)]
    rfl
theorem lread_line {s : Sto} {x : Str} (hx : strOk x = true) (hl : x.length ≤ 990) : (m__law_read_line [.str x] s).wp fun d s' => d = (dueL7 x).getD .non ∧ Eff [] s s' := by
  classical
  refine wp_of fun P hP => ?_
  unfold m__law_read_line s__law_read_line
  rw [z_fnM (by rfl)]
  rw [z_sCn]
  simp [-List.map_map]
  rw [z_nxC]
  simp [-List.map_map]
  by_cases h0 : x = "-"
  · rw [if_pos h0]
    have ew : wordsL x = [] := by unfold wordsL; rw [if_pos h0]
    refine line_loop (ws := []) (by simp) (by simp) fun d t ef e => hP d t ⟨?_, ef⟩
    rw [e]; unfold dueL7; rw [ew]
  · rw [if_neg h0]
    have ew : wordsL x = Txt.split x " " := by unfold wordsL; rw [if_neg h0]
    have l1 : (" " : Str).length = 1 := by decide
    have hs := split_le x " "
    refine ⟨isTy_str, ⟨by rw [l1]; decide, by rw [size_line]; omega⟩, ?_⟩
    refine line_loop (ws := Txt.split x " ") (fun w hw => ⟨part_ok7 hx hw, by have := part_short hw; omega⟩) (by omega) fun d t ef e => hP d t ⟨?_, ef⟩
    rw [e]; unfold dueL7; rw [ew]
end Z

set_option Elab.async false
set_option linter.all false
set_option maxRecDepth 100000
set_option maxHeartbeats 4000000
namespace Z
open PySem PySem.Spec PyProof.Rows L2 TL
open PySem.PyData (strOk)
/-! ### what a reader leaves -/
def refD (t : Str) : List D := [.str "refused", .str t, .bl true]
def OutR (t : Str) (n : Nat) (s : Sto) (v : D) (o : Option D) : Prop := (∃ d, o = some d ∧ v = d) ∨ (o = none ∧ ∃ k, v = .ref k ∧ n ≤ k ∧ mlAt s k = some (refD t))
theorem OutR.eff {t : Str} {n : Nat} {s s' : Sto} {v : D} {o : Option D} (h : OutR t n s v o) (e : Eff [] s s') : OutR t n s' v o := by
  rcases h with h | ⟨h0, k, h1, h2, h3⟩
  · exact .inl h
  · exact .inr ⟨h0, k, h1, h2, e.ml h3 (by simp)⟩
def ShI (v : Int) (t : Str) : Prop := (PyData.int v).showable = true ∧ (PyData.int v).shown.length ≤ sizeLine ∧ (PyData.int v).shown = t
theorem shI_0 : ShI 0 "0" := ⟨by decide +kernel, by decide +kernel, by decide +kernel⟩
theorem shI_1 : ShI (-1) "-1" := ⟨by decide +kernel, by decide +kernel, by decide +kernel⟩
theorem outcome_wp {m : EM D} {e : Ev} {s : Sto} {o : Option D} {v : Int} {t : Str} (hv : ShI v t)
    (h : (m e s).wp (fun d s' => o = some d ∧ Eff [] s s') (fun c f d s' => o = none ∧ c = "BadText" ∧ f = "line" ∧ d = .int v ∧ Eff [] s s')) :
    (mLamC xcs 1 2 hs__law_outcome true m e s).wp fun d s' => Eff [] s s' ∧ OutR t s.length s' d o := by
  rw [z_lamC]
  refine wp_mono h ?_ ?_
  · rintro d s1 ⟨h0, ef⟩
    exact ⟨ef, .inl ⟨d, h0, rfl⟩⟩
  · rintro c f d s1 ⟨h0, rfl, rfl, rfl, ef⟩
    have three : 3 ≤ sizeLine := by decide
    have hs : shp s1 (.int v) = some (PyData.int v) := shp_plain (by rw [plain])
    obtain ⟨v1, v2, v3⟩ := hv
    unfold hs__law_outcome
    rw [z_hit (by decide) (by simp)]
    have q : xRp (xFl "line") "line" (.int v) s1 = some (.str t) := by
      show ((if ("line" : Str) = "line" then some (D.int v) else none).bind fun d => (shp s1 d).bind fun y => if y.showable = true ∧ y.shown.length ≤ sizeLine then some (D.str y.shown) else none) = _
      rw [if_pos rfl, Option.bind_some, hs, Option.bind_some, if_pos ⟨v1, v2⟩, v3]
    have key : xLs (xsC (xSt "refused") (xsC (xRp (xFl "line")) (xsC (xBl true) xsN))) "line" (.int v) [none, none] s1 = fLst (refD t) s1 := by
      show (match ((some (D.str "refused")).bind fun d => ((((xRp (xFl "line") "line" (.int v) s1).bind fun d => (((some (D.bl true)).bind fun d => (some ([] : List D)).map fun ds => d :: ds)).map fun ds => d :: ds)).map fun ds => d :: ds)) with | some ds => fLst ds s1 | none => .no) = _
      rw [q]
      rfl
    simp
    rw [key]
    simp [refD, three]
    exact ⟨ef.trans Eff.push, .inr ⟨h0, _, rfl, ef.le, mlAt_push⟩⟩
end Z

set_option Elab.async false
set_option linter.all false
set_option maxRecDepth 100000
set_option maxHeartbeats 4000000
namespace Z
open PySem PySem.Spec PyProof.Rows L2 TL
open PySem.PyData (strOk)
/-! ### how much is read -/
theorem split_sum (x y : Str) : ((Txt.split x y).map Str.length).sum + ((Txt.split x y).length - 1) * y.length = x.length := by
  have h := size_glued y (Txt.split x y)
  rw [StrLaws.glued_eq_join, StrLaws.join_split x y] at h
  exact h.symm
theorem sum_add1 {α : Type} (f : α → Nat) : ∀ xs : List α, (xs.map fun p => f p + 1).sum = (xs.map f).sum + xs.length
  | [] => rfl
  | x :: xs => by
    simp only [List.map_cons, List.sum_cons, List.length_cons, sum_add1 f xs]
    omega
theorem sum_mono {α : Type} {f g : α → Nat} : ∀ {xs : List α}, (∀ x ∈ xs, f x ≤ g x) → (xs.map f).sum ≤ (xs.map g).sum
  | [], _ => Nat.le_refl _
  | x :: xs, h => by
    have h1 := h x (by simp)
    have h2 := sum_mono (xs := xs) fun y hy => h y (by simp [hy])
    simp only [List.map_cons, List.sum_cons]
    omega
structure SmP (k B : Nat) (p : PyData) : Prop where
  lay : p.canLay0 = true
  dep : p.depth ≤ k
  sh : p.showable = true
  iz : p.intsShort 13 = true
  wt : p.weight ≤ B
theorem SmP.mono {k B k' B' : Nat} {p : PyData} (h : SmP k B p) (hk : k ≤ k') (hB : B ≤ B') : SmP k' B' p := ⟨h.lay, Nat.le_trans h.dep hk, h.sh, h.iz, Nat.le_trans h.wt hB⟩
theorem smP_str {x : Str} (h : strOk x = true) : SmP 0 x.length (enc (.str x)) := ⟨by simp [enc, PyData.canLay0, h], by simp [enc, PyData.depth], by simp [enc, PyData.showable], by simp [enc, PyData.intsShort], by rw [enc, PyData.weight]; exact Nat.le_refl _⟩
structure SmPs (k B : Nat) (ps : List PyData) : Prop where
  lay : PyData.canLayAll0 ps = true
  dep : PyData.depthAll ps ≤ k
  sh : PyData.showableAll ps = true
  iz : PyData.intsShortAll 13 ps = true
  wt : PyData.weightAll ps ≤ B
theorem smPs_nil {k : Nat} : SmPs k 0 [] := ⟨rfl, Nat.zero_le _, rfl, rfl, Nat.le_refl _⟩
theorem smPs_cons {k B C : Nat} {p : PyData} {ps : List PyData} (h : SmP k B p) (h2 : SmPs k C ps) : SmPs k (B + 1 + C) (p :: ps) := by
  refine ⟨?_, ?_, ?_, ?_, ?_⟩
  · rw [PyData.canLayAll0, h.lay, h2.lay]; rfl
  · rw [PyData.depthAll]; exact Nat.max_le.mpr ⟨h.dep, h2.dep⟩
  · rw [PyData.showableAll, h.sh, h2.sh]; rfl
  · rw [PyData.intsShortAll, h.iz, h2.iz]; rfl
  · rw [PyData.weightAll]
    have := h.wt
    have := h2.wt
    omega
theorem SmPs.mono {k B B' : Nat} {ps : List PyData} (h : SmPs k B ps) (hB : B ≤ B') : SmPs k B' ps := ⟨h.lay, h.dep, h.sh, h.iz, Nat.le_trans h.wt hB⟩
theorem SmPs.list {k B : Nat} {ps : List PyData} (h : SmPs k B ps) : SmP (k + 1) B (.list ps) := ⟨by rw [PyData.canLay0]; exact h.lay, by rw [PyData.depth]; have := h.dep; omega, by rw [PyData.showable]; exact h.sh, by rw [PyData.intsShort]; exact h.iz, by rw [PyData.weight]; exact h.wt⟩
theorem SmPs.tup {k B : Nat} {ps : List PyData} (h : SmPs k B ps) : SmP (k + 1) B (.tuple ps) := ⟨by rw [PyData.canLay0]; exact h.lay, by rw [PyData.depth]; have := h.dep; omega, by rw [PyData.showable]; exact h.sh, by rw [PyData.intsShort]; exact h.iz, by rw [PyData.weight]; exact h.wt⟩
theorem smPs_map {α : Type} {f : α → D} {w : α → Nat} {k : Nat} : ∀ {as : List α}, (∀ a ∈ as, SmP k (w a) (enc (f a))) → SmPs k ((as.map w).sum + as.length) (encs (as.map f))
  | [], _ => smPs_nil
  | a :: as, h => by
    have ih := smPs_map (as := as) fun b hb => h b (by simp [hb])
    show SmPs k _ (enc (f a) :: encs (as.map f))
    refine (smPs_cons (h a (by simp)) ih).mono ?_
    simp only [List.map_cons, List.sum_cons, List.length_cons]
    omega
theorem smP_strs {xs : List Str} (h : ∀ x ∈ xs, strOk x = true) : SmP 1 ((xs.map Str.length).sum + xs.length) (enc (.tup (xs.map D.str))) := by
  rw [enc]
  exact (smPs_map (f := D.str) (w := Str.length) fun x hx => smP_str (h x hx)).tup
theorem smP_split {x : Str} {c : Str} (h : strOk x = true) (hc : c.length = 1) : SmP 1 (x.length + 1) (enc (.tup ((Txt.split x c).map D.str))) := by
  refine (smP_strs fun z hz => part_ok7 h hz).mono (Nat.le_refl _) ?_
  have h1 := split_sum x c
  have h2 := split_pos x c
  rw [hc, Nat.mul_one] at h1
  omega
theorem plain_strsT {n : Nat} {xs : List Str} (h : ∀ x ∈ xs, strOk x = true) : plain (n + 1) (.tup (xs.map D.str)) = true := by
  rw [plain]
  exact plains_strs h
theorem dueF_ok {x : Str} {d : D} (hx : strOk x = true) (hl : x.length ≤ 990) (h : dueF7 x = some d) : plain 20 d = true ∧ SmP 2 4000 (enc d) := by
  unfold dueF7 at h
  split at h
  · cases h
    exact ⟨by rw [plain]; rfl, (smPs_nil (k := 1)).tup.mono (Nat.le_refl _) (by omega)⟩
  · split at h
    · cases h
      have e : (rowsT7 x).map wdsD7 = (Txt.split x ", ").map fun p => D.tup ((Txt.split p " ").map D.str) := by
        unfold rowsT7
        rw [List.map_map]; rfl
      rw [e]
      constructor
      · rw [plain, plains_iff]
        intro d hd
        obtain ⟨p, hp, rfl⟩ := List.mem_map.mp hd
        exact plain_strsT fun z hz => part_ok7 (part_ok7 hx hp) hz
      · rw [enc]
        refine (smPs_map (k := 1) (f := fun p => D.tup ((Txt.split p " ").map D.str)) (w := fun p => p.length + 1) fun p hp => smP_split (part_ok7 hx hp) (by decide)).tup.mono (Nat.le_refl _) ?_
        rw [sum_add1]
        have h1 := split_sum x ", "
        have h2 := split_le x ", "
        have h3 : 0 ≤ ((Txt.split x ", ").length - 1) * (", " : Str).length := Nat.zero_le _
        omega
    · cases h
theorem item_sm {w : Str} (h : strOk w = true) : plain 19 (itemD7 w) = true ∧ SmP 1 (w.length + 1) (enc (itemD7 w)) := by
  unfold itemD7
  split
  · rename_i q
    have e : inW w = Txt.split (cutS w (some 1) (some (-1))) "+" := by unfold inW; rw [if_pos q]
    rw [e]
    have hc : (cutS w (some 1) (some (-1))).length ≤ w.length := cut_leS
    exact ⟨plain_strsT fun z hz => part_ok7 (cut_okS h) hz, (smP_split (cut_okS h) (by decide)).mono (Nat.le_refl _) (by omega)⟩
  · exact ⟨by rw [plain]; exact h, (smP_str h).mono (by omega) (by omega)⟩
theorem dueL_ok {x : Str} {d : D} (hx : strOk x = true) (hl : x.length ≤ 990) (h : dueL7 x = some d) : plain 20 d = true ∧ SmP 2 4000 (enc d) := by
  unfold dueL7 at h
  split at h
  · cases h
    have ok : ∀ w ∈ wordsL x, strOk w = true := fun w hw => by
      unfold wordsL at hw
      split at hw
      · cases hw
      · exact part_ok7 hx hw
    constructor
    · rw [plain, plains_iff]
      intro d hd
      obtain ⟨w, hw, rfl⟩ := List.mem_map.mp hd
      exact (item_sm (ok w hw)).1
    · rw [enc]
      refine (smPs_map (k := 1) (f := itemD7) (w := fun p => p.length + 1) fun w hw => (item_sm (ok w hw)).2).tup.mono (Nat.le_refl _) ?_
      rw [sum_add1]
      unfold wordsL
      split
      · simp
      · have h1 := split_sum x " "
        have h2 := split_le x " "
        have h3 : 0 ≤ ((Txt.split x " ").length - 1) * (" " : Str).length := Nat.zero_le _
        omega
  · cases h
/-! ### the text of what two readers leave -/
def outP (o : Option D) : PyData := match o with
  | some d => enc d
  | none => .list [.str "refused", .str "0", .bool true]
def OkO (o : Option D) : Prop := ∀ d, o = some d → plain 20 d = true ∧ SmP 2 4000 (enc d)
theorem outP_sm {o : Option D} (h : OkO o) : SmP 2 4000 (outP o) := by
  cases o with
  | some d => exact (h d rfl).2
  | none => exact ⟨by decide +kernel, by decide +kernel, by decide +kernel, by decide +kernel, by decide +kernel⟩
theorem pyd_refD {s : Sto} {k : Nat} {t : Str} {n : Nat} (m : mlAt s k = some (refD t)) : pyd (n + 2) s (.ref k) = some (.list [.str "refused", .str t, .bool true]) := by
  rw [pyd, lstAt_ml m, Option.bind_some]
  unfold refD
  simp only [List.mapM_cons, List.mapM_nil]
  rw [pyd, pyd, pyd]
  rfl
theorem pyd_out {n : Nat} {s : Sto} {v : D} {o : Option D} (h : OutR "0" n s v o) (ho : OkO o) : pyd 29 s v = some (outP o) := by
  rcases h with ⟨d, rfl, rfl⟩ | ⟨rfl, k, rfl, _, m⟩
  · exact pyd_le (pyd_plain s 20 _ (ho _ rfl).1) (by omega)
  · exact pyd_refD m
theorem repr_two {P : D → Sto → Prop} {E : Str → Str → D → Sto → Prop} {s : Sto} {k n n2 : Nat} {v1 v2 : D} {o1 o2 : Option D} (m : mlAt s k = some [v1, v2]) (h1 : OutR "0" n s v1 o1) (h2 : OutR "0" n2 s v2 o2) (p1 : OkO o1) (p2 : OkO o2) (hP : P (.str (PyData.list [outP o1, outP o2]).shown) s) : (fRepr [.ref k] s).wp P E := by
  rw [z_repr]
  have e : pyd 30 s (.ref k) = some (.list [outP o1, outP o2]) := by
    rw [pyd, lstAt_ml m, Option.bind_some]
    simp only [List.mapM_cons, List.mapM_nil, pyd_out h1 p1, pyd_out h2 p2]
    rfl
  have h := (smPs_cons (outP_sm p1) (smPs_cons (outP_sm p2) smPs_nil)).list
  refine ⟨_, shp_of e (shaped_of h.lay (by have := h.dep; omega)), ⟨h.sh, ?_⟩, hP⟩
  have := PyProof.Rows.shown_le13 (d := PyData.list [outP o1, outP o2]) (by
    unfold PyData.layable0
    rw [h.lay]
    simp only [Bool.true_and, Bool.and_eq_true, decide_eq_true_eq]
    exact ⟨by have := h.dep; omega, Nat.le_trans h.wt (by decide)⟩) h.iz
  rw [size_line]
  omega
end Z

set_option Elab.async false
set_option linter.all false
set_option maxRecDepth 100000
set_option maxHeartbeats 4000000
namespace Z
open PySem PySem.Spec PyProof.Rows L2 TL
open PySem.PyData (strOk)
/-! ### texts, bent -/
theorem len_app (a b : Str) : (a ++ b).length = a.length + b.length := Str.length_append a b
theorem strOk_app {a b : Str} (ha : strOk a = true) (hb : strOk b = true) : strOk (a ++ b) = true := by
  unfold PyData.strOk at *
  rw [Array.all_eq_true'] at *
  intro c hc
  have : c ∈ tl (a ++ b) := by simpa using hc
  rw [tl_append] at this
  rcases List.mem_append.mp this with h | h
  · exact ha c (by simpa using h)
  · exact hb c (by simpa using h)
theorem strOk_iff {a : Str} : strOk a = true ↔ ∀ c ∈ tl a, c < 1114112 := by
  unfold PyData.strOk
  rw [Array.all_eq_true']
  simp
theorem strOk_join {a : Str} {ys : List Str} (ha : strOk a = true) (h : ∀ y ∈ ys, strOk y = true) : strOk (Txt.join a ys) = true := by
  rw [strOk_iff, join_eq, tl_join]
  have : ∀ ls : List (List Nat), (∀ l ∈ ls, ∀ c ∈ l, c < 1114112) → ∀ c ∈ joinL (tl a) ls, c < 1114112 := by
    intro ls
    induction ls with
    | nil => intro _ c hc; simp [joinL] at hc
    | cons l ls ih =>
      intro hl c hc
      cases ls with
      | nil => exact hl l (by simp) c (by simpa [joinL] using hc)
      | cons m ls =>
        rw [joinL] at hc
        rcases List.mem_append.mp hc with hc | hc
        · exact hl l (by simp) c hc
        · rcases List.mem_append.mp hc with hc | hc
          · exact strOk_iff.mp ha c hc
          · exact ih (fun l' hl' => hl l' (by simp [hl'])) c hc
  refine this _ fun l hl c hc => ?_
  obtain ⟨y, hy, rfl⟩ := List.mem_map.mp hl
  exact strOk_iff.mp (h y hy) c hc
/-- what a list of texts weighs -/
def mu (ws : List Str) : Nat := (ws.map Str.length).sum + ws.length
theorem mu_app (a b : List Str) : mu (a ++ b) = mu a + mu b := by
  unfold mu
  rw [List.map_append, List.sum_append, List.length_append]
  omega
theorem mu_rev (a : List Str) : mu a.reverse = mu a := by
  unfold mu
  rw [List.map_reverse, List.sum_reverse, List.length_reverse]
theorem mu_sub {a b : List Str} (h : a.Sublist b) : mu a ≤ mu b := by
  induction h with
  | slnil => exact Nat.le_refl _
  | cons x _ ih =>
    refine Nat.le_trans ih ?_
    unfold mu
    simp only [List.map_cons, List.sum_cons, List.length_cons]
    omega
  | cons_cons x _ ih =>
    unfold mu at ih ⊢
    simp only [List.map_cons, List.sum_cons, List.length_cons]
    omega
theorem mu_split (x : Str) : mu (Txt.split x " ") = x.length + 1 := by
  have h1 := split_sum x " "
  have h2 := split_pos x " "
  have : (" " : Str).length = 1 := by decide
  rw [this, Nat.mul_one] at h1
  unfold mu
  omega
theorem join_mu {P : D → Sto → Prop} {E : Str → Str → D → Sto → Prop} {s : Sto} {d : D} {ys : List Str} {a : Str} (ha : strOk a = true) (hl : a.length ≤ 2) (hs : seqD s d = some (ys.map D.str)) (ok : ∀ y ∈ ys, strOk y = true) (h : ∀ y, strOk y = true → y.length ≤ 2 * mu ys → P (.str y) s) (hm : mu ys ≤ 8000000) : (fJoin (.str a) [d] s).wp P E := by
  rw [z_join]
  have e : ys.length * a.length ≤ ys.length * 2 := Nat.mul_le_mul_left _ hl
  have e2 : mu ys = (ys.map Str.length).sum + ys.length := rfl
  have e3 : (ys.map (·.length)).sum = (ys.map Str.length).sum := rfl
  refine ⟨_, ys, hs, mapM_strD ys, by omega, h _ (strOk_join ha ok) ?_⟩
  rw [join_eq]
  have := StrLaws.join_length_le a ys
  omega
theorem join_mu1 {P : D → Sto → Prop} {E : Str → Str → D → Sto → Prop} {s : Sto} {d : D} {ys : List Str} {a : Str} (ha : strOk a = true) (hl : a.length = 1) (hs : seqD s d = some (ys.map D.str)) (ok : ∀ y ∈ ys, strOk y = true) (h : ∀ y, strOk y = true → y.length ≤ mu ys → P (.str y) s) (hm : mu ys ≤ 8000000) : (fJoin (.str a) [d] s).wp P E := by
  rw [z_join]
  have e2 : mu ys = (ys.map Str.length).sum + ys.length := rfl
  have e3 : (ys.map (·.length)).sum = (ys.map Str.length).sum := rfl
  refine ⟨_, ys, hs, mapM_strD ys, by rw [hl]; omega, h _ (strOk_join ha ok) ?_⟩
  rw [join_eq]
  have := StrLaws.join_length_le a ys
  rw [hl] at this
  omega
theorem cut_strs {ws : List Str} (lo hi : Option Int) : ∃ vs : List Str, cutD (ws.map D.str) lo hi = vs.map D.str ∧ vs.Sublist ws := by
  refine ⟨(ws.drop (HT.sIx ws.length 0 lo)).take (HT.sIx ws.length ws.length hi - HT.sIx ws.length 0 lo), ?_, (List.take_sublist _ _).trans (List.drop_sublist _ _)⟩
  unfold cutD
  rw [List.map_take, List.map_drop, List.length_map]
theorem mlAt_ap {s l : Sto} {i n : Nat} {xs : List D} (h : l[i]? = some (SO.lst xs)) (hn : n = s.length + i) : mlAt (s ++ l) n = some xs := by
  subst hn
  refine mlAt_some ?_
  rw [List.getElem?_append_right (by omega), Nat.add_sub_cancel_left]
  exact h
theorem ap0 {s l : Sto} {xs : List D} : mlAt (s ++ SO.lst xs :: l) s.length = some xs := mlAt_ap (i := 0) rfl rfl
theorem ap1 {s l : Sto} {xs : List D} {a : SO} : mlAt (s ++ a :: SO.lst xs :: l) (s.length + 1) = some xs := mlAt_ap rfl rfl
theorem ap2 {s l : Sto} {xs : List D} {a b : SO} : mlAt (s ++ a :: b :: SO.lst xs :: l) (s.length + 2) = some xs := mlAt_ap rfl rfl
theorem ap3 {s l : Sto} {xs : List D} {a b c : SO} : mlAt (s ++ a :: b :: c :: SO.lst xs :: l) (s.length + 3) = some xs := mlAt_ap rfl rfl
theorem ap4 {s l : Sto} {xs : List D} {a b c d : SO} : mlAt (s ++ a :: b :: c :: d :: SO.lst xs :: l) (s.length + 4) = some xs := mlAt_ap rfl rfl
theorem ap1b {s l : Sto} {xs : List D} {a b : SO} : mlAt (s ++ a :: b :: SO.lst xs :: l) (s.length + 1 + 1) = some xs := mlAt_ap (i := 2) rfl rfl
def signs7 : List Str := [" ", ",", "(", ")", "+", "a", "A", "-", "1", "\n", "weak", "z"]
theorem signs_ok : ∀ x ∈ signs7, strOk x = true ∧ x.length ≤ 4 := by decide +kernel
def bt6 : SM := (sR (m2 dAdd (m2 dAdd (mSl dSl (mV 1) oN (oS (mV 5))) (m2 dIx (mN fLst (aC (mC (.str "")) (aC (mV 2) (aC (mV 2) aN)))) (mV 6))) (mSl dSl (mV 1) (oS (m2 dAdd (mV 5) (m2 dIx (mN fLst (aC (mC (.int 1)) (aC (mC (.int 0)) (aC (mC (.int 1)) aN)))) (mV 6)))) oN)))
def bt5 : SM := (sC (sI (toB (m2 dEq (mV 6) (mC (.int 4)))) (sR (mBM "str" fJoin (mC (.str " ")) (aC (m2 dAdd (m2 dAdd (mSl dSl (mV 3) oN (oS (mV 4))) (mN fLst (aC (m2 dIx (mV 3) (mV 4)) aN))) (mSl dSl (mV 3) (oS (mV 4)) oN)) aN))) sN) bt6)
def bt4 : SM := (sC (sI (toB (m2 dEq (mV 6) (mC (.int 3)))) (sR (mBM "str" fJoin (mC (.str " ")) (aC (m2 dAdd (m2 dAdd (mSl dSl (mV 3) oN (oS (mV 4))) (mRev (mSl dSl (mV 3) (oS (mV 4)) (oS (m2 dAdd (mV 4) (mC (.int 2))))))) (mSl dSl (mV 3) (oS (m2 dAdd (mV 4) (mC (.int 2)))) oN)) aN))) sN) bt5)
def bt3 : SM := (sC (sA 4 (mN m__law_take (aC (mV 0) (aC (mN fLen (aC (mV 3) aN)) aN)))) bt4)
def bt2 : SM := (sC (sA 3 (mBM "str" fSplit (mV 1) (aC (mC (.str " ")) aN))) bt3)
def bt1 : SM := (sC (sA 2 (mN m__law_of (aC (mV 0) (aC (mN fLst (aC (mC (.str " ")) (aC (mC (.str ",")) (aC (mC (.str "(")) (aC (mC (.str ")")) (aC (mC (.str "+")) (aC (mC (.str "a")) (aC (mC (.str "A")) (aC (mC (.str "-")) (aC (mC (.str "1")) (aC (mC (.str "\n")) (aC (mC (.str "weak")) (aC (mC (.str "z")) aN))))))))))))) aN)))) bt2)
def bt0 : SM := (sC (sP 5 6 (aC (mN m__law_take (aC (mV 0) (aC (m2 dAdd (mN fLen (aC (mV 1) aN)) (mC (.int 1))) aN))) (aC (mN m__law_take (aC (mV 0) (aC (mC (.int 5)) aN))) aN))) bt1)
theorem bt_eq : s__law_bent = bt0 := rfl
theorem bent_ok {s : Sto} {k : Nat} {x : Str} (hb : Bag s k) (hx : strOk x = true) (hl : x.length ≤ 320) : (m__law_bent [.ref k, .str x] s).wp fun d s' => Eff [k] s s' ∧ ∃ y, d = .str y ∧ strOk y = true ∧ y.length ≤ 990 := by
  refine wp_of fun P hP => ?_
  unfold m__law_bent
  rw [bt_eq]
  unfold bt0
  rw [z_fnM (by rfl), z_sCn]
  have hk := hb.lt
  have hl2 : x.length ≤ sizeLine := by rw [size_line]; omega
  have c5 : (5 : Int) < 1073741824 := by decide
  simp [-List.map_map, hl2]
  refine wp_ne (take_ok hb (by omega) (by omega)) ?_
  rintro _ s1 ⟨spot, rfl, hspot, e1⟩
  have hb1 := e1.bag k (by simp) hb
  refine wp_ne (take_ok hb1 (by omega) c5) ?_
  rintro _ s2 ⟨way, rfl, hway, e2⟩
  have e02 := e1.trans e2
  have hb2 := e2.bag k (by simp) hb1
  show nxt _ _ _ _
  unfold bt1
  rw [z_nxC]
  have l12 : 12 ≤ sizeLine := by decide
  simp [-List.map_map, l12]
  have e3 : Eff [k] s2 (s2 ++ [SO.lst (signs7.map D.str)]) := Eff.push
  have m3 : mlAt (s2 ++ [SO.lst (signs7.map D.str)]) s2.length = some (signs7.map D.str) := mlAt_push
  have k2 := hb2.lt
  show (m__law_of [D.ref k, D.ref s2.length] (s2 ++ [SO.lst (signs7.map D.str)])).wp _ _
  have hb3 := e3.bag k (by simp) hb2
  generalize s2 ++ [SO.lst (signs7.map D.str)] = s3 at e3 m3 hb3 ⊢
  refine wp_ne (of_ok hb3 (show seqD s3 (.ref s2.length) = _ from lstAt_ml m3) (by simp; omega) (by simp [signs7]) (by simp [signs7])) ?_
  rintro _ s4 ⟨hd4, e4⟩
  obtain ⟨sg, hsg, rfl⟩ := List.mem_map.mp hd4
  have e04 := (e02.trans e3).trans e4
  have hb4 := e4.bag k (by simp) hb3
  obtain ⟨ok5, l5⟩ := signs_ok sg hsg
  show nxt _ _ _ _
  unfold bt2
  rw [z_nxC]
  have l1 : (Str.ofString " ").length = 1 := by decide
  simp [-List.map_map]
  refine ⟨isTy_str, ⟨by rw [l1]; decide, by rw [size_line]; omega⟩, ?_⟩
  have e5 : Eff [k] s4 (s4 ++ [SO.lst ((Txt.split x " ").map D.str)]) := Eff.push
  have m5 : mlAt (s4 ++ [SO.lst ((Txt.split x " ").map D.str)]) s4.length = some ((Txt.split x " ").map D.str) := mlAt_push
  show nxt _ _ _ (s4 ++ [SO.lst ((Txt.split x " ").map D.str)])
  have k4 := hb4.lt
  have hb5 := e5.bag k (by simp) hb4
  generalize s4 ++ [SO.lst ((Txt.split x " ").map D.str)] = s5 at e5 m5 hb5 ⊢
  unfold bt3
  rw [z_nxC]
  have sp1 := split_pos x " "
  have sp2 := split_le x " "
  simp [-List.map_map, lstAt_ml m5]
  refine wp_ne (take_ok hb5 (by omega) (by omega)) ?_
  rintro _ s6 ⟨q, rfl, hq, e6⟩
  have e06 := (e04.trans e5).trans e6
  have m6 := e6.ml m5 (by simp; omega)
  show nxt _ _ _ _
  unfold bt4
  rw [z_nxC]
  simp [-List.map_map]
  have hws : ∀ z ∈ Txt.split x " ", strOk z = true := fun z hz => part_ok7 hx hz
  have mus := mu_split x
  generalize hW : Txt.split x " " = ws at m6 hws mus hq sp1 sp2
  have nW : mlAt s6 s4.length = some (ws.map D.str) := m6
  have L : ∀ l, lstAt (s6 ++ l) s4.length = some (ws.map D.str) := fun l => by rw [lstAt_app (lstAt_lt (lstAt_ml m6))]; exact lstAt_ml m6
  have done : ∀ t y, Eff [k] s6 t → strOk y = true → y.length ≤ 990 → P (.str y) t := fun t y ef h1 h2 => hP _ _ ⟨e06.trans ef, y, rfl, h1, h2⟩
  have subOk : ∀ {vs : List Str}, vs.Sublist ws → (∀ z ∈ vs, strOk z = true) ∧ mu vs ≤ x.length + 1 ∧ vs.length ≤ x.length + 2 := fun {vs} h => ⟨fun z hz => hws z (h.subset hz), by have := mu_sub h; omega, by have := h.length_le; omega⟩
  by_cases c3 : (way : Int) = 3
  · rw [if_pos c3, lstAt_ml nW, lstP_some]
    refine ⟨isTy_str, ?_⟩
    obtain ⟨va, ea, sa⟩ := cut_strs (ws := ws) none (some q)
    obtain ⟨vb, eb, sb⟩ := cut_strs (ws := ws) (some q) (some (q + 2))
    obtain ⟨vc, ec, sc⟩ := cut_strs (ws := ws) (some (q + 2)) none
    have oa := subOk sa
    have ob := subOk sb
    have oc := subOk sc
    rw [ea, L, lstP_some, eb]
    rw [ap0, lstP_some, ap1b, lstP_some]
    refine ⟨by rw [List.length_reverse, List.length_map, List.length_map, size_line]; omega, ?_⟩
    rw [L, lstP_some, ec, ap3, lstP_some, ap4, lstP_some]
    refine ⟨by rw [List.length_append, List.length_reverse, List.length_map, List.length_map, List.length_map, size_line]; omega, ?_⟩
    have eR : (vb.map D.str).reverse = vb.reverse.map D.str := by rw [List.map_reverse]
    rw [eR]
    refine join_mu1 (ys := va ++ vb.reverse ++ vc) (by decide +kernel) l1 (lstAt_ml (mlAt_ap (i := 5) (by rw [List.map_append, List.map_append]; rfl) rfl)) (fun y hy => ?_) (fun y h1 h2 => done _ y Eff.app h1 ?_) ?_
    · rcases List.mem_append.mp hy with hy | hy
      · rcases List.mem_append.mp hy with hy | hy
        · exact oa.1 y hy
        · exact ob.1 y (List.mem_reverse.mp hy)
      · exact oc.1 y hy
    · rw [mu_app, mu_app, mu_rev] at h2
      omega
    · rw [mu_app, mu_app, mu_rev]
      omega
  · rw [if_neg c3]
    unfold bt5
    rw [z_nxC]
    simp [-List.map_map]
    by_cases c4 : (way : Int) = 4
    · rw [if_pos c4, lstAt_ml nW, lstP_some]
      refine ⟨isTy_str, ?_⟩
      obtain ⟨va, ea, sa⟩ := cut_strs (ws := ws) none (some q)
      obtain ⟨vc, ec, sc⟩ := cut_strs (ws := ws) (some q) none
      have oa := subOk sa
      have oc := subOk sc
      have hq2 : q < ws.length := by omega
      have eI : atI (ws.map D.str) (q : Int) = some (.str ws[q]) := by
        exact atI_of (by rw [List.getElem?_map, List.getElem?_eq_getElem hq2]; rfl)
      have hwm : ws[q] ∈ ws := List.getElem_mem hq2
      have hwl := part_short (x := x) (y := " ") (by rw [hW]; exact hwm)
      generalize ws[q] = w at eI hwm hwl
      rw [ea, L, lstP_some, eI, datP_some, ap0, lstP_some, ap1, lstP_some, L, lstP_some, ec, ap2, lstP_some, ap3, lstP_some]
      refine ⟨by decide, by rw [List.length_map, List.length_singleton, size_line]; omega, by rw [List.length_append, List.length_map, List.length_map, List.length_singleton, size_line]; omega, ?_⟩
      refine join_mu1 (ys := va ++ [w] ++ vc) (by decide +kernel) l1 (lstAt_ml (mlAt_ap (i := 4) (by rw [List.map_append, List.map_append]; rfl) rfl)) (fun y hy => ?_) (fun y h1 h2 => done _ y Eff.app h1 ?_) ?_
      · rcases List.mem_append.mp hy with hy | hy
        · rcases List.mem_append.mp hy with hy | hy
          · exact oa.1 y hy
          · rw [List.mem_singleton.mp hy]; exact hws w hwm
        · exact oc.1 y hy
      · rw [mu_app, mu_app] at h2
        have : mu [w] = w.length + 1 := by unfold mu; simp
        omega
      · rw [mu_app, mu_app]
        have : mu [w] = w.length + 1 := by unfold mu; simp
        omega
    · rw [if_neg c4]
      unfold bt6
      rw [z_nxt]
      have w3 : way < 3 := by omega
      have three : 3 ≤ sizeLine := by decide
      simp [-List.map_map, hl2, three]
      have fin : ∀ (a : Str) (lo : Int) (t : Sto), strOk a = true → a.length ≤ 4 → Eff [k] s6 t → (dAdd (D.str (cutS x none (some spot))) (.str a) t).wp (fun d s1 => (dAdd (.int spot) (.int lo) (s1 ++ [SO.lst [D.int 1, D.int 0, D.int 1]])).wp (fun d2 s1 => intP d2 fun i => (dAdd d (D.str (cutS x (some i) none)) s1).wp (fun d s1 => P d s1) fun c f v s => NE c f v s) fun c f v s => NE c f v s) fun c f v s => NE c f v s := by
        intro a lo t ha hal ht
        have c1 : (cutS x none (some spot)).length ≤ x.length := cut_leS
        have c2 : ∀ j, (cutS x (some j) none).length ≤ x.length := fun j => cut_leS
        simp
        refine ⟨by rw [size_line]; omega, by have := c2 (spot + lo); rw [len_app, size_line]; omega, ?_⟩
        refine done _ _ (ht.trans Eff.push) (strOk_app (strOk_app (cut_okS hx) ha) (cut_okS hx)) ?_
        have := c2 (spot + lo)
        rw [len_app, len_app]
        omega
      have hw : way = 0 ∨ way = 1 ∨ way = 2 := by omega
      have ok0 : strOk (Str.ofString "") = true ∧ (Str.ofString "").length ≤ 4 := by decide +kernel
      rcases hw with rfl | rfl | rfl
      · exact fin "" 1 _ ok0.1 ok0.2 Eff.push
      · exact fin sg 0 _ ok5 l5 Eff.push
      · exact fin sg 1 _ ok5 l5 Eff.push
end Z

set_option Elab.async false
set_option linter.all false
set_option maxRecDepth 100000
set_option maxHeartbeats 4000000
namespace Z
open PySem PySem.Spec PyProof.Rows L2 TL
open PySem.PyData (strOk)
/-! ### a drawn face -/
structure W4 (w : Str) : Prop where
  mem : w ∈ (["wanted", "weak", "common", "strong"] : List Str)
theorem W4.low {w : Str} (h : W4 w) : IsName w := by
  have := h.mem
  have key : ∀ w ∈ (["wanted", "weak", "common", "strong"] : List Str), 1 ≤ (tl w).length ∧ (tl w).length ≤ 8 ∧ ∀ c ∈ tl w, isLow c := by decide +kernel
  exact ⟨(key w this).1, (key w this).2.1, (key w this).2.2⟩
abbrev Face := List (Str × Str)
def rowD (p : Str × Str) : D := .tup [.str p.1, .str p.2]
def rowT7 (p : Str × Str) : Str := p.1 ++ " " ++ p.2
structure FaceL (n : Nat) (fs : Face) : Prop where
  nm : ∀ p ∈ fs, IsName p.1
  wd : ∀ p ∈ fs, W4 p.2
  len : fs.length ≤ n
theorem sum_const {α : Type} (c : Nat) : ∀ xs : List α, (xs.map fun _ => c).sum = xs.length * c
  | [] => by simp
  | x :: xs => by
    rw [List.map_cons, List.sum_cons, sum_const c xs, List.length_cons, Nat.add_mul]
    omega
theorem drawn_wp {s : Sto} {k n : Nat} {ms : List Str} (hb : Bag s k) (hx : lstAt s n = some (ms.map D.str)) (hk : n ≠ k) (hn : ∀ x ∈ ms, IsName x) (hl : ms.length ≤ 100) :
    (m__law_drawn [.ref k, .ref n] s).wp fun d s' => ∃ fs : Face, d = .tup (fs.map rowD) ∧ FaceL ms.length fs ∧ Eff [k] s s' := by
  refine wp_of fun P hP => ?_
  have hkl := hb.lt
  have hnl := lstAt_lt hx
  have hsp := sortS_perm ms
  have hsl : (sortS ms).length = ms.length := hsp.length_eq
  have hsn : ∀ x ∈ sortS ms, IsName x := fun x hx => hn x (hsp.mem_iff.mp hx)
  unfold m__law_drawn s__law_drawn
  rw [z_fnM (by rfl)]
  simp [-List.map_map]
  have hx1 : lstAt (s ++ [SO.lst []]) n = some (ms.map D.str) := by rw [lstAt_app hnl]; exact hx
  rw [hx1, lstP_some]
  obtain ⟨q1, q2⟩ := sortD_strs (s := s ++ [SO.lst []]) (fun x hx => (hn x hx).ok)
  refine ⟨q1, ?_⟩
  rw [q2]
  have hs0 : lstAt (s ++ [SO.lst []] ++ [SO.lst ((sortS ms).map D.str)]) (s ++ [SO.lst []]).length = some ((sortS ms).map D.str) := lstAt_push
  have hq : (s ++ [SO.lst []]).length = s.length + 1 := by simp
  have es : s ++ [SO.lst [], SO.lst ((sortS ms).map D.str)] = s ++ [SO.lst []] ++ [SO.lst ((sortS ms).map D.str)] := by simp
  try rw [es]
  generalize hs1 : s ++ [SO.lst []] ++ [SO.lst ((sortS ms).map D.str)] = s1 at hs0 ⊢
  have ef1 : Eff [k] s s1 := by rw [← hs1]; exact Eff.push.trans Eff.push
  have hm1 : mlAt s1 s.length = some [] := by rw [← hs1, mlAt_app (by simp)]; exact mlAt_push
  rw [hq] at hs0
  try rw [hq]
  simp [hs0, -List.map_map]
  refine for_j (xs := (sortS ms).map D.str) (by rw [List.length_map]) (fun i e s2 => Eff [k] s s2 ∧ lstAt s2 (s.length + 1) = some ((sortS ms).map D.str) ∧ (∃ o3 o4, e = [some (.ref k), some (.ref n), some (.ref s.length), o3, o4]) ∧ ∃ fs : Face, mlAt s2 s.length = some (fs.map rowD) ∧ (fs.map (·.1)).Sublist ((sortS ms).take i) ∧ ∀ p ∈ fs, W4 p.2) (fun i e s2 h => jlst_at h.2.1) ?_ ⟨ef1, hs0, ⟨none, none, rfl⟩, [], hm1, by simp, by simp⟩ ?_
  · rintro i d e s2 hi ⟨ef2, hl2, ⟨o3, o4, rfl⟩, fs, hm2, hsub, hw⟩
    rw [List.getElem?_map] at hi
    obtain ⟨z, hz, rfl⟩ := Option.map_eq_some_iff.mp hi
    refine ⟨_, rfl, ?_⟩
    have l7 : 7 ≤ sizeLine := by decide
    simp [-List.map_map, l7]
    have hb2 := ef2.bag k (by simp) hb
    have hlt2 : s.length + 1 < s2.length := lstAt_lt hl2
    have k2 := hb2.lt
    refine wp_ne (of_ok (s := s2 ++ [SO.lst [.str "", .str "", .str "wanted", .str "wanted", .str "weak", .str "common", .str "strong"]]) (k := k) (x := .ref s2.length) ((Eff.push (ks := [k])).bag k (by simp) hb2) lstAt_push (by simp; omega) (by simp) (by simp)) fun d s3 ⟨hd3, ef3⟩ => ?_
    have ef23 : Eff [k] s2 s3 := Eff.push.trans ef3
    have ef3' := ef2.trans ef23
    have hl3 := ef23.lst hl2 (by simp; omega)
    have hm3 := ef23.ml hm2 (by simp; omega)
    have hlt3 := ef23.le
    have hfl : fs.length < sizeLine := by
      have := hsub.length_le
      rw [List.length_map, List.length_take] at this
      rw [size_line]
      omega
    have hcase : d = .str "" ∨ ∃ w, d = .str w ∧ W4 w := by
      simp at hd3
      rcases hd3 with e | e | e | e | e
      · exact .inl e
      · exact .inr ⟨_, e, ⟨by simp⟩⟩
      · exact .inr ⟨_, e, ⟨by simp⟩⟩
      · exact .inr ⟨_, e, ⟨by simp⟩⟩
      · exact .inr ⟨_, e, ⟨by simp⟩⟩
    have hsub' : (fs.map (·.1)).Sublist ((sortS ms).take (i + 1)) := hsub.trans (List.take_sublist_take_left (by omega))
    rcases hcase with rfl | ⟨w, rfl, hw4⟩
    · simp [-List.map_map]
      exact ⟨ef3', hl3, fs, hm3, hsub', fun a b hp => hw (a, b) hp⟩
    · have hne : (D.str w) ≠ .str "" := by
        intro e
        have := hw4.low.pos
        cases e
        revert this
        decide +kernel
      have hne2 : ¬ w = "" := fun e => hne (by rw [e])
      simp [hne2, hm3, two_le_line, -List.map_map]
      have hs3 : s.length < s3.length := by omega
      refine ⟨isTy_ml hm3, hfl, ef3'.set (Nat.le_refl _), ?_, fs ++ [(z, w)], ?_, ?_, ?_⟩
      · exact hl3
      · simp [rowD, hs3]
      · rw [List.map_append, take_snoc hz]
        exact List.Sublist.append hsub (List.Sublist.refl _)
      · intro a b hp
        simp at hp
        rcases hp with hp | ⟨-, rfl⟩
        · exact hw (a, b) hp
        · exact hw4
  · rintro e s2 ⟨ef2, hl2, ⟨o3, o4, rfl⟩, fs, hm2, hsub, hw⟩
    simp [lstAt_ml hm2, -List.map_map]
    have hsub2 : (fs.map (·.1)).Sublist (sortS ms) := hsub.trans (List.take_sublist _ _)
    refine hP _ _ ⟨fs, rfl, ⟨fun p hp => hsn _ (hsub2.subset (List.mem_map_of_mem hp)), hw, ?_⟩, ef2⟩
    have := hsub2.length_le
    rw [List.length_map] at this
    omega
/-- its text -/
theorem look_ok {s : Sto} {k n : Nat} {ms : List Str} {e : Ev} {P : D → Sto → Prop} {E : Str → Str → D → Sto → Prop} (hb : Bag s k) (hx : mlAt s n = some (ms.map D.str)) (hk : n ≠ k) (hn : ∀ x ∈ ms, IsName x) (hl : ms.length ≤ 5) (h3 : e[3]? = some (some (.ref k))) (h6 : e[6]? = some (some (.ref n))) (h16 : 16 < e.length)
    (hP : ∀ s' y, Eff [k] s s' → strOk y = true → y.length ≤ 320 → P (.str y) s') :
    ((mBM "str" fJoin (mC (.str ", ")) (aC (mL (iSq (mN m__law_drawn (aC (mV 3) (aC (mV 6) aN)))) (gT [(gN 15), (gN 16)]) tY (m2 dAdd (m2 dAdd (mV 15) (mC (.str " "))) (mV 16)) [15, 16]) aN)) e s).wp P E := by
  simp [h3, h6, -List.map_map]
  refine ⟨isTy_str, ?_⟩
  refine wp_ne (drawn_wp hb (lstAt_ml hx) hk hn (by omega)) ?_
  rintro _ s1 ⟨fs, rfl, F, e1⟩
  have hfl := F.len
  simp [-List.map_map]
  have h162 : 16 < ((e.set 16 none).set 15 none).length := by rw [List.length_set, List.length_set]; exact h16
  generalize (e.set 16 none).set 15 none = e2 at h162 ⊢
  refine wp_ne (lc_mapR (ks := []) (fun d p => d = rowD p) (fun p => .str (rowT7 p)) (as := fs) AllR.of_map (it_tup (by simp)) bags_nil (by rw [size_line]; omega) fun d p s2 hd hp ef _ => ?_) ?_
  · subst hd
    have h1 := (F.nm p hp).l8
    have h2 := (F.wd p hp).low.l8
    refine ⟨(e2.set 15 (some (.str p.1))).set 16 (some (.str p.2)), rfl, ?_⟩
    have g15 : ((e2.set 15 (some (D.str p.1))).set 16 (some (D.str p.2)))[15]? = some (some (.str p.1)) := by
      rw [List.getElem?_set_ne (by decide), List.getElem?_set_self (by omega)]
    have g16 : ((e2.set 15 (some (D.str p.1))).set 16 (some (D.str p.2)))[16]? = some (some (.str p.2)) := by
      rw [List.getElem?_set_self (by rw [List.length_set]; omega)]
    have l1 : (Str.ofString " ").length = 1 := by decide
    simp [g15, g16, len_app, l1]
    exact ⟨by rw [size_line]; omega, by rw [size_line]; omega, Eff.refl, rfl⟩
  rintro _ s2 ⟨rfl, ef, hlt, m2⟩
  refine join_mu (ys := fs.map rowT7) (by decide +kernel) (by decide) (by show lstAt s2 s1.length = _; rw [lstAt_ml m2, List.map_map]; rfl) (fun y hy => ?_) (fun y h1 h2 => hP _ y (e1.trans ef.nil) h1 ?_) ?_
  · obtain ⟨p, hp, rfl⟩ := List.mem_map.mp hy
    exact strOk_app (strOk_app (F.nm p hp).ok (by decide +kernel)) (F.wd p hp).low.ok
  all_goals
    have hm : mu (fs.map rowT7) ≤ fs.length * 18 := by
      unfold mu
      rw [List.length_map, List.map_map]
      have := sum_mono (f := Str.length ∘ rowT7) (g := fun _ => 17) (xs := fs) fun p hp => by
        have h1 := (F.nm p hp).l8
        have h2 := (F.wd p hp).low.l8
        have l1 : (Str.ofString " ").length = 1 := by decide
        show (rowT7 p).length ≤ 17
        unfold rowT7
        rw [len_app, len_app, l1]
        omega
      have e0 : (fs.map fun _ => 17).sum = fs.length * 17 := by exact sum_const 17 fs
      omega
    omega
end Z

set_option Elab.async false
set_option linter.all false
set_option maxRecDepth 100000
set_option maxHeartbeats 4000000
namespace Z
open PySem PySem.Spec PyProof.Rows L2 TL
open PySem.PyData (strOk)
/-! ### objects that are no texts -/
def NoTx (s : Sto) (d : D) : Prop := ∃ n, tyN s d = some n ∧ kitB n "str" = some false
theorem look_bad {s : Sto} {d : D} (h : NoTx s d) : (m_look_text [d] s).wp (fun _ _ => False) (fun c f v s' => c = "BadText" ∧ f = "line" ∧ v = .int (-1) ∧ Eff [] s s') := by
  obtain ⟨n, h1, h2⟩ := h
  unfold m_look_text s_look_text
  rw [z_fnM (by rfl)]
  simp
  rw [z_isi, z_mV]
  refine ⟨n, false, h1, h2, ?_⟩
  simp [trD, z_sRaise]
  exact Eff.refl
theorem face_bad {s : Sto} {d : D} (h : NoTx s d) : (m_read_face [d] s).wp (fun d s' => none = some d ∧ Eff [] s s') (fun c f v s' => (none : Option D) = none ∧ c = "BadText" ∧ f = "line" ∧ v = .int (-1) ∧ Eff [] s s') := by
  unfold m_read_face s_read_face
  rw [z_fnM (by rfl), z_sCn]
  simp [-List.map_map]
  refine wp_mono (look_bad h) ?_ ?_
  · intro _ _ h; exact h.elim
  · rintro c f v s1 ⟨rfl, rfl, rfl, ef⟩
    exact ⟨rfl, rfl, rfl, ef⟩
theorem line_bad {s : Sto} {d : D} (h : NoTx s d) : (m_read_line [d] s).wp (fun d s' => none = some d ∧ Eff [] s s') (fun c f v s' => (none : Option D) = none ∧ c = "BadText" ∧ f = "line" ∧ v = .int (-1) ∧ Eff [] s s') := by
  unfold m_read_line s_read_line
  rw [z_fnM (by rfl), z_sCn]
  simp [-List.map_map]
  refine wp_mono (look_bad h) ?_ ?_
  · intro _ _ h; exact h.elim
  · rintro c f v s1 ⟨rfl, rfl, rfl, ef⟩
    exact ⟨rfl, rfl, rfl, ef⟩
theorem read_face_due {s : Sto} {x : Str} (hx : strOk x = true) (hl : x.length ≤ 990) :
    (m_read_face [.str x] s).wp (fun d s' => dueF7 x = some d ∧ Eff [] s s') (fun c f d s' => dueF7 x = none ∧ c = "BadText" ∧ f = "line" ∧ d = .int 0 ∧ Eff [] s s') := by
  refine wp_mono (read_face_any7 hx hl) ?_ ?_
  · rintro d s1 ⟨h | ⟨h1, h2, h3⟩, ef⟩
    · refine ⟨?_, ef⟩
      unfold dueF7
      rw [if_pos h.1, h.2]
    · refine ⟨?_, ef⟩
      unfold dueF7
      rw [if_neg h1, if_pos h2, h3]
  · rintro c f d s1 ⟨⟨h1, h2⟩, h3, h4, h5, ef⟩
    refine ⟨?_, h3, h4, h5, ef⟩
    unfold dueF7
    rw [if_neg h1, if_neg (by rw [h2]; simp)]
end Z

set_option Elab.async false
set_option linter.all false
set_option maxRecDepth 100000
set_option maxHeartbeats 4000000
namespace Z
open PySem PySem.Spec PyProof.Rows L2 TL
open PySem.PyData (strOk)
/-! ### a text's turn -/
def lw3b1b4b4 : SM := (sI (toB (m2 dNe (mN fRepr (aC (mV 11) aN)) (mN fRepr (aC (mV 12) aN)))) (sR (mC (.bl false))) sN)
def lw3b1b4b3 : SM := (sC (sE (mBM "list" (mtL lAppend) (mV 11) (aC (mLamC xcs 1 2 hs__law_outcome true (mN m_read_line (aC (mV 10) aN))) aN))) lw3b1b4b4)
def lw3b1b4b2 : SM := (sC (sA 11 (mN fLst (aC (mLamC xcs 1 2 hs__law_outcome true (mN m_read_face (aC (mV 10) aN))) aN))) lw3b1b4b3)
def lw3b1b4b1 : SM := (sC (sA 12 (mL (iSq (mV 12)) (gN 14) tY (mIf (toB (m2 dIsN2 (mV 14) (mC .non))) (mN fLst (aC (mC (.str "refused")) (aC (mC (.str "0")) (aC (mC (.bl true)) aN)))) (mV 14)) [14])) lw3b1b4b2)
def lw3b1b4b0 : SM := (sC (sA 12 (mN fLst (aC (mN m__law_read_face (aC (mV 10) aN)) (aC (mN m__law_read_line (aC (mV 10) aN)) aN)))) lw3b1b4b1)
def lw3b1b4 : SM := (sF (iSq (mN fLst (aC (mN m__law_bent (aC (mV 3) (aC (mV 7) aN))) (aC (mN m__law_bent (aC (mV 3) (aC (mV 9) aN))) (aC (m2 dIx (mV 1) (m2 dMod (mV 4) (mN fLen (aC (mV 1) aN)))) aN))))) (gN 10) lw3b1b4b0)
def lw3b1b3 : SM := (sC (sA 9 (mBM "str" fJoin (mC (.str " ")) (aC (mL (iR1 (aC (mN m__law_take (aC (mV 3) (aC (mC (.int 5)) aN))) aN)) (gN 13) tY (mN m__law_of (aC (mV 3) (aC (mV 8) aN))) [13]) aN))) lw3b1b4)
def lw3b1b2 : SM := (sC (sA 8 (m2 dAdd (mV 6) (mN fLst (aC (m2 dAdd (m2 dAdd (mC (.str "(")) (mBM "str" fJoin (mC (.str "+")) (aC (mV 6) aN))) (mC (.str ")"))) (aC (m2 dAdd (m2 dAdd (mC (.str "(")) (m2 dIx (mV 6) (mC (.int 0)))) (mC (.str ")"))) aN))))) lw3b1b3)
def lw3b1b1 : SM := (sC (sA 7 (mBM "str" fJoin (mC (.str ", ")) (aC (mL (iSq (mN m__law_drawn (aC (mV 3) (aC (mV 6) aN)))) (gT [(gN 15), (gN 16)]) tY (m2 dAdd (m2 dAdd (mV 15) (mC (.str " "))) (mV 16)) [15, 16]) aN))) lw3b1b2)
def lw3b1b0 : SM := (sC (sA 6 (mN m__law_names (aC (mV 3) (aC (m2 dAdd (mC (.int 1)) (mN m__law_take (aC (mV 3) (aC (mC (.int 5)) aN)))) aN)))) lw3b1b1)
def lw3b2b2 : SM := (sI (toB (m2 dNe (mV 11) (m2 dMul2 (mN fLst (aC (mN fLst (aC (mC (.str "refused")) (aC (mC (.str "-1")) (aC (mC (.bl true)) aN)))) aN)) (mC (.int 2))))) (sR (mC (.bl false))) sN)
def lw3b2b1 : SM := (sC (sE (mBM "list" (mtL lAppend) (mV 11) (aC (mLamC xcs 1 2 hs__law_outcome true (mN m_read_line (aC (mV 5) aN))) aN))) lw3b2b2)
def lw3b2b0 : SM := (sC (sA 11 (mN fLst (aC (mLamC xcs 1 2 hs__law_outcome true (mN m_read_face (aC (mV 5) aN))) aN))) lw3b2b1)
def lw3b2 : SM := (sF (iSq (mN fLst (aC (mC .non) (aC (mC (.int 0)) (aC (mC (.bl true)) (aC (mN fTup (aC (mC (.str "a")) aN)) (aC (mN fLst (aC (mC (.str "a")) aN)) (aC (mN fTup aN) (aC (m2 dPow (mC (.int 10)) (mC (.int 19))) aN))))))))) (gN 5) lw3b2b0)
def lw3b1 : SM := (sC (sF (iR1 (aC (mC (.int 30)) aN)) (gN 4) lw3b1b0) lw3b2)
def lw3b0 : SM := (sC (sA 3 (mN m__law_bag (aC (mV 0) (aC (mV 2) aN)))) lw3b1)
def lw4 : SM := (sR (mC (.bl true)))
def lw3 : SM := (sC (sF (iR1 (aC (mN fMax2 (aC (mC (.int 2)) (aC (mN fMin2 (aC (mC (.int 5)) (aC (mN fLen (aC (mV 0) aN)) aN))) aN))) aN)) (gN 2) lw3b0) lw4)
def lw2 : SM := (sC (sA 1 (m2 dAdd (mV 1) (mN fLst (aC (mC (.str "a weak ")) (aC (mC (.str "(a) (b+a)")) (aC (mC (.str "a weak,b weak")) (aC (mC (.str "a weak, b weak")) aN))))))) lw3)
def lw1 : SM := (sC (sA 1 (m2 dAdd (mV 1) (mN fLst (aC (mC (.str "a weak,")) (aC (mC (.str "a weak, ")) (aC (mC (.str "a weak b weak")) (aC (mC (.str "b weak, a weak")) (aC (mC (.str "a weak, a strong")) (aC (mC (.str "a own")) (aC (mC (.str "weak a")) aN)))))))))) lw2)
def lw0 : SM := (sC (sA 1 (mN fLst (aC (mC (.str "")) (aC (mC (.str " ")) (aC (mC (.str "-")) (aC (mC (.str "- -")) (aC (mC (.str "a")) (aC (mC (.str "()")) (aC (mC (.str "(")) (aC (mC (.str ")")) (aC (mC (.str "(a")) (aC (mC (.str "a)")) (aC (mC (.str "(a+)")) (aC (mC (.str "(+a)")) (aC (mC (.str "(a++b)")) (aC (mC (.str "((a))")) (aC (mC (.str "a  b")) (aC (mC (.str "a,b")) aN)))))))))))))))))) lw1)
theorem lw_eq : s_law = lw0 := rfl
theorem dueF_non {x : Str} {d : D} (h : dueF7 x = some d) : isNon d = false := by
  unfold dueF7 at h
  split at h
  · cases h; rfl
  · split at h
    · cases h; rfl
    · cases h
theorem dueL_non {x : Str} {d : D} (h : dueL7 x = some d) : isNon d = false := by
  unfold dueL7 at h
  split at h
  · cases h; rfl
  · cases h
theorem OutR.bt {t : Str} {n l : Nat} {s s' : Sto} {v : D} {o : Option D} (h : OutR t n s v o) (b : Bt l s s') (hl : s.length ≤ l) : OutR t n s' v o := by
  rcases h with h | ⟨h0, k, h1, h2, h3⟩
  · exact .inl h
  · exact .inr ⟨h0, k, h1, h2, b.ml (by have := lstAt_lt (lstAt_ml h3); omega) h3⟩
theorem OutR.above {t : Str} {n l : Nat} {s : Sto} {x : SO} {v : D} {o : Option D} (h : OutR t n s v o) (hl : l < n) : OutR t n (s.set l x) v o := by
  rcases h with h | ⟨h0, k, h1, h2, h3⟩
  · exact .inl h
  · exact .inr ⟨h0, k, h1, h2, by rw [mlAt_set_ne (by omega)]; exact h3⟩
theorem text_ok {Q : En} {t : Sto} {x : Str} {v0 v1 v2 v3 v4 v5 v6 v7 v8 v9 o11 o12 o13 o14 o15 o16 : Option D} (hx : strOk x = true) (hl : x.length ≤ 990)
    (hP : ∀ t' p11 p12, Eff [] t t' → Q.nx [v0, v1, v2, v3, v4, v5, v6, v7, v8, v9, some (.str x), p11, p12, o13, o14, o15, o16] t') :
    (lw3b1b4b0 [v0, v1, v2, v3, v4, v5, v6, v7, v8, v9, some (.str x), o11, o12, o13, o14, o15, o16] t).wp Q := by
  have oF : OkO (dueF7 x) := fun d h => dueF_ok hx hl h
  have oL : OkO (dueL7 x) := fun d h => dueL_ok hx hl h
  have nF : ∀ d, dueF7 x = some d → isNon d = false := fun d h => dueF_non h
  have nL : ∀ d, dueL7 x = some d → isNon d = false := fun d h => dueL_non h
  have two : 2 ≤ sizeLine := by decide
  have three : 3 ≤ sizeLine := by decide
  have one : 1 ≤ sizeLine := by decide
  unfold lw3b1b4b0
  rw [z_sCn]
  simp [-List.map_map]
  refine wp_ne (lread_face hx hl) ?_
  rintro _ t1 ⟨rfl, e1⟩
  refine wp_ne (lread_line hx hl) ?_
  rintro _ t2 ⟨rfl, e2⟩
  simp [two, -List.map_map]
  have rf := fun s => read_face_due (s := s) hx hl
  have rl := fun s => read_line_any (s := s) hx hl
  have e3 : Eff [] t2 (t2 ++ [SO.lst [(dueF7 x).getD D.non, (dueL7 x).getD D.non]]) := Eff.push
  have m3 : mlAt (t2 ++ [SO.lst [(dueF7 x).getD D.non, (dueL7 x).getD D.non]]) t2.length = some [(dueF7 x).getD D.non, (dueL7 x).getD D.non] := mlAt_push
  generalize t2 ++ [SO.lst [(dueF7 x).getD D.non, (dueL7 x).getD D.non]] = t3 at e3 m3 ⊢
  unfold lw3b1b4b1
  rw [z_nxC]
  simp [lstAt_ml m3, -List.map_map]
  refine wp_ne (lc_allT (fun d (o : Option D) => d = o.getD .non) (fun s y o => OutR "0" (t3.length + 1) s y o) (fun {s t y a} h k => by
      rcases h with h | ⟨h0, k', h1, h2, h3⟩
      · exact .inl h
      · exact .inr ⟨h0, k', h1, h2, k.ml (by omega) h3⟩) (as := [dueF7 x, dueL7 x]) (AllR.of_map (f := fun o : Option D => o.getD D.non)) (it_lst (lstAt_ml m3) (by simp) (by simp)) (by simp; decide) fun d o s3 hd ho ef hlt => ?_) ?_
  · subst hd
    refine ⟨_, rfl, ?_⟩
    have hn : ∀ d, o = some d → isNon d = false := fun d h => by
      simp only [List.mem_cons, List.not_mem_nil, or_false] at ho
      rcases ho with rfl | rfl
      · exact nF d h
      · exact nL d h
    cases o with
    | none =>
      simp [isNon, three]
      exact ⟨Eff.push, .inr ⟨rfl, _, rfl, by omega, mlAt_push⟩⟩
    | some d =>
      simp [hn d rfl]
      exact ⟨Eff.refl, .inl ⟨d, rfl, rfl⟩⟩
  rintro _ t4 ⟨rfl, e4, hlt4, ys, m4, hR⟩
  obtain ⟨y1, y2, rfl⟩ : ∃ y1 y2, ys = [y1, y2] := by
    have := hR.1
    match ys, this with
    | [a, b], _ => exact ⟨a, b, rfl⟩
  have r1 : OutR "0" (t3.length + 1) t4 y1 (dueF7 x) := hR.2 0 y1 _ rfl rfl
  have r2 : OutR "0" (t3.length + 1) t4 y2 (dueL7 x) := hR.2 1 y2 _ rfl rfl
  show nxt _ _ _ _
  unfold lw3b1b4b2
  rw [z_nxC]
  simp
  refine wp_ne (outcome_wp shI_0 (by simp; exact rf _)) ?_
  rintro d1 t5 ⟨e5, q1⟩
  simp [one]
  have e6 : Eff [] t5 (t5 ++ [SO.lst [d1]]) := Eff.push
  have m6 : mlAt (t5 ++ [SO.lst [d1]]) t5.length = some [d1] := mlAt_push
  have q16 := q1.eff e6
  generalize t5 ++ [SO.lst [d1]] = t6 at e6 m6 q16 ⊢
  show nxt _ _ _ _
  unfold lw3b1b4b3
  rw [z_nxC]
  simp
  refine ⟨isTy_ml m6, ?_⟩
  refine wp_ne (outcome_wp shI_0 (by simp; exact rl _)) ?_
  rintro d2 t7 ⟨e7, q2⟩
  have m7 := e7.ml m6 (by simp)
  rw [m7, lstP_some]
  refine ⟨by simp; decide, ?_⟩
  have lt6 : t5.length < t6.length := lstAt_lt (lstAt_ml m6)
  have lt7 := e7.le
  have lt5 := e5.le
  have b5 : Bt t5.length t5 (t7.set t5.length (SO.lst ([d1] ++ [d2]))) := (Bt.of (e6.trans e7)).trans Bt.set
  have b4 : Bt t5.length t4 (t7.set t5.length (SO.lst ([d1] ++ [d2]))) := (Bt.of e5).trans b5
  have m8 : mlAt (t7.set t5.length (SO.lst ([d1] ++ [d2]))) t5.length = some [d1, d2] := mlAt_set_self (by omega)
  have s1 := r1.bt b4 lt5
  have s2 := r2.bt b4 lt5
  have s3 := q1.bt b5 (Nat.le_refl _)
  have s4 := q2.above (x := SO.lst ([d1] ++ [d2])) lt6
  have m9 : mlAt (t7.set t5.length (SO.lst ([d1] ++ [d2]))) t3.length = some [y1, y2] := b4.ml (by omega) m4
  have eT : Eff [] t (t7.set t5.length (SO.lst ([d1] ++ [d2]))) := Bt.eff ((((e1.trans e2).trans e3).trans e4).trans e5) b5 (by
    have := e1.le
    have := e2.le
    have := e3.le
    omega)
  generalize t7.set t5.length (SO.lst ([d1] ++ [d2])) = t8 at m8 m9 s1 s2 s3 s4 eT ⊢
  unfold lw3b1b4b4
  rw [z_nxt]
  simp
  refine repr_two m8 s3 s4 oF oL ?_
  refine repr_two m9 s1 s2 oF oL ?_
  simp
  exact hP _ _ _ eT
end Z

set_option Elab.async false
set_option linter.all false
set_option maxRecDepth 100000
set_option maxHeartbeats 4000000
namespace Z
open PySem PySem.Spec PyProof.Rows L2 TL
open PySem.PyData (strOk)
/-! ### objects that are no texts: their turn -/
theorem pyd_ref1 {s : Sto} {k : Nat} (m : mlAt s k = some (refD "-1")) : pyd 29 s (.ref k) = some (.list [.str "refused", .str "-1", .bool true]) := pyd_refD m
theorem out_ref {n : Nat} {s : Sto} {v : D} {t : Str} (h : OutR t n s v none) : ∃ k, v = .ref k ∧ n ≤ k ∧ mlAt s k = some (refD t) := by
  rcases h with ⟨d, h, _⟩ | ⟨_, h⟩
  · cases h
  · exact h
def bad7P : PyData := .list [.list [.str "refused", .str "-1", .bool true], .list [.str "refused", .str "-1", .bool true]]
theorem shp_bad {s : Sto} {k a b : Nat} (m : mlAt s k = some [.ref a, .ref b]) (ma : mlAt s a = some (refD "-1")) (mb : mlAt s b = some (refD "-1")) : shp s (.ref k) = some bad7P := by
  refine shp_of ?_ (shaped_of (by decide +kernel) (by decide +kernel))
  rw [pyd, lstAt_ml m, Option.bind_some]
  simp only [List.mapM_cons, List.mapM_nil, pyd_ref1 ma, pyd_ref1 mb]
  rfl
theorem bad_ok {Q : En} {t : Sto} {d : D} {v0 v1 v2 v3 v4 o6 o7 o8 o9 o10 o11 o12 o13 o14 o15 o16 : Option D} (hd : ∀ t', Eff [] t t' → NoTx t' d)
    (hP : ∀ t' p11, Eff [] t t' → Q.nx [v0, v1, v2, v3, v4, some d, o6, o7, o8, o9, o10, p11, o12, o13, o14, o15, o16] t') :
    (lw3b2b0 [v0, v1, v2, v3, v4, some d, o6, o7, o8, o9, o10, o11, o12, o13, o14, o15, o16] t).wp Q := by
  have one : 1 ≤ sizeLine := by decide
  have three : 3 ≤ sizeLine := by decide
  unfold lw3b2b0
  rw [z_sCn]
  simp
  refine wp_ne (outcome_wp (o := none) shI_1 (by simp; exact wp_mono (face_bad (hd _ Eff.refl)) (fun d s h => by simp at h) (fun c f v s h => h.2))) ?_
  rintro d1 t5 ⟨e5, q1⟩
  simp [one]
  have e6 : Eff [] t5 (t5 ++ [SO.lst [d1]]) := Eff.push
  have m6 : mlAt (t5 ++ [SO.lst [d1]]) t5.length = some [d1] := mlAt_push
  generalize t5 ++ [SO.lst [d1]] = t6 at e6 m6 ⊢
  show nxt _ _ _ _
  unfold lw3b2b1
  rw [z_nxC]
  simp
  refine ⟨isTy_ml m6, ?_⟩
  refine wp_ne (outcome_wp (o := none) shI_1 (by simp; exact wp_mono (line_bad (hd _ (e5.trans e6))) (fun d s h => by simp at h) (fun c f v s h => h.2))) ?_
  rintro d2 t7 ⟨e7, q2⟩
  have m7 := e7.ml m6 (by simp)
  rw [m7, lstP_some]
  refine ⟨by simp; decide, ?_⟩
  have lt6 : t5.length < t6.length := lstAt_lt (lstAt_ml m6)
  have lt7 := e7.le
  have lt5 := e5.le
  have b5 : Bt t5.length t5 (t7.set t5.length (SO.lst ([d1] ++ [d2]))) := (Bt.of (e6.trans e7)).trans Bt.set
  have m8 : mlAt (t7.set t5.length (SO.lst ([d1] ++ [d2]))) t5.length = some [d1, d2] := mlAt_set_self (by omega)
  have s3 := q1.bt b5 (Nat.le_refl _)
  have s4 := q2.above (x := SO.lst ([d1] ++ [d2])) lt6
  have eT : Eff [] t (t7.set t5.length (SO.lst ([d1] ++ [d2]))) := Bt.eff e5 b5 lt5
  generalize t7.set t5.length (SO.lst ([d1] ++ [d2])) = t8 at m8 s3 s4 eT ⊢
  obtain ⟨a, rfl, _, ma⟩ := out_ref s3
  obtain ⟨b, rfl, _, mb⟩ := out_ref s4
  unfold lw3b2b2
  rw [z_nxt]
  simp [one, three]
  rw [ap1, lstP_some]
  refine ⟨by simp; decide, ?_⟩
  have e9 : Eff [] t8 (t8 ++ [SO.lst [D.str "refused", D.str "-1", D.bl true], SO.lst [D.ref t8.length], SO.lst ([D.ref t8.length] ++ [D.ref t8.length])]) := Eff.app
  have n0 : mlAt (t8 ++ [SO.lst [D.str "refused", D.str "-1", D.bl true], SO.lst [D.ref t8.length], SO.lst ([D.ref t8.length] ++ [D.ref t8.length])]) t8.length = some (refD "-1") := ap0
  have n2 : mlAt (t8 ++ [SO.lst [D.str "refused", D.str "-1", D.bl true], SO.lst [D.ref t8.length], SO.lst ([D.ref t8.length] ++ [D.ref t8.length])]) (t8.length + 2) = some [D.ref t8.length, D.ref t8.length] := ap2
  have ma9 := e9.ml ma (by simp)
  have mb9 := e9.ml mb (by simp)
  have m89 := e9.ml m8 (by simp)
  rw [z_ne (shp_bad m89 ma9 mb9) (shp_bad n2 n0 n0), show PyData.eqv bad7P bad7P = true by decide +kernel]
  simp
  exact hP _ _ (eT.trans e9)
end Z

set_option Elab.async false
set_option linter.all false
set_option maxRecDepth 100000
set_option maxHeartbeats 4000000
namespace Z
open PySem PySem.Spec PyProof.Rows L2 TL
open PySem.PyData (strOk)
/-! ### a turn -/
def fixed7 : List Str := ["", " ", "-", "- -", "a", "()", "(", ")", "(a", "a)", "(a+)", "(+a)", "(a++b)", "((a))", "a  b", "a,b", "a weak,", "a weak, ", "a weak b weak", "b weak, a weak", "a weak, a strong", "a own", "weak a", "a weak ", "(a) (b+a)", "a weak,b weak", "a weak, b weak"]
theorem fixed_ok : fixed7.length = 27 ∧ ∀ x ∈ fixed7, strOk x = true ∧ x.length ≤ 20 := by decide +kernel
theorem mu_le {B : Nat} {ws : List Str} (h : ∀ w ∈ ws, w.length ≤ B) : mu ws ≤ ws.length * (B + 1) := by
  unfold mu
  have h1 := sum_mono (f := Str.length) (g := fun _ => B) (xs := ws) h
  rw [sum_const] at h1
  rw [Nat.mul_add, Nat.mul_one]
  omega
theorem strs_ex {is : List Str} : ∀ {ys : List D}, (∀ y ∈ ys, ∃ x, x ∈ is ∧ y = .str x) → ∃ xs : List Str, ys = xs.map D.str ∧ ∀ x ∈ xs, x ∈ is
  | [], _ => ⟨[], rfl, by simp⟩
  | y :: ys, h => by
    obtain ⟨x, hx, rfl⟩ := h y (by simp)
    obtain ⟨xs, rfl, h2⟩ := strs_ex (ys := ys) fun y hy => h y (by simp [hy])
    exact ⟨x :: xs, rfl, by simpa using ⟨hx, h2⟩⟩
theorem turn_ok {Q : En} {t : Sto} {k f i2 : Nat} {v0 v2 o5 o6 o7 o8 o9 o10 o11 o12 o13 o14 o15 o16 : Option D} (hb : Bag t k) (hf : mlAt t f = some (fixed7.map D.str)) (hfk : f ≠ k)
    (hP : ∀ t' p6 p7 p8 p9 p10 p11 p12 p13 p14 p15 p16, Eff [k] t t' → Q.nx [v0, some (.ref f), v2, some (.ref k), some (.int i2), o5, p6, p7, p8, p9, p10, p11, p12, p13, p14, p15, p16] t') :
    (lw3b1b0 [v0, some (.ref f), v2, some (.ref k), some (.int i2), o5, o6, o7, o8, o9, o10, o11, o12, o13, o14, o15, o16] t).wp Q := by
  have c5 : (5 : Int) < 1073741824 := by decide
  have two : 2 ≤ sizeLine := by decide
  have three : 3 ≤ sizeLine := by decide
  have hk := hb.lt
  have hfl := lstAt_lt (lstAt_ml hf)
  unfold lw3b1b0
  rw [z_sCn]
  simp [-List.map_map]
  refine wp_ne (take_ok hb (by omega) c5) ?_
  rintro _ t1 ⟨q, rfl, hq, e1⟩
  have hb1 := e1.bag k (by simp) hb
  simp [-List.map_map]
  have hcast : (1 + (q : Int)) = ((1 + q : Nat) : Int) := by omega
  rw [hcast]
  refine wp_ne (names_ok (n := 1 + q) hb1 (by omega)) ?_
  rintro _ t2 ⟨l, ms, rfl, hl, hml, hmn, hnd, hnm, e2⟩
  have e02 := e1.trans e2
  have hb2 := e2.bag k (by simp) hb1
  have k1 := hb1.lt
  show nxt _ _ _ _
  unfold lw3b1b1
  rw [z_nxC, z_sA]
  refine look_ok (k := k) (n := l) hb2 hml (by omega) hnm (by omega) rfl rfl (by simp) fun t3 y7 e3 ok7 len7 => ?_
  have e03 := e02.trans e3
  have hb3 := e3.bag k (by simp) hb2
  have m3 := e3.ml hml (by simp; omega)
  simp [-List.map_map]
  show nxt _ _ _ _
  unfold lw3b1b2
  rw [z_nxC]
  simp [-List.map_map]
  have mm := mu_le (B := 8) fun w hw => (hnm w hw).l8
  have mm5 : mu ms ≤ 45 := Nat.le_trans mm (by rw [hmn]; omega)
  have lp : (Str.ofString "(").length = 1 ∧ (Str.ofString ")").length = 1 ∧ strOk (Str.ofString "(") = true ∧ strOk (Str.ofString ")") = true := by decide +kernel
  obtain ⟨lp1, lp2, lp3, lp4⟩ := lp
  refine ⟨isTy_str, join_mu1 (ys := ms) (by decide +kernel) (by decide) (lstAt_ml m3) (fun y hy => (hnm y hy).ok) (fun yj okj lenj => ?_) (by omega)⟩
  obtain ⟨m0, mr, rfl⟩ := List.exists_cons_of_ne_nil (l := ms) (by intro e; rw [e] at hmn; simp at hmn; omega)
  have n0 := hnm m0 (by simp)
  have n8 := n0.l8
  have a0 : atI ((m0 :: mr).map D.str) 0 = some (.str m0) := atI_0
  simp only [z_addS, lstAt_ml m3, lstP_some, a0, datP_some]
  have m4 : mlAt (t3 ++ [SO.lst [D.str (Str.ofString "(" ++ yj ++ Str.ofString ")"), D.str (Str.ofString "(" ++ m0 ++ Str.ofString ")")]]) l = some ((m0 :: mr).map D.str) := by
    rw [mlAt_app (lstAt_lt (lstAt_ml m3))]; exact m3
  rw [m4, lstP_some]
  refine ⟨by rw [lp1, size_line]; omega, by rw [len_app, lp1, lp2, size_line]; omega, by rw [lp1, size_line]; omega, by rw [len_app, lp1, lp2, size_line]; omega, two, by rw [List.length_map, hmn, size_line]; omega, ?_⟩
  -- the items
  have its : ∃ is : List Str, (m0 :: mr).map D.str ++ [D.str (Str.ofString "(" ++ yj ++ Str.ofString ")"), D.str (Str.ofString "(" ++ m0 ++ Str.ofString ")")] = is.map D.str ∧ is ≠ [] ∧ is.length ≤ 7 ∧ ∀ x ∈ is, strOk x = true ∧ x.length ≤ 47 := by
    refine ⟨(m0 :: mr) ++ [Str.ofString "(" ++ yj ++ Str.ofString ")", Str.ofString "(" ++ m0 ++ Str.ofString ")"], by rw [List.map_append]; rfl, by simp, by rw [List.length_append, hmn]; simp; omega, fun x hx => ?_⟩
    rcases List.mem_append.mp hx with hx | hx
    · exact ⟨(hnm x hx).ok, by have := (hnm x hx).l8; omega⟩
    · simp only [List.mem_cons, List.not_mem_nil, or_false] at hx
      rcases hx with rfl | rfl
      · exact ⟨strOk_app (strOk_app lp3 okj) lp4, by rw [len_app, len_app, lp1, lp2]; omega⟩
      · exact ⟨strOk_app (strOk_app lp3 n0.ok) lp4, by rw [len_app, len_app, lp1, lp2]; omega⟩
  obtain ⟨is, eis, isne, isl, isok⟩ := its
  rw [eis]
  have e4 : Eff [k] t3 (t3 ++ [SO.lst [D.str (Str.ofString "(" ++ yj ++ Str.ofString ")"), D.str (Str.ofString "(" ++ m0 ++ Str.ofString ")")], SO.lst (is.map D.str)]) := Eff.app
  have m5 : mlAt (t3 ++ [SO.lst [D.str (Str.ofString "(" ++ yj ++ Str.ofString ")"), D.str (Str.ofString "(" ++ m0 ++ Str.ofString ")")], SO.lst (is.map D.str)]) (t3.length + 1) = some (is.map D.str) := ap1
  have hb4 := e4.bag k (by simp) hb3
  have k3 := hb3.lt
  generalize t3 ++ [SO.lst [D.str (Str.ofString "(" ++ yj ++ Str.ofString ")"), D.str (Str.ofString "(" ++ m0 ++ Str.ofString ")")], SO.lst (is.map D.str)] = t4 at e4 m5 hb4 ⊢
  have e04 := e03.trans e4
  unfold lw3b1b3
  rw [z_nxC]
  simp [-List.map_map]
  refine ⟨isTy_str, ?_⟩
  refine wp_ne (take_ok hb4 (by omega) c5) ?_
  rintro _ t5 ⟨q2, rfl, hq2, e5⟩
  have hb5 := e5.bag k (by simp) hb4
  have m55 := e5.ml m5 (by simp; omega)
  simp [-List.map_map]
  refine ⟨by omega, ?_⟩
  refine wp_ne (lc_all (ks := [k]) (xs := rngD 0 q2) it_rng (by simpa using hb5) (by rw [rngD_len, size_line]; omega) (fun i d y => ∃ x, x ∈ is ∧ y = .str x) fun j d s8 hx ef8 hbs => ⟨_, rfl, ?_⟩) ?_
  · simp
    refine wp_ne (of_ok (hbs k (by simp)) (show seqD s8 (.ref (t3.length + 1)) = _ from lstAt_ml (ef8.ml m55 (by simp; omega))) (by simp; omega) (by simpa using isne) (by rw [List.length_map]; omega)) fun d s9 ⟨hd, ef9⟩ => ?_
    obtain ⟨x, hx, rfl⟩ := List.mem_map.mp hd
    exact ⟨ef9, x, hx, rfl⟩
  rintro _ t6 ⟨rfl, e6, hlt6, ys, h1, h2, h3⟩
  rw [rngD_len] at h1
  obtain ⟨xs, rfl, hxs⟩ := strs_ex (is := is) (ys := ys) fun y hy => by
    obtain ⟨i, hi, rfl⟩ := List.getElem_of_mem hy
    exact h3 i _ _ (List.getElem?_eq_getElem (by rw [rngD_len]; omega)) (List.getElem?_eq_getElem hi)
  rw [List.length_map] at h1
  have mx := mu_le (B := 47) fun w hw => (isok w (hxs w hw)).2
  have mx2 : mu xs ≤ 200 := Nat.le_trans mx (by rw [h1]; omega)
  have hb6 := e6.bag k (by simp) hb5
  refine join_mu1 (ys := xs) (by decide +kernel) (by decide) (lstAt_ml h2) (fun y hy => (isok y (hxs y hy)).1) (fun y9 ok9 len9 => ?_) (by omega)
  have e06 := (e04.trans e5).trans e6
  show nxt _ _ _ _
  unfold lw3b1b4
  rw [z_nxt]
  simp [-List.map_map]
  refine wp_ne (bent_ok hb6 ok7 (by omega)) ?_
  rintro _ t7 ⟨e7, x1, rfl, okx1, lx1⟩
  have hb7 := e7.bag k (by simp) hb6
  refine wp_ne (bent_ok hb7 ok9 (by omega)) ?_
  rintro _ t8 ⟨e8, x2, rfl, okx2, lx2⟩
  have e08 := (e06.trans e7).trans e8
  have mf := e08.ml hf (by simpa using hfk)
  have hb8 := e8.bag k (by simp) hb7
  simp [-List.map_map, lstAt_ml mf, fixed_ok.1]
  obtain ⟨a, j, hj, ha, hat, ham⟩ := atI_nat (xs := fixed7.map D.str) (i := (i2 : Int) % 27) (by omega) (by rw [List.length_map, fixed_ok.1]; omega)
  obtain ⟨x3, hx3, rfl⟩ := List.mem_map.mp ham
  have ok3 := fixed_ok.2 x3 hx3
  rw [hat, datP_some]
  refine ⟨three, ?_⟩
  have e9 : Eff [k] t8 (t8 ++ [SO.lst [D.str x1, D.str x2, D.str x3]]) := Eff.push
  have m9 : mlAt (t8 ++ [SO.lst [D.str x1, D.str x2, D.str x3]]) t8.length = some ([x1, x2, x3].map D.str) := mlAt_push
  generalize t8 ++ [SO.lst [D.str x1, D.str x2, D.str x3]] = t9 at e9 m9 ⊢
  have e09 := e08.trans e9
  have oks : ∀ x ∈ [x1, x2, x3], strOk x = true ∧ x.length ≤ 990 := fun x hx => by
    simp only [List.mem_cons, List.not_mem_nil, or_false] at hx
    rcases hx with rfl | rfl | rfl
    · exact ⟨okx1, lx1⟩
    · exact ⟨okx2, lx2⟩
    · exact ⟨ok3.1, by have := ok3.2; omega⟩
  refine for_it (ks := []) (s0 := t9) (xs := [x1, x2, x3].map D.str) (it_lst (lstAt_ml m9) (by simp) (by simp)) (fun i e u => Eff [] t9 u ∧ ∃ p10 p11 p12, e = [v0, some (.ref f), v2, some (.ref k), some (.int i2), o5, some (.ref l), some (.str y7), some (.ref (t3.length + 1)), some (.str y9), p10, p11, p12, o13, o14, o15, o16]) (fun i e u h => h.1) ?_ ⟨Eff.refl, _, _, _, rfl⟩ ?_
  · rintro i d e u hi ⟨eu, p10, p11, p12, rfl⟩
    rw [List.getElem?_map] at hi
    obtain ⟨x, hx, rfl⟩ := Option.map_eq_some_iff.mp hi
    have hxm := oks x (List.mem_of_getElem? hx)
    refine ⟨_, rfl, ?_⟩
    exact text_ok hxm.1 hxm.2 fun u' q11 q12 eu' => ⟨eu.trans eu', _, _, _, rfl⟩
  · rintro e u ⟨eu, p10, p11, p12, rfl⟩
    exact hP _ _ _ _ _ _ _ _ _ _ _ _ (e09.trans eu.nil)
end Z

set_option Elab.async false
set_option linter.all false
set_option maxRecDepth 100000
set_option maxHeartbeats 4000000
namespace Z
open PySem PySem.Spec PyProof.Rows L2 TL
open PySem.PyData (strOk)
/-! ### the law -/
theorem notx_all {t : Sto} {k : Nat} (m : mlAt t k = some [D.str "a"]) : ∀ d ∈ [D.non, .int 0, .bl true, .tup [.str "a"], .ref k, .tup [], .int (10 ^ 19)], NoTx t d := by
  intro d hd
  simp only [List.mem_cons, List.not_mem_nil, or_false] at hd
  obtain ⟨⟨q1, q2, q3, q4, q5, q6⟩, _⟩ := kits
  rcases hd with rfl | rfl | rfl | rfl | rfl | rfl | rfl
  · exact ⟨_, rfl, q1⟩
  · exact ⟨_, rfl, q3⟩
  · exact ⟨_, rfl, q2⟩
  · exact ⟨_, rfl, q5⟩
  · exact ⟨_, ty_ref m, q6⟩
  · exact ⟨_, rfl, q5⟩
  · exact ⟨_, rfl, q3⟩
theorem bads_ok {Q : En} {t : Sto} {v0 v1 v2 v3 v4 o5 o6 o7 o8 o9 o10 o11 o12 o13 o14 o15 o16 : Option D}
    (hP : ∀ t' p5 p11, Eff [] t t' → Q.nx [v0, v1, v2, v3, v4, p5, o6, o7, o8, o9, o10, p11, o12, o13, o14, o15, o16] t') :
    (lw3b2 [v0, v1, v2, v3, v4, o5, o6, o7, o8, o9, o10, o11, o12, o13, o14, o15, o16] t).wp Q := by
  have one : 1 ≤ sizeLine := by decide
  have seven : 7 ≤ sizeLine := by decide
  unfold lw3b2
  simp [-List.map_map, one, seven]
  refine ⟨by unfold cPow; decide, ?_⟩
  have m1 : mlAt (t ++ [SO.lst [D.str (Str.ofString "a")], SO.lst [D.non, D.int 0, D.bl true, D.tup [D.str (Str.ofString "a")], D.ref (List.length t), D.tup [], D.int 10000000000000000000]]) t.length = some [D.str "a"] := ap0
  have m2 : mlAt (t ++ [SO.lst [D.str (Str.ofString "a")], SO.lst [D.non, D.int 0, D.bl true, D.tup [D.str (Str.ofString "a")], D.ref (List.length t), D.tup [], D.int 10000000000000000000]]) (t.length + 1) = some [D.non, D.int 0, D.bl true, D.tup [D.str "a"], D.ref t.length, D.tup [], D.int 10000000000000000000] := ap1
  have e1 : Eff [] t (t ++ [SO.lst [D.str (Str.ofString "a")], SO.lst [D.non, D.int 0, D.bl true, D.tup [D.str (Str.ofString "a")], D.ref (List.length t), D.tup [], D.int 10000000000000000000]]) := Eff.app
  generalize t ++ [SO.lst [D.str (Str.ofString "a")], SO.lst [D.non, D.int 0, D.bl true, D.tup [D.str (Str.ofString "a")], D.ref (List.length t), D.tup [], D.int 10000000000000000000]] = t1 at m1 m2 e1 ⊢
  rw [lstAt_ml m2, lstP_some]
  refine for_it (ks := []) (s0 := t1) (xs := [D.non, D.int 0, D.bl true, D.tup [D.str "a"], D.ref t.length, D.tup [], D.int 10000000000000000000]) (it_lst (lstAt_ml m2) (by simp) rfl) (fun i e u => Eff [] t1 u ∧ ∃ p5 p11, e = [v0, v1, v2, v3, v4, p5, o6, o7, o8, o9, o10, p11, o12, o13, o14, o15, o16]) (fun i e u h => h.1) ?_ ⟨Eff.refl, _, _, rfl⟩ ?_
  · rintro i d e u hi ⟨eu, p5, p11, rfl⟩
    have hd := List.mem_of_getElem? hi
    refine ⟨_, rfl, ?_⟩
    refine bad_ok (fun t' e' => notx_all ((eu.trans e').ml m1 (by simp)) d ?_) fun t' q11 et => ⟨eu.trans et, _, _, rfl⟩
    exact hd
  · rintro e u ⟨eu, p5, p11, rfl⟩
    exact hP _ _ _ (e1.trans eu)
theorem one_ok {Q : En} {s : Sto} {f a : Nat} {ns : List Int} {o3 o4 o5 o6 o7 o8 o9 o10 o11 o12 o13 o14 o15 o16 : Option D} (hns : lstAt s 0 = some (ns.map D.int)) (hf : mlAt s f = some (fixed7.map D.str))
    (hP : ∀ t' p3 p4 p5 p6 p7 p8 p9 p10 p11 p12 p13 p14 p15 p16, Eff [] s t' → Q.nx [some (.ref 0), some (.ref f), some (.int a), p3, p4, p5, p6, p7, p8, p9, p10, p11, p12, p13, p14, p15, p16] t') :
    (lw3b0 [some (.ref 0), some (.ref f), some (.int a), o3, o4, o5, o6, o7, o8, o9, o10, o11, o12, o13, o14, o15, o16] s).wp Q := by
  have fl := lstAt_lt (lstAt_ml hf)
  unfold lw3b0
  rw [z_sCn]
  simp [-List.map_map]
  refine wp_ne (bag_ok hns) ?_
  rintro _ s1 ⟨k, rfl, hk, hb, e1⟩
  show nxt _ _ _ _
  unfold lw3b1
  rw [z_nxC]
  simp [-List.map_map]
  have mf := e1.ml hf (by simp)
  have l1 := e1.le
  refine for_j (xs := rngD 0 30) (by rw [rngD_len]) (fun i e u => Eff [k] s1 u ∧ ∃ p4 p5 p6 p7 p8 p9 p10 p11 p12 p13 p14 p15 p16, e = [some (.ref 0), some (.ref f), some (.int a), some (.ref k), p4, p5, p6, p7, p8, p9, p10, p11, p12, p13, p14, p15, p16]) (fun i e u _ => rng_at) ?_ ⟨Eff.refl, _, _, _, _, _, _, _, _, _, _, _, _, _, rfl⟩ ?_
  · rintro i d e u hd ⟨eu, p4, p5, p6, p7, p8, p9, p10, p11, p12, p13, p14, p15, p16, rfl⟩
    obtain ⟨hi, rfl⟩ := rngD_get hd
    refine ⟨_, rfl, ?_⟩
    have ec : (0 : Int) + (i : Int) = (i : Int) := by omega
    rw [ec]
    exact turn_ok (eu.bag k (by simp) hb) (eu.ml mf (by simp; omega)) (by omega) fun t' q6 q7 q8 q9 q10 q11 q12 q13 q14 q15 q16 et => ⟨eu.trans et, _, _, _, _, _, _, _, _, _, _, _, _, _, rfl⟩
  · rintro e u ⟨eu, p4, p5, p6, p7, p8, p9, p10, p11, p12, p13, p14, p15, p16, rfl⟩
    show nxt _ _ _ _
    rw [z_nxt]
    exact bads_ok fun t' q5 q11 et => hP _ _ _ _ _ _ _ _ _ _ _ _ _ _ _ (e1.drop (eu.trans et.nil) hk)
theorem rest_ok {t : Sto} {f : Nat} {ns : List Int} {ys xs : List D} (m : mlAt t f = some ys) (e : ys ++ xs = fixed7.map D.str) (hns : lstAt t 0 = some (ns.map D.int)) (hx : xs = [D.str "a weak ", D.str "(a) (b+a)", D.str "a weak,b weak", D.str "a weak, b weak"] := by rfl) :
    (nxt lw2 { nx := fun x s => False, rt := fun a x => a = D.bl true, ex := fun c f v x s => NE c f v s } [some (D.ref 0), some (D.ref f), none, none, none, none, none, none, none, none, none, none, none, none, none, none, none] t) := by
  have l4 : 4 ≤ sizeLine := by decide
  have hl : ys.length + xs.length = 27 := by
    have := congrArg List.length e
    rw [List.length_append, List.length_map, fixed_ok.1] at this
    exact this
  have m1 : mlAt (t ++ [SO.lst xs]) f = some ys := by rw [mlAt_app (lstAt_lt (lstAt_ml m))]; exact m
  unfold lw2
  rw [z_nxC]
  simp [-List.map_map, l4]
  rw [← hx, m1, lstP_some]
  refine ⟨by rw [size_line]; omega, ?_⟩
  rw [e]
  have e3 : Eff [] t (t ++ [SO.lst xs, SO.lst (fixed7.map D.str)]) := Eff.app
  have m3 : mlAt (t ++ [SO.lst xs, SO.lst (fixed7.map D.str)]) (t.length + 1) = some (fixed7.map D.str) := ap1
  have h3 := e3.lst hns (by simp)
  generalize t ++ [SO.lst xs, SO.lst (fixed7.map D.str)] = s at e3 m3 h3 ⊢
  unfold lw3
  rw [z_nxC]
  simp [h3, -List.map_map]
  have hN : ∀ n : Nat, ∃ N : Nat, (if (2 : Int) < if (n : Int) < 5 then (n : Int) else 5 then if (n : Int) < 5 then (n : Int) else 5 else 2) = (N : Int) ∧ N ≤ 5 := fun n => by
    by_cases h : (n : Int) < 5
    · rw [if_pos h]
      by_cases h2 : (2 : Int) < n
      · rw [if_pos h2]; exact ⟨n, rfl, by omega⟩
      · rw [if_neg h2]; exact ⟨2, rfl, by omega⟩
    · rw [if_neg h, if_pos (by decide)]
      exact ⟨5, rfl, by omega⟩
  obtain ⟨N, eN, hN5⟩ := hN ns.length
  rw [eN]
  refine ⟨by omega, ?_⟩
  have eT : ((N : Int)).toNat = N := by omega
  rw [eT]
  refine for_j (xs := rngD 0 N) (by rw [rngD_len]) (fun i e u => Eff [] s u ∧ ∃ p2 p3 p4 p5 p6 p7 p8 p9 p10 p11 p12 p13 p14 p15 p16, e = [some (.ref 0), some (.ref (t.length + 1)), p2, p3, p4, p5, p6, p7, p8, p9, p10, p11, p12, p13, p14, p15, p16]) (fun i e u _ => rng_at) ?_ ⟨Eff.refl, _, _, _, _, _, _, _, _, _, _, _, _, _, _, _, rfl⟩ ?_
  · rintro i d e u hd ⟨eu, p2, p3, p4, p5, p6, p7, p8, p9, p10, p11, p12, p13, p14, p15, p16, rfl⟩
    obtain ⟨hi, rfl⟩ := rngD_get hd
    refine ⟨_, rfl, ?_⟩
    have ec : (0 : Int) + (i : Int) = (i : Int) := by omega
    rw [ec]
    exact one_ok (eu.lst h3 (by simp)) (eu.ml m3 (by simp)) fun t' q3 q4 q5 q6 q7 q8 q9 q10 q11 q12 q13 q14 q15 q16 et => ⟨eu.trans et, _, _, _, _, _, _, _, _, _, _, _, _, _, _, _, rfl⟩
  · rintro e u ⟨eu, p2, p3, p4, p5, p6, p7, p8, p9, p10, p11, p12, p13, p14, p15, p16, rfl⟩
    dsimp only
    unfold lw4
    rw [z_nxt]
    simp
theorem plain_law (ns : List Int) (h : ns.length ≤ 63) : ∃ s', m_law [.ref 0] [.frz (ns.map D.int)] = .ok (.bl true) s' := by
  refine ok_of_wp ?_
  have hx0 : lstAt ([.frz (ns.map D.int)] : Sto) 0 = some (ns.map D.int) := rfl
  generalize hs0 : ([.frz (ns.map D.int)] : Sto) = s0 at hx0
  unfold m_law
  rw [lw_eq]
  unfold lw0
  rw [z_fnM (by rfl), z_sCn]
  have l16 : 16 ≤ sizeLine := by decide
  have l7 : 7 ≤ sizeLine := by decide
  have l4 : 4 ≤ sizeLine := by decide
  simp [-List.map_map, l16]
  show nxt _ _ _ _
  unfold lw1
  rw [z_nxC]
  simp [-List.map_map, l7]
  rw [ap0, lstP_some, ap1, lstP_some]
  refine ⟨by decide +kernel, ?_⟩
  refine rest_ok (ns := ns) (xs := [D.str "a weak ", D.str "(a) (b+a)", D.str "a weak,b weak", D.str "a weak, b weak"]) ap2 rfl ?_
  rw [lstAt_app (lstAt_lt hx0)]
  exact hx0
end Z

namespace Z
open PySem PySem.Spec PyProof.Rows L2
theorem ck_ok {K : PySem.W.Frag} (h : ck K = true) : chkAll fa tb K = true ∧ clsAll K cls = true ∧ (xb.all fun b => b K) = true := ⟨(He.ba h).1, (He.ba (He.ba h).2).1, (He.ba (He.ba h).2).2⟩
structure Txt [Row] (K : PySem.W.Frag) (mg : Str → Option Value) (base : Heap) : Prop where
  g__law_bag : mg "_law_bag" = some (.ref (He.ga K "_law_bag"))
  k__law_bag : PySem.W.keepIn K (.ref (He.ga K "_law_bag")) = true
  g__law_take : mg "_law_take" = some (.ref (He.ga K "_law_take"))
  k__law_take : PySem.W.keepIn K (.ref (He.ga K "_law_take")) = true
  g__law_of : mg "_law_of" = some (.ref (He.ga K "_law_of"))
  k__law_of : PySem.W.keepIn K (.ref (He.ga K "_law_of")) = true
  g__law_bent : mg "_law_bent" = some (.ref (He.ga K "_law_bent"))
  k__law_bent : PySem.W.keepIn K (.ref (He.ga K "_law_bent")) = true
  g__law_drawn : mg "_law_drawn" = some (.ref (He.ga K "_law_drawn"))
  k__law_drawn : PySem.W.keepIn K (.ref (He.ga K "_law_drawn")) = true
  g__law_names : mg "_law_names" = some (.ref (He.ga K "_law_names"))
  k__law_names : PySem.W.keepIn K (.ref (He.ga K "_law_names")) = true
  g__law_is_name : mg "_law_is_name" = some (.ref (He.ga K "_law_is_name"))
  k__law_is_name : PySem.W.keepIn K (.ref (He.ga K "_law_is_name")) = true
  g__law_read_face : mg "_law_read_face" = some (.ref (He.ga K "_law_read_face"))
  k__law_read_face : PySem.W.keepIn K (.ref (He.ga K "_law_read_face")) = true
  g__law_read_line : mg "_law_read_line" = some (.ref (He.ga K "_law_read_line"))
  k__law_read_line : PySem.W.keepIn K (.ref (He.ga K "_law_read_line")) = true
  g_is_name : mg "is_name" = some (.ref (He.ga K "is_name"))
  k_is_name : PySem.W.keepIn K (.ref (He.ga K "is_name")) = true
  g_twice_in : mg "twice_in" = some (.ref (He.ga K "twice_in"))
  k_twice_in : PySem.W.keepIn K (.ref (He.ga K "twice_in")) = true
  g_is_face : mg "is_face" = some (.ref (He.ga K "is_face"))
  k_is_face : PySem.W.keepIn K (.ref (He.ga K "is_face")) = true
  g_look_text : mg "look_text" = some (.ref (He.ga K "look_text"))
  k_look_text : PySem.W.keepIn K (.ref (He.ga K "look_text")) = true
  g_read_face : mg "read_face" = some (.ref (He.ga K "read_face"))
  k_read_face : PySem.W.keepIn K (.ref (He.ga K "read_face")) = true
  g_read_item : mg "read_item" = some (.ref (He.ga K "read_item"))
  k_read_item : PySem.W.keepIn K (.ref (He.ga K "read_item")) = true
  g_read_line : mg "read_line" = some (.ref (He.ga K "read_line"))
  k_read_line : PySem.W.keepIn K (.ref (He.ga K "read_line")) = true
  g__law_outcome : mg "_law_outcome" = some (.ref (He.ga K "_law_outcome"))
  k__law_outcome : PySem.W.keepIn K (.ref (He.ga K "_law_outcome")) = true
  xg_BadText : mg "BadText" = some (.ref (He.ga K "BadText"))
  n_ValueError : mg "ValueError" = none
  n_abs : mg "abs" = none
  n_all : mg "all" = none
  n_enumerate : mg "enumerate" = none
  n_int : mg "int" = none
  n_isinstance : mg "isinstance" = none
  n_len : mg "len" = none
  n_list : mg "list" = none
  n_max : mg "max" = none
  n_min : mg "min" = none
  n_range : mg "range" = none
  n_repr : mg "repr" = none
  n_set : mg "set" = none
  n_sorted : mg "sorted" = none
  n_str : mg "str" = none
  n_tuple : mg "tuple" = none
  c_LETTERS : ∃ t, mg "LETTERS" = some (.str "abcdefghijklmnopqrstuvwxyz" t)
  c_MOST_LETTERS : ∃ t, mg "MOST_LETTERS" = some (.int 8 t)
  c_NOTHING : ∃ t, mg "NOTHING" = some (.str "-" t)
  c_WORDS : TupC K mg "WORDS" [.str "wanted", .str "weak", .str "common", .str "strong"]
  cl : ClsF K mg cls
  l_law : LamF base mg K ("law", none) lq_law
  x_0 : (fun K => xclB xValue K (He.ga K "BadText") (He.ma K (He.ga K "BadText") "__init__") "line") K = true
  x_1 : (fun K => xisB K (He.ga K "BadText")) K = true
  x_2 : (fun K => decide (PySem.W.findIn K (.ref (He.ga K "BadText")) "line" = some none)) K = true
  x_3 : (fun K => decide (PySem.W.kitOne K (.ref (He.ga K "BadText")) (.type "ValueError") = some true)) K = true
  x_4 : (fun K => xcs.all fun c => xcs.all fun c2 => decide (PySem.W.exmOne K (.ref (He.ga K c)) (.ref (He.ga K c2)) = some (decide (c = c2)))) K = true
section RowS
variable [Row]
theorem txt {K : PySem.W.Frag} {hp : Heap} {mg : Str → Option Value} {base : Heap} (X : K.In hp) (G : hp.Ns mainGlobals mg) (h0 : ck K = true) (L : ∀ p ∈ lls, LamF base mg K p.1 p.2) : Txt K mg base :=
  have h := ck_ok h0
  ⟨He.glo_ok X G (chk_fa h.1 0),
   He.keep_ok (chk_fa h.1 1),
   He.glo_ok X G (chk_fa h.1 2),
   He.keep_ok (chk_fa h.1 3),
   He.glo_ok X G (chk_fa h.1 4),
   He.keep_ok (chk_fa h.1 5),
   He.glo_ok X G (chk_fa h.1 6),
   He.keep_ok (chk_fa h.1 7),
   He.glo_ok X G (chk_fa h.1 8),
   He.keep_ok (chk_fa h.1 9),
   He.glo_ok X G (chk_fa h.1 10),
   He.keep_ok (chk_fa h.1 11),
   He.glo_ok X G (chk_fa h.1 12),
   He.keep_ok (chk_fa h.1 13),
   He.glo_ok X G (chk_fa h.1 14),
   He.keep_ok (chk_fa h.1 15),
   He.glo_ok X G (chk_fa h.1 16),
   He.keep_ok (chk_fa h.1 17),
   He.glo_ok X G (chk_fa h.1 18),
   He.keep_ok (chk_fa h.1 19),
   He.glo_ok X G (chk_fa h.1 20),
   He.keep_ok (chk_fa h.1 21),
   He.glo_ok X G (chk_fa h.1 22),
   He.keep_ok (chk_fa h.1 23),
   He.glo_ok X G (chk_fa h.1 24),
   He.keep_ok (chk_fa h.1 25),
   He.glo_ok X G (chk_fa h.1 26),
   He.keep_ok (chk_fa h.1 27),
   He.glo_ok X G (chk_fa h.1 28),
   He.keep_ok (chk_fa h.1 29),
   He.glo_ok X G (chk_fa h.1 30),
   He.keep_ok (chk_fa h.1 31),
   He.glo_ok X G (chk_fa h.1 33),
   He.keep_ok (chk_fa h.1 34),
   He.glo_ok X G (chk_fa h.1 35),
   He.free_ok X G (chk_fa h.1 36),
   He.free_ok X G (chk_fa h.1 37),
   He.free_ok X G (chk_fa h.1 38),
   He.free_ok X G (chk_fa h.1 39),
   He.free_ok X G (chk_fa h.1 40),
   He.free_ok X G (chk_fa h.1 41),
   He.free_ok X G (chk_fa h.1 42),
   He.free_ok X G (chk_fa h.1 43),
   He.free_ok X G (chk_fa h.1 44),
   He.free_ok X G (chk_fa h.1 45),
   He.free_ok X G (chk_fa h.1 46),
   He.free_ok X G (chk_fa h.1 47),
   He.free_ok X G (chk_fa h.1 48),
   He.free_ok X G (chk_fa h.1 49),
   He.free_ok X G (chk_fa h.1 50),
   He.free_ok X G (chk_fa h.1 51),
   He.str_ok X G (chk_fa h.1 52),
   He.int_ok X G (chk_fa h.1 53),
   He.str_ok X G (chk_fa h.1 54),
   chk_tup h.1 X G 0 55,
   clsF_of X G h.2.1,
   (L _ (List.mem_of_getElem? (show lls[0]? = some _ from rfl))),
   List.all_eq_true.mp h.2.2 _ (List.mem_of_getElem? (show xb[0]? = some _ from rfl)),
   List.all_eq_true.mp h.2.2 _ (List.mem_of_getElem? (show xb[1]? = some _ from rfl)),
   List.all_eq_true.mp h.2.2 _ (List.mem_of_getElem? (show xb[2]? = some _ from rfl)),
   List.all_eq_true.mp h.2.2 _ (List.mem_of_getElem? (show xb[3]? = some _ from rfl)),
   List.all_eq_true.mp h.2.2 _ (List.mem_of_getElem? (show xb[4]? = some _ from rfl))⟩
section
variable {K : PySem.W.Frag} {mg : Str → Option Value} {base : Heap}
theorem sc_BadText___init__ : FnScope ["self", "line"] ["self", "line"] (defScope (mth 1 0)) := ⟨rfl, rfl, rfl, by decide +kernel, rfl, by decide +kernel, by decide +kernel⟩
theorem rz_BadText (c : SaysZ ck fn K) (T : Txt K mg base) : RzOk Row.prog Row.w K mg base 2 "BadText" "line" := by
  obtain ⟨fd, F⟩ := c.def_ 17
  refine ⟨xValue, He.ga K "BadText", He.ma K (He.ga K "BadText") "__init__", fd, ["self", "line"], T.xg_BadText, xclB_ok T.x_0, x_fn (xclB_ok T.x_0) F rfl sc_BadText___init__ (Or.inl rfl) (Or.inl rfl) (by decide) (by decide) (by decide) (by decide) (fun _ => rfl), ?_⟩
  obtain ⟨oc, od, dV, kV, doc, pm, an, cdv, ct, osl, rfl, -, -, hD, -⟩ := F.ex
  rcases hD with ⟨_, rfl⟩ | ⟨e, _⟩
  · exact Binds.all fun us hl => match us, hl with | [_, _], _ => rfl
  · exact absurd rfl e
theorem xi_BadText (T : Txt K mg base) : ∀ C, mg "BadText" = some (.ref C) → XIs K C ∧ PySem.W.findIn K (.ref C) "line" = some none := fun C h => by
  have e := T.xg_BadText.symm.trans h
  cases e
  exact ⟨xisB_ok T.x_1, of_decide_eq_true T.x_2⟩
theorem xk_BadText_ValueError (T : Txt K mg base) : ∀ C, mg "BadText" = some (.ref C) → XIs K C ∧ PySem.W.kitOne K (.ref C) (.type "ValueError") = some true := fun C h => by
  have e := T.xg_BadText.symm.trans h
  cases e
  exact ⟨xisB_ok T.x_1, of_decide_eq_true T.x_3⟩
theorem xg_all (T : Txt K mg base) : ∀ c ∈ xcs, mg c = some (.ref (He.ga K c)) := fun c h => by
  simp only [xcs, List.mem_cons, List.not_mem_nil, or_false] at h
  subst h
  · exact T.xg_BadText
theorem xm_ok (T : Txt K mg base) : XmT K mg xcs := fun c hc c2 hc2 C C2 h h2 => by
  have e := (xg_all T c hc).symm.trans h
  have e2 := (xg_all T c2 hc2).symm.trans h2
  cases e
  cases e2
  exact of_decide_eq_true (List.all_eq_true.mp (List.all_eq_true.mp T.x_4 c hc) c2 hc2)
theorem itb_ok (c : SaysZ ck fn K) (T : Txt K mg base) : ITab Row.prog Row.w K mg base 1 itb := itab_nil
abbrev N__law_outcome : List Str := ["_law_deed", "e"]
theorem sc__law_outcome : FnScope N__law_outcome ["_law_deed"] (defScope (top 25)) := ⟨rfl, rfl, rfl, by decide +kernel, rfl, by decide +kernel, by decide +kernel⟩
theorem hm__law_outcome (T : Txt K mg base) : ∀ h ∈ hs__law_outcome, ∃ C, mg h.1 = some (.ref C) := fun h hh => by
  simp only [hs__law_outcome, List.mem_cons, List.not_mem_nil, or_false] at hh
  subst hh
  · exact ⟨_, T.xg_BadText⟩
theorem gv__law_outcome {X : Cx} (T : Txt X.K X.mg X.base) (hr0 : Rm 1 X.A) {g : Addr} (cdv : Value) {q : Str} : LamX.GivesTo X N__law_outcome "_law_outcome" (defScope (top 25)) g cdv (defBody (top 25)) "_law_deed" q (TTL X.K X.mg 1 2 hs__law_outcome true) := gives_r sc__law_outcome.nd rfl rfl rfl (fun s H => have hr : Rm 0 (gotX X N__law_outcome "_law_outcome" (defScope (top 25)) g cdv s H).nox.A := Rm.deeper (k := 0) hr0 _; (HdJ.cons (h := ("BadText", fun f dv => sR ((xLs (xsC (xSt "refused") (xsC (xRp (xFl "line")) (xsC (xBl true) xsN)))) f dv))) rfl (by decide) ⟨_, T.xg_BadText⟩ (su_ret (xe_lst (xps_cons xp_str (xps_cons (xp_repr (xp_fld (xi_BadText T) rfl (Or.inl rfl)) hr.gd (hu66 hr.units) rfl T.n_repr) (xps_cons (xp_isi (xk_BadText_ValueError T) rfl (Or.inl rfl) rfl T.n_isinstance (v := .ty "ValueError") (fun _ _ _ => pe_bltn rfl T.n_ValueError PyProof.Rows.Boot.«ValueError» rfl) (fun _ h => h)) xps_nil)))))
 HdJ.nil))
abbrev N__law_bag : List Str := ["_law_script", "_law_at", "_law_number", "_law_mixed", "_law_spot", "_law_each"]
theorem sc__law_bag : FnScope N__law_bag ["_law_script", "_law_at"] (defScope (top 17)) := ⟨rfl, rfl, rfl, by decide +kernel, rfl, by decide +kernel, by decide +kernel⟩
theorem b__law_bag (c : SaysZ ck fn K) (T : Txt K mg base) : Body Row.prog Row.w K mg base 6 N__law_bag "_law_bag" (defScope (top 17)) (He.ga K "_law_bag") (defBody (top 17)) s__law_bag := by
  intro cdv A outer s H E hcv hr
  exact (js_cons (js_set (i := 2) sc__law_bag.nd rfl (Or.inl rfl) (je_if (jt_cmp op_lt pr_lt (je_v 1) (je_cb call_lens pn_len rfl T.n_len boot_len (ja_cons (je_v 0) ja_nil)) (nomark _)) (je_ix ix_seq pr_ix (je_v 0) (je_v 1)) je_int))
 (js_cons (js_set (i := 3) sc__law_bag.nd rfl (Or.inl rfl) (je_op op_adds pr_add (je_op op_muls pr_mul2 je_int (je_v 1)) je_int))
 (js_cons (js_for (passes_of rfl) rfl (ji_en rfl T.n_enumerate (ja_cons (je_sl sl_all ps_sl (je_v 0) jo_none (jo_some je_int)) ja_nil)) (pg_tup (n := 2) rfl (pgs_cons (pg_name (i := 4) sc__law_bag.nd rfl (by first | exact Or.inl rfl | exact Or.inr rfl)) (pgs_cons (pg_name (i := 5) sc__law_bag.nd rfl (by first | exact Or.inl rfl | exact Or.inr rfl)) pgs_nil))) (gq_t (gqs_cons gq_n (gqs_cons gq_n gqs_nil))) (js_one (js_set (i := 3) sc__law_bag.nd rfl (Or.inl rfl) (je_op op_mod pr_mod (je_ct call_int1 pn_int rfl T.n_int boot_int (ja_cons (je_op op_adds pr_add (je_op op_adds pr_add (je_op op_adds pr_add (je_op op_muls pr_mul2 (je_v 3) je_int) (je_op op_mod pr_mod (je_ct call_int1 pn_int rfl T.n_int boot_int (ja_cons (je_v 5) ja_nil)) je_int)) (je_op op_muls pr_mul2 je_int (je_v 4))) je_int) ja_nil)) je_int))))
 (js_one (js_ret (je_lst (ja_cons (je_if (jt_cmp op_ge pr_ge (je_cb call_abs pn_abs rfl T.n_abs boot_abs (ja_cons (je_v 2) ja_nil)) (je_op op_pow pr_pow je_int je_int) (nomark _)) (je_cb call_abs pn_abs rfl T.n_abs boot_abs (ja_cons (je_v 2) ja_nil)) je_int) (ja_cons (je_v 3) ja_nil))))))))
theorem p__law_bag (c : SaysZ ck fn K) (T : Txt K mg base) : FS Row.prog Row.w K mg base 7 (He.ga K "_law_bag") m__law_bag := by
  obtain ⟨fd, F⟩ := c.def_ 0
  exact fs_pos F sc__law_bag (b__law_bag c T) (fun _ _ _ _ _ _ us hl => match us, hl with | [_, _], _ => rfl)
abbrev N__law_take : List Str := ["_law_bag_here", "_law_many", "_law_digit"]
theorem sc__law_take : FnScope N__law_take ["_law_bag_here", "_law_many"] (defScope (top 18)) := ⟨rfl, rfl, rfl, by decide +kernel, rfl, by decide +kernel, by decide +kernel⟩
theorem b__law_take (c : SaysZ ck fn K) (T : Txt K mg base) : Body Row.prog Row.w K mg base 6 N__law_take "_law_take" (defScope (top 18)) (He.ga K "_law_take") (defBody (top 18)) s__law_take := by
  intro cdv A outer s H E hcv hr
  exact (js_cons (js_if (jt_cmp op_gt pr_gt (je_ix ix_seq pr_ix (je_v 0) je_int) je_int (nomark _)) (js_cons (js_set (i := 2) sc__law_take.nd rfl (Or.inl rfl) (je_op op_mod pr_mod (je_ct call_int1 pn_int rfl T.n_int boot_int (ja_cons (je_ix ix_seq pr_ix (je_v 0) je_int) ja_nil)) (je_v 1)))
 (js_cons (js_sub set_list px_setL (je_op op_fdiv pr_div (je_ix ix_seq pr_ix (je_v 0) je_int) (je_v 1)) (je_v 0) je_int)
 (js_one (js_ret (je_v 2))))) js_nil)
 (js_cons (js_sub set_list px_setL (je_op op_mod pr_mod (je_ct call_int1 pn_int rfl T.n_int boot_int (ja_cons (je_op op_adds pr_add (je_op op_muls pr_mul2 (je_ix ix_seq pr_ix (je_v 0) je_int) je_int) je_int) ja_nil)) je_int) (je_v 0) je_int)
 (js_one (js_ret (je_op op_mod pr_mod (je_op op_fdiv pr_div (je_op op_mod pr_mod (je_ct call_int1 pn_int rfl T.n_int boot_int (ja_cons (je_op op_muls pr_mul2 (je_op op_fdiv pr_div (je_ix ix_seq pr_ix (je_v 0) je_int) je_int) je_int) ja_nil)) je_int) je_int) (je_v 1))))))
theorem p__law_take (c : SaysZ ck fn K) (T : Txt K mg base) : FS Row.prog Row.w K mg base 7 (He.ga K "_law_take") m__law_take := by
  obtain ⟨fd, F⟩ := c.def_ 1
  exact fs_pos F sc__law_take (b__law_take c T) (fun _ _ _ _ _ _ us hl => match us, hl with | [_, _], _ => rfl)
abbrev N__law_of : List Str := ["_law_bag_here", "_law_some"]
theorem sc__law_of : FnScope N__law_of ["_law_bag_here", "_law_some"] (defScope (top 19)) := ⟨rfl, rfl, rfl, by decide +kernel, rfl, by decide +kernel, by decide +kernel⟩
theorem b__law_of (c : SaysZ ck fn K) (T : Txt K mg base) : Body Row.prog Row.w K mg base 12 N__law_of "_law_of" (defScope (top 19)) (He.ga K "_law_of") (defBody (top 19)) s__law_of := by
  intro cdv A outer s H E hcv hr
  exact (js_one (js_ret (je_ix ix_seq pr_ix (je_v 1) (je_call (p__law_take c T) (hr.mono (by decide)) (takes_of rfl rfl rfl rfl) rfl T.g__law_take T.k__law_take (ja_cons (je_v 0) (ja_cons (je_cb call_lens pn_len rfl T.n_len boot_len (ja_cons (je_v 1) ja_nil)) ja_nil))))))
theorem p__law_of (c : SaysZ ck fn K) (T : Txt K mg base) : FS Row.prog Row.w K mg base 13 (He.ga K "_law_of") m__law_of := by
  obtain ⟨fd, F⟩ := c.def_ 2
  exact fs_pos F sc__law_of (b__law_of c T) (fun _ _ _ _ _ _ us hl => match us, hl with | [_, _], _ => rfl)
abbrev N__law_bent : List Str := ["_law_bag_here", "_law_text", "_law_sign", "_law_words", "_law_k", "_law_spot", "_law_way"]
theorem sc__law_bent : FnScope N__law_bent ["_law_bag_here", "_law_text"] (defScope (top 26)) := ⟨rfl, rfl, rfl, by decide +kernel, rfl, by decide +kernel, by decide +kernel⟩
theorem b__law_bent (c : SaysZ ck fn K) (T : Txt K mg base) : Body Row.prog Row.w K mg base 18 N__law_bent "_law_bent" (defScope (top 26)) (He.ga K "_law_bent") (defBody (top 26)) s__law_bent := by
  intro cdv A outer s H E hcv hr
  exact (js_cons (js_par (i := 5) (j := 6) rfl sc__law_bent.nd rfl rfl (by decide) rfl rfl (ja_cons (je_call (p__law_take c T) (hr.mono (by decide)) (takes_of rfl rfl rfl rfl) rfl T.g__law_take T.k__law_take (ja_cons (je_v 0) (ja_cons (je_op op_adds pr_add (je_cb call_lens pn_len rfl T.n_len boot_len (ja_cons (je_v 1) ja_nil)) je_int) ja_nil))) (ja_cons (je_call (p__law_take c T) (hr.mono (by decide)) (takes_of rfl rfl rfl rfl) rfl T.g__law_take T.k__law_take (ja_cons (je_v 0) (ja_cons je_int ja_nil))) ja_nil)) (by rfl))
 (js_cons (js_set (i := 2) sc__law_bent.nd rfl (Or.inl rfl) (je_call (p__law_of c T) (hr.mono (by decide)) (takes_of rfl rfl rfl rfl) rfl T.g__law_of T.k__law_of (ja_cons (je_v 0) (ja_cons (je_lst (ja_cons je_str (ja_cons je_str (ja_cons je_str (ja_cons je_str (ja_cons je_str (ja_cons je_str (ja_cons je_str (ja_cons je_str (ja_cons je_str (ja_cons je_str (ja_cons je_str (ja_cons je_str ja_nil))))))))))))) ja_nil))))
 (js_cons (js_set (i := 3) sc__law_bent.nd rfl (Or.inl rfl) (je_bm PySem.F.plainAttrs_str PySem.F.slot_str_split PySem.F.type_str_split mt_split pm_split (je_v 1) (ja_cons je_str ja_nil)))
 (js_cons (js_set (i := 4) sc__law_bent.nd rfl (Or.inl rfl) (je_call (p__law_take c T) (hr.mono (by decide)) (takes_of rfl rfl rfl rfl) rfl T.g__law_take T.k__law_take (ja_cons (je_v 0) (ja_cons (je_cb call_lens pn_len rfl T.n_len boot_len (ja_cons (je_v 3) ja_nil)) ja_nil))))
 (js_cons (js_if (jt_cmp (op_eqs (hu64 hr.units)) pr_eq (je_v 6) je_int (nomark _)) (js_one (js_ret (je_bm PySem.F.plainAttrs_str PySem.F.slot_str_join PySem.F.type_str_join mt_join pm_join je_str (ja_cons (je_op op_adds pr_add (je_op op_adds pr_add (je_sl sl_all ps_sl (je_v 3) jo_none (jo_some (je_v 4))) (je_rev (je_sl sl_all ps_sl (je_v 3) (jo_some (je_v 4)) (jo_some (je_op op_adds pr_add (je_v 4) je_int))))) (je_sl sl_all ps_sl (je_v 3) (jo_some (je_op op_adds pr_add (je_v 4) je_int)) jo_none)) ja_nil)))) js_nil)
 (js_cons (js_if (jt_cmp (op_eqs (hu64 hr.units)) pr_eq (je_v 6) je_int (nomark _)) (js_one (js_ret (je_bm PySem.F.plainAttrs_str PySem.F.slot_str_join PySem.F.type_str_join mt_join pm_join je_str (ja_cons (je_op op_adds pr_add (je_op op_adds pr_add (je_sl sl_all ps_sl (je_v 3) jo_none (jo_some (je_v 4))) (je_lst (ja_cons (je_ix ix_seq pr_ix (je_v 3) (je_v 4)) ja_nil))) (je_sl sl_all ps_sl (je_v 3) (jo_some (je_v 4)) jo_none)) ja_nil)))) js_nil)
 (js_one (js_ret (je_op op_adds pr_add (je_op op_adds pr_add (je_sl sl_all ps_sl (je_v 1) jo_none (jo_some (je_v 5))) (je_ix ix_seq pr_ix (je_lst (ja_cons je_str (ja_cons (je_v 2) (ja_cons (je_v 2) ja_nil)))) (je_v 6))) (je_sl sl_all ps_sl (je_v 1) (jo_some (je_op op_adds pr_add (je_v 5) (je_ix ix_seq pr_ix (je_lst (ja_cons je_int (ja_cons je_int (ja_cons je_int ja_nil)))) (je_v 6)))) jo_none))))))))))
theorem p__law_bent (c : SaysZ ck fn K) (T : Txt K mg base) : FS Row.prog Row.w K mg base 19 (He.ga K "_law_bent") m__law_bent := by
  obtain ⟨fd, F⟩ := c.def_ 3
  exact fs_pos F sc__law_bent (b__law_bent c T) (fun _ _ _ _ _ _ us hl => match us, hl with | [_, _], _ => rfl)
abbrev N__law_drawn : List Str := ["_law_bag_here", "_law_names_here", "_law_look", "_law_one", "_law_word"]
theorem sc__law_drawn : FnScope N__law_drawn ["_law_bag_here", "_law_names_here"] (defScope (top 21)) := ⟨rfl, rfl, rfl, by decide +kernel, rfl, by decide +kernel, by decide +kernel⟩
theorem b__law_drawn (c : SaysZ ck fn K) (T : Txt K mg base) : Body Row.prog Row.w K mg base 18 N__law_drawn "_law_drawn" (defScope (top 21)) (He.ga K "_law_drawn") (defBody (top 21)) s__law_drawn := by
  intro cdv A outer s H E hcv hr
  exact (js_cons (js_set (i := 2) sc__law_drawn.nd rfl (Or.inl rfl) (je_lst ja_nil))
 (js_cons (js_for (passes_of rfl) rfl (ji_sq (je_cb call_srtA (pn_sortA (hu66 hr.units)) rfl T.n_sorted boot_sorted (ja_cons (je_v 1) ja_nil))) (pg_name (i := 3) sc__law_drawn.nd rfl (by first | exact Or.inl rfl | exact Or.inr rfl)) gq_n (js_cons (js_set (i := 4) sc__law_drawn.nd rfl (Or.inl rfl) (je_call (p__law_of c T) (hr.mono (by decide)) (takes_of rfl rfl rfl rfl) rfl T.g__law_of T.k__law_of (ja_cons (je_v 0) (ja_cons (je_lst (ja_cons je_str (ja_cons je_str (ja_cons je_str (ja_cons je_str (ja_cons je_str (ja_cons je_str (ja_cons je_str ja_nil)))))))) ja_nil))))
 (js_one (js_if (jt_cmp (op_nes (hu64 hr.units)) pr_ne (je_v 4) je_str (nomark _)) (js_one (js_expr (je_bm PySem.F.plainAttrs_list PySem.F.slot_list_append PySem.F.type_list_append (mt_append) pm_append (je_v 2) (ja_cons (je_tup (ja_cons (je_v 3) (ja_cons (je_v 4) ja_nil))) ja_nil)))) js_nil))))
 (js_one (js_ret (je_ct call_tuple_of pn_tuple rfl T.n_tuple boot_tuple (ja_cons (je_v 2) ja_nil))))))
theorem p__law_drawn (c : SaysZ ck fn K) (T : Txt K mg base) : FS Row.prog Row.w K mg base 19 (He.ga K "_law_drawn") m__law_drawn := by
  obtain ⟨fd, F⟩ := c.def_ 4
  exact fs_pos F sc__law_drawn (b__law_drawn c T) (fun _ _ _ _ _ _ us hl => match us, hl with | [_, _], _ => rfl)
abbrev N__law_names : List Str := ["_law_bag_here", "_law_many", "_law_letters", "_law_base", "_law_some", "_law_start", "_law_is_behind", "_law_k", "_law_one"]
theorem sc__law_names : FnScope N__law_names ["_law_bag_here", "_law_many"] (defScope (top 20)) := ⟨rfl, rfl, rfl, by decide +kernel, rfl, by decide +kernel, by decide +kernel⟩
theorem b__law_names (c : SaysZ ck fn K) (T : Txt K mg base) : Body Row.prog Row.w K mg base 18 N__law_names "_law_names" (defScope (top 20)) (He.ga K "_law_names") (defBody (top 20)) s__law_names := by
  intro cdv A outer s H E hcv hr
  exact (js_cons (js_set (i := 2) sc__law_names.nd rfl (Or.inr rfl) je_str)
 (js_cons (js_set (i := 3) sc__law_names.nd rfl (Or.inr rfl) (je_bm PySem.F.plainAttrs_str PySem.F.slot_str_join PySem.F.type_str_join mt_join pm_join je_str (ja_cons (je_lc rfl sc__law_names.nd (ji_range1 rfl T.n_range (ja_cons (je_call (p__law_of c T) (hr.mono (by decide)) (takes_of rfl rfl rfl rfl) rfl T.g__law_of T.k__law_of (ja_cons (je_v 0) (ja_cons (je_lst (ja_cons je_int (ja_cons je_int (ja_cons je_int (ja_cons je_int (ja_cons je_int ja_nil)))))) ja_nil))) ja_nil)) (ok := (show BlkOk N__law_names (defScope (top 20)) _ _ from ⟨rfl, by decide +kernel, by decide +kernel, by decide +kernel, by decide +kernel⟩)) (own := [("_law_k", 7)]) (by decide) (fun _ _ _ _ _ => (pg_name (i := 7) sc__law_names.nd rfl (by first | exact Or.inl rfl | exact Or.inr rfl))) gq_n (fun _ _ _ _ _ => jts_nil) (fun _ _ _ _ _ => (je_ix ix_seq pr_ix (je_v 2) (je_call (p__law_take c T) (hr.mono (by decide)) (takes0) rfl T.g__law_take T.k__law_take (ja_cons (je_v 0) (ja_cons je_int ja_nil)))))) ja_nil)))
 (js_cons (js_asg (je_tup (ja_cons (je_call (p__law_take c T) (hr.mono (by decide)) (takes_of rfl rfl rfl rfl) rfl T.g__law_take T.k__law_take (ja_cons (je_v 0) (ja_cons je_int ja_nil))) (ja_cons (je_call (p__law_take c T) (hr.mono (by decide)) (takes_of rfl rfl rfl rfl) rfl T.g__law_take T.k__law_take (ja_cons (je_v 0) (ja_cons je_int ja_nil))) ja_nil))) (pg_tup (n := 2) rfl (pgs_cons (pg_name (i := 5) sc__law_names.nd rfl (by first | exact Or.inl rfl | exact Or.inr rfl)) (pgs_cons (pg_name (i := 6) sc__law_names.nd rfl (by first | exact Or.inl rfl | exact Or.inr rfl)) pgs_nil))) (gq_t (gqs_cons gq_n (gqs_cons gq_n gqs_nil))))
 (js_cons (js_setLc (i := 4) rfl sc__law_names.nd rfl rfl (by rfl) (ji_range1 rfl T.n_range (ja_cons (je_v 1) ja_nil)) (ok := (show BlkOk N__law_names (defScope (top 20)) _ _ from ⟨rfl, by decide +kernel, by decide +kernel, by decide +kernel, by decide +kernel⟩)) (own := [("_law_k", 7)]) (by decide) (fun _ _ _ _ _ => (pg_name (i := 7) sc__law_names.nd rfl (by first | exact Or.inl rfl | exact Or.inr rfl))) gq_n (fun _ _ _ _ _ => jts_nil) (fun _ _ _ _ _ => (je_ix ix_seq pr_ix (je_v 2) (je_op op_mod pr_mod (je_op op_adds pr_add (je_v 5) (je_op op_muls pr_mul2 je_int (je_v 7))) je_int))))
 (js_one (js_ret (je_lc rfl sc__law_names.nd (ji_sq (je_v 4)) (ok := (show BlkOk N__law_names (defScope (top 20)) _ _ from ⟨rfl, by decide +kernel, by decide +kernel, by decide +kernel, by decide +kernel⟩)) (own := [("_law_one", 8)]) (by decide) (fun _ _ _ _ _ => (pg_name (i := 8) sc__law_names.nd rfl (by first | exact Or.inl rfl | exact Or.inr rfl))) gq_n (fun _ _ _ _ _ => jts_nil) (fun _ _ _ _ _ => (je_if (jt_tru (je_v 6)) (je_op op_adds pr_add (je_v 3) (je_v 8)) (je_op op_adds pr_add (je_v 8) (je_v 3)))))))))))
theorem p__law_names (c : SaysZ ck fn K) (T : Txt K mg base) : FS Row.prog Row.w K mg base 19 (He.ga K "_law_names") m__law_names := by
  obtain ⟨fd, F⟩ := c.def_ 5
  exact fs_pos F sc__law_names (b__law_names c T) (fun _ _ _ _ _ _ us hl => match us, hl with | [_, _], _ => rfl)
abbrev N__law_is_name : List Str := ["_law_word", "_law_sign"]
theorem sc__law_is_name : FnScope N__law_is_name ["_law_word"] (defScope (top 22)) := ⟨rfl, rfl, rfl, by decide +kernel, rfl, by decide +kernel, by decide +kernel⟩
theorem b__law_is_name (c : SaysZ ck fn K) (T : Txt K mg base) : Body Row.prog Row.w K mg base 6 N__law_is_name "_law_is_name" (defScope (top 22)) (He.ga K "_law_is_name") (defBody (top 22)) s__law_is_name := by
  intro cdv A outer s H E hcv hr
  exact (js_one (js_ret (je_and (je_ch op_lt op_lt pr_lt pr_lt je_int (je_cb call_lens pn_len rfl T.n_len boot_len (ja_cons (je_v 0) ja_nil)) je_int) (je_one (je_cmp (op_eqs (hu64 hr.units)) pr_eq (je_lc rfl sc__law_is_name.nd (ji_str (je_v 0)) (ok := (show BlkOk N__law_is_name (defScope (top 22)) _ _ from ⟨rfl, by decide +kernel, by decide +kernel, by decide +kernel, by decide +kernel⟩)) (own := [("_law_sign", 1)]) (by decide) (fun _ _ _ _ _ => (pg_name (i := 1) sc__law_is_name.nd rfl (by first | exact Or.inl rfl | exact Or.inr rfl))) gq_n (fun _ _ _ _ _ => pts_one (jt_cmp (op_notIns (hu65 hr.units)) pr_in (je_v 1) (je_ctd (calld_listZ rfl (calld_of call_list_of pn_list)) rfl T.n_list boot_list (ja_cons je_str ja_nil)) (by rfl))) (fun _ _ _ _ _ => (je_v 1))) (je_lst ja_nil) (nomark _))))))
theorem p__law_is_name (c : SaysZ ck fn K) (T : Txt K mg base) : FS Row.prog Row.w K mg base 7 (He.ga K "_law_is_name") m__law_is_name := by
  obtain ⟨fd, F⟩ := c.def_ 6
  exact fs_pos F sc__law_is_name (b__law_is_name c T) (fun _ _ _ _ _ _ us hl => match us, hl with | [_], _ => rfl)
abbrev N__law_read_face : List Str := ["_law_text", "_law_rows", "_law_row", "_law_names_here", "_law_pair"]
theorem sc__law_read_face : FnScope N__law_read_face ["_law_text"] (defScope (top 23)) := ⟨rfl, rfl, rfl, by decide +kernel, rfl, by decide +kernel, by decide +kernel⟩
theorem b__law_read_face (c : SaysZ ck fn K) (T : Txt K mg base) : Body Row.prog Row.w K mg base 12 N__law_read_face "_law_read_face" (defScope (top 23)) (He.ga K "_law_read_face") (defBody (top 23)) s__law_read_face := by
  intro cdv A outer s H E hcv hr
  exact (js_cons (js_if (jt_cmp (op_eqs (hu64 hr.units)) pr_eq (je_v 0) je_str (nomark _)) (js_one (js_ret (je_tup ja_nil))) js_nil)
 (js_cons (js_setLc (i := 1) rfl sc__law_read_face.nd rfl rfl (by rfl) (ji_sq (je_bm PySem.F.plainAttrs_str PySem.F.slot_str_split PySem.F.type_str_split mt_split pm_split (je_v 0) (ja_cons je_str ja_nil))) (ok := (show BlkOk N__law_read_face (defScope (top 23)) _ _ from ⟨rfl, by decide +kernel, by decide +kernel, by decide +kernel, by decide +kernel⟩)) (own := [("_law_pair", 4)]) (by decide) (fun _ _ _ _ _ => (pg_name (i := 4) sc__law_read_face.nd rfl (by first | exact Or.inl rfl | exact Or.inr rfl))) gq_n (fun _ _ _ _ _ => jts_nil) (fun _ _ _ _ _ => (je_bm PySem.F.plainAttrs_str PySem.F.slot_str_split PySem.F.type_str_split mt_split pm_split (je_v 4) (ja_cons je_str ja_nil))))
 (js_cons (js_for (passes_of rfl) rfl (ji_sq (je_v 1)) (pg_name (i := 2) sc__law_read_face.nd rfl (by first | exact Or.inl rfl | exact Or.inr rfl)) gq_n (js_one (js_if (JW_t (jw_or (jt_cmp (op_nes (hu64 hr.units)) pr_ne (je_cb call_lens pn_len rfl T.n_len boot_len (ja_cons (je_v 2) ja_nil)) je_int (nomark _)) (jw_or (jt_not (jt_tru (je_call (p__law_is_name c T) (hr.mono (by decide)) (takes_of rfl rfl rfl rfl) rfl T.g__law_is_name T.k__law_is_name (ja_cons (je_ix ix_seq pr_ix (je_v 2) je_int) ja_nil)))) (jw_or1 (jt_cmp (op_notIns (hu65 hr.units)) pr_in (je_ix ix_seq pr_ix (je_v 2) je_int) (je_lst (ja_cons je_str (ja_cons je_str (ja_cons je_str (ja_cons je_str ja_nil))))) (by rfl)))))) (js_one (js_ret je_non)) js_nil)))
 (js_cons (js_setLc (i := 3) rfl sc__law_read_face.nd rfl rfl (by rfl) (ji_sq (je_v 1)) (ok := (show BlkOk N__law_read_face (defScope (top 23)) _ _ from ⟨rfl, by decide +kernel, by decide +kernel, by decide +kernel, by decide +kernel⟩)) (own := [("_law_row", 2)]) (by decide) (fun _ _ _ _ _ => (pg_name (i := 2) sc__law_read_face.nd rfl (by first | exact Or.inl rfl | exact Or.inr rfl))) gq_n (fun _ _ _ _ _ => jts_nil) (fun _ _ _ _ _ => (je_ix ix_seq pr_ix (je_v 2) je_int)))
 (js_one (js_ret (je_if (jt_cmp (op_eqs (hu64 hr.units)) pr_eq (je_v 3) (je_cbd (calld_sortZ ⟨rfl, rfl⟩ rfl (hu66 hr.units) (calld_of call_srtA (pn_sortA (hu66 hr.units)))) rfl T.n_sorted boot_sorted (ja_cons (je_ctd (calld_setL ⟨rfl, rfl⟩ rfl) rfl T.n_set boot_set (ja_cons (je_v 3) ja_nil)) ja_nil)) (nomark _)) (je_ct call_tuple_of pn_tuple rfl T.n_tuple boot_tuple (ja_cons (je_lc rfl sc__law_read_face.nd (ji_sq (je_v 1)) (ok := (show BlkOk N__law_read_face (defScope (top 23)) _ _ from ⟨rfl, by decide +kernel, by decide +kernel, by decide +kernel, by decide +kernel⟩)) (own := [("_law_row", 2)]) (by decide) (fun _ _ _ _ _ => (pg_name (i := 2) sc__law_read_face.nd rfl (by first | exact Or.inl rfl | exact Or.inr rfl))) gq_n (fun _ _ _ _ _ => jts_nil) (fun _ _ _ _ _ => (je_tup (ja_cons (je_ix ix_seq pr_ix (je_v 2) je_int) (ja_cons (je_ix ix_seq pr_ix (je_v 2) je_int) ja_nil))))) ja_nil)) je_non)))))))
theorem p__law_read_face (c : SaysZ ck fn K) (T : Txt K mg base) : FS Row.prog Row.w K mg base 13 (He.ga K "_law_read_face") m__law_read_face := by
  obtain ⟨fd, F⟩ := c.def_ 7
  exact fs_pos F sc__law_read_face (b__law_read_face c T) (fun _ _ _ _ _ _ us hl => match us, hl with | [_], _ => rfl)
abbrev N__law_read_line : List Str := ["_law_text", "_law_found", "_law_word", "_law_some", "_law_one"]
theorem sc__law_read_line : FnScope N__law_read_line ["_law_text"] (defScope (top 24)) := ⟨rfl, rfl, rfl, by decide +kernel, rfl, by decide +kernel, by decide +kernel⟩
theorem b__law_read_line (c : SaysZ ck fn K) (T : Txt K mg base) : Body Row.prog Row.w K mg base 12 N__law_read_line "_law_read_line" (defScope (top 24)) (He.ga K "_law_read_line") (defBody (top 24)) s__law_read_line := by
  intro cdv A outer s H E hcv hr
  exact (js_cons (js_set (i := 1) sc__law_read_line.nd rfl (Or.inl rfl) (je_lst ja_nil))
 (js_cons (js_for (passes_of rfl) rfl (ji_sq (je_if (jt_cmp (op_nes (hu64 hr.units)) pr_ne (je_v 0) je_str (nomark _)) (je_bm PySem.F.plainAttrs_str PySem.F.slot_str_split PySem.F.type_str_split mt_split pm_split (je_v 0) (ja_cons je_str ja_nil)) (je_lst ja_nil))) (pg_name (i := 2) sc__law_read_line.nd rfl (by first | exact Or.inl rfl | exact Or.inr rfl)) gq_n (js_cons (js_if (JW_t (jw_and (jt_cmp (op_eqs (hu64 hr.units)) pr_eq (je_sl sl_all ps_sl (je_v 2) jo_none (jo_some je_int)) je_str (nomark _)) (jw_and1 (jt_cmp (op_eqs (hu64 hr.units)) pr_eq (je_sl sl_all ps_sl (je_v 2) (jo_some (je_un un_neg pr_neg je_int)) jo_none) je_str (nomark _))))) (js_cons (js_set (i := 3) sc__law_read_line.nd rfl (Or.inl rfl) (je_bm PySem.F.plainAttrs_str PySem.F.slot_str_split PySem.F.type_str_split mt_split pm_split (je_sl sl_all ps_sl (je_v 2) (jo_some je_int) (jo_some (je_un un_neg pr_neg je_int))) (ja_cons je_str ja_nil)))
 (js_one (js_expr (je_bm PySem.F.plainAttrs_list PySem.F.slot_list_append PySem.F.type_list_append (mt_append) pm_append (je_v 1) (ja_cons (je_ct call_tuple_of pn_tuple rfl T.n_tuple boot_tuple (ja_cons (je_v 3) ja_nil)) ja_nil))))) (js_cons (js_set (i := 3) sc__law_read_line.nd rfl (Or.inl rfl) (je_lst (ja_cons (je_v 2) ja_nil)))
 (js_one (js_expr (je_bm PySem.F.plainAttrs_list PySem.F.slot_list_append PySem.F.type_list_append (mt_append) pm_append (je_v 1) (ja_cons (je_v 2) ja_nil))))))
 (js_one (js_if (jt_cmp (op_nes (hu64 hr.units)) pr_ne (je_lc rfl sc__law_read_line.nd (ji_sq (je_v 3)) (ok := (show BlkOk N__law_read_line (defScope (top 24)) _ _ from ⟨rfl, by decide +kernel, by decide +kernel, by decide +kernel, by decide +kernel⟩)) (own := [("_law_one", 4)]) (by decide) (fun _ _ _ _ _ => (pg_name (i := 4) sc__law_read_line.nd rfl (by first | exact Or.inl rfl | exact Or.inr rfl))) gq_n (fun _ _ _ _ _ => pts_one (jt_not (jt_tru (je_call (p__law_is_name c T) (hr.mono (by decide)) (takes0) rfl T.g__law_is_name T.k__law_is_name (ja_cons (je_v 4) ja_nil))))) (fun _ _ _ _ _ => (je_v 4))) (je_lst ja_nil) (nomark _)) (js_one (js_ret je_non)) js_nil))))
 (js_one (js_ret (je_ct call_tuple_of pn_tuple rfl T.n_tuple boot_tuple (ja_cons (je_v 1) ja_nil))))))
theorem p__law_read_line (c : SaysZ ck fn K) (T : Txt K mg base) : FS Row.prog Row.w K mg base 13 (He.ga K "_law_read_line") m__law_read_line := by
  obtain ⟨fd, F⟩ := c.def_ 8
  exact fs_pos F sc__law_read_line (b__law_read_line c T) (fun _ _ _ _ _ _ us hl => match us, hl with | [_], _ => rfl)
abbrev N_is_name : List Str := ["thing", "sign"]
theorem sc_is_name : FnScope N_is_name ["thing"] (defScope (top 5)) := ⟨rfl, rfl, rfl, by decide +kernel, rfl, by decide +kernel, by decide +kernel⟩
theorem b_is_name (c : SaysZ ck fn K) (T : Txt K mg base) : Body Row.prog Row.w K mg base 6 N_is_name "is_name" (defScope (top 5)) (He.ga K "is_name") (defBody (top 5)) s_is_name := by
  intro cdv A outer s H E hcv hr
  exact (js_cons (js_if (JW_t (jw_or (jt_not (jt_tru (je_isi rfl T.n_isinstance rfl T.n_str boot_str (je_v 0)))) (jw_or1 (jt_not (jt_ch op_le op_le pr_le pr_le je_int (je_cb call_lens pn_len rfl T.n_len boot_len (ja_cons (je_v 0) ja_nil)) (je_gint rfl T.c_MOST_LETTERS)))))) (js_one (js_ret je_bl)) js_nil)
 (js_one (js_ret (je_cb (cr_all rfl) pn_all rfl T.n_all boot_all (ja_cons (je_lc rfl sc_is_name.nd (ji_any (itb_ok c T) (hr.mono (by decide)) (je_v 0)) (ok := (show BlkOk N_is_name (defScope (top 5)) _ _ from ⟨rfl, by decide +kernel, by decide +kernel, by decide +kernel, by decide +kernel⟩)) (own := [("sign", 1)]) (by decide) (fun _ _ _ _ _ => (pg_name (i := 1) sc_is_name.nd rfl (by first | exact Or.inl rfl | exact Or.inr rfl))) gq_n (fun _ _ _ _ _ => jts_nil) (fun _ _ _ _ _ => (je_cmp (op_ins (hu65 hr.units)) pr_in (je_v 1) (je_gstr rfl T.c_LETTERS) (by rfl)))) ja_nil)))))
theorem p_is_name (c : SaysZ ck fn K) (T : Txt K mg base) : FS Row.prog Row.w K mg base 7 (He.ga K "is_name") m_is_name := by
  obtain ⟨fd, F⟩ := c.def_ 9
  exact fs_pos F sc_is_name (b_is_name c T) (fun _ _ _ _ _ _ us hl => match us, hl with | [_], _ => rfl)
abbrev N_twice_in : List Str := ["names", "seen", "name"]
theorem sc_twice_in : FnScope N_twice_in ["names"] (defScope (top 6)) := ⟨rfl, rfl, rfl, by decide +kernel, rfl, by decide +kernel, by decide +kernel⟩
theorem b_twice_in (c : SaysZ ck fn K) (T : Txt K mg base) : Body Row.prog Row.w K mg base 6 N_twice_in "twice_in" (defScope (top 6)) (He.ga K "twice_in") (defBody (top 6)) s_twice_in := by
  intro cdv A outer s H E hcv hr
  exact (js_cons (js_set (i := 1) sc_twice_in.nd rfl (Or.inl rfl) (je_lst ja_nil))
 (js_cons (js_for (passes_of rfl) rfl (ji_sq (je_v 0)) (pg_name (i := 2) sc_twice_in.nd rfl (by first | exact Or.inl rfl | exact Or.inr rfl)) gq_n (js_cons (js_if (jt_cmp (op_ins (hu65 hr.units)) pr_in (je_v 2) (je_v 1) (by rfl)) (js_one (js_ret (je_v 2))) js_nil)
 (js_one (js_expr (je_bm PySem.F.plainAttrs_list PySem.F.slot_list_append PySem.F.type_list_append (mt_append) pm_append (je_v 1) (ja_cons (je_v 2) ja_nil))))))
 (js_one (js_ret je_non))))
theorem p_twice_in (c : SaysZ ck fn K) (T : Txt K mg base) : FS Row.prog Row.w K mg base 7 (He.ga K "twice_in") m_twice_in := by
  obtain ⟨fd, F⟩ := c.def_ 10
  exact fs_pos F sc_twice_in (b_twice_in c T) (fun _ _ _ _ _ _ us hl => match us, hl with | [_], _ => rfl)
abbrev N_is_face : List Str := ["thing", "names", "row", "name", "word"]
theorem sc_is_face : FnScope N_is_face ["thing"] (defScope (top 9)) := ⟨rfl, rfl, rfl, by decide +kernel, rfl, by decide +kernel, by decide +kernel⟩
theorem b_is_face (c : SaysZ ck fn K) (T : Txt K mg base) : Body Row.prog Row.w K mg base 12 N_is_face "is_face" (defScope (top 9)) (He.ga K "is_face") (defBody (top 9)) s_is_face := by
  intro cdv A outer s H E hcv hr
  exact (js_cons (js_if (JW_t (jw_or (jt_not (jt_tru (je_isi rfl T.n_isinstance rfl T.n_tuple boot_tuple (je_v 0)))) (jw_or1 (jt_not (jt_tru (je_cb (cr_all rfl) pn_all rfl T.n_all boot_all (ja_cons (je_lc rfl sc_is_face.nd (ji_sq (je_v 0)) (ok := (show BlkOk N_is_face (defScope (top 9)) _ _ from ⟨rfl, by decide +kernel, by decide +kernel, by decide +kernel, by decide +kernel⟩)) (own := [("row", 2)]) (by decide) (fun _ _ _ _ _ => (pg_name (i := 2) sc_is_face.nd rfl (by first | exact Or.inl rfl | exact Or.inr rfl))) gq_n (fun _ _ _ _ _ => jts_nil) (fun _ _ _ _ _ => (je_and (je_isi rfl T.n_isinstance rfl T.n_tuple boot_tuple (je_v 2)) (je_one (je_cmp (op_eqs (hu64 hr.units)) pr_eq (je_cb call_lens pn_len rfl T.n_len boot_len (ja_cons (je_v 2) ja_nil)) je_int (nomark _)))))) ja_nil))))))) (js_one (js_ret je_bl)) js_nil)
 (js_cons (js_if (jt_not (jt_tru (je_cb (cr_all rfl) pn_all rfl T.n_all boot_all (ja_cons (je_lc rfl sc_is_face.nd (ji_sq (je_v 0)) (ok := (show BlkOk N_is_face (defScope (top 9)) _ _ from ⟨rfl, by decide +kernel, by decide +kernel, by decide +kernel, by decide +kernel⟩)) (own := [("name", 3), ("word", 4)]) (by decide) (fun _ _ _ _ _ => (pg_tup (n := 2) rfl (pgs_cons (pg_name (i := 3) sc_is_face.nd rfl (by first | exact Or.inl rfl | exact Or.inr rfl)) (pgs_cons (pg_name (i := 4) sc_is_face.nd rfl (by first | exact Or.inl rfl | exact Or.inr rfl)) pgs_nil)))) (gq_t (gqs_cons gq_n (gqs_cons gq_n gqs_nil))) (fun _ _ _ _ _ => jts_nil) (fun _ _ _ _ _ => (je_and (je_call (p_is_name c T) (hr.mono (by decide)) (takes0) rfl T.g_is_name T.k_is_name (ja_cons (je_v 3) ja_nil)) (je_and (je_isi rfl T.n_isinstance rfl T.n_str boot_str (je_v 4)) (je_one (je_cmp (op_ins (hu65 hr.units)) pr_in (je_v 4) (je_gt rfl T.c_WORDS) (by rfl))))))) ja_nil)))) (js_one (js_ret je_bl)) js_nil)
 (js_cons (js_setLc (i := 1) rfl sc_is_face.nd rfl rfl (by rfl) (ji_sq (je_v 0)) (ok := (show BlkOk N_is_face (defScope (top 9)) _ _ from ⟨rfl, by decide +kernel, by decide +kernel, by decide +kernel, by decide +kernel⟩)) (own := [("row", 2)]) (by decide) (fun _ _ _ _ _ => (pg_name (i := 2) sc_is_face.nd rfl (by first | exact Or.inl rfl | exact Or.inr rfl))) gq_n (fun _ _ _ _ _ => jts_nil) (fun _ _ _ _ _ => (je_ix ix_seq pr_ix (je_v 2) je_int)))
 (js_one (js_ret (je_and (je_cmp (op_eqs (hu64 hr.units)) pr_eq (je_v 1) (je_cb call_srtA (pn_sortA (hu66 hr.units)) rfl T.n_sorted boot_sorted (ja_cons (je_v 1) ja_nil)) (nomark _)) (je_one (je_cmp op_isN pr_isN2 (je_call (p_twice_in c T) (hr.mono (by decide)) (takes_of rfl rfl rfl rfl) rfl T.g_twice_in T.k_twice_in (ja_cons (je_v 1) ja_nil)) je_non (nomark _)))))))))
theorem p_is_face (c : SaysZ ck fn K) (T : Txt K mg base) : FS Row.prog Row.w K mg base 13 (He.ga K "is_face") m_is_face := by
  obtain ⟨fd, F⟩ := c.def_ 11
  exact fs_pos F sc_is_face (b_is_face c T) (fun _ _ _ _ _ _ us hl => match us, hl with | [_], _ => rfl)
abbrev N_look_text : List Str := ["text"]
theorem sc_look_text : FnScope N_look_text ["text"] (defScope (top 12)) := ⟨rfl, rfl, rfl, by decide +kernel, rfl, by decide +kernel, by decide +kernel⟩
theorem b_look_text (c : SaysZ ck fn K) (T : Txt K mg base) : Body Row.prog Row.w K mg base 6 N_look_text "look_text" (defScope (top 12)) (He.ga K "look_text") (defBody (top 12)) s_look_text := by
  intro cdv A outer s H E hcv hr
  exact (js_one (js_if (jt_not (jt_tru (je_isi rfl T.n_isinstance rfl T.n_str boot_str (je_v 0)))) (js_one (js_raise (rz_BadText c T) (hr.mono (by decide)) rfl (takes_of rfl rfl rfl rfl) rfl (ja_cons (je_un un_neg pr_neg je_int) ja_nil))) js_nil))
theorem p_look_text (c : SaysZ ck fn K) (T : Txt K mg base) : FS Row.prog Row.w K mg base 7 (He.ga K "look_text") m_look_text := by
  obtain ⟨fd, F⟩ := c.def_ 12
  exact fs_pos F sc_look_text (b_look_text c T) (fun _ _ _ _ _ _ us hl => match us, hl with | [_], _ => rfl)
abbrev N_read_face : List Str := ["text", "face", "pair"]
theorem sc_read_face : FnScope N_read_face ["text"] (defScope (top 13)) := ⟨rfl, rfl, rfl, by decide +kernel, rfl, by decide +kernel, by decide +kernel⟩
theorem b_read_face (c : SaysZ ck fn K) (T : Txt K mg base) : Body Row.prog Row.w K mg base 18 N_read_face "read_face" (defScope (top 13)) (He.ga K "read_face") (defBody (top 13)) s_read_face := by
  intro cdv A outer s H E hcv hr
  exact (js_cons (js_expr (je_call (p_look_text c T) (hr.mono (by decide)) (takes_of rfl rfl rfl rfl) rfl T.g_look_text T.k_look_text (ja_cons (je_v 0) ja_nil)))
 (js_cons (js_if (jt_cmp (op_eqs (hu64 hr.units)) pr_eq (je_v 0) (je_gstr rfl T.c_NOTHING) (nomark _)) (js_one (js_ret (je_tup ja_nil))) js_nil)
 (js_cons (js_set (i := 1) sc_read_face.nd rfl (Or.inl rfl) (je_ct call_tuple_of pn_tuple rfl T.n_tuple boot_tuple (ja_cons (je_lc rfl sc_read_face.nd (ji_sq (je_bm PySem.F.plainAttrs_str PySem.F.slot_str_split PySem.F.type_str_split mt_split pm_split (je_v 0) (ja_cons je_str ja_nil))) (ok := (show BlkOk N_read_face (defScope (top 13)) _ _ from ⟨rfl, by decide +kernel, by decide +kernel, by decide +kernel, by decide +kernel⟩)) (own := [("pair", 2)]) (by decide) (fun _ _ _ _ _ => (pg_name (i := 2) sc_read_face.nd rfl (by first | exact Or.inl rfl | exact Or.inr rfl))) gq_n (fun _ _ _ _ _ => jts_nil) (fun _ _ _ _ _ => (je_ct call_tuple_of pn_tuple rfl T.n_tuple boot_tuple (ja_cons (je_bm PySem.F.plainAttrs_str PySem.F.slot_str_split PySem.F.type_str_split mt_split pm_split (je_v 2) (ja_cons je_str ja_nil)) ja_nil)))) ja_nil)))
 (js_cons (js_if (jt_not (jt_tru (je_call (p_is_face c T) (hr.mono (by decide)) (takes_of rfl rfl rfl rfl) rfl T.g_is_face T.k_is_face (ja_cons (je_v 1) ja_nil)))) (js_one (js_raise (rz_BadText c T) (hr.mono (by decide)) rfl (takes_of rfl rfl rfl rfl) rfl (ja_cons je_int ja_nil))) js_nil)
 (js_one (js_ret (je_v 1)))))))
theorem p_read_face (c : SaysZ ck fn K) (T : Txt K mg base) : FS Row.prog Row.w K mg base 19 (He.ga K "read_face") m_read_face := by
  obtain ⟨fd, F⟩ := c.def_ 13
  exact fs_pos F sc_read_face (b_read_face c T) (fun _ _ _ _ _ _ us hl => match us, hl with | [_], _ => rfl)
abbrev N_read_item : List Str := ["text", "is_group", "item", "name"]
theorem sc_read_item : FnScope N_read_item ["text"] (defScope (top 14)) := ⟨rfl, rfl, rfl, by decide +kernel, rfl, by decide +kernel, by decide +kernel⟩
theorem b_read_item (c : SaysZ ck fn K) (T : Txt K mg base) : Body Row.prog Row.w K mg base 12 N_read_item "read_item" (defScope (top 14)) (He.ga K "read_item") (defBody (top 14)) s_read_item := by
  intro cdv A outer s H E hcv hr
  exact (js_cons (js_set (i := 1) sc_read_item.nd rfl (Or.inl rfl) (je_and (je_cmp (op_eqs (hu64 hr.units)) pr_eq (je_sl sl_all ps_sl (je_v 0) jo_none (jo_some je_int)) je_str (nomark _)) (je_one (je_cmp (op_eqs (hu64 hr.units)) pr_eq (je_sl sl_all ps_sl (je_v 0) (jo_some (je_un un_neg pr_neg je_int)) jo_none) je_str (nomark _)))))
 (js_cons (js_set (i := 2) sc_read_item.nd rfl (Or.inl rfl) (je_if (jt_tru (je_v 1)) (je_ct call_tuple_of pn_tuple rfl T.n_tuple boot_tuple (ja_cons (je_bm PySem.F.plainAttrs_str PySem.F.slot_str_split PySem.F.type_str_split mt_split pm_split (je_sl sl_all ps_sl (je_v 0) (jo_some je_int) (jo_some (je_un un_neg pr_neg je_int))) (ja_cons je_str ja_nil)) ja_nil)) (je_v 0)))
 (js_cons (js_if (jt_not (jt_tru (je_cb (cr_all rfl) pn_all rfl T.n_all boot_all (ja_cons (je_lc rfl sc_read_item.nd (ji_any (itb_ok c T) (hr.mono (by decide)) (je_if (jt_tru (je_v 1)) (je_v 2) (je_lst (ja_cons (je_v 2) ja_nil)))) (ok := (show BlkOk N_read_item (defScope (top 14)) _ _ from ⟨rfl, by decide +kernel, by decide +kernel, by decide +kernel, by decide +kernel⟩)) (own := [("name", 3)]) (by decide) (fun _ _ _ _ _ => (pg_name (i := 3) sc_read_item.nd rfl (by first | exact Or.inl rfl | exact Or.inr rfl))) gq_n (fun _ _ _ _ _ => jts_nil) (fun _ _ _ _ _ => (je_call (p_is_name c T) (hr.mono (by decide)) (takes0) rfl T.g_is_name T.k_is_name (ja_cons (je_v 3) ja_nil)))) ja_nil)))) (js_one (js_raise (rz_BadText c T) (hr.mono (by decide)) rfl (takes_of rfl rfl rfl rfl) rfl (ja_cons je_int ja_nil))) js_nil)
 (js_one (js_ret (je_v 2))))))
theorem p_read_item (c : SaysZ ck fn K) (T : Txt K mg base) : FS Row.prog Row.w K mg base 13 (He.ga K "read_item") m_read_item := by
  obtain ⟨fd, F⟩ := c.def_ 14
  exact fs_pos F sc_read_item (b_read_item c T) (fun _ _ _ _ _ _ us hl => match us, hl with | [_], _ => rfl)
abbrev N_read_line : List Str := ["text", "word"]
theorem sc_read_line : FnScope N_read_line ["text"] (defScope (top 15)) := ⟨rfl, rfl, rfl, by decide +kernel, rfl, by decide +kernel, by decide +kernel⟩
theorem b_read_line (c : SaysZ ck fn K) (T : Txt K mg base) : Body Row.prog Row.w K mg base 18 N_read_line "read_line" (defScope (top 15)) (He.ga K "read_line") (defBody (top 15)) s_read_line := by
  intro cdv A outer s H E hcv hr
  exact (js_cons (js_expr (je_call (p_look_text c T) (hr.mono (by decide)) (takes_of rfl rfl rfl rfl) rfl T.g_look_text T.k_look_text (ja_cons (je_v 0) ja_nil)))
 (js_one (js_ret (je_if (jt_cmp (op_nes (hu64 hr.units)) pr_ne (je_v 0) (je_gstr rfl T.c_NOTHING) (nomark _)) (je_ct call_tuple_of pn_tuple rfl T.n_tuple boot_tuple (ja_cons (je_lcx rfl rfl (takes_of rfl rfl rfl rfl) rfl sc_read_line.nd (ji_sq (je_bm PySem.F.plainAttrs_str PySem.F.slot_str_split PySem.F.type_str_split mt_split pm_split (je_v 0) (ja_cons je_str ja_nil))) (ok := (show BlkOk N_read_line (defScope (top 15)) _ _ from ⟨rfl, by decide +kernel, by decide +kernel, by decide +kernel, by decide +kernel⟩)) (own := [("word", 1)]) (by decide) (fun _ _ _ _ _ => (pg_name (i := 1) sc_read_line.nd rfl (by first | exact Or.inl rfl | exact Or.inr rfl))) gq_n (fun _ _ _ _ _ => jts_nil) (fun _ _ _ _ _ xe1x W1x tk1x => (je_call (p_read_item c T) (hr.mono (by decide)) (tk1x) rfl T.g_read_item T.k_read_item (ja_cons (je_v 1) ja_nil)))) ja_nil)) (je_tup ja_nil)))))
theorem p_read_line (c : SaysZ ck fn K) (T : Txt K mg base) : FS Row.prog Row.w K mg base 19 (He.ga K "read_line") m_read_line := by
  obtain ⟨fd, F⟩ := c.def_ 15
  exact fs_pos F sc_read_line (b_read_line c T) (fun _ _ _ _ _ _ us hl => match us, hl with | [_], _ => rfl)
abbrev N_law : List Str := ["_law_script", "_law_fixed", "_law_at", "_law_bag_here", "_law_turn", "_law_what", "_law_names_here", "_law_look", "_law_items", "_law_road", "_law_text", "_law_found", "_law_dues", "_law_k", "_law_due", "_law_one", "_law_word"]
theorem sc_law : FnScope N_law ["_law_script"] (defScope (top 27)) := ⟨rfl, rfl, rfl, by decide +kernel, rfl, by decide +kernel, by decide +kernel⟩
theorem b_law (c : SaysZ ck fn K) (T : Txt K mg base) : Body Row.prog Row.w K mg base 24 N_law "law" (defScope (top 27)) (He.ga K "law") (defBody (top 27)) s_law := by
  intro cdv A outer s H E hcv hr
  exact (js_cons (js_set (i := 1) sc_law.nd rfl (Or.inl rfl) (je_lst (ja_cons je_str (ja_cons je_str (ja_cons je_str (ja_cons je_str (ja_cons je_str (ja_cons je_str (ja_cons je_str (ja_cons je_str (ja_cons je_str (ja_cons je_str (ja_cons je_str (ja_cons je_str (ja_cons je_str (ja_cons je_str (ja_cons je_str (ja_cons je_str ja_nil))))))))))))))))))
 (js_cons (js_set (i := 1) sc_law.nd rfl (Or.inl rfl) (je_op op_adds pr_add (je_v 1) (je_lst (ja_cons je_str (ja_cons je_str (ja_cons je_str (ja_cons je_str (ja_cons je_str (ja_cons je_str (ja_cons je_str ja_nil))))))))))
 (js_cons (js_set (i := 1) sc_law.nd rfl (Or.inl rfl) (je_op op_adds pr_add (je_v 1) (je_lst (ja_cons je_str (ja_cons je_str (ja_cons je_str (ja_cons je_str ja_nil)))))))
 (js_cons (js_for (passes_of rfl) rfl (ji_range1 rfl T.n_range (ja_cons (je_cb (call_max2 rfl) pn_max2 rfl T.n_max boot_max (ja_cons je_int (ja_cons (je_cb (call_min2 rfl) pn_min2 rfl T.n_min boot_min (ja_cons je_int (ja_cons (je_cb call_lens pn_len rfl T.n_len boot_len (ja_cons (je_v 0) ja_nil)) ja_nil))) ja_nil))) ja_nil)) (pg_name (i := 2) sc_law.nd rfl (by first | exact Or.inl rfl | exact Or.inr rfl)) gq_n (js_cons (js_set (i := 3) sc_law.nd rfl (Or.inr rfl) (je_call (p__law_bag c T) (hr.mono (by decide)) (takes_of rfl rfl rfl rfl) rfl T.g__law_bag T.k__law_bag (ja_cons (je_v 0) (ja_cons (je_v 2) ja_nil))))
 (js_cons (js_for (passes_of rfl) rfl (ji_range1 rfl T.n_range (ja_cons je_int ja_nil)) (pg_name (i := 4) sc_law.nd rfl (by first | exact Or.inl rfl | exact Or.inr rfl)) gq_n (js_cons (js_set (i := 6) sc_law.nd rfl (Or.inl rfl) (je_call (p__law_names c T) (hr.mono (by decide)) (takes_of rfl rfl rfl rfl) rfl T.g__law_names T.k__law_names (ja_cons (je_v 3) (ja_cons (je_op op_adds pr_add je_int (je_call (p__law_take c T) (hr.mono (by decide)) (takes_of rfl rfl rfl rfl) rfl T.g__law_take T.k__law_take (ja_cons (je_v 3) (ja_cons je_int ja_nil)))) ja_nil))))
 (js_cons (js_set (i := 7) sc_law.nd rfl (Or.inl rfl) (je_bm PySem.F.plainAttrs_str PySem.F.slot_str_join PySem.F.type_str_join mt_join pm_join je_str (ja_cons (je_lc rfl sc_law.nd (ji_sq (je_call (p__law_drawn c T) (hr.mono (by decide)) (takes_of rfl rfl rfl rfl) rfl T.g__law_drawn T.k__law_drawn (ja_cons (je_v 3) (ja_cons (je_v 6) ja_nil)))) (ok := (show BlkOk N_law (defScope (top 27)) _ _ from ⟨rfl, by decide +kernel, by decide +kernel, by decide +kernel, by decide +kernel⟩)) (own := [("_law_one", 15), ("_law_word", 16)]) (by decide) (fun _ _ _ _ _ => (pg_tup (n := 2) rfl (pgs_cons (pg_name (i := 15) sc_law.nd rfl (by first | exact Or.inl rfl | exact Or.inr rfl)) (pgs_cons (pg_name (i := 16) sc_law.nd rfl (by first | exact Or.inl rfl | exact Or.inr rfl)) pgs_nil)))) (gq_t (gqs_cons gq_n (gqs_cons gq_n gqs_nil))) (fun _ _ _ _ _ => jts_nil) (fun _ _ _ _ _ => (je_op op_adds pr_add (je_op op_adds pr_add (je_v 15) je_str) (je_v 16)))) ja_nil)))
 (js_cons (js_set (i := 8) sc_law.nd rfl (Or.inr rfl) (je_op op_adds pr_add (je_v 6) (je_lst (ja_cons (je_op op_adds pr_add (je_op op_adds pr_add je_str (je_bm PySem.F.plainAttrs_str PySem.F.slot_str_join PySem.F.type_str_join mt_join pm_join je_str (ja_cons (je_v 6) ja_nil))) je_str) (ja_cons (je_op op_adds pr_add (je_op op_adds pr_add je_str (je_ix ix_seq pr_ix (je_v 6) je_int)) je_str) ja_nil)))))
 (js_cons (js_set (i := 9) sc_law.nd rfl (Or.inl rfl) (je_bm PySem.F.plainAttrs_str PySem.F.slot_str_join PySem.F.type_str_join mt_join pm_join je_str (ja_cons (je_lc rfl sc_law.nd (ji_range1 rfl T.n_range (ja_cons (je_call (p__law_take c T) (hr.mono (by decide)) (takes_of rfl rfl rfl rfl) rfl T.g__law_take T.k__law_take (ja_cons (je_v 3) (ja_cons je_int ja_nil))) ja_nil)) (ok := (show BlkOk N_law (defScope (top 27)) _ _ from ⟨rfl, by decide +kernel, by decide +kernel, by decide +kernel, by decide +kernel⟩)) (own := [("_law_k", 13)]) (by decide) (fun _ _ _ _ _ => (pg_name (i := 13) sc_law.nd rfl (by first | exact Or.inl rfl | exact Or.inr rfl))) gq_n (fun _ _ _ _ _ => jts_nil) (fun _ _ _ _ _ => (je_call (p__law_of c T) (hr.mono (by decide)) (takes0) rfl T.g__law_of T.k__law_of (ja_cons (je_v 3) (ja_cons (je_v 8) ja_nil))))) ja_nil)))
 (js_one (js_for (passes_of rfl) rfl (ji_sq (je_lst (ja_cons (je_call (p__law_bent c T) (hr.mono (by decide)) (takes_of rfl rfl rfl rfl) rfl T.g__law_bent T.k__law_bent (ja_cons (je_v 3) (ja_cons (je_v 7) ja_nil))) (ja_cons (je_call (p__law_bent c T) (hr.mono (by decide)) (takes_of rfl rfl rfl rfl) rfl T.g__law_bent T.k__law_bent (ja_cons (je_v 3) (ja_cons (je_v 9) ja_nil))) (ja_cons (je_ix ix_seq pr_ix (je_v 1) (je_op op_mod pr_mod (je_v 4) (je_cb call_lens pn_len rfl T.n_len boot_len (ja_cons (je_v 1) ja_nil)))) ja_nil))))) (pg_name (i := 10) sc_law.nd rfl (by first | exact Or.inl rfl | exact Or.inr rfl)) gq_n (js_cons (js_set (i := 12) sc_law.nd rfl (Or.inl rfl) (je_lst (ja_cons (je_call (p__law_read_face c T) (hr.mono (by decide)) (takes_of rfl rfl rfl rfl) rfl T.g__law_read_face T.k__law_read_face (ja_cons (je_v 10) ja_nil)) (ja_cons (je_call (p__law_read_line c T) (hr.mono (by decide)) (takes_of rfl rfl rfl rfl) rfl T.g__law_read_line T.k__law_read_line (ja_cons (je_v 10) ja_nil)) ja_nil))))
 (js_cons (js_setLc (i := 12) rfl sc_law.nd rfl rfl (by rfl) (ji_sq (je_v 12)) (ok := (show BlkOk N_law (defScope (top 27)) _ _ from ⟨rfl, by decide +kernel, by decide +kernel, by decide +kernel, by decide +kernel⟩)) (own := [("_law_due", 14)]) (by decide) (fun _ _ _ _ _ => (pg_name (i := 14) sc_law.nd rfl (by first | exact Or.inl rfl | exact Or.inr rfl))) gq_n (fun _ _ _ _ _ => jts_nil) (fun _ _ _ _ _ => (je_if (jt_cmp op_isN pr_isN2 (je_v 14) je_non (nomark _)) (je_lst (ja_cons je_str (ja_cons je_str (ja_cons je_bl ja_nil)))) (je_v 14))))
 (js_cons (js_set (i := 11) sc_law.nd rfl (Or.inl rfl) (je_lst (ja_cons (je_lamF (k := 22) (q := lq_law) (Ng := N__law_outcome) (a := "_law_deed") (sg := defScope (top 25)) (xm_ok T) (hm__law_outcome T) rfl T.g__law_outcome T.k__law_outcome (by have h := c.def_ 18; exact h) (fun _ _ _ _ _ _ us hl => match us, hl with | [_], _ => rfl) sc__law_outcome rfl (Or.inl rfl) (fun cdv => gv__law_outcome T (hr.mono (by decide)) cdv) T.l_law hcv rfl (hr.mono (by decide)) (show LamX.LamS (defScope (top 27)) _ from LamX.lamS_by (by decide +kernel)) rfl (fun _ _ _ _ _ => rfl)
 (fun A outer s H E f co hr => (je_call (p_read_face c T) (hr.mono (by decide)) (takes_of rfl rfl rfl rfl) rfl T.g_read_face T.k_read_face (ja_cons (je_v 10) ja_nil)))) ja_nil)))
 (js_cons (js_expr (je_bm PySem.F.plainAttrs_list PySem.F.slot_list_append PySem.F.type_list_append (mt_append) pm_append (je_v 11) (ja_cons (je_lamF (k := 22) (q := lq_law) (Ng := N__law_outcome) (a := "_law_deed") (sg := defScope (top 25)) (xm_ok T) (hm__law_outcome T) rfl T.g__law_outcome T.k__law_outcome (by have h := c.def_ 18; exact h) (fun _ _ _ _ _ _ us hl => match us, hl with | [_], _ => rfl) sc__law_outcome rfl (Or.inl rfl) (fun cdv => gv__law_outcome T (hr.mono (by decide)) cdv) T.l_law hcv rfl (hr.mono (by decide)) (show LamX.LamS (defScope (top 27)) _ from LamX.lamS_by (by decide +kernel)) rfl (fun _ _ _ _ _ => rfl)
 (fun A outer s H E f co hr => (je_call (p_read_line c T) (hr.mono (by decide)) (takes_of rfl rfl rfl rfl) rfl T.g_read_line T.k_read_line (ja_cons (je_v 10) ja_nil)))) ja_nil)))
 (js_one (js_if (jt_cmp (op_nes (hu64 hr.units)) pr_ne (je_cb (call_reprD hr.gd (hu66 hr.units)) pn_repr rfl T.n_repr boot_repr (ja_cons (je_v 11) ja_nil)) (je_cb (call_reprD hr.gd (hu66 hr.units)) pn_repr rfl T.n_repr boot_repr (ja_cons (je_v 12) ja_nil)) (nomark _)) (js_one (js_ret je_bl)) js_nil)))))))))))))
 (js_one (js_for (passes_of rfl) rfl (ji_sq (je_lst (ja_cons je_non (ja_cons je_int (ja_cons je_bl (ja_cons (je_tup (ja_cons je_str ja_nil)) (ja_cons (je_lst (ja_cons je_str ja_nil)) (ja_cons (je_tup ja_nil) (ja_cons (je_op op_pow pr_pow je_int je_int) ja_nil))))))))) (pg_name (i := 5) sc_law.nd rfl (by first | exact Or.inl rfl | exact Or.inr rfl)) gq_n (js_cons (js_set (i := 11) sc_law.nd rfl (Or.inl rfl) (je_lst (ja_cons (je_lamF (k := 22) (q := lq_law) (Ng := N__law_outcome) (a := "_law_deed") (sg := defScope (top 25)) (xm_ok T) (hm__law_outcome T) rfl T.g__law_outcome T.k__law_outcome (by have h := c.def_ 18; exact h) (fun _ _ _ _ _ _ us hl => match us, hl with | [_], _ => rfl) sc__law_outcome rfl (Or.inl rfl) (fun cdv => gv__law_outcome T (hr.mono (by decide)) cdv) T.l_law hcv rfl (hr.mono (by decide)) (show LamX.LamS (defScope (top 27)) _ from LamX.lamS_by (by decide +kernel)) rfl (fun _ _ _ _ _ => rfl)
 (fun A outer s H E f co hr => (je_call (p_read_face c T) (hr.mono (by decide)) (takes_of rfl rfl rfl rfl) rfl T.g_read_face T.k_read_face (ja_cons (je_v 5) ja_nil)))) ja_nil)))
 (js_cons (js_expr (je_bm PySem.F.plainAttrs_list PySem.F.slot_list_append PySem.F.type_list_append (mt_append) pm_append (je_v 11) (ja_cons (je_lamF (k := 22) (q := lq_law) (Ng := N__law_outcome) (a := "_law_deed") (sg := defScope (top 25)) (xm_ok T) (hm__law_outcome T) rfl T.g__law_outcome T.k__law_outcome (by have h := c.def_ 18; exact h) (fun _ _ _ _ _ _ us hl => match us, hl with | [_], _ => rfl) sc__law_outcome rfl (Or.inl rfl) (fun cdv => gv__law_outcome T (hr.mono (by decide)) cdv) T.l_law hcv rfl (hr.mono (by decide)) (show LamX.LamS (defScope (top 27)) _ from LamX.lamS_by (by decide +kernel)) rfl (fun _ _ _ _ _ => rfl)
 (fun A outer s H E f co hr => (je_call (p_read_line c T) (hr.mono (by decide)) (takes_of rfl rfl rfl rfl) rfl T.g_read_line T.k_read_line (ja_cons (je_v 5) ja_nil)))) ja_nil)))
 (js_one (js_if (jt_cmp (op_nes (hu64 hr.units)) pr_ne (je_v 11) (je_op op_muls pr_mul2 (je_lst (ja_cons (je_lst (ja_cons je_str (ja_cons je_str (ja_cons je_bl ja_nil)))) ja_nil)) je_int) (nomark _)) (js_one (js_ret je_bl)) js_nil)))))))))
 (js_one (js_ret je_bl))))))
theorem p_law (c : SaysZ ck fn K) (T : Txt K mg base) : FS Row.prog Row.w K mg base 25 (He.ga K "law") m_law := by
  obtain ⟨fd, F⟩ := c.def_ 16
  exact fs_pos F sc_law (b_law c T) (fun _ _ _ _ _ _ us hl => match us, hl with | [_], _ => rfl)
end
end RowS
set_option maxHeartbeats 0
end Z
open PySem PySem.W PySem.Calls PyProof.Rows
theorem PySem.Challenge.cw_lineoflibraries_k77_texts_of_faces_and_l_holds : PySem.Challenge.rw_lineoflibraries_k77_texts_of_faces_and_l.Holds := by
  w_on; o_law
  refine HandSHeadRun.head_any (r := OpenLaw.row PySem.Challenge.rw_lineoflibraries_k77_texts_of_faces_and_l) (q := view (OpenLaw.row PySem.Challenge.rw_lineoflibraries_k77_texts_of_faces_and_l).prog [27]) (H := Z.hk) (ob := Z.ob) (M := 60000) (loose := Z.names) (d := HandSHeadRun.topDef (OpenLaw.row PySem.Challenge.rw_lineoflibraries_k77_texts_of_faces_and_l).prog 27) (kwd := []) Z.ob_eq
    (by kernel_rfl) (fun s => by kernel_rfl) Z.run (by kernel_rfl) (by kernel_rfl) (by kernel_rfl) (by rfl) (by first | assumption | decide +kernel) (by decide +kernel) ⟨rfl, rfl, rfl, rfl, rfl, by decide +kernel⟩ ?hw ?hc
  case hw => w_witness2
  case hc =>
    refine Z.walk_lawT (N := 6) (ls := Z.lls) (chk := Z.ck) (fn := Z.fn) (l := PySem.Challenge.rw_lineoflibraries_k77_texts_of_faces_and_l) (n := 63) (k := 25) rfl (by decide) (by kernel_rfl) ⟨rfl, by decide, by decide⟩ ?F
    intro w mg fa h K ts KX c G hmg0
    letI : Z.Row := Z.rowT (PySem.Challenge.rw_lineoflibraries_k77_texts_of_faces_and_l).prog w ts
    have hmg : mg ("law" : PySem.Str) = some (.ref fa) := by
      have e : (HandSHeadRun.topDef (OpenLaw.row PySem.Challenge.rw_lineoflibraries_k77_texts_of_faces_and_l).prog 27).name = ("law" : PySem.Str) := by kernel_rfl
      rw [← e]
      exact hmg0
    have e := hmg.symm.trans (He.glo_ok KX G (Z.chk_fa (Z.ck_ok c.ok_).1 (f := .glo "law") 32))
    cases e
    exact ⟨Z.m_law, Z.plain_law, fun base _ _ L => @Z.p_law (Z.rowT _ w ts) K mg base c (Z.txt KX G c.ok_ L)⟩

