import PyProof.Rows.All
import Wide.All
import OpenK.AllK
import Wide.FinOn
import HandS.Defaults
import HandS.Head0
import HandS.Head1
import HandS.Head2
import HandS.HeadHook1
import HandS.HeadHook2
import HandS.HeadHook3
import KE.KxBytes
import KE.KIsBytes
import KE.KIsAll
import PyProof.IsiBase
import PyProof.ReprUnder
import PyProof.FactsAll.set
import PyProof.IsiH_set
import HandS.More
import HandS.Bytes
import KE.KBytesCut
import HandS.ForMost
import HandS.Zip
import HandS.Rev
import KE.GoesEnum
import KE.KDictZip
import PyProof.ZipIter
import HandS.Zip0
import HandS.SetFor
import HandS.TupMul
import HandS.TupLe
import HandS.Style
import HandS.NoneIn
import HandS.WideBits
import HandS.Iter
import KE.GoesMore
import KE.GoesZip
import PyProof.StrBlock2
import KE.KeyNested
import PyProof.Rows.TupTab
import HandS.TupAny
import HandS.IsInst
import HandS.SortInts
import HandS.Flow
import HandS.Conv
import HandS.Deep
import KE.SortData
import HandS.Text
import HandS.Wide
import HandS.Lambda
import KE.KTupSum
import KE.DataMinMax
import KE.GoesEnumKw
import HandS.Words
import PyProof.InstNe
import PyProof.Rows.Range3
import HandS.RaiseMore
import HandS.Dict
import HandS.Star
import PyProof.CollectIter
import PyProof.WalksMore
import HandS.SlotsOwn
import PyProof.ListNew
import HandS.FStr
import HandS.Exc
import HandS.ExcOwn
import HandS.ExcField
import PyProof.ExcBaseAll.ValueError
import PyProof.ExcBaseAll.LookupError
import PyProof.ExcBaseAll.ArithmeticError
import HandS.TryOnly
import HandS.ExcIs
import KE.KTryMore
import HandS.HotCalls
import HandS.ExcInit
import PyProof.Conv_bool
import HandS.OwnEq
import HandS.DictEq
import HandS.SortKw
import KE.KDictPairs
import KE.KDictDisplayH
import PyProof.Rows.ReprOcc
import PySem.Challenge.RW_bandlinks_k06_equality_and_text
set_option Elab.async false
set_option linter.all false
set_option maxRecDepth 100000
set_option maxHeartbeats 4000000
section
set_option autoImplicit false
namespace DL
open PySem PySem.Spec PyProof.Rows L2
/-- the program's errors: their names, their fields -/
def xName : Nat → Str
  | 0 => "InvalidLevels" | 1 => "InvalidLevel" | 2 => "InvalidLog" | 3 => "InvalidTimes" | 4 => "InvalidText" | 5 => "InvalidRack" | 6 => "InvalidCounts" | 7 => "InvalidBand" | 8 => "InvalidLinks"
  | 9 => "InvalidBytes" | 10 => "InvalidNumber" | 11 => "InvalidGrowth" | 12 => "InvalidPairs" | 13 => "InvalidIndex" | 14 => "InvalidAction" | 15 => "InvalidLine" | 16 => "NotALog" | 17 => "NotLinks"
  | 18 => "LevelsDiffer" | 19 => "Busy" | 20 => "NothingToUndo" | 21 => "TooLong" | 22 => "TooManyParts" | 23 => "TooDeep" | 24 => "TooLarge" | _ => "TooManyEntries"
def xFlds : Nat → List Str
  | 0 => ["levels"] | 1 => ["level"] | 2 => ["index"] | 3 => ["times"] | 4 => ["text"] | 5 => ["value"] | 6 => ["index"] | 7 => ["low", "high"] | 8 => ["index"]
  | 9 => ["data"] | 10 => ["number"] | 11 => ["index"] | 12 => ["index"] | 13 => ["index"] | 14 => ["index"] | 15 => ["line"] | 16 => ["value"] | 17 => ["value"]
  | 18 => ["levels"] | 19 => [] | 20 => [] | 21 => ["found"] | 22 => ["found"] | 23 => ["found"] | 24 => ["levels"] | _ => ["found"]
/-- facts beside those of the library's hook -/
inductive Fb where
  | isi (x : Str) | ne (x : Str) | unit (f : Str × Option Str) (i : Nat) | ali (x y : Str)
  /-- an error's class x with the field f over the base b; what its instances are asked; its kinship -/
  | err (x f : Str) (b : Nat) | exi (x : Str) | kit (x y : Str) (b : Bool) | kitB (x : Str) (t : String) (b : Bool)
  /-- the c-th error's kinship with all; the errors' names -/
  | kin (c : Nat) | nms
  /-- an error's class without own __init__ -/
  | err0 (x : Str) (b : Nat)
  /-- a def as a value -/
  | fnt (f : Str × Option Str)
def exT : Nat → List Value
  | 0 => [.type "ValueError", .type "Exception", .type "BaseException", .type "object"]
  | 1 => [.type "LookupError", .type "Exception", .type "BaseException", .type "object"]
  | _ => [.type "ArithmeticError", .type "Exception", .type "BaseException", .type "object"]
def exN : Nat → String
  | 0 => "ValueError.__new__" | 1 => "LookupError.__new__" | _ => "ArithmeticError.__new__"
def mroB (T : List Value) : List Value → Bool
  | .ref _ :: r => mroB T r
  | l => l == T
def errB (K : PySem.W.Frag) (C : Addr) (T : List Value) (newId : String) : Bool := match K.lookup C with
  | some ⟨.type "type", _, .cls cd, sl⟩ => (match cd.mro, sl.toList with
    | .ref C' :: bm, [_, _, _, _, some (.builtin n), _] => C' == C && n == newId && !cd.hasDel && cd.hasDict && mroB T bm
    | _, _ => false)
  | _ => false
def unitB (K : PySem.W.Frag) (a : Addr) : Bool := match K.lookup a with
  | some ⟨.type c, _, .seq its _, _⟩ => decide (c = "tuple") && decide (its.size = 0)
  | _ => false
def Fb.ok (K : PySem.W.Frag) : Fb → Bool
  | .isi x => He.eqO (PySem.W.findIn K (.ref (He.ga K x)) "__class__") (some (some (.builtin "object.__class__"))) && (decide (PySem.W.specialIn K (.builtin "object.__class__") "__get__" = some (some (.builtin "getset_descriptor.__get__"))) &&
      (decide (PySem.W.takesIn K (.builtin "object.__class__") = some true) && (decide (PySem.W.mroIn K (He.ga K x) (.type "object") = some true) && (["NoneType", "bool", "int", "str", "tuple", "list", "dict", "function", "bytes"] : List String).all fun t => decide (PySem.W.kitOne K (.type t) (.ref (He.ga K x)) = some false))))
  | .ne x => He.eqO (PySem.W.findIn K (.ref (He.ga K x)) "__ne__") (some (some (.builtin "object.__ne__"))) && decide (PySem.W.mroIn K (He.ga K x) (.type "object") = some true)
  | .unit f i => unitB K (He.dflAt f i K)
  | .ali x y => He.eqO (PySem.W.nsIn K mainGlobals x) (some (some (.ref (He.ga K y))))
  | .err x f b => He.eqO (PySem.W.nsIn K mainGlobals x) (some (some (.ref (He.ga K x)))) && (errB K (He.ga K x) (exT b) (exN b) && (He.eqO (PySem.W.findIn K (.ref (He.ga K x)) "__setattr__") (some (some (.builtin "object.__setattr__"))) && (He.eqO (PySem.W.findIn K (.ref (He.ga K x)) f) (some none) &&
      (He.eqO (PySem.W.findIn K (.ref (He.ga K x)) "__init__") (some (some (.ref (He.fAd K (x, some "__init__"))))) && (decide (PySem.W.typeIn K (.ref (He.fAd K (x, some "__init__"))) = some (.type "function")) && (PySem.W.keepIn K (.ref (He.ga K x)) && (decide (PySem.W.subIn K (.ref (He.ga K x)) (.type "BaseException") = some true) &&
        (decide (PySem.W.typeIn K (.ref (He.ga K x)) = some (.type "type")) && decide (PySem.W.exmOne K (.ref (He.ga K x)) (.ref (He.ga K x)) = some true)))))))))
  | .exi x => He.eqO (PySem.W.findIn K (.ref (He.ga K x)) "__getattribute__") (some (some (.builtin "BaseException.__getattribute__"))) && (He.eqO (PySem.W.findIn K (.ref (He.ga K x)) "__getattr__") (some none) && (decide (PySem.W.subIn K (.ref (He.ga K x)) (.type "BaseException") = some true) && (PySem.W.hasDictIn K (He.ga K x) &&
      (He.eqO (PySem.W.findIn K (.ref (He.ga K x)) "__class__") (some (some (.builtin "object.__class__"))) && (decide (PySem.W.specialIn K (.builtin "object.__class__") "__get__" = some (some (.builtin "getset_descriptor.__get__"))) &&
        (decide (PySem.W.takesIn K (.builtin "object.__class__") = some true) && decide (PySem.W.mroIn K (He.ga K x) (.type "object") = some true)))))))
  | .kit x y b => decide (PySem.W.kitOne K (.ref (He.ga K x)) (.ref (He.ga K y)) = some b)
  | .kitB x t b => decide (PySem.W.kitOne K (.ref (He.ga K x)) (.type t) = some b)
  | .kin c => ((List.range 26).all fun j => decide (PySem.W.kitOne K (.ref (He.ga K (xName c))) (.ref (He.ga K (xName j))) = some (j == c))) && (decide (PySem.W.exmAny K (.ref (He.ga K (xName c))) [.ref (He.ga K "BandError"), .ref (He.ga K "StateError"), .ref (He.ga K "SizeError")] = some true) &&
      (((xFlds c).all fun f => He.eqO (PySem.W.findIn K (.ref (He.ga K (xName c))) f) (some none)) && (decide (PySem.W.kitOne K (.ref (He.ga K (xName c))) (.ref (He.ga K "BandError")) = some (decide (c < 18))) && (decide (PySem.W.kitOne K (.ref (He.ga K (xName c))) (.ref (He.ga K "StateError")) = some (decide (17 < c) && decide (c < 21))) &&
        (decide (PySem.W.kitOne K (.ref (He.ga K (xName c))) (.ref (He.ga K "SizeError")) = some (decide (20 < c))) && (decide (PySem.W.kitOne K (.ref (He.ga K (xName c))) (.type "ValueError") = some (decide (c < 18))) && (decide (PySem.W.kitOne K (.ref (He.ga K (xName c))) (.type "LookupError") = some (decide (17 < c) && decide (c < 21))) &&
          (decide (PySem.W.kitOne K (.ref (He.ga K (xName c))) (.type "ArithmeticError") = some (decide (20 < c))) && He.eqO (PySem.W.nsIn K mainGlobals (xName c)) (some (some (.ref (He.ga K (xName c)))))))))))))
  | .nms => (List.range 26).all fun j => He.eqO (PySem.W.nsIn K mainGlobals (xName j)) (some (some (.ref (He.ga K (xName j)))))
  | .err0 x b => He.eqO (PySem.W.nsIn K mainGlobals x) (some (some (.ref (He.ga K x)))) && (PySem.W.excIn K (He.ga K x) (exT b) (exN b) && (PySem.W.keepIn K (.ref (He.ga K x)) && (decide (PySem.W.subIn K (.ref (He.ga K x)) (.type "BaseException") = some true) &&
      (decide (PySem.W.typeIn K (.ref (He.ga K x)) = some (.type "type")) && decide (PySem.W.exmOne K (.ref (He.ga K x)) (.ref (He.ga K x)) = some true)))))
  | .fnt f => decide (PySem.W.typeIn K (.ref (He.fAd K f)) = some (.type "function"))
def obsX (fa : List He.Fa) (fb : List Fb) (fn : List He.DefD) (K : PySem.W.Frag) : He.AlD := ((fb.all fun f => f.ok K) && ((fa.all fun f => f.ok K) && fn.all fun d => d.ok K), fn.map fun d => He.fnW K d.at_)
def SaysX (fa : List He.Fa) (fb : List Fb) (fn : List He.DefD) (K : PySem.W.Frag) : Prop := obsX fa fb fn K = He.valD fn
/-- the code object of the def at f -/
def CdK (K : PySem.W.Frag) (f c : Addr) : Prop := ∃ (oc : Value) (od : Option Addr) (F : FuncData) (sl : Array (Option Value)), K.lookup f = some ⟨oc, od, .func F, sl⟩ ∧ F.code = .ref c
/-- the empty table at P of the code object of the def d -/
def TabOf (K : PySem.W.Frag) (h : Heap) (p : (Str × Option Str) × Addr) : Prop := K.lookup p.2 = none ∧ h.get? p.2 = some (PySem.W.tabObj #[]) ∧ ∃ c, CdK K (He.fAd K p.1) c ∧ PySem.W.codeHdIn K c p.2 = true
def isTabB : Option Obj → Bool
  | some ⟨.none, none, .fields v, sl⟩ => v.size == 0 && sl.size == 0
  | _ => false
def tabB (K : PySem.W.Frag) (g : Addr → Option Obj) (p : (Str × Option Str) × Addr) : Bool := (K.lookup p.2).isNone && (isTabB (g p.2) && match K.lookup (He.fAd K p.1) with
  | some ⟨_, _, .func F, _⟩ => (match F.code with | .ref c => PySem.W.codeHdIn K c p.2 | _ => false)
  | _ => false)
theorem tabB_ok {K : PySem.W.Frag} {h : Heap} {p : (Str × Option Str) × Addr} (e : tabB K h.get? p = true) : TabOf K h p := by
  obtain ⟨e1, e⟩ := He.ba e
  obtain ⟨e2, e3⟩ := He.ba e
  have e0 : K.lookup p.2 = none := by
    cases q : K.lookup p.2 with
    | none => rfl
    | some o => rw [q] at e1; cases e1
  refine ⟨e0, ?_, ?_⟩
  · generalize h.get? p.2 = o at e2
    unfold isTabB at e2
    split at e2
    · obtain ⟨z1, z2⟩ := He.ba e2
      rename_i v sl
      have z1 : v = #[] := Array.eq_empty_of_size_eq_zero (by simpa using z1)
      have z2 : sl = #[] := Array.eq_empty_of_size_eq_zero (by simpa using z2)
      subst z1 z2
      rfl
    · cases e2
  · split at e3
    · rename_i oc od F sl q
      split at e3
      · rename_i c q2
        exact ⟨c, ⟨oc, od, F, sl, q, q2⟩, e3⟩
      · cases e3
    · cases e3
def obsXG (as : List Addr) (fa : List He.Fa) (fb : List Fb) (fn : List He.DefD) (cs : List ((Str × Option Str) × Addr)) (g : Addr → Option Obj) : He.AlD := ((cs.all fun p => tabB (He.frG g as) g p) && (obsX fa fb fn (He.frG g as)).1, (obsX fa fb fn (He.frG g as)).2)
def hookX (as : List Addr) (fa : List He.Fa) (fb : List Fb) (fn : List He.DefD) (cs : List ((Str × Option Str) × Addr)) : PySem.W.Hook where
  α := He.AlD
  obs := fun s => obsXG as fa fb fn cs s.heap.get?
  val := fun _ => He.valD fn
  says := fun _ h => ∃ K : PySem.W.Frag, K.In h ∧ SaysX fa fb fn K ∧ ∀ p ∈ cs, TabOf K h p
  of := fun _ s e => by
    obtain ⟨z1, z2⟩ := He.ba (show ((cs.all fun p => tabB (He.frG s.heap.get? as) s.heap.get? p) && (obsX fa fb fn (He.frG s.heap.get? as)).1) = true from congrArg (fun z : He.AlD => z.1) e)
    have z3 : (obsX fa fb fn (He.frG s.heap.get? as)).2 = (He.valD fn).2 := by
      have e2 := congrArg (fun z : He.AlD => z.2) e
      exact e2
    exact ⟨_, He.frG_in, Prod.ext z2 z3, fun p hp => tabB_ok (List.all_eq_true.mp z1 p hp)⟩
  keeps := fun _ _ _ ⟨K, hK, c, t⟩ k => ⟨K, PySem.W.Frag.In.keeps hK k, c, fun p hp => ⟨(t p hp).1, k _ _ (t p hp).2.1, (t p hp).2.2⟩⟩
theorem obsXG_eq {as : List Addr} {fa : List He.Fa} {fb : List Fb} {fn : List He.DefD} {cs : List ((Str × Option Str) × Addr)} {g : Addr → Option Obj} {s : Shared} (h : ∀ a, g a = s.heap.get? a) : obsXG as fa fb fn cs g = (hookX as fa fb fn cs).obs s := by
  have e : g = s.heap.get? := funext h
  rw [e] <;> rfl
end DL
end
namespace Q_bandlinks_k06_equality_and_text
open PySem PySem.Spec PyProof.Rows L2 DL
def top (i : Nat) : Stmt := PySem.Challenge.pw_bandlinks_k06_equality_and_text.main.body.getD i (.Pass ⟨0, 0, 0, 0⟩)
abbrev st0 : Stmt := top 36
abbrev st1 : Stmt := top 33
abbrev st2 : Stmt := inClass (top 22) 0
abbrev st3 : Stmt := inClass (top 22) 2
abbrev st4 : Stmt := top 35
abbrev st5 : Stmt := top 26
abbrev st6 : Stmt := top 25
abbrev st7 : Stmt := top 32
abbrev st8 : Stmt := inClass (top 22) 3
abbrev st9 : Stmt := top 12
abbrev st10 : Stmt := top 17
abbrev st11 : Stmt := top 20
abbrev st12 : Stmt := top 28
abbrev st13 : Stmt := top 31
abbrev st14 : Stmt := top 27
abbrev st15 : Stmt := top 34
abbrev st16 : Stmt := top 23
abbrev st17 : Stmt := inClass (top 22) 1
abbrev st18 : Stmt := top 11
abbrev st19 : Stmt := top 15
abbrev st20 : Stmt := top 30
abbrev st21 : Stmt := top 29
abbrev st22 : Stmt := top 10
abbrev st23 : Stmt := top 13
abbrev st24 : Stmt := top 16
abbrev rowR : PySem.W.OpenRow := PySem.W.OpenLaw.row PySem.Challenge.rw_bandlinks_k06_equality_and_text
abbrev viewQ : Program := PySem.W.view rowR.prog [36]
def looseN : List PySem.Str := (["_wall", "BandError", "InvalidLevels", "InvalidLog", "MAX_LEVELS", "MAX_TIMES", "MAX_PARTS", "MAX_DEPTH", "is_whole", "is_between", "is_level_count", "is_level", "measure_part", "measure", "first_invalid", "NOTHING", "parts_text", "Log", "is_log", "_law_cell", "_law_pool", "_law_draw", "_law_levels", "_law_times", "_law_size", "_law_parts", "_law_text", "_law_shown_right", "_law_changed", "_law_right"] : List PySem.Str)
def hd0 : He.DefD := ⟨("law", none), "law", "law", defArgs st0, defBody st0, defScope st0, [], []⟩
def hd1 : He.DefD := ⟨("_law_shown_right", none), "_law_shown_right", "_law_shown_right", defArgs st1, defBody st1, defScope st1, [], []⟩
def hd2 : He.DefD := ⟨("Log", some "__init__"), "__init__", "Log.__init__", defArgs st2, defBody st2, defScope st2, [.adr (He.dflAt ("Log", some "__init__") 0)], []⟩
def hd3 : He.DefD := ⟨("Log", some "__str__"), "__str__", "Log.__str__", defArgs st3, defBody st3, defScope st3, [], []⟩
def hd4 : He.DefD := ⟨("_law_right", none), "_law_right", "_law_right", defArgs st4, defBody st4, defScope st4, [], []⟩
def hd5 : He.DefD := ⟨("_law_pool", none), "_law_pool", "_law_pool", defArgs st5, defBody st5, defScope st5, [], []⟩
def hd6 : He.DefD := ⟨("_law_cell", none), "_law_cell", "_law_cell", defArgs st6, defBody st6, defScope st6, [], []⟩
def hd7 : He.DefD := ⟨("_law_text", none), "_law_text", "_law_text", defArgs st7, defBody st7, defScope st7, [], []⟩
def hd8 : He.DefD := ⟨("Log", some "__repr__"), "__repr__", "Log.__repr__", defArgs st8, defBody st8, defScope st8, [], []⟩
def hd9 : He.DefD := ⟨("is_level_count", none), "is_level_count", "is_level_count", defArgs st9, defBody st9, defScope st9, [], []⟩
def hd10 : He.DefD := ⟨("first_invalid", none), "first_invalid", "first_invalid", defArgs st10, defBody st10, defScope st10, [], []⟩
def hd11 : He.DefD := ⟨("parts_text", none), "parts_text", "parts_text", defArgs st11, defBody st11, defScope st11, [], []⟩
def hd12 : He.DefD := ⟨("_law_levels", none), "_law_levels", "_law_levels", defArgs st12, defBody st12, defScope st12, [], []⟩
def hd13 : He.DefD := ⟨("_law_parts", none), "_law_parts", "_law_parts", defArgs st13, defBody st13, defScope st13, [], []⟩
def hd14 : He.DefD := ⟨("_law_draw", none), "_law_draw", "_law_draw", defArgs st14, defBody st14, defScope st14, [], []⟩
def hd15 : He.DefD := ⟨("_law_changed", none), "_law_changed", "_law_changed", defArgs st15, defBody st15, defScope st15, [], []⟩
def hd16 : He.DefD := ⟨("is_log", none), "is_log", "is_log", defArgs st16, defBody st16, defScope st16, [], []⟩
def hd17 : He.DefD := ⟨("Log", some "__eq__"), "__eq__", "Log.__eq__", defArgs st17, defBody st17, defScope st17, [], []⟩
def hd18 : He.DefD := ⟨("is_between", none), "is_between", "is_between", defArgs st18, defBody st18, defScope st18, [], []⟩
def hd19 : He.DefD := ⟨("measure_part", none), "measure_part", "measure_part", defArgs st19, defBody st19, defScope st19, [], []⟩
def hd20 : He.DefD := ⟨("_law_size", none), "_law_size", "_law_size", defArgs st20, defBody st20, defScope st20, [], []⟩
def hd21 : He.DefD := ⟨("_law_times", none), "_law_times", "_law_times", defArgs st21, defBody st21, defScope st21, [], []⟩
def hd22 : He.DefD := ⟨("is_whole", none), "is_whole", "is_whole", defArgs st22, defBody st22, defScope st22, [], []⟩
def hd23 : He.DefD := ⟨("is_level", none), "is_level", "is_level", defArgs st23, defBody st23, defScope st23, [], []⟩
def hd24 : He.DefD := ⟨("measure", none), "measure", "measure", defArgs st24, defBody st24, defScope st24, [], []⟩
def fnL : List He.DefD := ([hd0, hd1, hd2, hd3, hd4, hd5, hd6, hd7, hd8, hd9, hd10, hd11, hd12, hd13, hd14, hd15, hd16, hd17, hd18, hd19, hd20, hd21, hd22, hd23, hd24] : List He.DefD)
def faL : List He.Fa := ([.glo "law", .glo "_law_shown_right", .meth "Log" "__str__", .glo "_law_right", .glo "_law_pool", .glo "_law_cell", .glo "_law_text", .meth "Log" "__repr__", .glo "is_level_count", .glo "first_invalid", .glo "parts_text", .glo "_law_levels", .glo "_law_parts", .glo "_law_draw", .glo "_law_changed", .glo "is_log", .meth "Log" "__eq__", .glo "is_between", .glo "measure_part", .glo "_law_size", .glo "_law_times", .glo "is_whole", .glo "is_level", .glo "measure", .noat "Log" "levels", .noat "Log" "parts", .glo "Log", .cls "Log", .mkr "Log", .free "abs"] : List He.Fa) ++ ([.free "all", .free "bool", .free "divmod", .free "enumerate", .free "int", .free "isinstance", .free "len", .free "max", .free "min", .free "range", .free "repr", .free "str", .free "sum", .free "tuple", .int "MAX_LEVELS" 12, .int "MAX_DEPTH" 5, .int "MAX_PARTS" 120, .int "MAX_TIMES" 1000000000000000000000000000000, .str "NOTHING" "-"] : List He.Fa)
def fbL : List Fb := ([.unit ("Log", some "__init__") 0, .isi "Log", .ne "Log", .fnt ("is_log", none)] : List Fb)
def csL : List ((Str × Option Str) × Addr) := []
def asL : List PySem.Addr := ([3, 79, 86, 93, 100, 107, 114, 121, 128, 238, 249, 256, 263, 270, 277, 284, 289, 296, 303, 310, 317, 324, 329, 78, 85, 92, 99, 106, 113, 120, 127, 237, 248, 255, 262, 269, 276, 283, 288, 295] : List PySem.Addr) ++ ([302, 309, 316, 323, 328, 144, 151, 158, 165, 143, 137, 150, 157, 164, 136] : List PySem.Addr)
abbrev hookR : PySem.W.Hook := hookX asL faL fbL fnL csL
def obR (s : PySem.W.SharedT) : He.AlD := obsXG asL faL fbL fnL csL (HandSHeadRun.getT s)
theorem ob_eq (s : PySem.W.SharedT) : obR s = hookR.obs s.abs := obsXG_eq (HandSHeadRun.getT_eq s)
set_option maxHeartbeats 0 in
theorem runR (w : World) : HandSHeadRun.RunEq rowR viewQ hookR obR 20000 looseN w := by
  intro os
  kernel_rfl
end Q_bandlinks_k06_equality_and_text
section
set_option autoImplicit false
namespace DLo
open PySem PySem.W Builtin PyProof.Rows
open Sem (wp)
namespace F
theorem slot_fn_ga : Slot "function" "__getattribute__" "object.__getattribute__" :=
  .of (owner := "object") (n := "__getattribute__") (by rw [typeLookup_type, builtinLookup_eq_fast]; kernel_rfl) (by decide +kernel) (by decide +kernel) (by decide +kernel)
    (by first | exact .inl (by decide +kernel) | exact .inr (by decide +kernel)) (by rw [isSubtype_type]; kernel_rfl)
theorem entry_ga : entryFor table "object.__getattribute__" = some Builtin.«object.__getattribute__» := entryFor_of_tree (by kernel_rfl)
theorem args_ga (a b : Value) : argsOk "object.__getattribute__" ⟨[a, b], []⟩ := by first | exact PySem.F.args_object_getattribute_2 a b | (unfold argsOk; kernel_rfl)
theorem lk_fn_class : typeLookup (.type "function") "__class__" = pure (some (.builtin "object.__class__")) := by rw [typeLookup_type, builtinLookup_eq_fast]; kernel_rfl
theorem sub_fn_class_owner : isSubtype (.type "function") (.type (".".intercalate ("object.__class__".cutAt '.').dropLast)) = pure true := by
  rw [PySem.F.owner_object_class, isSubtype_type]; kernel_rfl
end F
section
variable {prog : Program} {w : World} {A : Around} {E : Value → Shared → Prop} {h : Heap} {g : Array GenState} {d : Drawn} {t : Nat} {os : OsState} {a : Addr} {o : Obj}
theorem class_get_fn {R : Result → Shared → Prop} (hx : h.get? a = some o) (hc : o.cls = .type "function") (hq : R (.ok (.ret (.type "function"))) ⟨h, g, d, t, os⟩) :
    codeAny (model prog w) A (.call (.builtin "getset_descriptor.__get__") ⟨[.builtin "object.__class__", .ref a, .type "function"], []⟩) R ⟨h, g, d, t, os⟩ := by
  have hT : (⟨h, g, d, t, os⟩ : Shared).TypeIs (.ref a) "function" := ⟨_, hx, hc⟩
  have hT5 : (⟨h, g, d, t, os⟩ : Shared).TypeIs (.builtin "object.__class__") "getset_descriptor" := PySem.F.typeOf_object_class
  have f8 := F.sub_fn_class_owner
  refine codeAny_call_builtin PySem.F.slot_gs_get.plain PySem.F.entry_gs_get (PySem.F.slot_gs_get.check _ _ _ _ _ _ _ _ hT5 (PySem.F.args_gs_get _ _ _) ?_)
  repeat (any_goals (first | assumption | wp_step))
  refine ⟨Code.quiet_builtin _ (by decide +kernel), codeAny_builtin PySem.F.entry_object_class ?_⟩
  repeat (any_goals (first | assumption | wp_step))
theorem class_entry_fn {tk : Tok} {Q : Fin → Shared → Prop} (hx : h.get? a = some o) (hc : o.cls = .type "function") (hq : Q (.done (.ret (.type "function"))) ⟨h, g, d, t, os⟩) :
    wpAny (model prog w) A (Builtin.«object.__getattribute__» ⟨[.ref a, .str "__class__" tk], []⟩) Q E ⟨h, g, d, t, os⟩ := by
  have hT : (⟨h, g, d, t, os⟩ : Shared).TypeIs (.ref a) "function" := ⟨_, hx, hc⟩
  have hT5 : (⟨h, g, d, t, os⟩ : Shared).TypeIs (.builtin "object.__class__") "getset_descriptor" := PySem.F.typeOf_object_class
  have f4 := F.lk_fn_class
  have f5 := PySem.F.typeOf_object_class
  have f6 := PySem.F.slot_gs_get.lookup
  have f7 := PySem.F.slot_gs_set.lookup
  repeat (any_goals (first | assumption | wp_step))
  refine class_get_fn hx hc ?_
  repeat (any_goals (first | assumption | wp_step))
theorem class_call_fn {tk : Tok} {R : Result → Shared → Prop} (hx : h.get? a = some o) (hc : o.cls = .type "function") (hq : R (.ok (.ret (.type "function"))) ⟨h, g, d, t, os⟩) :
    codeAny (model prog w) A (.call (.builtin "object.__getattribute__") ⟨[.ref a, .str "__class__" tk], []⟩) R ⟨h, g, d, t, os⟩ :=
  codeAny_call_builtin F.slot_fn_ga.plain F.entry_ga (F.slot_fn_ga.check _ _ _ _ _ _ _ _ (show (⟨h, g, d, t, os⟩ : Shared).TypeIs (.ref a) "function" from ⟨_, hx, hc⟩) (F.args_ga _ _) (class_entry_fn hx hc hq))
theorem class_by_fn {tk : Tok} {Q : Value → Shared → Prop} (hx : h.get? a = some o) (hc : o.cls = .type "function") (hq : Q (.type "function") ⟨h, g, d, t, os⟩) : wpAny (model prog w) A (getAttrBy (.ref a) (.str "__class__" tk) false) Q E ⟨h, g, d, t, os⟩ := by
  have hT : (⟨h, g, d, t, os⟩ : Shared).TypeIs (.ref a) "function" := ⟨_, hx, hc⟩
  have f2 := F.slot_fn_ga.lookup
  have f3 := F.slot_fn_ga.bind (.ref a)
  repeat (any_goals (first | assumption | wp_step))
  refine class_call_fn hx hc ?_
  repeat (any_goals (first | assumption | wp_step))
theorem class_attr_fn {Q : Option Value → Shared → Prop} (hx : h.get? a = some o) (hc : o.cls = .type "function") (hq : Q (some (.type "function")) ⟨h, g, d, t + 1, os⟩) : wpAny (model prog w) A (getAttr? (.ref a) "__class__") Q E ⟨h, g, d, t, os⟩ := by
  unfold getAttr? getAttrBy?
  repeat (any_goals (first | assumption | with_reducible apply class_by_fn hx hc | wp_step))
theorem kitx_fn {K : Frag} {a : Addr} : KitX K (.ref a) (.type "function") (KitAt a "function") := kitx_of kitAt_ty (fun {_ _ _ _ _ s} p k => by obtain ⟨h, g, d, t, os⟩ := s; obtain ⟨o, h1, h2⟩ := p; exact class_attr_fn h1 h2 k)
end
end DLo
end
section
set_option autoImplicit false
namespace DL
open PySem L2
end DL
end
section
set_option autoImplicit false
namespace DL
open PySem L2
def IteZ (K : PySem.W.Frag) (a b : Addr) : L2.It :=
  ⟨fun i H => ∃ (xs ys : List V) (x y : V), SqT K H a xs ∧ SqT K H b ys ∧ xs[i]? = some x ∧ ys[i]? = some y,
    fun i H v H' => ∃ P T x y, v = .ref T ∧ P ≠ T ∧ H P = none ∧ H T = none ∧ H' = upd (upd H P (.tup [x, y])) T (.tup [.int ((i : Nat) : Int), .ref P]) ∧ (∀ xs, SqT K H a xs → xs[i]? = some x) ∧ ∀ ys, SqT K H b ys → ys[i]? = some y,
    fun i H => ∃ xs ys : List V, SqT K H a xs ∧ SqT K H b ys ∧ (xs.length ≤ i ∨ ys.length ≤ i)⟩
end DL
end
section
set_option autoImplicit false
namespace RM
open PySem RZ
section
variable {prog : Program} {w : World} {A : Around} {E : Value → Shared → Prop} {s : Shared} {z TI TO i1 i2 l1 l2 : Addr} {k1 k2 : Nat} {xs ys : Array Value} {x y a b : Value}
/-- how the zip stands: the pair of iterators, the pair that is handed out, the two iterators, what they walk -/
structure Zs (h : Heap) (z TI TO i1 i2 l1 l2 : Addr) (k1 k2 : Nat) (xs ys : Array Value) (f a b : Value) : Prop where
  z : IsZip h z TI TO f
  ti : IsPair h TI (.ref i1) (.ref i2)
  to_ : IsPair h TO a b
  n1 : h.IsTupleIter i1 l1 k1
  n2 : h.IsListIter i2 l2 k2
  t1 : h.IsTuple l1 xs
  t2 : h.IsList l2 ys
/-- everything but these stands -/
def But (cs : List Addr) (h h' : Heap) : Prop := ∀ c o, c ∉ cs → h.get? c = some o → h'.get? c = some o
theorem But.trans {cs : List Addr} {h h' h'' : Heap} (p : But cs h h') (q : But cs h' h'') : But cs h h'' := fun c o n e => q c o n (p c o n e)
theorem But.of {cs : List Addr} {c : Addr} {h h' : Heap} (p : Heap.ExtBut c h h') (hc : c ∈ cs) : But cs h h' := fun d o n e => p d o (fun q => n (q ▸ hc)) e
/-- a new object is laid behind -/
theorem Zs.push {h : Heap} {f a b : Value} {o : Obj} (Z : Zs h z TI TO i1 i2 l1 l2 k1 k2 xs ys f a b) : Zs (h.push o) z TI TO i1 i2 l1 l2 k1 k2 xs ys f a b :=
  ⟨Heap.get?_push_of_some _ Z.z, Heap.get?_push_of_some _ Z.ti, Heap.get?_push_of_some _ Z.to_, Z.n1.at fun _ e => Heap.get?_push_of_some _ e, Z.n2.at fun _ e => Heap.get?_push_of_some _ e, Heap.IsTuple.push Z.t1 _, Heap.IsList.push Z.t2 _⟩
end
open PySem.Spec PyProof.Rows L2
end RM
end
section
set_option autoImplicit false
namespace DL
open PySem L2 PySem.Spec PyProof.Rows
end DL
end
section
set_option autoImplicit false
namespace L2
open PySem PySem.Spec PyProof.Rows
theorem tuple_mul1 (l : Addr) (items : Array Value) (n : Nat) (dd : Option Addr) (sl : Array (Option Value)) (x : Int) (u : Tok) (c0 : (decide (x < -(2 ^ 63)) || decide (x ≥ 2 ^ 63)) = false) (c1 : (items.isEmpty || x == 1) = true) :
    Meets (Builtin.«tuple.__mul__» ⟨[.ref l, .int x u], []⟩) (fun _ R s => s.heap.get? l = some { cls := .type "tuple", dict := dd, data := .seq items n, slots := sl } ∧
      R (.ok (.ret (Value.ref l))) s) :=
  .of_wp fun prog w A R s h => by
    obtain ⟨hp, g, d, tk, os⟩ := s
    obtain ⟨hl, h⟩ := h
    have f1 := AutoSeq1.idx_int
    wp_walk using wpAny_loadPart' hl
    repeat (first
      | (refine wpAny_ite_false (decide_eq_false (by rw [c0]; exact Bool.false_ne_true)) ?_; wp_walk using wpAny_loadPart' hl)
      | (refine wpAny_ite_true (decide_eq_true (by rw [c1])) ?_; wp_walk using wpAny_loadPart' hl))
    all_goals exact ⟨_, rfl, h⟩
theorem tuple_mul0 (l : Addr) (items : Array Value) (n : Nat) (dd : Option Addr) (sl : Array (Option Value)) (x : Int) (u : Tok) (c0 : (decide (x < -(2 ^ 63)) || decide (x ≥ 2 ^ 63)) = false) (c1 : (items.isEmpty || x == 1) = false) (c2 : (decide (x ≤ 0) || items.isEmpty) = true) :
    Meets (Builtin.«tuple.__mul__» ⟨[.ref l, .int x u], []⟩) (fun _ R s => s.heap.get? l = some { cls := .type "tuple", dict := dd, data := .seq items n, slots := sl } ∧
      R (.ok (.ret (Value.ref s.heap.objs.size))) { s with heap := s.heap.push { cls := Value.type "tuple", data := Data.seq #[] }, toks := s.toks }) :=
  .of_wp fun prog w A R s h => by
    obtain ⟨hp, g, d, tk, os⟩ := s
    obtain ⟨hl, h⟩ := h
    have f1 := AutoSeq1.idx_int
    wp_walk using wpAny_loadPart' hl
    repeat (first
      | (refine wpAny_ite_false (decide_eq_false (by rw [c0]; exact Bool.false_ne_true)) ?_; wp_walk using wpAny_loadPart' hl)
      | (refine wpAny_ite_false (decide_eq_false (by rw [c1]; exact Bool.false_ne_true)) ?_; wp_walk using wpAny_loadPart' hl)
      | (refine wpAny_ite_true (decide_eq_true (by rw [c2])) ?_; wp_walk using wpAny_loadPart' hl))
    all_goals exact ⟨_, rfl, h⟩
/-- t * k, where t is empty or k is 1: t itself -/
def rRep1 (K : PySem.W.Frag) : R2 := fun x y H Q => ∃ l k xs, x = .ref l ∧ y = .int k ∧ SqT K H l xs ∧ (xs = [] ∨ k = 1) ∧ -(2 ^ 63) ≤ k ∧ k < 2 ^ 63 ∧ Q (.ref l) H
/-- t * k, k at most 0: an empty tuple -/
def rRep0 (K : PySem.W.Frag) : R2 := fun x y H Q => ∃ l k xs, x = .ref l ∧ y = .int k ∧ SqT K H l xs ∧ xs ≠ [] ∧ k ≤ 0 ∧ -(2 ^ 63) ≤ k ∧ ∀ p, H p = none → Q (.ref p) (upd H p (.tup []))
section
variable {X : Cx}
theorem op_rep1 : OpR X (binaryOp .Mult) (rRep1 X.K) := by
  intro pins s σ H x y v u Q I rx ry h
  obtain ⟨l, k, xs, rfl, rfl, hT, hne, h1, h2, q⟩ := h
  cases rx
  obtain ⟨t, rfl⟩ := ry
  obtain ⟨its, r, ⟨⟨cls, dd, data, sl⟩, ho, hc, n, hd⟩, hs⟩ := I.tuple hT
  simp only at hc hd
  subst hc hd
  have hle : its.length = xs.length := r.length.symm
  have c0 : (decide (k < -(2 ^ 63)) || decide (k ≥ 2 ^ 63)) = false := by
    rw [decide_eq_false (by omega), decide_eq_false (by omega)] <;> rfl
  have c1 : (its.toArray.isEmpty || k == 1) = true := by
    rcases hne with rfl | rfl
    · have : its = [] := List.eq_nil_of_length_eq_zero hle
      subst this; rfl
    · rw [beq_self_eq_true, Bool.or_true]
  refine wpAny_binaryOp_repeat_ref (T := "tuple") (U := "int") (by decide) ⟨_, ho, rfl⟩ (fun s' => typeIs_int s' k t) noFill_tuple_mul F.fills_int_mul F.slot_int_rmul repeat_tuple F.slot_int_index.lookup
    (call_meets F.slot_int_rmul (typeIs_int s k t) F.entry_int_rmul (F.args_int_rmul_2 _ _) (int_rmul_tuple k t l its.toArray n dd sl)
      ⟨ho, rfl, ⟨_, ho, rfl⟩, call_meets F.slot_tuple_mul ⟨_, ho, rfl⟩ F.entry_tuple_mul (F.args_tuple_mul_2 _ _) (tuple_mul1 l its.toArray n dd sl k t c0 c1) ⟨ho, ?_⟩⟩)
  exact ⟨.ref l, H, I, rfl, q⟩
theorem op_rep0 : OpR X (binaryOp .Mult) (rRep0 X.K) := by
  intro pins s σ H x y v u Q I rx ry h
  obtain ⟨l, k, xs, rfl, rfl, hT, hne, h1, h2, q⟩ := h
  cases rx
  obtain ⟨t, rfl⟩ := ry
  obtain ⟨its, r, ⟨⟨cls, dd, data, sl⟩, ho, hc, n, hd⟩, hs⟩ := I.tuple hT
  simp only at hc hd
  subst hc hd
  have hle : its.length = xs.length := r.length.symm
  have c0 : (decide (k < -(2 ^ 63)) || decide (k ≥ 2 ^ 63)) = false := by
    rw [decide_eq_false (by omega), decide_eq_false (by omega)] <;> rfl
  have hi : its.toArray.isEmpty = false := by
    cases its with
    | nil => exact absurd (List.eq_nil_of_length_eq_zero (by simpa using hle.symm)) hne
    | cons a b => rfl
  have c1 : (its.toArray.isEmpty || k == 1) = false := by
    rw [hi, Bool.false_or]
    exact beq_eq_false_iff_ne.mpr (by omega)
  have c2 : (decide (k ≤ 0) || its.toArray.isEmpty) = true := by rw [decide_eq_true h1, Bool.true_or]
  refine wpAny_binaryOp_repeat_ref (T := "tuple") (U := "int") (by decide) ⟨_, ho, rfl⟩ (fun s' => typeIs_int s' k t) noFill_tuple_mul F.fills_int_mul F.slot_int_rmul repeat_tuple F.slot_int_index.lookup
    (call_meets F.slot_int_rmul (typeIs_int s k t) F.entry_int_rmul (F.args_int_rmul_2 _ _) (int_rmul_tuple k t l its.toArray n dd sl)
      ⟨ho, rfl, ⟨_, ho, rfl⟩, call_meets F.slot_tuple_mul ⟨_, ho, rfl⟩ F.entry_tuple_mul (F.args_tuple_mul_2 _ _) (tuple_mul0 l its.toArray n dd sl k t c0 c1 c2) ⟨ho, ?_⟩⟩)
  refine ⟨.ref s.heap.objs.size, _, I.laid (t' := s.toks) (o := .tup []) (fun b ob q => Heap.get?_push_of_some _ q) (Nat.le_refl _) ?_, rfl, q _ (I.hok.fresh (Nat.le_refl _))⟩
  exact ⟨Nat.zero_le _, [], .nil, IsTup.new _ _⟩
end
end L2
namespace L2
open PySem PySem.Spec PyProof.Rows
section
variable {X : Cx}
/-- one of two targets' readings -/
theorem pg_or {e : Expr} {t u : TG} (h1 : PG X e t) (h2 : PG X e u) : PG X e (fun v σ H Q => t v σ H Q ∨ u v σ H Q) := ⟨fun pins s σ H v w Q I r hw => hw.elim (h1.run pins s σ H v w Q I r) (h2.run pins s σ H v w Q I r)⟩
end
end L2
end
section
set_option autoImplicit false
namespace DL
open PySem PySem.Spec PyProof.Rows L2
/-- the lists at a, b, c as they stand at each turn, the items in new triples -/
def Itz3 (K : PySem.W.Frag) (a b c : Addr) : It :=
  ⟨fun i H => ∃ (xs ys zs : List V) (x y u : V), SqL K H a xs ∧ SqL K H b ys ∧ SqL K H c zs ∧ xs[i]? = some x ∧ ys[i]? = some y ∧ zs[i]? = some u,
    fun i H v H' => ∃ T x y u, v = .ref T ∧ H T = none ∧ H' = upd H T (.tup [x, y, u]) ∧ (∀ xs, SqL K H a xs → xs[i]? = some x) ∧ (∀ ys, SqL K H b ys → ys[i]? = some y) ∧ ∀ zs, SqL K H c zs → zs[i]? = some u,
    fun i H => ∃ xs ys zs : List V, SqL K H a xs ∧ SqL K H b ys ∧ SqL K H c zs ∧ (xs.length ≤ i ∨ ys.length ≤ i ∨ zs.length ≤ i)⟩
end DL
end
section
set_option autoImplicit false
namespace DL
open PySem L2
/-- data: a Python value without the heap -/
inductive D where
  | non | bl (b : Bool) | int (i : Int) | str (s : Str) | tup (xs : List D) | lst (xs : List D) | scr (xs : List D)
  /-- an instance of the program's class c, its fields in order -/
  | obj (c : Nat) (xs : List D)
  /-- a dict that nobody changes, with numbers and texts as keys and numbers as data -/
  | emp (kvs : List (Key × Int))
  /-- other things: 1 a dict with tuples as keys, its keys and data in turn; 2 a def, its number; 3 bytes -/
  | box (t n : Nat) (xs : List D)
/-- the classes: names, fields -/
def cName : Nat → Str
  | 0 => "Log" | 2 => "Recorder" | 3 => "Console" | _ => "Links"
def cFlds : Nat → List Str
  | 0 => ["levels", "parts"] | 2 => ["levels", "start", "kept", "past", "busy", "attempts"] | 3 => ["recorder"] | _ => ["levels", "targets"]
mutual
/-- no instance inside -/
def pureD : D → Bool
  | .tup xs => puresD xs
  | .lst xs => puresD xs
  | .scr xs => puresD xs
  | .obj _ _ => false
  | .emp _ => false
  | .box _ _ _ => false
  | _ => true
def puresD : List D → Bool
  | [] => true
  | x :: xs => pureD x && puresD xs
end
mutual
/-- .. empty dicts may be there -/
def pureR : D → Bool
  | .tup xs => puresR xs
  | .lst xs => puresR xs
  | .scr xs => puresR xs
  | .obj _ _ => false
  | .box _ _ _ => false
  | _ => true
def puresR : List D → Bool
  | [] => true
  | x :: xs => pureR x && puresR xs
end
/-- who holds a list: its own slot; a caller's; locked while a loop walks it; a dict; an instance that is changed, its own slot's or a caller's -/
inductive Lk | own | bor | lck | dic | dit | ins (c : Nat) | inb (c : Nat)
  deriving DecidableEq
/-- a list -/
@[simp] def Lk.isL : Lk → Bool
  | .own => true | .bor => true | .lck => true | _ => false
/-- an instance's class -/
@[simp] def Lk.cls : Lk → Option Nat
  | .ins c => some c | .inb c => some c | _ => none
theorem Lk.isL_cls {k : Lk} {c : Nat} (h : k.isL = true) (g : k.cls = some c) : False := by
  cases k <;> simp at h g
/-- stays as it is while its def runs -/
@[simp] def Lk.fx : Lk → Bool
  | .own => false | .dit => false | _ => true
/-- its slot may get another one -/
@[simp] def Lk.isI : Lk → Bool
  | .ins _ => true | _ => false
/-- a caller's -/
@[simp] def Lk.isB : Lk → Bool
  | .bor => true | .inb _ => true | _ => false
/-- what may be read -/
@[simp] def Lk.see : Lk → List D → Option D
  | .own, xs => some (.lst xs) | .bor, xs => some (.lst xs) | .lck, xs => some (.lst xs) | .dic, _ => none | .dit, _ => none
  | .ins c, xs => some (.obj c xs) | .inb c, xs => some (.obj c xs)
/-- a slot -/
inductive Sl where
  | un | fz (d : D) | ls (k : Lk) (xs : List D)
abbrev Ev := List Sl
/-- what an expression gives: frozen data; a fresh list; the list of a slot -/
inductive R where
  | fz (d : D) | fr (xs : List D) | rf (i : Nat)
inductive Out (α : Type) where
  | ok (a : α) (ρ : Ev) | stk
abbrev M (α : Type) := Ev → Out α
section
variable {α β : Type}
def Out.then (o : Out α) (f : α → M β) : Out β := match o with | .ok a ρ => f a ρ | .stk => .stk
def ret (a : α) : M α := fun ρ => .ok a ρ
def stuck : M α := fun _ => .stk
def bnd (m : M α) (f : α → M β) : M β := fun ρ => (m ρ).then f
def ofO (o : Option α) : M α := fun ρ => match o with | some a => .ok a ρ | none => .stk
@[simp] theorem then_ok (a : α) (ρ : Ev) (f : α → M β) : (Out.ok a ρ).then f = f a ρ := rfl
@[simp] theorem then_stk (f : α → M β) : (Out.stk : Out α).then f = .stk := rfl
theorem then_eq {o : Out α} {f : α → M β} {b : β} {ρ' : Ev} (h : o.then f = .ok b ρ') : ∃ a ρ, o = .ok a ρ ∧ f a ρ = .ok b ρ' := by
  cases o with
  | ok a ρ => exact ⟨a, ρ, rfl, h⟩
  | stk => cases h
theorem bnd_eq {m : M α} {f : α → M β} {ρ ρ' : Ev} {b : β} (h : bnd m f ρ = .ok b ρ') : ∃ a ρ1, m ρ = .ok a ρ1 ∧ f a ρ1 = .ok b ρ' := then_eq h
theorem ofO_eq {o : Option α} {ρ ρ' : Ev} {a : α} (h : ofO o ρ = .ok a ρ') : o = some a ∧ ρ' = ρ := by
  cases o with
  | none => cases h
  | some b => cases h; exact ⟨rfl, rfl⟩
end
/-- the data of a result, as things stand -/
def view (ρ : Ev) : R → Option D
  | .fz d => some d
  | .fr xs => some (.lst xs)
  | .rf i => match ρ[i]? with | some (.ls k xs) => k.see xs | _ => none
def vw (r : R) : M D := fun ρ => match view ρ r with | some d => .ok d ρ | none => .stk
/-- frozen for good -/
def share : R → M D
  | .fz d => ret d
  | .fr xs => ret (.lst xs)
  | .rf i => fun ρ => match ρ[i]? with | some (.ls .own xs) => .ok (.lst xs) (ρ.set i (.fz (.lst xs))) | _ => .stk
/-- the entries, read -/
def kyP : Key → PyData
  | .inl i => .int i
  | .inr s => .str s
def kvP (kvs : List (Key × Int)) : List (PyData × PyData) := kvs.map fun p => (kyP p.1, .int p.2)
def kvE (kvs : List (Key × Int)) : List (Key × V) := kvs.map fun p => (p.1, .int p.2)
def toPy : D → PyData
  | .non => .none
  | .bl b => .bool b
  | .int i => .int i
  | .str s => .str s
  | .tup xs => .tuple (toPys xs)
  | .lst xs => .list (toPys xs)
  | .scr xs => .list (toPys xs)
  | .obj _ _ => .none
  | .emp kvs => .dict (kvP kvs)
  | .box _ _ _ => .none
where toPys : List D → List PyData
  | [] => []
  | x :: xs => toPy x :: toPys xs
inductive Bop | add | sub | mul | fdiv | mod | pow | shr | band
  deriving DecidableEq
inductive Cop | lt | le | gt | ge | eq | ne | isN | notN | inn | nin
  deriving DecidableEq
def flat : D → Bool
  | .non => true | .bl _ => true | .int _ => true | .str _ => true | _ => false
def small64 (i : Int) : Bool := decide (-(2 ^ 64) < i) && decide (i < 2 ^ 64)
def wide (i : Int) : Bool := decide (i.natAbs < 2 ^ 2000)
def repl (xs : List D) (n : Nat) : List D := (List.replicate n xs).flatten
def binD : Bop → D → D → Option R
  | .add, .int i, .int j => some (.fz (.int (i + j)))
  | .add, .str i, .str j => if i.length + j.length ≤ sizeLine then some (.fz (.str (i ++ j))) else none
  | .add, .tup xs, .tup ys => if xs.length + ys.length ≤ sizeLine then some (.fz (.tup (xs ++ ys))) else none
  | .add, .lst xs, .lst ys => if xs.length + ys.length ≤ sizeLine then some (.fr (xs ++ ys)) else none
  | .sub, .int i, .int j => some (.fz (.int (i - j)))
  | .mul, .int i, .int j => if small64 i || small64 j || (wide i && wide j) then some (.fz (.int (i * j))) else none
  | .mul, .lst xs, .int k => if -(2 ^ 63) ≤ k ∧ k < 2 ^ 63 ∧ xs.length * k.toNat ≤ sizeLine then some (.fr (repl xs k.toNat)) else none
  | .mul, .tup xs, .int k => if 2 ≤ k ∧ k ≤ 1000 ∧ 1 ≤ xs.length ∧ xs.length ≤ 1000 then some (.fz (.tup (repl xs k.toNat))) else if (k ≤ 1 ∨ xs.isEmpty = true) ∧ -(2 ^ 63) ≤ k ∧ k < 2 ^ 63 then some (.fz (.tup (repl xs k.toNat))) else none
  | .mul, .str s, .int k => if 0 ≤ k ∧ k ≤ 1000 ∧ s.length ≤ 1000 then some (.fz (.str (Txt.mul s k))) else none
  | .shr, .int i, .int j => if 0 ≤ j ∧ j ≤ 1000 then some (.fz (.int (i / 2 ^ j.toNat))) else none
  | .band, .int i, .int j => some (.fz (.int (Builtin.bitAnd i j)))
  | .fdiv, .int i, .int j => if j ≠ 0 ∧ j.natAbs < 1073741824 then some (.fz (.int (i.fdiv j))) else none
  | .mod, .int i, .int j => if j ≠ 0 then some (.fz (.int (i.fmod j))) else none
  | .pow, .int i, .int j => if 0 ≤ j ∧ j ≤ 1000000 ∧ i.natAbs < 2 ^ 64 then some (.fz (.int (i ^ j.toNat))) else none
  | _, _, _ => none
def shapedD (x : D) : Bool := pureD x && SeqAt.shaped (toPy x)
def inD (x : D) (xs : List D) : Bool := xs.any fun y => (toPy y).eqv (toPy x)
def isNonD : D → Bool
  | .non => true
  | _ => false
def intsD : List D → Option (List Int)
  | [] => some []
  | .int i :: r => (intsD r).map (i :: ·)
  | _ :: _ => none
/-- two lists of different length -/
def lenNe : D → D → Bool
  | .lst xs, .lst ys => xs.length != ys.length
  | .tup (_ :: _), .tup [] => true
  | .tup [], .tup (_ :: _) => true
  | _, _ => false
/-- the order of tuples of whole numbers -/
def lexLtI : List Int → List Int → Bool
  | [], [] => false
  | [], _ :: _ => true
  | _ :: _, [] => false
  | x :: xs, y :: ys => if x = y then lexLtI xs ys else decide (x < y)
/-- one sign in a text -/
def signIn : D → Str → Option Bool
  | .str a, b => match a.cps.toList with
    | [c] => some (decide (c ∈ b.cps.toList))
    | _ => none
  | _, _ => none
def cmpD : Cop → D → D → Option Bool
  | .lt, .int i, .int j => some (decide (i < j))
  | .lt, .tup xs, .tup ys => (intsD xs).bind fun ns => (intsD ys).map fun ms => lexLtI ns ms
  | .le, .int i, .int j => some (decide (i ≤ j))
  | .gt, .int i, .int j => some (decide (i > j))
  | .ge, .int i, .int j => some (decide (i ≥ j))
  | .eq, .int i, .int j => some (decide (i = j))
  | .eq, .str a, .str b => some (decide (a = b))
  | .ne, .int i, .int j => some (!decide (i = j))
  | .ne, .str a, .str b => some (!decide (a = b))
  | .eq, x, y => if shapedD x && shapedD y then some ((toPy x).eqv (toPy y)) else if lenNe x y then some false else none
  | .ne, x, y => if shapedD x && shapedD y then some (!(toPy x).eqv (toPy y)) else none
  | .isN, .bl a, .bl b => some (decide (a = b))
  | .notN, .bl a, .bl b => some (!decide (a = b))
  | .isN, x, .non => some (isNonD x)
  | .notN, x, .non => some (!isNonD x)
  | .inn, x, .lst ys => if (flat x && ys.all flat) || (shapedD x && shapedD (.lst ys)) then some (inD x ys) else none
  | .inn, x, .tup ys => if flat x && ys.all flat then some (inD x ys) else none
  | .nin, x, .lst ys => if (flat x && ys.all flat) || (shapedD x && shapedD (.lst ys)) then some (!inD x ys) else none
  | .nin, x, .tup ys => if flat x && ys.all flat then some (!inD x ys) else none
  | .inn, x, .str b => signIn x b
  | .nin, x, .str b => (signIn x b).map (!·)
  | _, _, _ => none
def truthD : D → Option Bool
  | .non => some false
  | .bl b => some b
  | .int i => some (i != 0)
  | .str s => if s.length ≤ sizeLine then some (s.length != 0) else none
  | .tup xs => some (!xs.isEmpty)
  | .lst xs => some (!xs.isEmpty)
  | .scr xs => some (!xs.isEmpty)
  | .obj _ _ => none
  | .box _ _ _ => none
  | .emp [] => some false
  | .emp (_ :: _) => none
/-- an item by an index of any sign -/
def atD (xs : List D) (i : Int) : Option D := atI xs i
def idxD : D → D → Option D
  | .tup xs, .int i => atD xs i
  | .lst xs, .int i => atD xs i
  | .scr xs, .int i => atD xs i
  | .str z, .int i => if z.length ≤ sizeLine then (atI z.cps.toList i).map fun c => .str ⟨#[c]⟩ else none
  | _, _ => none
def cut (xs : List D) (lo hi : Option Int) : List D := List.take (HT.sIx xs.length xs.length hi - HT.sIx xs.length 0 lo) (List.drop (HT.sIx xs.length 0 lo) xs)
def slcD : D → Option Int → Option Int → Option R
  | .tup xs, lo, hi => some (.fz (.tup (cut xs lo hi)))
  | .lst xs, lo, hi => some (.fr (cut xs lo hi))
  | .scr xs, lo, hi => some (.fr (cut xs lo hi))
  | .str z, lo, hi => if z.length ≤ sizeLine then some (.fz (.str ⟨((z.cps.toList.drop (HT.sIx z.length 0 lo)).take (HT.sIx z.length z.length hi - HT.sIx z.length 0 lo)).toArray⟩)) else none
  | .box n _ xs, lo, hi => if n = 3 ∧ xs.length ≤ 100000 then some (.fz (.box 3 0 (cut xs lo hi))) else none
  | _, _, _ => none
def boolsD : List D → Option (List Bool)
  | [] => some []
  | .bl i :: r => (boolsD r).map (i :: ·)
  | _ :: _ => none
def strsD : List D → Option (List Str)
  | [] => some []
  | .str i :: r => (strsD r).map (i :: ·)
  | _ :: _ => none
def maxL : List Int → Option Int
  | [] => none
  | [x] => some x
  | x :: r => (maxL r).map fun m => if m < x then x else m
def minL : List Int → Option Int
  | [] => none
  | [x] => some x
  | x :: r => (minL r).map fun m => if x < m then x else m
def insI (x : Int) : List Int → List Int
  | [] => [x]
  | y :: r => if x ≤ y then x :: y :: r else y :: insI x r
def sortI : List Int → List Int
  | [] => []
  | x :: r => insI x (sortI r)
/-- without doubles, ascending -/
def insU (x : Int) : List Int → List Int
  | [] => [x]
  | y :: r => if x < y then x :: y :: r else if x = y then y :: r else y :: insU x r
def setI : List Int → List Int
  | [] => []
  | x :: r => insU x (setI r)
def rngL (lo hi : Int) : List D := (List.range (hi - lo).toNat).map fun (i : Nat) => D.int (lo + (i : Int))
def rngDL (lo hi : Int) : List D := (List.range (lo - hi).toNat).map fun (i : Nat) => D.int (lo - (i : Int))
def small62 (i : Int) : Bool := decide (-(2 ^ 62) ≤ i) && decide (i < 2 ^ 62)
/-- built-in classes that are asked for -/
inductive Ty | int | bool | tuple | list | str
  deriving DecidableEq
def isD : D → Ty → Bool
  | .int _, .int => true
  | .bl _, .int => true
  | .bl _, .bool => true
  | .str _, .str => true
  | .tup _, .tuple => true
  | .lst _, .list => true
  | .scr _, .list => true
  | _, _ => false
inductive Bi | len | abs | int1 | tuple | list | max1 | min1 | max2 | min2 | sum | all | any | sorted | divmod | repr | isi (t : Ty) | tupRng1 | tupRng2 | sset | iso (c : Nat) | reprL | rvs | cntI | idxI | stp | cntB | idxB | isn (c : Nat) | str1 | join | fs | rstp | enm | lenO | eqx | nex | isd (c : Nat) | boolL | chs | split | part | isdig | max1d | sortP | bmk | bln | bls | bat | bis | beq | bne | brp | bad
  deriving DecidableEq
/-- the numbers of bytes -/
def bytD : D → Option (List Int)
  | .box n _ xs => if n = 3 then intsD xs else none
  | _ => none
/-- their text -/
def bytX (ns : List Int) : Str := PySem.Builtin.Bytes.literal (ns.map fun n => n.toNat.toUInt8).toArray
def b8D (ns : List Int) : Bool := ns.all fun i => decide (0 ≤ i) && decide (i < 256)
/-- a pair of a whole number and a tuple of such -/
def prD : D → Bool
  | .tup [.int _, .tup ys] => (intsD ys).isSome
  | _ => false
/-- the items with their numbers, from k on -/
def enumI : Int → List D → List D
  | _, [] => []
  | n, x :: xs => .tup [.int n, x] :: enumI (n + 1) xs
/-- texts and ints, one behind the other -/
def fsD : Str → List D → Option R
  | acc, [] => some (.fz (.str acc))
  | acc, .str y :: r => if y.length ≤ 16777216 ∧ (acc ++ y).length ≤ 16777216 then fsD (acc ++ y) r else none
  | acc, .int i :: r => if i.natAbs.log2 < 1920 ∧ (acc ++ (toString i : Str)).length ≤ 16777216 then fsD (acc ++ (toString i : Str)) r else none
  | _, _ :: _ => none
/-- range(i, j, c), c > 0 -/
def rngSL (i j c : Int) : List D := (List.range (PySem.Builtin.Range.rangeSize i j c).toNat).map fun (k : Nat) => D.int (i + (k : Int) * c)
def rngSok (i j c : Int) : Bool := decide (1 ≤ c) && decide (c < 1000000) && PySem.Builtin.Range.small i j c && decide (0 ≤ PySem.Builtin.Range.rangeSize i j c)
/-- fields that are equal one by one -/
def fsEq : List D → List D → Bool
  | [], [] => true
  | x :: xs, y :: ys => (cmpD .eq x y == some true) && fsEq xs ys
  | _, _ => false
/-- == gives True: shaped data, or two instances of one class with equal fields -/
def eqx0 (x y : D) : Bool := (shapedD x && shapedD y && (toPy x).eqv (toPy y)) || (match x, y with
  | .obj c fs, .obj c' gs => (c == c') && (decide (c ≤ 1) && fsEq fs gs)
  | .emp [], .emp [] => true
  | _, _ => false)
def eqxs (f : D → D → Bool) : List D → List D → Bool
  | [], [] => true
  | x :: xs, y :: ys => f x y && eqxs f xs ys
  | _, _ => false
/-- == gives True: lists and tuples with such things inside -/
def eqxB : Nat → D → D → Bool
  | 0, x, y => eqx0 x y
  | k + 1, x, y => eqx0 x y || (match x, y with
    | .lst xs, .lst ys => eqxs (eqxB k) xs ys
    | .tup xs, .tup ys => eqxs (eqxB k) xs ys
    | _, _ => false)
/-- .. with instances of class q alone -/
def eqc0 (q : Nat) (x y : D) : Bool := (shapedD x && shapedD y && (toPy x).eqv (toPy y)) || (match x, y with
  | .obj c fs, .obj c' gs => (c == q) && ((c' == q) && fsEq fs gs)
  | .emp [], .emp [] => true
  | _, _ => false)
def eqcB (q : Nat) : Nat → D → D → Bool
  | 0, x, y => eqc0 q x y
  | k + 1, x, y => eqc0 q x y || (match x, y with
    | .lst xs, .lst ys => eqxs (eqcB q k) xs ys
    | .tup xs, .tup ys => eqxs (eqcB q k) xs ys
    | _, _ => false)
def biD : Bi → List D → Option R
  | .len, [.tup xs] => some (.fz (.int xs.length))
  | .len, [.lst xs] => some (.fz (.int xs.length))
  | .len, [.scr xs] => some (.fz (.int xs.length))
  | .len, [.str s] => if s.length ≤ sizeLine then some (.fz (.int s.length)) else none
  | .abs, [.int i] => some (.fz (.int (if i < 0 then -i else i)))
  | .int1, [.int i] => some (.fz (.int i))
  | .int1, [.bl b] => some (.fz (.int (if b then 1 else 0)))
  | .int1, [.str z] => if z.length ≤ 640 then (PySem.intText? z).map fun n => .fz (.int n) else none
  | .chs, [.str z] => some (.fr (z.cps.toList.map fun c => .str ⟨#[c]⟩))
  | .split, [.str a, .str b] => if b.length ≠ 0 ∧ a.length + 2 ≤ sizeLine then some (.fr ((Txt.split a b).map .str)) else none
  | .part, [.str a, .str b] => if b.length ≠ 0 ∧ a.length ≤ sizeLine then some (.fz (.tup [.str (Txt.partition a b).1, .str (Txt.partition a b).2.1, .str (Txt.partition a b).2.2])) else none
  | .isdig, [.str a] => some (.fz (.bl (Txt.isdigit a)))
  | .rvs, [.lst xs] => some (.fr xs.reverse)
  | .rvs, [.tup xs] => some (.fz (.tup xs.reverse))
  | .cntI, [.lst xs, .int k] => (intsD xs).map fun ns => .fz (.int (ns.count k : Nat))
  | .idxI, [.lst xs, .int k] => (intsD xs).bind fun ns => (ns.findIdx? fun i => decide (i = k)).map fun j => .fz (.int (j : Nat))
  | .cntB, [.lst xs, .bl k] => (boolsD xs).map fun bs => .fz (.int (bs.count k : Nat))
  | .idxB, [.lst xs, .bl k] => (boolsD xs).bind fun bs => (bs.findIdx? fun i => i == k).map fun j => .fz (.int (j : Nat))
  | .stp, [.lst xs, .int k] => if 1 ≤ k ∧ k ≤ 1000 ∧ xs.length ≤ sizeLine then some (.fr ((sliceRange 0 xs.length k).filterMap fun i => xs[i]?)) else none
  | .tuple, [.tup xs] => some (.fz (.tup xs))
  | .tuple, [.lst xs] => some (.fz (.tup xs))
  | .list, [.tup xs] => some (.fr xs)
  | .list, [.lst xs] => some (.fr xs)
  | .list, [.scr xs] => some (.fr xs)
  | .max1, [.lst xs] => ((intsD xs).bind maxL).map fun m => .fz (.int m)
  | .max1, [.tup xs] => ((intsD xs).bind maxL).map fun m => .fz (.int m)
  | .min1, [.lst xs] => ((intsD xs).bind minL).map fun m => .fz (.int m)
  | .max2, [.int i, .int j] => some (.fz (.int (if j > i then j else i)))
  | .min2, [.int i, .int j] => some (.fz (.int (if j < i then j else i)))
  | .sum, [.lst xs] => (intsD xs).map fun ns => .fz (.int ns.sum)
  | .sum, [.tup xs] => (intsD xs).map fun ns => .fz (.int ns.sum)
  | .reprL, xs => if pureR (.lst xs) && (toPy (.lst xs)).showable && decide ((toPy (.lst xs)).depth ≤ 64) && decide ((toPy (.lst xs)).shown.length ≤ sizeLine) && decide (xs.length ≤ 1000) then some (.fz (.str (toPy (.lst xs)).shown)) else none
  | .all, [.lst xs] => (boolsD xs).map fun bs => .fz (.bl (bs.all id))
  | .any, [.lst xs] => (boolsD xs).map fun bs => .fz (.bl (bs.any id))
  | .sorted, [.lst xs] => (intsD xs).map fun ns => .fr ((sortI ns).map .int)
  | .divmod, [.int i, .int j] => if 0 < j ∧ j < 1000000000000000000000000000000000000000000000000000000000000 then some (.fz (.tup [.int (i / j), .int (i % j)])) else none
  | .repr, [x] => if pureR x && (toPy x).showable && decide ((toPy x).depth ≤ 64) && decide ((toPy x).shown.length ≤ sizeLine) then some (.fz (.str (toPy x).shown)) else none
  | .isi _, [.obj _ _] => none
  | .isi _, [.box _ _ _] => none
  | .isi _, [.box _ _ _, .int _] => none
  | .isi t, [x] => some (.fz (.bl (isD x t)))
  | .isi _, [.obj c' _, .int m] => if (c' : Int) = m ∨ (m = 2 ∧ c' < 2) then some (.fz (.bl false)) else none
  | .isi t, [x, .int _] => some (.fz (.bl (isD x t)))
  | .iso c, [.obj c' _] => if c' = c then some (.fz (.bl true)) else none
  | .isn c, [.obj c' _] => if c' = c then some (.fz (.bl true)) else none
  | .isn _, [.box n _ _] => if n = 2 ∨ n = 3 then some (.fz (.bl false)) else none
  | .isn _, [_] => some (.fz (.bl false))
  | .isd c, [.obj c' _] => if c' = c then some (.fz (.bl true)) else if c' + c = 1 then some (.fz (.bl false)) else none
  | .isd _, [.box n _ _] => if n = 2 ∨ n = 3 then some (.fz (.bl false)) else none
  | .isd _, [_] => some (.fz (.bl false))
  | .eqx, [.lst xs, .lst ys] => if eqxs (eqxB 3) xs ys then some (.fz (.bl true)) else none
  | .nex, [.lst xs, .lst ys] => if eqxs (eqxB 3) xs ys then some (.fz (.bl false)) else none
  | .eqx, [.lst xs, .lst ys, .int q] => if eqxs (eqcB q.toNat 3) xs ys then some (.fz (.bl true)) else none
  | .nex, [.lst xs, .lst ys, .int q] => if eqxs (eqcB q.toNat 3) xs ys then some (.fz (.bl false)) else none
  | .boolL, [.int n] => if 0 ≤ n ∧ n < 4611686018427387904 then some (.fz (.bl (n != 0))) else none
  | .sset, [.lst xs] => (intsD xs).bind fun ns => if ns.length ≤ 4000 ∧ (setI ns).length < 64 then some (.fr ((setI ns).map .int)) else none
  | .sset, [.tup xs] => (intsD xs).bind fun ns => if ns.length ≤ 4000 ∧ (setI ns).length < 64 then some (.fr ((setI ns).map .int)) else none
  | .str1, [.int i] => if i.natAbs.log2 < 1920 then some (.fz (.str (toString i))) else none
  | .str1, [.str s] => some (.fz (.str s))
  | .join, [.str a, .lst xs] => (strsD xs).bind fun ys => if (ys.map (·.length)).sum + ys.length * a.length ≤ 16777216 then some (.fz (.str (Txt.join a ys))) else none
  | .enm, [.tup xs, .int k] => if small62 k then some (.fr (enumI k xs)) else none
  | .sortP, [.lst xs] => if xs.all prD then some (.fr (xs.mergeSort (PySem.W.dataLe false toPy))) else none
  | .max1d, [.lst xs, .int d] => (intsD xs).bind fun ns => if ns = [] then some (.fz (.int d)) else (maxL ns).map fun m => .fz (.int m)
  | .lenO, [.int n] => if 0 ≤ n ∧ n < 4611686018427387904 then some (.fz (.int n)) else none
  | .fs, ds => fsD Str.empty ds
  | .rstp, [.int i, .int j, .int c] => if rngSok i j c then some (.fr (rngSL i j c)) else none
  | .tupRng1, [.int j] => if small62 j && decide (j.toNat ≤ 16777216) then some (.fz (.tup (rngL 0 j))) else none
  | .tupRng2, [.int i, .int j] => if small62 i && small62 j && decide ((j - i).toNat ≤ 16777216) then some (.fz (.tup (rngL i j))) else none
  | .bmk, [.lst xs] => (intsD xs).bind fun ns => if b8D ns = true ∧ ns.length ≤ 100000 then some (.fz (.box 3 0 xs)) else none
  | .bln, [x] => (bytD x).bind fun ns => if ns.length ≤ 100000 then some (.fz (.int (ns.length : Nat))) else none
  | .bls, [x] => (bytD x).bind fun ns => if ns.length ≤ 100000 then some (.fr (ns.map .int)) else none
  | .bat, [x, .int i] => (bytD x).bind fun ns => if 0 ≤ i ∧ ns.length ≤ 100000 then (ns[i.toNat]?).map fun k => .fz (.int k) else none
  | .bis, [.obj _ _] => none
  | .bis, [.box n _ _] => if n = 3 then some (.fz (.bl true)) else none
  | .bis, [_] => some (.fz (.bl false))
  | .bis, [.obj c' _, .int m] => if (c' : Int) = m ∨ (m = 2 ∧ c' < 2) then some (.fz (.bl false)) else none
  | .bis, [.box n _ _, .int _] => if n = 3 then some (.fz (.bl true)) else none
  | .bis, [_, .int _] => some (.fz (.bl false))
  | .beq, [x, y] => (bytD x).bind fun a => (bytD y).map fun b => .fz (.bl (decide (a = b)))
  | .bne, [x, y] => (bytD x).bind fun a => (bytD y).map fun b => .fz (.bl (!decide (a = b)))
  | .brp, [x] => (bytD x).bind fun ns => if ns.length ≤ 1000 then some (.fz (.str (bytX ns))) else none
  | .bad, [x, y] => (bytD x).bind fun a => (bytD y).bind fun b => if a.length + b.length ≤ 100000 then some (.fz (.box 3 0 ((a ++ b).map .int))) else none
  | _, _ => none
mutual
inductive E where
  | var (i : Nat) | cst (d : D)
  | bin (o : Bop) (a b : E) | neg (a : E)
  | cmp (o : Cop) (a b : E) | chn (o p : Cop) (a b c : E)
  | and (a b : E) | or (a b : E) | not (a : E) | ite (t a b : E)
  | tup (es : Es) | lst (es : Es)
  | idx (a b : E) | slc (a : E) (lo hi : Eo)
  | call (f : Nat) (perm : List Nat) (as ks : As)
  | bi (b : Bi) (es : Es)
  | comp (own : List Nat) (tg : Tg) (it : It) (cond : Eo) (elt : E)
  | app (i : Nat) (e : E) | ext (i : Nat) (e : E)
  | fld (e : E) (ks : List (Nat × Nat))
  | make (c f : Nat) (perm : List Nat) (as ks : As)
  | meth (o : E) (ms : List (Nat × Nat)) (perm : List Nat) (as ks : As)
  /-- dicts of slots: d[e], e in d, e not in d -/
  | dget (i : Nat) (e : E) | din (i : Nat) (e : E) | dnin (i : Nat) (e : E)
  /-- the same of dicts with tuples as keys -/
  | dgtN (i : Nat) (e : E) | dinN (i : Nat) (e : E) (neg : Bool)
  /-- d.get(e, x); the dict of a slot, frozen; {}, {k: v}, dict(e) as values -/
  | dg2N (i : Nat) (e x : E) | frzN (i : Nat) | dnE (kv : Es) | dofE (e : E) | d1E (k : Key) (e : E)
  /-- an error of class c is made and raised -/
  | rse (c : Nat) (es : Es)
  /-- e, that may raise -/
  | xc (e : E)
  /-- e, of which the first part may raise -/
  | xa (e : E)
  /-- `_law_caught(lambda: e)` -/
  | caught (cs : List Nat) (e : E)
  /-- repr(e), instances inside by their own __repr__ -/
  | rpr (ms : List (Nat × Nat)) (e : E)
  /-- .. and of an instance alone -/
  | rpv (ms : List (Nat × Nat)) (e : E)
  /-- a name that may stand for an instance that is changed -/
  | vin (i : Nat)
  /-- e's value, frozen for good -/
  | shr (e : E)
  /-- e in D, D[e] for the program's dict D of texts and whole numbers -/
  | gdi (tb : List (Str × Int)) (e : E) | gdg (tb : List (Str × Int)) (e : E)
inductive Eo where
  | none | some (e : E)
inductive Es where
  | nil | cons (e : E) (es : Es)
/-- arguments of a def: by value, by reference -/
inductive As where
  | nil | val (e : E) (es : As) | ref (e : E) (es : As)
inductive It where
  | val (e : E) | rng1 (e : E) | rng2 (a b : E) | rngD (a b : E) | enum (e : E) | zip (a b : E) | rev (e : E) | enumZ (a b : E) | zip3 (a b c : E) | keys (e : E)
inductive Tg where
  | nm (i : Nat) | sub (j : Nat) (i : E) | tp (ts : Tgs)
  /-- the field of a slot's instance -/
  | fld (i : Nat) (ks : List (Nat × Nat))
inductive Tgs where
  | nil | cons (t : Tg) (ts : Tgs)
end
mutual
inductive S where
  | asg (t : Tg) (e : E)
  | par (i j : Nat) (a b : E)
  | par3 (i j l : Nat) (a b c : E)
  /-- .. over a tuple: names in cells, the second a fresh list too -/
  | par3T (i j l : Nat) (a b c : E)
  | aug (i : Nat) (o : Bop) (e : E)
  | ex (e : E)
  | ifs (c : E) (a b : Ss)
  | for_ (t : Tg) (it : It) (b : Ss)
  | whl (c : E) (b : Ss)
  | ret (e : E) | retN | pass | brk | cnt
  /-- names that are used no more are forgotten -/
  | wip (ws : List Nat)
  /-- d = {}; x, y, d = a, b, {}; d[e] = v -/
  | dnew (i : Nat) | dof (i : Nat) (e : E) | par3d (i j l : Nat) (a b : E) | dput (i : Nat) (e v : E)
  /-- d = {..}; d, x = {..}, b; d, x, y = {..}, b, c; d[e] = v: keys that are tuples -/
  | dn (i : Nat) (kv : Es) | par2N (i j : Nat) (kv : Es) (b : E) | par3N (i j l : Nat) (kv : Es) (b c : E) | dputN (i : Nat) (e v : E)
  /-- x, d = a, {}; x, *y = e (a tuple) -/
  | par2d (i l : Nat) (a : E) | star (i j : Nat) (e : E)
  /-- x, y, *z = e; *z, t = e (tuples) -/
  | star2 (i j l : Nat) (e : E) | stLast (l : Nat) (t : Tg) (e : E)
  /-- x = D[e]; return x(..): D a dict of the program, from texts to its defs -/
  | rtF (i : Nat) (tb : List (Str × Nat)) (e : E) (perm : List Nat) (as : As)
  /-- try: return e / except ..: a list, of a word for the error's class and the error's fields -/
  | tryR (e : E) (hs : List (Nat × Str))
  /-- try: return e / except C: return None -/
  | tryN (e : E) (k : Nat)
  /-- x = C(..); x, t, .. = C(..), e, ..: an instance that is changed later -/
  | mk (i c f : Nat) (perm : List Nat) (as ks : As) | mkT (i c f : Nat) (perm : List Nat) (as ks : As) (t : Tg) (b : E) | mk2 (i c f : Nat) (perm : List Nat) (as ks : As) (j : Nat) (b : E) | mk3 (i c f : Nat) (perm : List Nat) (as ks : As) (j l : Nat) (b d : E)
  /-- x.f op= e -/
  | augf (i : Nat) (ks : List (Nat × Nat)) (o : Bop) (e : E)
  /-- try: .. finally: .. -/
  | tryF (b fin : Ss)
inductive Ss where
  | nil | cons (s : S) (ss : Ss)
end
def As.len : As → Nat
  | .nil => 0
  | .val _ r => r.len + 1
  | .ref _ r => r.len + 1
/-- calls of the table's defs: the arguments' slots; the result, the slots behind -/
abbrev Calls := Nat → List Sl → Option (R × List Sl)
/-- a slot gets frozen data -/
def setD (i : Nat) (d : D) : M Unit := fun ρ => match ρ[i]? with
  | some .un => .ok () (ρ.set i (.fz d))
  | some (.fz _) => .ok () (ρ.set i (.fz d))
  | some (.ls .own _) => .ok () (ρ.set i (.fz d))
  | some (.ls .dit _) => .ok () (ρ.set i (.fz d))
  | _ => .stk
def setL (i : Nat) (xs : List D) : M Unit := fun ρ => match ρ[i]? with
  | some .un => .ok () (ρ.set i (.ls .own xs))
  | some (.fz _) => .ok () (ρ.set i (.ls .own xs))
  | some (.ls .own _) => .ok () (ρ.set i (.ls .own xs))
  | some (.ls .dit _) => .ok () (ρ.set i (.ls .own xs))
  | _ => .stk
def setR (i : Nat) : R → M Unit
  | .fz d => setD i d
  | .fr xs => setL i xs
  | .rf j => bnd (share (.rf j)) (setD i)
/-- a slot's list is shared now -/
def unref : R → M R
  | .rf i => bnd (share (.rf i)) fun d => ret (.fz d)
  | r => ret r
/-- the list of a slot is changed in place -/
def putL (i : Nat) (xs : List D) : M Unit := fun ρ => match ρ[i]? with
  | some (.ls .own _) => .ok () (ρ.set i (.ls .own xs))
  | some (.ls .bor _) => .ok () (ρ.set i (.ls .bor xs))
  | _ => .stk
/-- a field of a slot's instance gets frozen data -/
def stF (i : Nat) (ks : List (Nat × Nat)) (d : D) : M Unit := fun ρ => match ρ[i]? with
  | some (.ls k xs) => match (k.cls.bind fun c => ks.lookup c) with
    | some j => if j < xs.length then .ok () (ρ.set i (.ls k (xs.set j d))) else .stk
    | none => .stk
  | _ => .stk
/-- a slot gets a fresh instance -/
def newI (i c : Nat) (xs : List D) : M Unit := fun ρ => match ρ[i]? with
  | some .un => .ok () (ρ.set i (.ls (.ins c) xs))
  | some (.fz _) => .ok () (ρ.set i (.ls (.ins c) xs))
  | some (.ls .own _) => .ok () (ρ.set i (.ls (.ins c) xs))
  | some (.ls (.ins c') _) => if c' = c then .ok () (ρ.set i (.ls (.ins c) xs)) else .stk
  | _ => .stk
def getL (i : Nat) : M (List D) := fun ρ => match ρ[i]? with
  | some (.ls .dic _) => .stk
  | some (.ls .dit _) => .stk
  | some (.ls (.ins _) _) => .stk
  | some (.ls (.inb _) _) => .stk
  | some (.ls _ xs) => .ok xs ρ
  | _ => .stk
/-- dicts of ints: entries (key, datum) as tuples -/
def dkey : D → Int → Bool
  | .tup [.int j, _], k => decide (j = k)
  | _, _ => false
def dsnd : D → Option D
  | .tup [_, d] => some d
  | _ => none
def dval (xs : List D) (k : Int) : Option D := (xs.find? fun e => dkey e k).bind dsnd
def dputD (xs : List D) (k : Int) (y : D) : List D :=
  if (xs.any fun e => dkey e k) = true then xs.map (fun e => if dkey e k = true then .tup [.int k, y] else e) else xs ++ [.tup [.int k, y]]
def dgetM (i : Nat) : M (List D) := fun ρ => match ρ[i]? with
  | some (.ls .dic xs) => .ok xs ρ
  | _ => .stk
def dputM (i : Nat) (xs : List D) : M Unit := fun ρ => match ρ[i]? with
  | some (.ls .dic _) => .ok () (ρ.set i (.ls .dic xs))
  | _ => .stk
def dsetM (i : Nat) : M Unit := fun ρ => match ρ[i]? with
  | some .un => .ok () (ρ.set i (.ls .dic []))
  | some (.fz _) => .ok () (ρ.set i (.ls .dic []))
  | some (.ls .own _) => .ok () (ρ.set i (.ls .dic []))
  | _ => .stk
mutual
/-- a datum as a key: numbers, None, tuples of such -/
def nk : D → Option PySem.NestedKey
  | .non => some .none
  | .int i => some (.num i)
  | .tup ds => (nks ds).map .tup
  | _ => none
def nks : List D → Option (List PySem.NestedKey)
  | [] => some []
  | d :: ds => match nk d, nks ds with
    | some k, some ks => some (k :: ks)
    | _, _ => none
end
/-- a tuple as a key -/
def keyN : D → Option PySem.NestedKey
  | .tup ds => (nk (.tup ds)).bind fun k => if k.depth ≤ 8 then some k else none
  | _ => none
def dkN (e : D) (k : PySem.NestedKey) : Bool := match e with
  | .tup [x, _] => decide (nk x = some k)
  | _ => false
def dvalN (xs : List D) (k : PySem.NestedKey) : Option D := (xs.find? fun e => dkN e k).bind dsnd
def dsetV (e y : D) : D := match e with
  | .tup [x, _] => .tup [x, y]
  | e => e
def dputN (xs : List D) (kd : D) (k : PySem.NestedKey) (y : D) : List D :=
  if (xs.any fun e => dkN e k) = true then xs.map (fun e => if dkN e k = true then dsetV e y else e) else xs ++ [.tup [kd, y]]
/-- dict(pairs) -/
def pairN : List D → List D → Option (List D)
  | xs, [] => some xs
  | xs, .tup [kd, d] :: ps => match keyN kd with
    | some k => pairN (dputN xs kd k d) ps
    | none => none
  | _, _ :: _ => none
/-- entries, their keys and data in turn -/
def fl : List D → List D
  | [] => []
  | .tup [kd, d] :: r => kd :: d :: fl r
  | _ :: r => fl r
def unfl : List D → List D
  | kd :: d :: r => .tup [kd, d] :: unfl r
  | _ => []
def keysD : List D → List D
  | kd :: _ :: r => kd :: keysD r
  | _ => []
/-- {}, {k: v} -/
def dispN : List D → Option (List D)
  | [] => some []
  | [kd, d] => (keyN kd).map fun _ => [.tup [kd, d]]
  | _ => none
def dgetN (i : Nat) : M (List D) := fun ρ => match ρ[i]? with
  | some (.ls .dit xs) => .ok xs ρ
  | some (.fz (.box 1 _ ds)) => .ok (unfl ds) ρ
  | _ => .stk
def dgetO (i : Nat) : M (List D) := fun ρ => match ρ[i]? with
  | some (.ls .dit xs) => .ok xs ρ
  | _ => .stk
def dputO (i : Nat) (xs : List D) : M Unit := fun ρ => match ρ[i]? with
  | some (.ls .dit _) => .ok () (ρ.set i (.ls .dit xs))
  | _ => .stk
/-- a dict, frozen for good -/
def boxN (xs : List D) : D := .box 1 0 (fl xs)
def frzM (i : Nat) : M R := fun ρ => match ρ[i]? with
  | some (.ls .dit xs) => .ok (.fz (boxN xs)) (ρ.set i (.fz (boxN xs)))
  | some (.fz d) => .ok (.fz d) ρ
  | _ => .stk
def dsetN (i : Nat) (xs : List D) : M Unit := fun ρ => match ρ[i]? with
  | some .un => .ok () (ρ.set i (.ls .dit xs))
  | some (.fz _) => .ok () (ρ.set i (.ls .dit xs))
  | some (.ls .own _) => .ok () (ρ.set i (.ls .dit xs))
  | some (.ls .dit _) => .ok () (ρ.set i (.ls .dit xs))
  | _ => .stk
/-- an argument by reference: its slot's index, or a fresh list -/
inductive A where
  | val (d : D) | rf (i : Nat) | fr (xs : List D)
/-- an instance whose method is called: its class; frozen, or of a slot -/
def vwA : R → M (Nat × A)
  | .fz (.obj c xs) => ret (c, .val (.obj c xs))
  | .rf i => fun ρ => match ρ[i]? with
    | some (.ls k _) => match k.cls with
      | some c => .ok (c, .rf i) ρ
      | none => .stk
    | _ => .stk
  | _ => stuck
def asRef : R → Option A
  | .fz _ => none
  | .fr xs => some (.fr xs)
  | .rf i => some (.rf i)
def slotOf (ρ : Ev) : A → Option Sl
  | .val d => some (.fz d)
  | .fr xs => some (.ls .bor xs)
  | .rf i => match ρ[i]? with
    | some (.ls .own xs) => some (.ls .bor xs)
    | some (.ls .bor xs) => some (.ls .bor xs)
    | some (.ls (.ins c) xs) => some (.ls (.inb c) xs)
    | some (.ls (.inb c) xs) => some (.ls (.inb c) xs)
    | _ => none
def slotsOf (ρ : Ev) : List A → Option (List Sl)
  | [] => some []
  | a :: r => match slotOf ρ a, slotsOf ρ r with
    | some s, some ss => some (s :: ss)
    | _, _ => none
def refs : List A → List Nat
  | [] => []
  | .rf i :: r => i :: refs r
  | _ :: r => refs r
/-- what a call has left in the slots that were passed -/
def putBack : List A → List Sl → Ev → Ev
  | .rf i :: r, .ls _ xs :: ss, ρ => putBack r ss (match ρ[i]? with | some (.ls k _) => ρ.set i (.ls k xs) | _ => ρ)
  | _ :: r, _ :: ss, ρ => putBack r ss ρ
  | _, _, ρ => ρ
def pick {α : Type} (perm : List Nat) (l : List α) : Option (List α) := perm.mapM fun j => l[j]?
def frs : List A → Nat
  | [] => 0
  | .fr _ :: r => frs r + 1
  | _ :: r => frs r
def callM (Φ : Calls) (f : Nat) (perm : List Nat) (as : List A) : M R := fun ρ =>
  match pick perm as with
  | none => .stk
  | some as => if (refs as).Nodup ∧ frs as ≤ 1 then match slotsOf ρ as with
      | none => .stk
      | some ss => match Φ f ss with
        | none => .stk
        | some (r, ss') => .ok r (putBack as ss' ρ)
    else .stk
/-- a method's call: the slot's class is looked at again -/
def callS (Φ : Calls) (f : Nat) (perm : List Nat) (p : Nat × A) (as : List A) : M R := match p.2 with
  | .rf i => fun ρ => match ρ[i]? with
    | some (.ls k _) => if k.cls = some p.1 then callM Φ f perm (.rf i :: as) ρ else .stk
    | _ => .stk
  | a => callM Φ f perm (a :: as)
def valsOf : List A → Option (List D)
  | [] => some []
  | .val d :: r => (valsOf r).map (d :: ·)
  | _ :: _ => none
/-- a class's call: its __init__ gives the fields -/
def makeM (Φ : Calls) (c f : Nat) (perm : List Nat) (as : List A) : M R := fun ρ =>
  match (pick perm as).bind valsOf with
  | none => .stk
  | some ds => match Φ f (.un :: ds.map .fz) with
    | some (.fz (.tup xs), _) => if xs.length = (cFlds c).length then .ok (.fz (.obj c xs)) ρ else .stk
    | _ => .stk
/-- .. the fields of an instance that is changed later -/
def makeL (Φ : Calls) (c f : Nat) (perm : List Nat) (as : List A) : M (List D) := fun ρ =>
  match (pick perm as).bind valsOf with
  | none => .stk
  | some ds => match Φ f (.un :: ds.map .fz) with
    | some (.fz (.tup xs), _) => if xs.length = (cFlds c).length then .ok xs ρ else .stk
    | _ => .stk
inductive Fl where
  | nx | rt (r : R) | bk | ct
def forL (step : D → M Fl) : List D → M Fl
  | [] => ret .nx
  | x :: xs => bnd (step x) fun
    | .nx => forL step xs
    | .ct => forL step xs
    | .bk => ret .nx
    | .rt r => ret (.rt r)
def cmpL (step : D → M (Option D)) : List D → List D → M (List D)
  | [], acc => ret acc
  | x :: xs, acc => bnd (step x) fun
    | some y => if acc.length < sizeLine then cmpL step xs (acc ++ [y]) else stuck
    | none => cmpL step xs acc
def whileN (test : M Bool) (body : M Fl) : Nat → M Fl
  | 0 => stuck
  | n + 1 => bnd test fun
    | true => bnd body fun
      | .nx => whileN test body n
      | .ct => whileN test body n
      | .bk => ret .nx
      | .rt r => ret (.rt r)
    | false => ret .nx
/-- the items that are walked, and the slot that is locked meanwhile -/
def lockOf (ρ : Ev) : R → Option (Nat × Lk)
  | .rf i => match ρ[i]? with | some (.ls .dic _) => none | some (.ls .dit _) => none | some (.ls (.ins _) _) => none | some (.ls (.inb _) _) => none | some (.ls k _) => some (i, k) | _ => none
  | _ => none
def withLock {α : Type} (l : Option (Nat × Lk)) (m : M α) : M α := fun ρ => match l with
  | none => m ρ
  | some (i, k) => match ρ[i]? with
    | some (.ls _ xs) => (m (ρ.set i (.ls .lck xs))).then fun a ρ' => match ρ'[i]? with
      | some (.ls _ ys) => .ok a (ρ'.set i (.ls k ys))
      | _ => .stk
    | _ => .stk
def itemsD : D → Option (List D)
  | .tup xs => some xs
  | .lst xs => some xs
  | .scr xs => some xs
  | _ => none
def enumFrom : Nat → List D → List D
  | _, [] => []
  | n, x :: xs => .tup [.int n, x] :: enumFrom (n + 1) xs
def zipD : List D → List D → List D
  | x :: xs, y :: ys => .tup [x, y] :: zipD xs ys
  | _, _ => []
def zip3D : List D → List D → List D → List D
  | x :: xs, y :: ys, z :: zs => .tup [x, y, z] :: zip3D xs ys zs
  | _, _, _ => []
def zipI : D → D → Option (List D)
  | .lst xs, .lst ys => some (zipD xs ys)
  | .tup xs, .tup ys => some (zipD xs ys)
  | .tup xs, .lst ys => some (zipD xs ys)
  | _, _ => none
/-- the slots of a comprehension's own names are put by, and back -/
def wipeS (ρ : Ev) : List Nat → Ev
  | [] => ρ
  | v :: vs => (wipeS ρ vs).set v .un
def ownOk (ρ : Ev) (own : List Nat) : Bool := own.all fun i => match ρ[i]? with | some .un => true | some (.fz _) => true | _ => false
def wipeM (own : List Nat) : M Unit := fun ρ => if ownOk ρ own then .ok () (wipeS ρ own) else .stk
def dropOk (ρ : Ev) (ws : List Nat) : Bool := ws.all fun i => match ρ[i]? with | some .un => true | some (.fz _) => true | some (.ls .own _) => true | some (.ls .dit _) => true | _ => false
def dropM (ws : List Nat) : M Unit := fun ρ => if dropOk ρ ws then .ok () (wipeS ρ ws) else .stk
def backS (ρ ρ' : Ev) : List Nat → Ev
  | [] => ρ'
  | v :: vs => (backS ρ ρ' vs).set v (ρ.getD v .un)
abbrev Xr := Option (Nat × List D × Ev)
def XO : Nat := 1000000
/-- how many fields an error has -/
def xAr : Nat → Nat
  | 7 => 2 | 19 => 0 | 20 => 0 | _ => 1
def xcall (Φ : Calls) (f : Nat) (ss : List Sl) (ρ : Ev) : Xr := match Φ (f + XO) ss with
  | some (.fz (.tup [.int c, .tup fs]), _) => some (c.toNat, fs, ρ)
  | _ => none
def xcallA (Φ : Calls) (f : Nat) (perm : List Nat) (as : List A) (ρ : Ev) : Xr := match pick perm as with
  | none => none
  | some as => if (refs as).Nodup ∧ frs as ≤ 1 then match slotsOf ρ as with
      | none => none
      | some ss => match Φ (f + XO) ss with
        | some (.fz (.tup [.int c, .tup fs]), ss') => some (c.toNat, fs, putBack as ss' ρ)
        | _ => none
    else none
/-- a method's call that raises: the slot's class is looked at again -/
def xcallS (Φ : Calls) (f : Nat) (perm : List Nat) (p : Nat × A) (as : List A) : Ev → Xr := match p.2 with
  | .rf i => fun ρ => match ρ[i]? with
    | some (.ls k _) => if k.cls = some p.1 then xcallA Φ f perm (.rf i :: as) ρ else none
    | _ => none
  | a => xcallA Φ f perm (a :: as)
/-- the word of an error's class -/
def xWord : Nat → Str
  | 0 => "levels" | 1 => "level" | 2 => "log" | 3 => "times" | 4 => "text" | 5 => "rack" | 6 => "counts" | 7 => "band" | 8 => "links" | 9 => "bytes" | 10 => "number" | 11 => "growth" | 12 => "pairs" | 13 => "index" | 14 => "action" | 15 => "line"
  | 16 => "notalog" | 17 => "notlinks" | 18 => "differ" | 19 => "busy" | 20 => "undo" | 21 => "long" | 22 => "parts" | 23 => "deep" | 24 => "large" | _ => "entries"
/-- an instance's own text -/
def txO (Φ : Calls) (ms : List (Nat × Nat)) (c : Nat) (xs : List D) : Option Str := (ms.lookup c).bind fun f => match Φ f [.fz (.obj c xs)] with
  | some (.fz (.str t), _) => some t
  | _ => none
/-- repr of what holds no instance -/
def shP (d : D) : Option Str := if pureR d && (toPy d).showable && decide ((toPy d).depth ≤ 64) && decide ((toPy d).shown.length ≤ sizeLine) then some (toPy d).shown else none
/-- repr of lists and tuples with instances inside -/
def shO (tx : Nat → List D → Option Str) : Nat → D → Option Str
  | 0, _ => none
  | j + 1, d => if pureR d then shP d else match d with
    | .obj c xs => tx c xs
    | .box n _ xs => if n = 3 then (intsD xs).bind fun ns => if ns.length ≤ 1000 then some (bytX ns) else none else none
    | .tup ds => (ds.mapM (shO tx j)).bind fun ts => if (tupleText ts).length ≤ sizeLine then some (tupleText ts) else none
    | .lst ds => (ds.mapM (shO tx j)).bind fun ts => if (listText ts).length ≤ sizeLine then some (listText ts) else none
    | _ => none
/-- .. of a list or tuple, or of what holds no instance -/
def shT (tx : Nat → List D → Option Str) (d : D) : Option Str := if pureR d then shP d else match d with
  | .lst ds => shO tx 4 (.lst ds)
  | .tup ds => shO tx 4 (.tup ds)
  | _ => none
mutual
def ev (Φ : Calls) : E → M R
  | .var i => fun ρ => match ρ[i]? with
    | some (.fz d) => .ok (.fz d) ρ
    | some (.ls .dic _) => .stk
    | some (.ls .dit _) => .stk
    | some (.ls (.ins _) _) => .stk
    | some (.ls (.inb _) _) => .stk
    | some (.ls _ _) => .ok (.rf i) ρ
    | _ => .stk
  | .vin i => fun ρ => match ρ[i]? with
    | some (.fz d) => .ok (.fz d) ρ
    | some (.ls k _) => match k.cls with
      | some _ => .ok (.rf i) ρ
      | none => .stk
    | _ => .stk
  | .cst d => ret (.fz d)
  | .bin o a b => bnd (ev Φ a) fun x => bnd (ev Φ b) fun y => bnd (vw x) fun d => bnd (vw y) fun e => ofO (binD o d e)
  | .neg a => bnd (ev Φ a) fun x => bnd (vw x) fun d => match d with | .int i => ret (.fz (.int (-i))) | _ => stuck
  | .cmp o a b => bnd (ev Φ a) fun x => bnd (ev Φ b) fun y => bnd (vw x) fun d => bnd (vw y) fun e => bnd (ofO (cmpD o d e)) fun c => ret (.fz (.bl c))
  | .chn o p a b c => bnd (ev Φ a) fun x => bnd (ev Φ b) fun y => bnd (vw x) fun d => bnd (vw y) fun e => bnd (ofO (cmpD o d e)) fun k =>
      if k then bnd (ev Φ c) fun z => bnd (vw y) fun e => bnd (vw z) fun f => bnd (ofO (cmpD p e f)) fun c => ret (.fz (.bl c)) else ret (.fz (.bl false))
  | .and a b => bnd (ev Φ a) fun x => bnd (vw x) fun d => bnd (ofO (truthD d)) fun k => if k then ev Φ b else ret x
  | .or a b => bnd (ev Φ a) fun x => bnd (vw x) fun d => bnd (ofO (truthD d)) fun k => if k then ret x else ev Φ b
  | .not a => bnd (ev Φ a) fun x => bnd (vw x) fun d => bnd (ofO (truthD d)) fun k => ret (.fz (.bl (!k)))
  | .ite t a b => bnd (ev Φ t) fun x => bnd (vw x) fun d => bnd (ofO (truthD d)) fun k => if k then ev Φ a else ev Φ b
  | .tup es => bnd (evs Φ es) fun ds => if ds.length ≤ sizeLine then ret (.fz (.tup ds)) else stuck
  | .lst es => bnd (evs Φ es) fun ds => if ds.length ≤ sizeLine then ret (.fr ds) else stuck
  | .idx a b => bnd (ev Φ a) fun x => bnd (ev Φ b) fun y => bnd (vw x) fun d => bnd (vw y) fun e => bnd (ofO (idxD d e)) fun f => ret (.fz f)
  | .slc a lo hi => bnd (ev Φ a) fun x => bnd (evo Φ lo) fun l => bnd (evo Φ hi) fun h => bnd (vw x) fun d => ofO (slcD d l h)
  | .call f perm as ks => bnd (evas Φ as) fun as => bnd (evas Φ ks) fun ks => callM Φ f perm (as ++ ks)
  | .bi b es => bnd (evrs Φ es) fun rs => fun ρ => match rs.mapM (view ρ) with | some ds => ofO (biD b ds) ρ | none => .stk
  | .comp own tg it cond elt => bnd (evit Φ it) fun (l, xs) => fun ρ =>
      (bnd (wipeM own) (fun _ => withLock l (cmpL (fun x => bnd (asgn Φ tg x) fun _ => bnd (evc Φ cond) fun k =>
        if k then bnd (ev Φ elt) fun r => bnd (share r) fun y => bnd (wipeM own) fun _ => ret (some y) else bnd (wipeM own) fun _ => ret none) xs [])) ρ).then
          fun ys ρ' => .ok (.fr ys) (backS ρ ρ' own)
  | .app i e => bnd (getL i) fun _ => bnd (ev Φ e) fun y => bnd (share y) fun d => bnd (getL i) fun xs =>
      if xs.length < sizeLine then bnd (putL i (xs ++ [d])) fun _ => ret (.fz .non) else stuck
  | .ext i e => bnd (getL i) fun _ => bnd (ev Φ e) fun y => bnd (vw y) fun d => match d with
    | .lst ys => bnd (getL i) fun xs => if xs.length + ys.length ≤ sizeLine then bnd (putL i (xs ++ ys)) fun _ => ret (.fz .non) else stuck
    | _ => stuck
  | .fld e ks => bnd (ev Φ e) fun x => bnd (vw x) fun d => match d with
    | .obj c xs => bnd (ofO ((ks.lookup c).bind fun i => xs[i]?)) fun f => ret (.fz f)
    | _ => stuck
  | .make c f perm as ks => bnd (evas Φ as) fun as => bnd (evas Φ ks) fun ks => makeM Φ c f perm (as ++ ks)
  | .meth o ms perm as ks => bnd (ev Φ o) fun x => bnd (vwA x) fun p => bnd (ofO (ms.lookup p.1)) fun f => bnd (evas Φ as) fun as => bnd (evas Φ ks) fun ks => callS Φ f perm p (as ++ ks)
  | .dget i e => bnd (dgetM i) fun _ => bnd (ev Φ e) fun y => bnd (vw y) fun d => match d with
    | .int k => bnd (dgetM i) fun xs => bnd (ofO (dval xs k)) fun v => ret (.fz v)
    | _ => stuck
  | .din i e => bnd (ev Φ e) fun y => bnd (vw y) fun d => match d with
    | .int k => bnd (dgetM i) fun xs => ret (.fz (.bl (dval xs k).isSome))
    | _ => stuck
  | .dnin i e => bnd (ev Φ e) fun y => bnd (vw y) fun d => match d with
    | .int k => bnd (dgetM i) fun xs => ret (.fz (.bl (!(dval xs k).isSome)))
    | _ => stuck
  | .dgtN i e => bnd (dgetN i) fun _ => bnd (ev Φ e) fun y => bnd (vw y) fun d => bnd (ofO (keyN d)) fun k => bnd (dgetN i) fun xs => bnd (ofO (dvalN xs k)) fun v => ret (.fz v)
  | .dinN i e neg => bnd (ev Φ e) fun y => bnd (vw y) fun d => bnd (ofO (keyN d)) fun k => bnd (dgetN i) fun xs => ret (.fz (.bl (if neg then !(dvalN xs k).isSome else (dvalN xs k).isSome)))
  | .dg2N i e x => bnd (dgetN i) fun _ => bnd (ev Φ e) fun y => bnd (vw y) fun d => bnd (ofO (keyN d)) fun k => bnd (ev Φ x) fun z => bnd (share z) fun w => bnd (dgetN i) fun xs => ret (.fz ((dvalN xs k).getD w))
  | .frzN i => frzM i
  | .d1E k e => bnd (bnd (ev Φ e) fun x => bnd (vw x) fun d => match d with | .int i => ret i | _ => stuck) fun i => ret (.fz (.emp [(k, i)]))
  | .dnE kv => bnd (bnd (evs Φ kv) fun ds => ofO (dispN ds)) fun xs => ret (.fz (boxN xs))
  | .dofE e => bnd (bnd (ev Φ e) fun x => bnd (vw x) fun d => match d with | .lst ps => ofO (pairN [] ps) | _ => stuck) fun xs => ret (.fz (boxN xs))
  | .rpr ms e => bnd (ev Φ e) fun x => bnd (vw x) fun d => bnd (ofO (shT (txO Φ ms) d)) fun t => ret (.fz (.str t))
  | .rpv ms e => bnd (ev Φ e) fun x => match x with
    | .fz (.obj c xs) => bnd (ofO (txO Φ ms c xs)) fun t => ret (.fz (.str t))
    | x => bnd (vw x) fun d => bnd (ofO (shT (txO Φ ms) d)) fun t => ret (.fz (.str t))
  | .shr e => bnd (ev Φ e) fun x => bnd (share x) fun d => ret (.fz d)
  | .gdi tb e => bnd (ev Φ e) fun x => bnd (vw x) fun d => match d with
    | .str t => ret (.fz (.bl (tb.lookup t).isSome))
    | _ => stuck
  | .gdg tb e => bnd (ev Φ e) fun x => bnd (vw x) fun d => match d with
    | .str t => bnd (ofO (tb.lookup t)) fun n => ret (.fz (.int n))
    | _ => stuck
  | .rse _ _ => stuck
  | .xc e => ev Φ e
  | .xa e => ev Φ e
  | .caught cs e => fun ρ => match bnd (ev Φ e) share ρ with
    | .ok d ρ1 => .ok (.fr [.str "returned", d]) ρ1
    | .stk => match xev Φ e ρ with
      | some (c, fs, ρ1) => if fs.length = xAr c ∧ c ∈ cs then .ok (.fr (.str (xWord c) :: fs)) ρ1 else .stk
      | none => .stk
def evo (Φ : Calls) : Eo → M (Option Int)
  | .none => ret none
  | .some e => bnd (ev Φ e) fun x => bnd (vw x) fun d => match d with | .int i => ret (some i) | _ => stuck
def evc (Φ : Calls) : Eo → M Bool
  | .none => ret true
  | .some e => bnd (ev Φ e) fun x => bnd (vw x) fun d => ofO (truthD d)
/-- shared, from the left -/
def evs (Φ : Calls) : Es → M (List D)
  | .nil => ret []
  | .cons e es => bnd (ev Φ e) fun x => bnd (share x) fun d => bnd (evs Φ es) fun ds => ret (d :: ds)
/-- as they are -/
def evrs (Φ : Calls) : Es → M (List R)
  | .nil => ret []
  | .cons e es => bnd (ev Φ e) fun x => bnd (evrs Φ es) fun ds => ret (x :: ds)
def evas (Φ : Calls) : As → M (List A)
  | .nil => ret []
  | .val e es => bnd (ev Φ e) fun x => bnd (share x) fun d => bnd (evas Φ es) fun ds => ret (.val d :: ds)
  | .ref e es => bnd (ev Φ e) fun x => bnd (ofO (asRef x)) fun a => bnd (evas Φ es) fun ds => ret (a :: ds)
def evit (Φ : Calls) : It → M (Option (Nat × Lk) × List D)
  | .val e => bnd (ev Φ e) fun x => bnd (vw x) fun d => fun ρ => bnd (ofO (itemsD d)) (fun xs => ret (lockOf ρ x, xs)) ρ
  | .rng1 e => bnd (ev Φ e) fun x => bnd (vw x) fun d => match d with
    | .int j => if small62 j then ret (none, rngL 0 j) else stuck
    | _ => stuck
  | .rng2 a b => bnd (ev Φ a) fun x => bnd (ev Φ b) fun y => bnd (vw x) fun d => bnd (vw y) fun e => match d, e with
    | .int i, .int j => if small62 i && small62 j then ret (none, rngL i j) else stuck
    | _, _ => stuck
  | .rngD a b => bnd (ev Φ a) fun x => bnd (ev Φ b) fun y => bnd (vw x) fun d => bnd (vw y) fun e => match d, e with
    | .int i, .int j => if small62 i && small62 j then ret (none, rngDL i j) else stuck
    | _, _ => stuck
  | .enum e => bnd (ev Φ e) fun x => bnd (vw x) fun d => fun ρ => bnd (ofO (itemsD d)) (fun xs => ret (lockOf ρ x, enumFrom 0 xs)) ρ
  | .zip a b => bnd (ev Φ a) fun x => bnd (share x) fun d => bnd (ev Φ b) fun y => bnd (share y) fun e => bnd (ofO (zipI d e)) fun xs => ret (none, xs)
  | .rev e => bnd (ev Φ e) fun x => bnd (vw x) fun d => fun ρ => bnd (ofO (itemsD d)) (fun xs => ret (lockOf ρ x, xs.reverse)) ρ
  | .enumZ a b => bnd (ev Φ a) fun x => bnd (share x) fun d => bnd (ev Φ b) fun y => bnd (share y) fun e => match d, e with
    | .tup xs, .tup ys => ret (none, enumFrom 0 (zipD xs ys))
    | _, _ => stuck
  | .zip3 a b c => bnd (ev Φ a) fun x => bnd (share x) fun d => bnd (ev Φ b) fun y => bnd (share y) fun e => bnd (ev Φ c) fun z => bnd (share z) fun f => match d, e, f with
    | .lst xs, .lst ys, .lst zs => ret (none, zip3D xs ys zs)
    | _, _, _ => stuck
  | .keys e => bnd (ev Φ e) fun x => match x with
    | .fz (.box 1 _ ds) => ret (none, keysD ds)
    | _ => stuck
def asgn (Φ : Calls) : Tg → D → M Unit
  | .nm i, d => setD i d
  | .sub i b, d => bnd (getL i) fun _ => bnd (ev Φ b) fun y => bnd (vw y) fun e => match e with
    | .int k => bnd (getL i) fun xs => match ixN xs.length k with | some j => putL i (xs.set j d) | none => stuck
    | _ => stuck
  | .tp ts, .tup ds => asgns Φ ts ds
  | .tp ts, .lst ds => asgns Φ ts ds
  | .tp _, _ => stuck
  | .fld i ks, d => stF i ks d
def asgns (Φ : Calls) : Tgs → List D → M Unit
  | .nil, [] => ret ()
  | .cons t ts, d :: ds => bnd (asgn Φ t d) fun _ => asgns Φ ts ds
  | _, _ => stuck
def xev (Φ : Calls) : E → Ev → Xr
  | .rse c es, ρ => match evs Φ es ρ with | .ok ds ρ1 => some (c, ds, ρ1) | .stk => none
  | .xc e, ρ => xcev Φ e ρ
  | .xa e, ρ => xaev Φ e ρ
  | _, _ => none
def xcev (Φ : Calls) : E → Ev → Xr
  | .call f perm as ks, ρ => match (bnd (evas Φ as) fun a => bnd (evas Φ ks) fun b => ret (a ++ b)) ρ with
    | .ok as ρ1 => xcallA Φ f perm as ρ1
    | .stk => none
  | .meth o ms perm as ks, ρ => match (bnd (ev Φ o) vwA) ρ with
    | .ok (c, s) ρ0 => match ms.lookup c with
      | some f => match (bnd (evas Φ as) fun a => bnd (evas Φ ks) fun b => ret (a ++ b)) ρ0 with
        | .ok as ρ1 => xcallS Φ f perm (c, s) as ρ1
        | .stk => none
      | none => none
    | _ => none
  | .make _ f perm as ks, ρ => match (bnd (evas Φ as) fun a => bnd (evas Φ ks) fun b => ret (a ++ b)) ρ with
    | .ok as ρ1 => match (pick perm as).bind valsOf with
      | some ds => xcall Φ f (.un :: ds.map .fz) ρ1
      | none => none
    | .stk => none
  | .lst es, ρ => xevs Φ es ρ
  | .cmp _ a _, ρ => xev Φ a ρ
  | .not a, ρ => xev Φ a ρ
  | .ite t a b, ρ => match (bnd (ev Φ t) fun x => bnd (vw x) fun d => ofO (truthD d)) ρ with
    | .ok k ρ1 => if k then xev Φ a ρ1 else xev Φ b ρ1
    | .stk => none
  | _, _ => none
def xaev (Φ : Calls) : E → Ev → Xr
  | .slc a _ _, ρ => xev Φ a ρ
  | .bin _ a _, ρ => xev Φ a ρ
  | .bi _ (.cons a _), ρ => xev Φ a ρ
  | .call _ _ (.val a _) _, ρ => xev Φ a ρ
  | _, _ => none
def xevs (Φ : Calls) : Es → Ev → Xr
  | .nil, _ => none
  | .cons e es, ρ => match (bnd (ev Φ e) share) ρ with
    | .ok _ ρ1 => xevs Φ es ρ1
    | .stk => xev Φ e ρ
end
mutual
def Tg.slots : Tg → List Nat
  | .nm i => [i]
  | .sub _ _ => []
  | .tp ts => ts.slots
  | .fld _ _ => []
def Tgs.slots : Tgs → List Nat
  | .nil => []
  | .cons t ts => t.slots ++ ts.slots
end
/-- what a plain assignment stores: a fresh list goes to its slot -/
def asgR (Φ : Calls) : Tg → R → M Unit
  | .nm i, r => setR i r
  | t, r => bnd (share r) fun d => asgn Φ t d
def fuelW : Nat := 100000
mutual
def exec (Φ : Calls) : S → M Fl
  | .asg t e => bnd (ev Φ e) fun r => bnd (asgR Φ t r) fun _ => ret .nx
  | .par i j a b => bnd (ev Φ a) fun x => bnd (ev Φ b) fun y => bnd (unref x) fun x => bnd (unref y) fun y => bnd (setR i x) fun _ => bnd (setR j y) fun _ => ret .nx
  | .par3 i j l a b c => bnd (ev Φ a) fun x => bnd (ev Φ b) fun y => bnd (ev Φ c) fun z => bnd (unref x) fun x => bnd (unref y) fun y => bnd (unref z) fun z => match y, z with
    | .fz d, .fz e => bnd (setR i x) fun _ => bnd (setD j d) fun _ => bnd (setD l e) fun _ => ret .nx
    | _, _ => stuck
  | .par3T i j l a b c => bnd (ev Φ a) fun x => bnd (ev Φ b) fun y => bnd (ev Φ c) fun z => bnd (unref x) fun x => bnd (unref y) fun y => bnd (unref z) fun z => match z with
    | .fz e => bnd (setR i x) fun _ => bnd (setR j y) fun _ => bnd (setD l e) fun _ => ret .nx
    | _ => stuck
  | .aug i o e => bnd (ev Φ (.var i)) fun x => bnd (ev Φ e) fun y => bnd (vw x) fun d => bnd (vw y) fun e => match d, e with
    | .int _, .int _ => bnd (ofO (binD o d e)) fun r => bnd (setR i r) fun _ => ret .nx
    | _, _ => stuck
  | .ex e => bnd (ev Φ e) fun _ => ret .nx
  | .ifs c a b => bnd (ev Φ c) fun x => bnd (vw x) fun d => bnd (ofO (truthD d)) fun k => if k then execs Φ a else execs Φ b
  | .for_ t it b => bnd (evit Φ it) fun (l, xs) => withLock l (forL (fun x => bnd (asgn Φ t x) fun _ => execs Φ b) xs)
  | .whl c b => whileN (bnd (ev Φ c) fun x => bnd (vw x) fun d => ofO (truthD d)) (execs Φ b) fuelW
  | .ret e => bnd (ev Φ e) fun r => ret (.rt r)
  | .retN => ret (.rt (.fz .non))
  | .pass => ret .nx
  | .brk => ret .bk
  | .cnt => ret .ct
  | .wip ws => bnd (dropM ws) fun _ => ret .nx
  | .dnew i => bnd (dsetM i) fun _ => ret .nx
  | .dof i e => bnd (ev Φ e) fun x => bnd (vw x) fun d => match d with
    | .lst ps => bnd (ofO (pairN [] ps)) fun xs => bnd (dsetN i xs) fun _ => ret .nx
    | _ => stuck
  | .par3d i j l a b => bnd (ev Φ a) fun x => bnd (ev Φ b) fun y => bnd (unref x) fun x => bnd (unref y) fun y => match y with
    | .fz d => bnd (setR i x) fun _ => bnd (setD j d) fun _ => bnd (dsetM l) fun _ => ret .nx
    | _ => stuck
  | .dn i kv => bnd (bnd (evs Φ kv) fun ds => ofO (dispN ds)) fun xs => bnd (dsetN i xs) fun _ => ret .nx
  | .par2N i j kv b => bnd (bnd (evs Φ kv) fun ds => ofO (dispN ds)) fun xs => bnd (ev Φ b) fun y => bnd (unref y) fun y => bnd (dsetN i xs) fun _ => bnd (setR j y) fun _ => ret .nx
  | .par3N i j l kv b c => bnd (bnd (evs Φ kv) fun ds => ofO (dispN ds)) fun xs => bnd (ev Φ b) fun y => bnd (ev Φ c) fun z => bnd (unref y) fun y => match z with
    | .fz d => bnd (dsetN i xs) fun _ => bnd (setR j y) fun _ => bnd (setD l d) fun _ => ret .nx
    | _ => stuck
  | .dputN i e v => bnd (ev Φ v) fun x => bnd (share x) fun d => bnd (dgetO i) fun _ => bnd (ev Φ e) fun y => bnd (share y) fun kd => bnd (ofO (keyN kd)) fun k => bnd (dgetO i) fun xs => if xs.length < sizeLine then bnd (dputO i (DL.dputN xs kd k d)) fun _ => ret .nx else stuck
  | .par2d i l a => bnd (ev Φ a) fun x => bnd (unref x) fun x => bnd (setR i x) fun _ => bnd (dsetM l) fun _ => ret .nx
  | .star i j e => bnd (ev Φ e) fun x => bnd (vw x) fun d => match d with
    | .tup (y :: ys) => bnd (setD i y) fun _ => bnd (setL j ys) fun _ => ret .nx
    | _ => stuck
  | .star2 i j l e => bnd (ev Φ e) fun x => bnd (vw x) fun d => match d with
    | .tup (y :: z :: zs) => bnd (setD i y) fun _ => bnd (setD j z) fun _ => bnd (setL l zs) fun _ => ret .nx
    | _ => stuck
  | .stLast l t e => bnd (ev Φ e) fun x => bnd (vw x) fun d => match d with
    | .tup ds => match ds.reverse with
      | z :: r => bnd (setL l r.reverse) fun _ => bnd (asgn Φ t z) fun _ => ret .nx
      | [] => stuck
    | _ => stuck
  | .rtF i tb e perm as => bnd (ev Φ e) fun x => bnd (vw x) fun d => match d with
    | .str t => bnd (ofO (tb.lookup t)) fun f => bnd (wipeM [i]) fun _ => bnd (evas Φ as) fun as => bnd (callM Φ f perm as) fun r => ret (.rt r)
    | _ => stuck
  | .dput i e v => bnd (ev Φ v) fun x => bnd (share x) fun d => bnd (dgetM i) fun _ => bnd (ev Φ e) fun y => bnd (vw y) fun z => match z with
    | .int k => bnd (dgetM i) fun xs => if xs.length < sizeLine then bnd (dputM i (dputD xs k d)) fun _ => ret .nx else stuck
    | _ => stuck
  | .tryR e hs => fun ρ => match ev Φ e ρ with
    | .ok r ρ1 => .ok (.rt r) ρ1
    | .stk => match xev Φ e ρ with
      | some (c, fs, ρ1) => match hs.lookup c with
        | some w => if fs.length = xAr c then .ok (.rt (.fr (.str w :: fs))) ρ1 else .stk
        | none => .stk
      | none => .stk
  | .tryN e k => fun ρ => match ev Φ e ρ with
    | .ok r ρ1 => .ok (.rt r) ρ1
    | .stk => match xev Φ e ρ with
      | some (c, fs, ρ1) => if c = k ∧ fs.length = xAr c then .ok (.rt (.fz .non)) ρ1 else .stk
      | none => .stk
  | .mk i c f perm as ks => bnd (bnd (evas Φ as) fun as => bnd (evas Φ ks) fun ks => makeL Φ c f perm (as ++ ks)) fun xs => bnd (newI i c xs) fun _ => ret .nx
  | .mk2 i c f perm as ks j b => bnd (bnd (evas Φ as) fun as => bnd (evas Φ ks) fun ks => makeL Φ c f perm (as ++ ks)) fun xs => bnd (ev Φ b) fun y => bnd (share y) fun d => bnd (newI i c xs) fun _ => bnd (setD j d) fun _ => ret .nx
  | .mk3 i c f perm as ks j l b d => bnd (bnd (evas Φ as) fun as => bnd (evas Φ ks) fun ks => makeL Φ c f perm (as ++ ks)) fun xs => bnd (ev Φ b) fun y => bnd (share y) fun dy => bnd (ev Φ d) fun z => bnd (share z) fun dz => bnd (newI i c xs) fun _ => bnd (setD j dy) fun _ => bnd (setD l dz) fun _ => ret .nx
  | .mkT i c f perm as ks t b => bnd (bnd (evas Φ as) fun as => bnd (evas Φ ks) fun ks => makeL Φ c f perm (as ++ ks)) fun xs => bnd (ev Φ b) fun y => bnd (share y) fun d => bnd (newI i c xs) fun _ => bnd (asgn Φ t d) fun _ => ret .nx
  | .augf i ks o e => bnd (ev Φ (.fld (.vin i) ks)) fun x => bnd (ev Φ e) fun y => bnd (vw x) fun d => bnd (vw y) fun e => match d, e with
    | .int _, .int _ => bnd (ofO (binD o d e)) fun r => match r with
      | .fz g => bnd (stF i ks g) fun _ => ret .nx
      | _ => stuck
    | _, _ => stuck
  | .tryF b fin => bnd (execs Φ b) fun
    | .nx => execs Φ fin
    | _ => stuck
def execs (Φ : Calls) : Ss → M Fl
  | .nil => ret .nx
  | .cons s ss => bnd (exec Φ s) fun
    | .nx => execs Φ ss
    | f => ret f
end
def xit (Φ : Calls) : It → Ev → Xr
  | .val e, ρ => xev Φ e ρ
  | _, _ => none
def xforL (step : D → M Fl) (xs : D → Ev → Xr) : List D → Ev → Xr
  | [], _ => none
  | d :: ds, ρ => match step d ρ with
    | .ok .nx ρ1 => xforL step xs ds ρ1
    | .ok .ct ρ1 => xforL step xs ds ρ1
    | .ok _ _ => none
    | .stk => xs d ρ
mutual
def xexec (Φ : Calls) : S → Ev → Xr
  | .ex e, ρ => xev Φ e ρ
  | .ret e, ρ => xev Φ e ρ
  | .asg _ e, ρ => xev Φ e ρ
  | .ifs c a b, ρ => match (bnd (ev Φ c) fun x => bnd (vw x) fun d => ofO (truthD d)) ρ with
    | .ok k ρ1 => if k then xexecs Φ a ρ1 else xexecs Φ b ρ1
    | .stk => xev Φ c ρ
  | .for_ t it b, ρ => match evit Φ it ρ with
    | .ok (none, xs) ρ1 => xforL (fun x => bnd (asgn Φ t x) fun _ => execs Φ b) (fun x ρ2 => match asgn Φ t x ρ2 with | .ok _ ρ3 => xexecs Φ b ρ3 | .stk => none) xs ρ1
    | .ok _ _ => none
    | .stk => xit Φ it ρ
  | .tryF b fin, ρ => match execs Φ b ρ with
    | .ok .nx ρ1 => xexecs Φ fin ρ1
    | .ok _ _ => none
    | .stk => match xexecs Φ b ρ with
      | some (c, fs, ρ1) => match execs Φ fin ρ1 with
        | .ok .nx ρ2 => some (c, fs, ρ2)
        | _ => none
      | none => none
  | _, _ => none
def xexecs (Φ : Calls) : Ss → Ev → Xr
  | .nil, _ => none
  | .cons s ss, ρ => match exec Φ s ρ with
    | .ok .nx ρ1 => xexecs Φ ss ρ1
    | .ok _ _ => none
    | .stk => xexec Φ s ρ
end
/-- a def of the table: its parameters, its slots, its body -/
structure Df where
  np : Nat
  ns : Nat
  body : Ss
/-- a result that leaves its def -/
def leave (ρ : Ev) : R → Option R
  | .fz d => some (.fz d)
  | .fr xs => some (.fr xs)
  | .rf i => match ρ[i]? with | some (.ls .own xs) => some (.fr xs) | _ => none
/-- the slots that were passed by reference, as the def has left them -/
def behind : List Sl → Ev → List Sl
  | [], _ => []
  | .ls _ _ :: as, s :: ρ => s :: behind as ρ
  | a :: as, ρ => a :: behind as ρ.tail
def callN (T : List Df) : Nat → Calls
  | 0, _, _ => none
  | k + 1, f, args => match T[f]? with
    | none => if XO ≤ f then match T[f - XO]? with
        | none => none
        | some d => if args.length = d.np then match xexecs (callN T k) d.body (args ++ List.replicate (d.ns - d.np) .un) with
            | some (c, fs, ρ') => some (.fz (.tup [.int c, .tup fs]), behind args ρ')
            | none => none
          else none
      else none
    | some d => if args.length = d.np then
        match execs (callN T k) d.body (args ++ List.replicate (d.ns - d.np) .un) with
        | .ok (.rt r) ρ => (leave ρ r).map fun r => (r, behind args ρ)
        | .ok .nx ρ => some (.fz .non, behind args ρ)
        | _ => none
      else none
end DL
end
section
set_option autoImplicit false
namespace DL
open PySem L2
/-- the tables of the code objects that make lambdas, with the lambdas' names -/
class LTabs where
  T : List (Addr × Str)
  /-- what may be shown while a def runs -/
  gk : Option (List Code) → Prop
  gk0 : gk (some [])
/-- laws without lambdas -/
instance (priority := 1) noTabs : LTabs := ⟨[], fun g => g = some [], rfl⟩
variable [LTabs]
abbrev Gok (A : Around) : Prop := LTabs.gk A.guards
def NT (o : HO) : Prop := ∀ ps, o ≠ .tbl ps
/-- the tables stand in the heap -/
def LTb (H : Hp) : Prop := LamX.Tabs LTabs.T H
theorem LTb.new {H : Hp} {p : Addr} {o : HO} (t : LTb H) (hp : H p = none) : LTb (upd H p o) := LamX.Tabs.ext t fun b u e => by rw [upd_ne (ne_of_none e hp)]; exact e
theorem LTb.set {H : Hp} {a : Addr} {o o' : HO} (t : LTb H) (ha : H a = some o) (nt : NT o := by intro _ z; cases z) (nc : ∀ c q, o ≠ LamX.CodeO c q := by intro _ _ z; unfold LamX.CodeO at z; cases z) : LTb (upd H a o') := fun p hp => by
  obtain ⟨ps, h1, h2, h3⟩ := t p hp
  refine ⟨ps, ?_, h2, fun pos cv hc => ?_⟩
  · rw [upd_ne]
    · exact h1
    · intro z; rw [z, ha] at h1; exact nt ps (Option.some.inj h1)
  · obtain ⟨c, e1, e2⟩ := h3 pos cv hc
    refine ⟨c, e1, ?_⟩
    rw [upd_ne]
    · exact e2
    · intro z; rw [z, ha] at e2; exact nc _ _ (Option.some.inj e2)
/-- what stood stays, tables grow -/
structure Kp (H H' : Hp) : Prop where
  keep : ∀ b o, H b = some o → NT o → H' b = some o
  stay : ∀ b, H' b = none → H b = none
  tb : LTb H → LTb H'
theorem Kp.refl {H : Hp} : Kp H H := ⟨fun _ _ h _ => h, fun _ h => h, fun t => t⟩
theorem Kp.trans {H H' H'' : Hp} (a : Kp H H') (b : Kp H' H'') : Kp H H'' := ⟨fun c o h n => b.keep c o (a.keep c o h n) n, fun c h => a.stay c (b.stay c h), fun t => b.tb (a.tb t)⟩
theorem Kp.new {H : Hp} {p : Addr} {o : HO} (hp : H p = none) : Kp H (upd H p o) := ⟨fun b u h _ => by rw [upd_ne (ne_of_none h hp)]; exact h, fun b h => by
  by_cases e : b = p
  · rw [e, upd_same] at h; cases h
  · rw [upd_ne e] at h; exact h, fun t => t.new hp⟩
/-- a thing that is new since H changes -/
theorem Kp.set {H H' : Hp} {a : Addr} {o o' : HO} (k : Kp H H') (h0 : H a = none) (ha : H' a = some o) (nt : NT o := by intro _ z; cases z) (nc : ∀ c q, o ≠ LamX.CodeO c q := by intro _ _ z; unfold LamX.CodeO at z; cases z) : Kp H (upd H' a o') :=
  ⟨fun b u h n => by rw [upd_ne (ne_of_none h h0)]; exact k.keep b u h n, fun b h => by
    by_cases e : b = a
    · rw [e, upd_same] at h; cases h
    · rw [upd_ne e] at h; exact k.stay b h, fun t => (k.tb t).set ha nt nc⟩
/-- an object of the written part -/
def KSeq (K : PySem.W.Frag) (cls : String) (dict : Bool) (a : Addr) (xs : List V) : Prop :=
  ∃ (o : Obj) (its : Array Value) (n : Nat), K.lookup a = some o ∧ o.cls = .type cls ∧ (dict = true → o.dict = none) ∧ o.data = .seq its n ∧ its.size ≤ sizeLine ∧ Vals xs its.toList
def ReS (K : PySem.W.Frag) (S : Addr → Prop) (H : Hp) (a : Addr) (xs : List V) : Prop := (S a ∧ Rd H a (.lst xs)) ∨ KSeq K "list" true a xs
def ReL (S : Addr → Prop) (H : Hp) (a : Addr) (xs : List V) : Prop := S a ∧ H a = some (.lst xs)
def ReT (K : PySem.W.Frag) (S : Addr → Prop) (H : Hp) (a : Addr) (xs : List V) : Prop := (S a ∧ Rd H a (.tup xs)) ∨ KSeq K "tuple" false a xs
/-- a key's tuple at an address -/
abbrev NKv := PySem.NestedKey × Addr × Value
/-- the dict at a with the entries xs (its keys' tuples stand elsewhere) -/
def dicO (a : Addr) (xs : List NKv) : HO := .ext fun h => ∃ (P : Program) (w : World) (o : Obj) (es : Array DictEntry) (ep : Nat), h.get? a = some o ∧ o.ExactDict ∧ o.data = .dict es ep ∧ es.toList = xs.map (entryOfKey (PySem.nestedKind P w)) ∧ (xs.map (·.1)).Nodup ∧ xs.length ≤ sizeLine ∧ (a == sysModules) = false
/-- a dict's entries, their keys and values in turn -/
inductive Flt : List NKv → List V → List D → Prop
  | nil : Flt [] [] []
  | cons {k : PySem.NestedKey} {b : Addr} {u : Value} {v : V} {kd d : D} {zs : List NKv} {vs : List V} {ds : List D} : nk kd = some k → k.depth ≤ 8 → RelV v u → Flt zs vs ds → Flt ((k, b, u) :: zs) (.ref b :: v :: vs) (kd :: d :: ds)
/-- v is a thing of kind t, its parts vs -/
inductive Boxed (K : PySem.W.Frag) (S : Addr → Prop) (H : Hp) : V → Nat → Nat → List V → List D → Prop
  | dic {a : Addr} {o : Obj} {zs : List NKv} {vs : List V} {ds : List D} : S a → H a = some (.frz o (dicO a zs)) → Flt zs vs ds → Boxed K S H (.ref a) 1 0 vs ds
  | fn {f : Addr} (n : Nat) : (∃ o, K.lookup f = some o ∧ o.cls = .type "function") → Boxed K S H (.ref f) 2 n [] []
  | byt (b : Array UInt8) : Boxed K S H (.byt b) 3 0 (b.toList.map fun x => V.int x.toNat) (b.toList.map fun x => D.int x.toNat)
mutual
/-- v is the frozen datum d -/
inductive Rp (K : PySem.W.Frag) (S : Addr → Prop) (H : Hp) : V → D → Prop
  | non : Rp K S H .non .non
  | bl (b : Bool) : Rp K S H (.bl b) (.bl b)
  | int (i : Int) : Rp K S H (.int i) (.int i)
  | str (x : Str) : Rp K S H (.str x) (.str x)
  | tup {a : Addr} {vs : List V} {ds : List D} : ReT K S H a vs → Rps K S H vs ds → Rp K S H (.ref a) (.tup ds)
  | lst {a : Addr} {vs : List V} {ds : List D} : ReL S H a vs → Rps K S H vs ds → Rp K S H (.ref a) (.lst ds)
  | scr {a : Addr} {vs : List V} {ds : List D} : ReS K S H a vs → Rps K S H vs ds → Rp K S H (.ref a) (.scr ds)
  | obj {a C dx : Addr} {c : Nat} {vs : List V} {ds : List D} : PySem.W.nsIn K mainGlobals (cName c) = some (some (.ref C)) → S a → H a = some (.ins C dx ((cFlds c).zip vs)) → vs.length = (cFlds c).length → Rps K S H vs ds → Rp K S H (.ref a) (.obj c ds)
  | emp {a : Addr} {kvs : List (Key × Int)} : S a → H a = some (.dK (kvE kvs)) → Rp K S H (.ref a) (.emp kvs)
  | box {v : V} {t n : Nat} {vs : List V} {ds : List D} : Boxed K S H v t n vs ds → Rps K S H vs ds → Rp K S H v (.box t n ds)
inductive Rps (K : PySem.W.Frag) (S : Addr → Prop) (H : Hp) : List V → List D → Prop
  | nil : Rps K S H [] []
  | cons {v : V} {vs : List V} {d : D} {ds : List D} : Rp K S H v d → Rps K S H vs ds → Rps K S H (v :: vs) (d :: ds)
end
/-- frozen things stay -/
structure Ke (S : Addr → Prop) (H : Hp) (S' : Addr → Prop) (H' : Hp) : Prop where
  sub : ∀ a, S a → S' a
  keep : ∀ a o, S a → H a = some o → (nt : NT o := by intro _ z; cases z) → H' a = some o
section
variable {K : PySem.W.Frag} {S S' : Addr → Prop} {H H' : Hp}
theorem Ke.rd (k : Ke S H S' H') {a : Addr} {u : HO} (h : S a ∧ Rd H a u) (nt : NT u := by intro _ z; cases z) : S' a ∧ Rd H' a u :=
  ⟨k.sub a h.1, h.2.elim (fun e => .inl (k.keep a _ h.1 e nt)) fun ⟨o, e⟩ => .inr ⟨o, k.keep a _ h.1 e⟩⟩
theorem ReL.mono (k : Ke S H S' H') {a : Addr} {xs : List V} (h : ReL S H a xs) : ReL S' H' a xs := ⟨k.sub a h.1, k.keep a _ h.1 h.2⟩
theorem ReS.mono (k : Ke S H S' H') {a : Addr} {xs : List V} (h : ReS K S H a xs) : ReS K S' H' a xs := h.elim (fun h => .inl (k.rd h)) .inr
theorem ReT.mono (k : Ke S H S' H') {a : Addr} {xs : List V} (h : ReT K S H a xs) : ReT K S' H' a xs := h.elim (fun h => .inl (k.rd h)) .inr
theorem Boxed.mono (k : Ke S H S' H') {v : V} {t n : Nat} {vs : List V} {ds : List D} (h : Boxed K S H v t n vs ds) : Boxed K S' H' v t n vs ds := by
  cases h with
  | dic s e f => exact .dic (k.sub _ s) (k.keep _ _ s e) f
  | fn n e => exact .fn n e
  | byt b => exact .byt b
mutual
theorem Rp.mono (k : Ke S H S' H') : ∀ {v : V} {d : D}, Rp K S H v d → Rp K S' H' v d
  | _, _, .non => .non
  | _, _, .bl b => .bl b
  | _, _, .int b => .int b
  | _, _, .str b => .str b
  | _, _, .tup h r => .tup (h.mono k) (Rps.mono k r)
  | _, _, .lst h r => .lst (h.mono k) (Rps.mono k r)
  | _, _, .scr h r => .scr (h.mono k) (Rps.mono k r)
  | _, _, .obj n s h l r => .obj n (k.sub _ s) (k.keep _ _ s h) l (Rps.mono k r)
  | _, _, .emp s h => .emp (k.sub _ s) (k.keep _ _ s h)
  | _, _, .box b r => .box (b.mono k) (Rps.mono k r)
theorem Rps.mono (k : Ke S H S' H') : ∀ {v : List V} {d : List D}, Rps K S H v d → Rps K S' H' v d
  | _, _, .nil => .nil
  | _, _, .cons h r => .cons (Rp.mono k h) (Rps.mono k r)
end
theorem ReL.sq {a : Addr} {xs : List V} (h : ReL S H a xs) : SqL K H a xs := .inl (.inl h.2)
theorem ReS.sq {a : Addr} {xs : List V} (h : ReS K S H a xs) : SqL K H a xs := by
  rcases h with h | ⟨o, its, n, h1, h2, h3, h4, h5, h6⟩
  · exact .inl h.2
  · exact .inr ⟨o, its, n, h1, h2, h3 rfl, h4, h5, h6⟩
theorem ReT.sq {a : Addr} {xs : List V} (h : ReT K S H a xs) : SqT K H a xs := by
  rcases h with h | ⟨o, its, n, h1, h2, h3, h4, h5, h6⟩
  · exact .inl h.2
  · exact .inr ⟨o, its, n, h1, h2, h4, h5, h6⟩
mutual
theorem Rp.dp : ∀ {v : V} {d : D}, Rp K S H v d → pureD d = true → Dp K H v (toPy d)
  | _, _, .non, _ => .non
  | _, _, .bl b, _ => .bl b
  | _, _, .int b, _ => .int b
  | _, _, .str b, _ => .str b
  | _, _, .tup h r, p => .tup h.sq (Rps.dp r p)
  | _, _, .lst h r, p => .lst h.sq (Rps.dp r p)
  | _, _, .scr h r, p => .lst h.sq (Rps.dp r p)
  | _, _, .obj _ _ _ _ _, p => by cases p
  | _, _, .emp _ _, p => by cases p
  | _, _, .box _ _, p => by cases p
theorem Rps.dp : ∀ {v : List V} {d : List D}, Rps K S H v d → puresD d = true → DpAll K H v (toPy.toPys d)
  | _, _, .nil, _ => .nil
  | _, _, .cons h r, p => by
    obtain ⟨p1, p2⟩ := Bool.and_eq_true _ _ |>.mp (show (_ && _) = true from p)
    exact .cons (Rp.dp h p1) (Rps.dp r p2)
end
mutual
inductive Dq (K : PySem.W.Frag) (H : Hp) : V → PyData → Prop
  | non : Dq K H .non .none
  | bl (b : Bool) : Dq K H (.bl b) (.bool b)
  | int (i : Int) : Dq K H (.int i) (.int i)
  | str (x : Str) : Dq K H (.str x) (.str x)
  | lst {a : Addr} {xs : List V} {ds : List PyData} : SqL K H a xs → Dqs K H xs ds → Dq K H (.ref a) (.list ds)
  | tup {a : Addr} {xs : List V} {ds : List PyData} : SqT K H a xs → Dqs K H xs ds → Dq K H (.ref a) (.tuple ds)
  | emp {a : Addr} {kvs : List (Key × Int)} : H a = some (.dK (kvE kvs)) → Dq K H (.ref a) (.dict (kvP kvs))
inductive Dqs (K : PySem.W.Frag) (H : Hp) : List V → List PyData → Prop
  | nil : Dqs K H [] []
  | cons {v : V} {vs : List V} {d : PyData} {ds : List PyData} : Dq K H v d → Dqs K H vs ds → Dqs K H (v :: vs) (d :: ds)
end
mutual
theorem Rp.dq : ∀ {v : V} {d : D}, Rp K S H v d → pureR d = true → Dq K H v (toPy d)
  | _, _, .non, _ => .non
  | _, _, .bl b, _ => .bl b
  | _, _, .int b, _ => .int b
  | _, _, .str b, _ => .str b
  | _, _, .tup h r, p => .tup h.sq (Rps.dq r p)
  | _, _, .lst h r, p => .lst h.sq (Rps.dq r p)
  | _, _, .scr h r, p => .lst h.sq (Rps.dq r p)
  | _, _, .obj _ _ _ _ _, p => by cases p
  | _, _, .emp _ h, _ => .emp h
  | _, _, .box _ _, p => by cases p
theorem Rps.dq : ∀ {v : List V} {d : List D}, Rps K S H v d → puresR d = true → Dqs K H v (toPy.toPys d)
  | _, _, .nil, _ => .nil
  | _, _, .cons h r, p => by
    obtain ⟨p1, p2⟩ := Bool.and_eq_true _ _ |>.mp (show (_ && _) = true from p)
    exact .cons (Rp.dq h p1) (Rps.dq r p2)
end
theorem Rps.length : ∀ {vs : List V} {ds : List D}, Rps K S H vs ds → vs.length = ds.length
  | _, _, .nil => rfl
  | _, _, .cons _ r => by rw [List.length_cons, List.length_cons, Rps.length r]
theorem Rps.get : ∀ {vs : List V} {ds : List D} {i : Nat} {d : D}, Rps K S H vs ds → ds[i]? = some d → ∃ v, vs[i]? = some v ∧ Rp K S H v d
  | _, _, i, d, .nil, e => by simp at e
  | _, _, 0, d, .cons h _, e => by simp at e; subst e; exact ⟨_, rfl, h⟩
  | _, _, i + 1, d, .cons _ r, e => by
    obtain ⟨v, h1, h2⟩ := Rps.get (i := i) (d := d) r (by simpa using e)
    exact ⟨v, by simpa using h1, h2⟩
theorem Rps.append : ∀ {vs us : List V} {ds es : List D}, Rps K S H vs ds → Rps K S H us es → Rps K S H (vs ++ us) (ds ++ es)
  | _, _, _, _, .nil, r => r
  | _, _, _, _, .cons h t, r => .cons h (Rps.append t r)
theorem Rps.take : ∀ {vs : List V} {ds : List D} (n : Nat), Rps K S H vs ds → Rps K S H (vs.take n) (ds.take n)
  | _, _, 0, _ => .nil
  | _, _, _ + 1, .nil => .nil
  | _, _, n + 1, .cons h r => .cons h (Rps.take n r)
theorem Rps.drop : ∀ {vs : List V} {ds : List D} (n : Nat), Rps K S H vs ds → Rps K S H (vs.drop n) (ds.drop n)
  | _, _, 0, r => r
  | _, _, _ + 1, .nil => .nil
  | _, _, n + 1, .cons _ r => Rps.drop n r
theorem Rps.set {v : V} {d : D} (h : Rp K S H v d) : ∀ {vs : List V} {ds : List D} (n : Nat), Rps K S H vs ds → Rps K S H (vs.set n v) (ds.set n d)
  | _, _, _, .nil => .nil
  | _, _, 0, .cons _ r => .cons h r
  | _, _, n + 1, .cons q r => .cons q (Rps.set h n r)
theorem Rps.cut {vs : List V} {ds : List D} (r : Rps K S H vs ds) (lo hi : Option Int) : Rps K S H (cutV vs lo hi) (cut ds lo hi) := by
  unfold cutV DL.cut
  rw [r.length]
  exact (r.drop _).take _
theorem Rps.ofInts : ∀ (ns : List Int), Rps K S H (ns.map V.int) (ns.map D.int)
  | [] => .nil
  | n :: r => .cons (.int n) (Rps.ofInts r)
theorem Rps.intsD : ∀ {vs : List V} {ds : List D} {ns : List Int}, Rps K S H vs ds → intsD ds = some ns → vs = ns.map V.int
  | _, _, ns, .nil, e => by cases e; rfl
  | _, _, ns, .cons (.int i) r, e => by
    rename_i vs ds
    have e : (DL.intsD ds).map (i :: ·) = some ns := e
    cases q : DL.intsD ds with
    | none => rw [q] at e; cases e
    | some ms => rw [q] at e; cases e; rw [Rps.intsD r q]; rfl
  | _, _, ns, .cons .non r, e => by cases e
  | _, _, ns, .cons (.bl _) r, e => by cases e
  | _, _, ns, .cons (.str _) r, e => by cases e
  | _, _, ns, .cons (.tup _ _) r, e => by cases e
  | _, _, ns, .cons (.lst _ _) r, e => by cases e
  | _, _, ns, .cons (.scr _ _) r, e => by cases e
  | _, _, ns, .cons (.obj _ _ _ _ _) r, e => by cases e
  | _, _, ns, .cons (.emp _ _) r, e => by cases e
  | _, _, ns, .cons (.box _ _) r, e => by cases e
theorem Rps.boolsD : ∀ {vs : List V} {ds : List D} {ns : List Bool}, Rps K S H vs ds → boolsD ds = some ns → vs = ns.map V.bl
  | _, _, ns, .nil, e => by cases e; rfl
  | _, _, ns, .cons (.bl i) r, e => by
    rename_i vs ds
    have e : (DL.boolsD ds).map (i :: ·) = some ns := e
    cases q : DL.boolsD ds with
    | none => rw [q] at e; cases e
    | some ms => rw [q] at e; cases e; rw [Rps.boolsD r q]; rfl
  | _, _, ns, .cons .non r, e => by cases e
  | _, _, ns, .cons (.int _) r, e => by cases e
  | _, _, ns, .cons (.str _) r, e => by cases e
  | _, _, ns, .cons (.tup _ _) r, e => by cases e
  | _, _, ns, .cons (.lst _ _) r, e => by cases e
  | _, _, ns, .cons (.scr _ _) r, e => by cases e
  | _, _, ns, .cons (.obj _ _ _ _ _) r, e => by cases e
  | _, _, ns, .cons (.emp _ _) r, e => by cases e
  | _, _, ns, .cons (.box _ _) r, e => by cases e
theorem boolsD_map : ∀ (ns : List Bool), boolsD (ns.map D.bl) = some ns
  | [] => rfl
  | n :: r => by show (boolsD (r.map D.bl)).map (n :: ·) = _; rw [boolsD_map r]; rfl
/-- what may be read now as d -/
inductive Vd (K : PySem.W.Frag) (S : Addr → Prop) (H : Hp) (v : V) : D → Prop
  | fz {d : D} : Rp K S H v d → Vd K S H v d
  | ls {a : Addr} {vs : List V} {xs : List D} : v = .ref a → H a = some (.lst vs) → Rps K S H vs xs → Vd K S H v (.lst xs)
  | io {a C dx : Addr} {c : Nat} {vs : List V} {xs : List D} : v = .ref a → PySem.W.nsIn K mainGlobals (cName c) = some (some (.ref C)) → H a = some (.ins C dx ((cFlds c).zip vs)) → vs.length = (cFlds c).length → Rps K S H vs xs → Vd K S H v (.obj c xs)
variable {v : V}
theorem Vd.dp {d : D} (h : Vd K S H v d) (p : pureD d = true) : Dp K H v (toPy d) := by
  cases h with
  | fz h => exact h.dp p
  | ls e h r => subst e; exact .lst (.inl (.inl h)) (r.dp p)
  | io => cases p
theorem Vd.dq {d : D} (h : Vd K S H v d) (p : pureR d = true) : Dq K H v (toPy d) := by
  cases h with
  | fz h => exact h.dq p
  | ls e h r => subst e; exact .lst (.inl (.inl h)) (r.dq p)
  | io => cases p
theorem Vd.e {kvs : List (Key × Int)} (h : Vd K S H v (.emp kvs)) : ∃ a, v = .ref a ∧ H a = some (.dK (kvE kvs)) := by
  cases h with
  | fz h => cases h with | emp s h => exact ⟨_, rfl, h⟩
theorem Vd.i {i : Int} (h : Vd K S H v (.int i)) : v = .int i := by
  cases h with
  | fz h => cases h; rfl
theorem Vd.b {i : Bool} (h : Vd K S H v (.bl i)) : v = .bl i := by
  cases h with
  | fz h => cases h; rfl
theorem Vd.n (h : Vd K S H v .non) : v = .non := by
  cases h with
  | fz h => cases h; rfl
theorem Vd.s {i : Str} (h : Vd K S H v (.str i)) : v = .str i := by
  cases h with
  | fz h => cases h; rfl
theorem Vd.t {xs : List D} (h : Vd K S H v (.tup xs)) : ∃ a vs, v = .ref a ∧ SqT K H a vs ∧ Rps K S H vs xs := by
  cases h with
  | fz h => cases h with | tup h r => exact ⟨_, _, rfl, h.sq, r⟩
theorem Vd.tf {xs : List D} (h : Vd K S H v (.tup xs)) : Rp K S H v (.tup xs) := by
  cases h with
  | fz h => exact h
theorem Vd.l {xs : List D} (h : Vd K S H v (.lst xs)) : ∃ a vs, v = .ref a ∧ H a = some (.lst vs) ∧ Rps K S H vs xs := by
  cases h with
  | fz h => cases h with | lst h r => exact ⟨_, _, rfl, h.2, r⟩
  | ls e h r => exact ⟨_, _, e, h, r⟩
theorem Vd.c {xs : List D} (h : Vd K S H v (.scr xs)) : ∃ a vs, v = .ref a ∧ SqL K H a vs ∧ Rps K S H vs xs := by
  cases h with
  | fz h => cases h with | scr h r => exact ⟨_, _, rfl, h.sq, r⟩
theorem Vd.mono {d : D} (k : ∀ a o, H a = some o → (nt : NT o := by intro _ z; cases z) → H' a = some o) (kS : ∀ a, S a → S' a) (h : Vd K S H v d) : Vd K S' H' v d := by
  cases h with
  | fz h => exact .fz (h.mono ⟨kS, fun a o _ h nt => k a o h nt⟩)
  | ls e h r => exact .ls e (k _ _ h) (r.mono ⟨kS, fun a o _ h nt => k a o h nt⟩)
  | io e n h l r => exact .io e n (k _ _ h) l (r.mono ⟨kS, fun a o _ h nt => k a o h nt⟩)
theorem Vd.oN {c : Nat} {xs : List D} (h : Vd K S H v (.obj c xs)) : ∃ a C dx vs, v = .ref a ∧ PySem.W.nsIn K mainGlobals (cName c) = some (some (.ref C)) ∧ H a = some (.ins C dx ((cFlds c).zip vs)) ∧ vs.length = (cFlds c).length ∧ Rps K S H vs xs := by
  cases h with
  | fz h => cases h with | obj n s h l r => exact ⟨_, _, _, _, rfl, n, h, l, r⟩
  | io e n h l r => exact ⟨_, _, _, _, e, n, h, l, r⟩
end
/-- the entries of a dict of ints -/
inductive RdK (K : PySem.W.Frag) (S : Addr → Prop) (H : Hp) : List (Key × V) → List D → Prop
  | nil : RdK K S H [] []
  | cons {i : Int} {v : V} {d : D} {kvs : List (Key × V)} {xs : List D} : Rp K S H v d → RdK K S H kvs xs → RdK K S H ((.inl i, v) :: kvs) (.tup [.int i, d] :: xs)
theorem RdK.mono {K : PySem.W.Frag} {S S' : Addr → Prop} {H H' : Hp} (k : Ke S H S' H') {kvs : List (Key × V)} {xs : List D} (h : RdK K S H kvs xs) : RdK K S' H' kvs xs := by
  induction h with
  | nil => exact .nil
  | cons a _ ih => exact .cons (a.mono k) ih
/-- the addresses of the lists that slots hold -/
def Own (ρ : Ev) (σ : St) (a : Addr) : Prop := ∃ (i : Nat) (k : Lk) (xs : List D), ρ[i]? = some (.ls k xs) ∧ σ[i]? = some (some (V.ref a))
/-- an instance of class c, its fields' data -/
def HoldI (K : PySem.W.Frag) (S : Addr → Prop) (H : Hp) (a : Addr) (c : Nat) (xs : List D) : Prop := ∃ C dx vs, PySem.W.nsIn K mainGlobals (cName c) = some (some (.ref C)) ∧ H a = some (.ins C dx ((cFlds c).zip vs)) ∧ vs.length = (cFlds c).length ∧ Rps K S H vs xs
/-- the entries xs are the data ys -/
inductive RdN (K : PySem.W.Frag) (S : Addr → Prop) (H : Hp) : List NKv → List D → Prop
  | nil : RdN K S H [] []
  | cons {k : PySem.NestedKey} {b : Addr} {u : Value} {v : V} {kd d : D} {xs : List NKv} {ys : List D} : nk kd = some k → k.depth ≤ 8 → Rp K S H (.ref b) kd → RelV v u → Rp K S H v d → RdN K S H xs ys → RdN K S H ((k, b, u) :: xs) (.tup [kd, d] :: ys)
theorem RdN.mono {K : PySem.W.Frag} {S S' : Addr → Prop} {H H' : Hp} {xs : List NKv} {ys : List D} (h : RdN K S H xs ys) (k : Ke S H S' H') : RdN K S' H' xs ys := by
  induction h with
  | nil => exact .nil
  | cons a1 a2 a3 a4 a5 _ ih => exact .cons a1 a2 (a3.mono k) a4 (a5.mono k) ih
/-- what a slot holds -/
def Hold (K : PySem.W.Frag) (S : Addr → Prop) (H : Hp) (a : Addr) (k : Lk) (xs : List D) : Prop := (k.isL = true ∧ ∃ vs, H a = some (.lst vs) ∧ Rps K S H vs xs) ∨ (k = .dic ∧ ∃ kvs, H a = some (.dK kvs) ∧ RdK K S H kvs xs) ∨ (∃ c, k.cls = some c ∧ HoldI K S H a c xs) ∨ (k = .dit ∧ ∃ zs, H a = some (dicO a zs) ∧ RdN K S H zs xs)
def SlotOk (K : PySem.W.Frag) (S : Addr → Prop) (H : Hp) : Sl → Option V → Prop
  | .un, _ => True
  | .fz d, ov => ∃ v, ov = some v ∧ Rp K S H v d
  | .ls k xs, ov => ∃ a, ov = some (V.ref a) ∧ ¬ S a ∧ Hold K S H a k xs
theorem SlotOk.mkL {K : PySem.W.Frag} {S : Addr → Prop} {H : Hp} {k : Lk} {xs : List D} {ov : Option V} {a : Addr} {vs : List V} (hk : k.isL = true) (e : ov = some (V.ref a)) (h : H a = some (.lst vs)) (n : ¬ S a) (r : Rps K S H vs xs) : SlotOk K S H (.ls k xs) ov := ⟨a, e, n, .inl ⟨hk, vs, h, r⟩⟩
theorem hold_mono {K : PySem.W.Frag} {S S' : Addr → Prop} {H H' : Hp} {k : Lk} {xs : List D} {a : Addr} (h : Hold K S H a k xs) (g : ∀ o, H a = some o → NT o → H' a = some o) (ke : Ke S H S' H') :
    Hold K S' H' a k xs :=
  h.imp (fun ⟨q, vs, h1, h3⟩ => ⟨q, vs, g _ h1 (by intro _ z; cases z), h3.mono ke⟩) fun h => h.imp (fun ⟨q, vs, h1, h3⟩ => ⟨q, vs, g _ h1 (by intro _ z; cases z), h3.mono ke⟩) fun h => h.imp (fun ⟨c, q, C, dx, vs, n, h1, l, h3⟩ => ⟨c, q, C, dx, vs, n, g _ h1 (by intro _ z; cases z), l, h3.mono ke⟩) fun ⟨q, zs, h1, h3⟩ => ⟨q, zs, g _ h1 (by intro _ z; cases z), h3.mono ke⟩
theorem hold_some {K : PySem.W.Frag} {S : Addr → Prop} {H : Hp} {k : Lk} {xs : List D} {a : Addr} (h : Hold K S H a k xs) : H a ≠ none := by
  rcases h with ⟨_, vs, h, _⟩ | ⟨_, vs, h, _⟩ | ⟨_, _, _, _, _, _, h, _⟩ | ⟨_, vs, h, _⟩ <;> rw [h] <;> simp
structure Rel (K : PySem.W.Frag) (S : Addr → Prop) (ρ : Ev) (σ : St) (H : Hp) : Prop where
  len : ρ.length = σ.length
  ok : ∀ (i : Nat) (s : Sl) (ov : Option V), ρ[i]? = some s → σ[i]? = some ov → SlotOk K S H s ov
  inj : ∀ (i j : Nat) (k l : Lk) (xs ys : List D) (a : Addr), ρ[i]? = some (.ls k xs) → ρ[j]? = some (.ls l ys) → σ[i]? = some (some (V.ref a)) → σ[j]? = some (some (V.ref a)) → i = j
  dom : ∀ a, S a → H a ≠ none
  tb : LTb H
section
variable {K : PySem.W.Frag} {S S' : Addr → Prop} {H H' : Hp} {ρ ρ' : Ev} {σ σ' : St}
theorem Rel.at (r : Rel K S ρ σ H) {i : Nat} {s : Sl} (e : ρ[i]? = some s) : ∃ ov, σ[i]? = some ov ∧ SlotOk K S H s ov := by
  have h : i < σ.length := by rw [← r.len]; exact (List.getElem?_eq_some_iff.mp e).1
  exact ⟨σ[i], List.getElem?_eq_getElem h, r.ok i s _ e (List.getElem?_eq_getElem h)⟩
theorem Rel.atL (r : Rel K S ρ σ H) {i : Nat} {k : Lk} {xs : List D} (e : ρ[i]? = some (.ls k xs)) (hk : k.isL = true := by rfl) : ∃ a vs, σ[i]? = some (some (V.ref a)) ∧ H a = some (.lst vs) ∧ ¬ S a ∧ Rps K S H vs xs := by
  obtain ⟨ov, e1, a, e2, n, h | h | h | h⟩ := r.at e
  · obtain ⟨_, vs, h, r⟩ := h
    subst e2
    exact ⟨a, vs, e1, h, n, r⟩
  · rw [h.1] at hk; cases hk
  · obtain ⟨c, h, _⟩ := h
    exact (Lk.isL_cls hk h).elim
  · rw [h.1] at hk; cases hk
theorem Rel.atI (r : Rel K S ρ σ H) {i c : Nat} {k : Lk} {xs : List D} (e : ρ[i]? = some (.ls k xs)) (hk : k.cls = some c) : ∃ a, σ[i]? = some (some (V.ref a)) ∧ ¬ S a ∧ HoldI K S H a c xs := by
  obtain ⟨ov, e1, a, e2, n, h | h | h | h⟩ := r.at e
  · obtain ⟨h, _⟩ := h
    exact (Lk.isL_cls h hk).elim
  · rw [h.1] at hk; cases hk
  · obtain ⟨c', h, r⟩ := h
    rw [hk] at h
    cases h
    subst e2
    exact ⟨a, e1, n, r⟩
  · rw [h.1] at hk; cases hk
theorem Rel.atK (r : Rel K S ρ σ H) {i : Nat} {xs : List D} (e : ρ[i]? = some (.ls .dic xs)) : ∃ a kvs, σ[i]? = some (some (V.ref a)) ∧ H a = some (.dK kvs) ∧ ¬ S a ∧ RdK K S H kvs xs := by
  obtain ⟨ov, e1, a, e2, n, h | h | h | h⟩ := r.at e
  · cases h.1
  · obtain ⟨_, kvs, h, r⟩ := h
    subst e2
    exact ⟨a, kvs, e1, h, n, r⟩
  · obtain ⟨c, h, _⟩ := h
    cases h
  · cases h.1
theorem Rel.atN (r : Rel K S ρ σ H) {i : Nat} {k : Lk} {xs : List D} (e : ρ[i]? = some (.ls k xs)) : ∃ a o, σ[i]? = some (some (V.ref a)) ∧ H a = some o ∧ ¬ S a := by
  obtain ⟨ov, e1, a, e2, n, ⟨_, vs, h, r⟩ | ⟨_, vs, h, r⟩ | ⟨_, _, _, _, _, _, h, _⟩ | ⟨_, vs, h, r⟩⟩ := r.at e
  · subst e2; exact ⟨a, _, e1, h, n⟩
  · subst e2; exact ⟨a, _, e1, h, n⟩
  · subst e2; exact ⟨a, _, e1, h, n⟩
  · subst e2; exact ⟨a, _, e1, h, n⟩
theorem Rel.atF (r : Rel K S ρ σ H) {i : Nat} {d : D} (e : ρ[i]? = some (.fz d)) : ∃ v, σ[i]? = some (some v) ∧ Rp K S H v d := by
  obtain ⟨ov, e1, v, e2, h⟩ := r.at e
  subst e2
  exact ⟨v, e1, h⟩
theorem Rel.own_lst (r : Rel K S ρ σ H) {a : Addr} (h : Own ρ σ a) : ∃ o, H a = some o := by
  obtain ⟨i, k, xs, e1, e2⟩ := h
  obtain ⟨b, vs, e3, e4, _⟩ := r.atN e1
  rw [e2] at e3; cases e3
  exact ⟨vs, e4⟩
theorem Rel.own_ns (r : Rel K S ρ σ H) {a : Addr} (h : Own ρ σ a) : ¬ S a := by
  obtain ⟨i, k, xs, e1, e2⟩ := h
  obtain ⟨b, vs, e3, _, e4⟩ := r.atN e1
  rw [e2] at e3; cases e3
  exact e4
/-- what a run may change -/
structure Go (S : Addr → Prop) (ρ : Ev) (σ : St) (H : Hp) (S' : Addr → Prop) (ρ' : Ev) (σ' : St) (H' : Hp) : Prop where
  sub : ∀ a, S a → S' a
  new : ∀ a, S' a → S a ∨ H a = none ∨ Own ρ σ a
  own : ∀ a, Own ρ' σ' a → H a = none ∨ Own ρ σ a
  keep : ∀ a o, H a = some o → ¬ Own ρ σ a → (nt : NT o := by intro _ z; cases z) → H' a = some o
  stay : ∀ a, H' a = none → H a = none
  fix : ∀ (i : Nat) (k : Lk) (xs : List D), ρ[i]? = some (.ls k xs) → k.fx = true → ∃ ys, ρ'[i]? = some (.ls k ys) ∧ (k.isI = false → σ'[i]? = σ[i]?) ∧ (k = .lck → ys = xs)
theorem Go.refl : Go S ρ σ H S ρ σ H := ⟨fun _ h => h, fun _ h => .inl h, fun _ h => .inr h, fun _ _ h _ _ => h, fun _ h => h, fun _ _ xs h _ => ⟨xs, h, fun _ => rfl, fun _ => rfl⟩⟩
theorem Go.kp (g : Go S ρ σ H S' ρ' σ' H') : ∀ a o, H a = some o → ¬ Own ρ σ a → NT o → H' a = some o := fun a o h n nt => g.keep a o h n nt
variable {S'' : Addr → Prop} {H'' : Hp} {ρ'' : Ev} {σ'' : St}
theorem Go.trans (a : Go S ρ σ H S' ρ' σ' H') (b : Go S' ρ' σ' H' S'' ρ'' σ'' H'') : Go S ρ σ H S'' ρ'' σ'' H'' where
  sub := fun x h => b.sub x (a.sub x h)
  new := fun x h => by
    rcases b.new x h with h | h | h
    · exact a.new x h
    · exact .inr (.inl (a.stay x h))
    · exact .inr (a.own x h)
  own := fun x h => by
    rcases b.own x h with h | h
    · exact .inl (a.stay x h)
    · exact a.own x h
  keep := fun x o h n nt => b.keep x o (a.keep x o h n nt) (nt := nt) fun h' => (a.own x h').elim (fun z => by rw [z] at h; cases h) n
  stay := fun x h => a.stay x (b.stay x h)
  fix := fun i k xs h n => by
    obtain ⟨ys, e1, e2, e5⟩ := a.fix i k xs h n
    obtain ⟨zs, e3, e4, e6⟩ := b.fix i k ys e1 n
    exact ⟨zs, e3, fun z => (e4 z).trans (e2 z), fun e => (e6 e).trans (e5 e)⟩
theorem Go.ke (r : Rel K S ρ σ H) (g : Go S ρ σ H S' ρ' σ' H') : Ke S H S' H' := ⟨g.sub, fun a o s h nt => g.keep a o h (nt := nt) fun w => r.own_ns w s⟩
/-- only new things: nothing that stood is changed -/
structure Gn (S : Addr → Prop) (H : Hp) (S' : Addr → Prop) (H' : Hp) : Prop where
  sub : ∀ a, S a → S' a
  new : ∀ a, S' a → S a ∨ H a = none
  keep : ∀ a o, H a = some o → (nt : NT o := by intro _ z; cases z) → H' a = some o
  dom : (∀ a, S a → H a ≠ none) → ∀ a, S' a → H' a ≠ none
  stay : ∀ a, H' a = none → H a = none
  tb : LTb H → LTb H'
theorem Gn.refl : Gn S H S H := ⟨fun _ h => h, fun _ h => .inl h, fun _ _ h _ => h, fun h => h, fun _ h => h, fun h => h⟩
theorem Gn.ke (g : Gn S H S' H') : Ke S H S' H' := ⟨g.sub, fun a o _ h nt => g.keep a o h nt⟩
theorem Gn.kp (g : Gn S H S' H') : Kp H H' := ⟨fun b o h n => g.keep b o h n, g.stay, g.tb⟩
theorem Gn.trans (a : Gn S H S' H') (b : Gn S' H' S'' H'') : Gn S H S'' H'' :=
  ⟨fun x h => b.sub x (a.sub x h), fun x h => (b.new x h).elim (a.new x) fun h => .inr (a.stay x h), fun x o h nt => b.keep x o (a.keep x o h nt) nt, fun h => b.dom (a.dom h), fun x h => a.stay x (b.stay x h), fun h => b.tb (a.tb h)⟩
theorem Gn.go (g : Gn S H S' H') : Go S ρ σ H S' ρ σ H' :=
  ⟨g.sub, fun a h => (g.new a h).imp id .inl, fun _ h => .inr h, fun a o h _ nt => g.keep a o h nt, g.stay, fun _ _ xs h _ => ⟨xs, h, fun _ => rfl, fun _ => rfl⟩⟩
theorem SlotOk.gn (g : Gn S H S' H') (tr : ∀ a, Own ρ σ a → H a ≠ none) {i : Nat} {s : Sl} {ov : Option V} (e : ρ[i]? = some s) (e2 : σ[i]? = some ov) (h : SlotOk K S H s ov) : SlotOk K S' H' s ov := by
  cases s with
  | un => trivial
  | fz d => obtain ⟨v, e, h⟩ := h; exact ⟨v, e, h.mono g.ke⟩
  | ls k xs =>
    obtain ⟨a, e1, h2, h⟩ := h
    subst e1
    refine ⟨a, rfl, fun z => (g.new a z).elim h2 (tr a ⟨i, k, xs, e, e2⟩), ?_⟩
    exact hold_mono h (fun o h nt => g.keep a o h nt) g.ke
theorem Rel.gn (r : Rel K S ρ σ H) (g : Gn S H S' H') : Rel K S' ρ σ H' :=
  ⟨r.len, fun i s ov e e2 => (r.ok i s ov e e2).gn g (fun a h => by obtain ⟨vs, e⟩ := r.own_lst h; rw [e]; simp) e e2, r.inj, g.dom r.dom, g.tb r.tb⟩
theorem upd_stay {p : Addr} {o : HO} (a : Addr) (h : upd H p o a = none) : H a = none := by
  by_cases e : a = p
  · rw [e, upd_same] at h; cases h
  · rw [upd_ne e] at h; exact h
theorem Gn.tup {p : Addr} {vs : List V} (hp : H p = none) : Gn S H (fun a => S a ∨ a = p) (upd H p (.tup vs)) :=
  ⟨fun _ h => .inl h, fun a h => h.imp id fun e => by rw [e]; exact hp, fun a o h _ => by rw [upd_ne (ne_of_none h hp)]; exact h, fun d a h => by
    by_cases e : a = p
    · rw [e, upd_same]; simp
    · rw [upd_ne e]; exact d a (h.resolve_right e), upd_stay, fun t => t.new hp⟩
theorem Gn.one {p : Addr} {o : HO} (hp : H p = none) : Gn S H (fun a => S a ∨ a = p) (upd H p o) :=
  ⟨fun _ h => .inl h, fun a h => h.imp id fun e => by rw [e]; exact hp, fun a o h _ => by rw [upd_ne (ne_of_none h hp)]; exact h, fun d a h => by
    by_cases e : a = p
    · rw [e, upd_same]; simp
    · rw [upd_ne e]; exact d a (h.resolve_right e), upd_stay, fun t => t.new hp⟩
theorem Gn.lst {p : Addr} {o : HO} (hp : H p = none) : Gn S H S (upd H p o) :=
  ⟨fun _ h => h, fun a h => .inl h, fun a o h _ => by rw [upd_ne (ne_of_none h hp)]; exact h, fun d a h => by
    have : a ≠ p := fun e => d a h (by rw [e]; exact hp)
    rw [upd_ne this]; exact d a h, upd_stay, fun t => t.new hp⟩
/-- a tuple is made -/
theorem Rp.mkTup {p : Addr} {vs : List V} {ds : List D} (hp : H p = none) (r : Rps K S H vs ds) : Rp K (fun a => S a ∨ a = p) (upd H p (.tup vs)) (.ref p) (.tup ds) :=
  .tup (.inl ⟨.inr rfl, .inl upd_same⟩) (r.mono (Gn.tup hp).ke)
/-- a result of an operation that only makes new things: H the heap ahead -/
def Rn (K : PySem.W.Frag) (S' : Addr → Prop) (H H' : Hp) (v : V) : R → Prop
  | .fz d => Rp K S' H' v d
  | .fr xs => ∃ a vs, v = .ref a ∧ H a = none ∧ H' a = some (.lst vs) ∧ ¬ S' a ∧ Rps K S' H' vs xs
  | .rf _ => False
theorem Rn.mkLst {p : Addr} {vs : List V} {ds : List D} (hp : H p = none) (hd : ∀ a, S a → H a ≠ none) (r : Rps K S H vs ds) : Rn K S H (upd H p (.lst vs)) (.ref p) (.fr ds) :=
  ⟨p, vs, rfl, hp, upd_same, fun h => hd p h hp, r.mono (Gn.lst hp).ke⟩
/-- a result as things stand; H₀: the heap ahead -/
def Rv (K : PySem.W.Frag) (S : Addr → Prop) (H₀ : Hp) (ρ : Ev) (σ : St) (H : Hp) (v : V) : R → Prop
  | .fz d => Rp K S H v d
  | .fr xs => ∃ a vs, v = .ref a ∧ H₀ a = none ∧ H a = some (.lst vs) ∧ ¬ S a ∧ ¬ Own ρ σ a ∧ Rps K S H vs xs
  | .rf i => σ[i]? = some (some v)
variable {H₀ : Hp} {v : V} {r : R}
theorem Rv.go (rel : Rel K S ρ σ H) (g : Go S ρ σ H S' ρ' σ H') (h : Rv K S H₀ ρ σ H v r) : Rv K S' H₀ ρ' σ H' v r := by
  cases r with
  | fz d => exact Rp.mono (g.ke rel) h
  | fr xs =>
    obtain ⟨a, vs, e, h0, h1, h2, h3, h4⟩ := h
    refine ⟨a, vs, e, h0, g.keep a _ h1 h3, fun z => ?_, fun z => ?_, h4.mono (g.ke rel)⟩
    · rcases g.new a z with q | q | q
      · exact h2 q
      · rw [h1] at q; cases q
      · exact h3 q
    · rcases g.own a z with q | q
      · rw [h1] at q; cases q
      · exact h3 q
  | rf i => exact h
theorem Rv.base {H₁ : Hp} (st : ∀ a, H₁ a = none → H₀ a = none) (h : Rv K S H₁ ρ σ H v r) : Rv K S H₀ ρ σ H v r := by
  cases r with
  | fz d => exact h
  | fr xs => obtain ⟨a, vs, e, h0, h⟩ := h; exact ⟨a, vs, e, st a h0, h⟩
  | rf i => exact h
theorem Rv.view {d : D} (rel : Rel K S ρ σ H) (h : Rv K S H₀ ρ σ H v r) (e : view ρ r = some d) : Vd K S H v d := by
  cases r with
  | fz d' => cases e; exact .fz h
  | fr xs => cases e; obtain ⟨a, vs, e, h0, h1, h2, h3, h4⟩ := h; exact .ls e h1 h4
  | rf i =>
    have e : (match ρ[i]? with | some (.ls k xs) => k.see xs | _ => none) = some d := e
    split at e
    · rename_i k xs q
      have h : σ[i]? = some (some v) := h
      have go : k.isL = true → d = .lst xs → Vd K S H v d := fun hk hd => by
        obtain ⟨a, vs, e1, e2, _, e3⟩ := rel.atL q hk
        rw [h] at e1; cases e1
        subst hd
        exact .ls rfl e2 e3
      have gi : ∀ c, k.cls = some c → d = .obj c xs → Vd K S H v d := fun c hk hd => by
        obtain ⟨a, e1, _, C, dx, vs, n, e2, l, e3⟩ := rel.atI q hk
        rw [h] at e1; cases e1
        subst hd
        exact .io rfl n e2 l e3
      cases k with
      | own => cases e; exact go rfl rfl
      | bor => cases e; exact go rfl rfl
      | lck => cases e; exact go rfl rfl
      | dic => cases e
      | dit => cases e
      | ins c => cases e; exact gi c rfl rfl
      | inb c => cases e; exact gi c rfl rfl
    · cases e
theorem Rn.rv (rel : Rel K S ρ σ H) (h : Rn K S' H H' v r) : Rv K S' H ρ σ H' v r := by
  cases r with
  | fz d => exact h
  | fr xs =>
    obtain ⟨a, vs, e, h0, h1, h2, h3⟩ := h
    exact ⟨a, vs, e, h0, h1, h2, (fun z => by
      obtain ⟨us, e'⟩ := rel.own_lst z
      rw [e'] at h0
      cases h0), h3⟩
  | rf i => exact h.elim
end
end DL
end
section
set_option autoImplicit false
namespace DL
open PySem L2
variable [LTabs]
theorem peImp {X : Cx} {e : Expr} {t t' : TE} (h : PE X e t) (i : ∀ σ H Q, t' σ H Q → t σ H Q) : PE X e t' := ⟨fun pins s σ H Q I q => h.run pins s σ H Q I (i _ _ _ q)⟩
theorem ptImp {X : Cx} {e : Expr} {t t' : TT} (h : PT X e t) (i : ∀ σ H Q, t' σ H Q → t σ H Q) : PT X e t' := ⟨fun pins s σ H Q I q => h.run pins s σ H Q I (i _ _ _ q)⟩
theorem pwImp {X : Cx} {e : Expr} {t t' : TT} (h : PW X e t) (i : ∀ σ H Q, t' σ H Q → t σ H Q) : PW X e t' := ⟨fun wh pins s σ H Q I q => h.run wh pins s σ H Q I (i _ _ _ q)⟩
theorem paImp {X : Cx} {e : List Expr} {t t' : TA} (h : PA X e t) (i : ∀ σ H Q, t' σ H Q → t σ H Q) : PA X e t' := ⟨fun p pins s σ H Q I q => h.run p pins s σ H Q I (i _ _ _ q)⟩
/-- the meaning of a run m, as a reading: P says how a value lies -/
def tG {α β : Type} (K : PySem.W.Frag) (P : (Addr → Prop) → Hp → Ev → St → Hp → β → α → Prop) (m : M α) : St → Hp → (β → Hp → Prop) → Prop := fun σ H Q =>
  ∃ S ρ a ρ', Rel K S ρ σ H ∧ m ρ = .ok a ρ' ∧ ∀ S' b H', Go S ρ σ H S' ρ' σ H' → Rel K S' ρ' σ H' → P S' H ρ' σ H' b a → Q b H'
abbrev tD (K : PySem.W.Frag) (m : M R) : TE := tG K (Rv K) m
abbrev tT (K : PySem.W.Frag) (m : M Bool) : TT := tG K (fun _ _ _ _ _ b a => b = a) m
/-- all that is known while a run goes on: from the start (S, ρ, H) to (S1, ρ1, H1) -/
structure At (K : PySem.W.Frag) (S : Addr → Prop) (ρ : Ev) (σ : St) (H : Hp) (S1 : Addr → Prop) (ρ1 : Ev) (H1 : Hp) : Prop where
  go : Go S ρ σ H S1 ρ1 σ H1
  rel : Rel K S1 ρ1 σ H1
section
variable {K : PySem.W.Frag} {S S1 S2 : Addr → Prop} {ρ ρ1 ρ2 : Ev} {σ : St} {H H1 H2 : Hp}
theorem At.start (r : Rel K S ρ σ H) : At K S ρ σ H S ρ H := ⟨.refl, r⟩
theorem At.trans (a : At K S ρ σ H S1 ρ1 H1) (b : At K S1 ρ1 σ H1 S2 ρ2 H2) : At K S ρ σ H S2 ρ2 H2 := ⟨a.go.trans b.go, b.rel⟩
theorem At.gn (a : At K S ρ σ H S1 ρ1 H1) (g : Gn S1 H1 S2 H2) : At K S ρ σ H S2 ρ1 H2 := ⟨a.go.trans g.go, a.rel.gn g⟩
/-- an operation's result, at the end -/
theorem At.fin {Q : VK} {r : R} (hQ : ∀ S' v H', Go S ρ σ H S' ρ1 σ H' → Rel K S' ρ1 σ H' → Rv K S' H ρ1 σ H' v r → Q v H') (a : At K S ρ σ H S1 ρ1 H1) :
    ∀ S' v H', Gn S1 H1 S' H' → Rn K S' H1 H' v r → Q v H' := fun S' v H' g n =>
  hQ S' v H' (a.go.trans g.go) (a.rel.gn g) ((n.rv a.rel).base a.go.stay)
/-- a value that makes nothing -/
theorem At.val {Q : VK} {d : D} {v : V} (hQ : ∀ S' v H', Go S ρ σ H S' ρ1 σ H' → Rel K S' ρ1 σ H' → Rv K S' H ρ1 σ H' v (.fz d) → Q v H') (a : At K S ρ σ H S1 ρ1 H1) (h : Rp K S1 H1 v d) : Q v H1 :=
  hQ S1 v H1 a.go a.rel h
end
theorem vw_eq {r : R} {ρ ρ' : Ev} {d : D} (h : vw r ρ = .ok d ρ') : view ρ r = some d ∧ ρ' = ρ := by
  unfold vw at h
  split at h
  · rename_i e; cases h; exact ⟨e, rfl⟩
  · cases h
theorem ret_eq {α : Type} {a b : α} {ρ ρ' : Ev} (h : ret a ρ = .ok b ρ') : b = a ∧ ρ' = ρ := by cases h; exact ⟨rfl, rfl⟩
theorem shp {d : D} (h : shapedD d = true) : pureD d = true ∧ SeqAt.shaped (toPy d) = true := Bool.and_eq_true _ _ |>.mp h
section
variable {X : Cx}
abbrev Dom (S : Addr → Prop) (H : Hp) : Prop := ∀ a, S a → H a ≠ none
def Dm (S : Addr → Prop) (H : Hp) : Prop := Dom S H ∧ LTb H
def rB (K : PySem.W.Frag) (o : Bop) : R2 := fun x y H Q => ∃ S d e r, Dom S H ∧ Vd K S H x d ∧ Vd K S H y e ∧ binD o d e = some r ∧ ∀ S' v H', Gn S H S' H' → Rn K S' H H' v r → Q v H'
def rC (K : PySem.W.Frag) (o : Cop) : R2 := fun x y H Q => ∃ S d e c, Dom S H ∧ Vd K S H x d ∧ Vd K S H y e ∧ cmpD o d e = some c ∧ Q (.bl c) H
theorem rbI {K : PySem.W.Frag} {S : Addr → Prop} {H : Hp} {Q : VK} {i : Int} (q : ∀ S' v H', Gn S H S' H' → Rn K S' H H' v (.fz (.int i)) → Q v H') : Q (.int i) H := q S _ H .refl (.int i)
theorem op_addD : OpR X (binaryOp .Add) (rB X.K .add) := by
  intro pins s σ H x y v u Q I rx ry h
  obtain ⟨S, d, e, r, dom, hx, hy, hb, q⟩ := h
  cases d <;> cases e <;> (try (cases hb; done))
  · rename_i i j
    cases hb
    exact op_add pins s σ H x y v u Q I rx ry ⟨i, j, hx.i, hy.i, rbI q⟩
  · rename_i i j
    have hb : (if i.length + j.length ≤ sizeLine then some (R.fz (.str (i ++ j))) else none) = some r := hb
    split at hb
    · rename_i hz
      cases hb
      exact op_add_str pins s σ H x y v u Q I rx ry ⟨i, j, hx.s, hy.s, hz, q S _ H .refl (.str _)⟩
    · cases hb
  · rename_i xs ys
    have hb : (if xs.length + ys.length ≤ sizeLine then some (R.fz (.tup (xs ++ ys))) else none) = some r := hb
    split at hb
    · rename_i hz
      cases hb
      obtain ⟨a, vs, ea, ha, ra⟩ := hx.t
      obtain ⟨b, us, eb, hb, rb⟩ := hy.t
      refine op_catA pins s σ H x y v u Q I rx ry ⟨a, b, vs, us, ea, eb, ha, hb, by rw [ra.length, rb.length]; exact hz, fun e => ?_, fun _ e => ?_, fun _ _ p hp => ?_⟩
      · subst e
        cases ra
        rw [← eb]
        exact q S _ H .refl (show Rp X.K S H y _ from hy.tf)
      · subst e
        cases rb
        rw [← ea]
        refine q S _ H .refl ?_
        rw [List.append_nil]
        exact (show Rp X.K S H x _ from hx.tf)
      · exact q _ _ _ (.tup hp) (Rp.mkTup hp (ra.append rb))
    · cases hb
  · rename_i xs ys
    have hb : (if xs.length + ys.length ≤ sizeLine then some (R.fr (xs ++ ys)) else none) = some r := hb
    split at hb
    · rename_i hz
      cases hb
      obtain ⟨a, vs, ea, ha, ra⟩ := hx.l
      obtain ⟨b, us, eb, hb, rb⟩ := hy.l
      exact op_cat pins s σ H x y v u Q I rx ry ⟨a, b, vs, us, ea, eb, ha, hb, by rw [ra.length, rb.length]; exact hz, fun p hp => q _ _ _ (.lst hp) (.mkLst hp dom (ra.append rb))⟩
    · cases hb
theorem op_subD : OpR X (binaryOp .Sub) (rB X.K .sub) := by
  intro pins s σ H x y v u Q I rx ry h
  obtain ⟨S, d, e, r, dom, hx, hy, hb, q⟩ := h
  cases d <;> cases e <;> (try (cases hb; done))
  rename_i i j
  cases hb
  exact op_sub pins s σ H x y v u Q I rx ry ⟨i, j, hx.i, hy.i, rbI q⟩
theorem rep_rps {K : PySem.W.Frag} {S : Addr → Prop} {H : Hp} {vs : List V} {ds : List D} (r : Rps K S H vs ds) : ∀ n : Nat, Rps K S H (List.replicate n vs).flatten (repl ds n)
  | 0 => .nil
  | n + 1 => by
    unfold repl
    rw [List.replicate_succ, List.replicate_succ, List.flatten_cons, List.flatten_cons]
    exact r.append (rep_rps r n)
theorem mulOk_small {z : Str} {k : Int} (h0 : 0 ≤ k) (h1 : k ≤ 1000) (h2 : z.length ≤ 1000) : PySem.MulOk z k := by
  refine ⟨?_, fun h3 _ => ?_, fun h3 _ => ?_⟩
  · rw [Bool.or_eq_false_iff]
    exact ⟨decide_eq_false (by omega), decide_eq_false (by omega)⟩
  · have h4 : (1000 : Int) ≤ (2 ^ 63 - 1) / k := (Int.le_ediv_iff_mul_le (by omega)).mpr (by omega)
    omega
  · show decide (z.length * k.toNat > sizeLine) = false
    have : z.length * k.toNat ≤ 1000 * 1000 := Nat.mul_le_mul h2 (by omega)
    refine decide_eq_false ?_
    rw [sizeLine_eq]
    omega
theorem op_mulD : OpR X (binaryOp .Mult) (rB X.K .mul) := by
  intro pins s σ H x y v u Q I rx ry h
  obtain ⟨S, d, e, r, dom, hx, hy, hb, q⟩ := h
  cases d <;> cases e <;> (try (cases hb; done))
  · rename_i i j
    have hb : (if (small64 i || small64 j || (wide i && wide j)) = true then some (R.fz (.int (i * j))) else none) = some r := hb
    split at hb
    · rename_i hz
      cases hb
      rcases Bool.or_eq_true _ _ |>.mp hz with hz | hz
      · refine op_mul pins s σ H x y v u Q I rx ry ⟨i, j, hx.i, hy.i, ?_, rbI q⟩
        rcases Bool.or_eq_true _ _ |>.mp hz with h | h
        · exact .inl (by simpa [small64] using h)
        · exact .inr (by simpa [small64] using h)
      · obtain ⟨h1, h2⟩ := Bool.and_eq_true _ _ |>.mp hz
        have h1 := of_decide_eq_true h1
        have h2 := of_decide_eq_true h2
        exact op_mulW pins s σ H x y v u Q I rx ry ⟨i, j, hx.i, hy.i, wide_mul h1 h2 (by decide) (by decide) (by decide), rbI q⟩
    · cases hb
  · rename_i z k
    have hb : (if 0 ≤ k ∧ k ≤ 1000 ∧ z.length ≤ 1000 then some (R.fz (.str (Txt.mul z k))) else none) = some r := hb
    split at hb
    · rename_i hz
      cases hb
      have e1 := hx.s
      have e2 := hy.i
      subst e1 e2
      obtain ⟨t1, rfl⟩ := rx
      obtain ⟨t2, rfl⟩ := ry
      exact PySem.SB.mul (mulOk_small hz.1 hz.2.1 hz.2.2) fun t' k' => ⟨.str _, H, I.tok k', ⟨t', rfl⟩, q _ _ _ .refl (.str _)⟩
    · cases hb
  · rename_i xs k
    have hb : (if 2 ≤ k ∧ k ≤ 1000 ∧ 1 ≤ xs.length ∧ xs.length ≤ 1000 then some (R.fz (.tup (repl xs k.toNat))) else if (k ≤ 1 ∨ xs.isEmpty = true) ∧ -(2 ^ 63) ≤ k ∧ k < 2 ^ 63 then some (R.fz (.tup (repl xs k.toNat))) else none) = some r := hb
    split at hb
    · rename_i hz
      cases hb
      obtain ⟨a, vs, ea, ha, ra⟩ := hx.t
      have hl := ra.length
      exact op_repT pins s σ H x y v u Q I rx ry ⟨a, k, vs, ea, hy.i, ha, fun z => by rw [z] at hl; simp at hl; omega, hz.1, hz.2.1, by omega, fun p hp => q _ _ _ (.tup hp) (Rp.mkTup hp (rep_rps ra _))⟩
    · split at hb
      · rename_i hz
        cases hb
        obtain ⟨a, vs, ea, ha, ra⟩ := hx.t
        have hl := ra.length
        have one : xs = [] ∨ k = 1 → repl xs k.toNat = xs := fun h => by
          rcases h with rfl | rfl
          · unfold repl
            generalize k.toNat = m
            induction m with
            | zero => rfl
            | succ m ih => rw [List.replicate_succ, List.flatten_cons, ih]; rfl
          · show (List.replicate 1 xs).flatten = xs
            rw [List.replicate_one, List.flatten_cons, List.flatten_nil, List.append_nil]
        by_cases h1 : xs = [] ∨ k = 1
        · rw [one h1] at q
          exact op_rep1 pins s σ H x y v u Q I rx ry ⟨a, k, vs, ea, hy.i, ha, h1.imp (fun z => by rw [z] at hl; exact List.eq_nil_of_length_eq_zero hl) id, hz.2.1, hz.2.2, q _ _ _ .refl (by rw [← ea]; exact hx.tf)⟩
        · have hx0 : xs ≠ [] := fun z => h1 (.inl z)
          have hk : k ≤ 0 := by
            rcases hz.1 with h | h
            · have : k ≠ 1 := fun z => h1 (.inr z)
              omega
            · cases xs with
              | nil => exact absurd rfl hx0
              | cons _ _ => cases h
          have e0 : repl xs k.toNat = [] := by
            rw [show k.toNat = 0 from by omega]; rfl
          rw [e0] at q
          exact op_rep0 pins s σ H x y v u Q I rx ry ⟨a, k, vs, ea, hy.i, ha, fun z => by rw [z] at hl; exact hx0 (List.eq_nil_of_length_eq_zero hl.symm), hk, hz.2.1, fun p hp => q _ _ _ (.tup hp) (Rp.mkTup hp .nil)⟩
      · cases hb
  · rename_i xs k
    have hb : (if -(2 ^ 63) ≤ k ∧ k < 2 ^ 63 ∧ xs.length * k.toNat ≤ sizeLine then some (R.fr (repl xs k.toNat)) else none) = some r := hb
    split at hb
    · rename_i hz
      cases hb
      obtain ⟨a, vs, ea, ha, ra⟩ := hx.l
      exact op_rep pins s σ H x y v u Q I rx ry ⟨a, k, vs, ea, hy.i, ha, hz.1, hz.2.1, by rw [ra.length]; exact hz.2.2, fun p hp => q _ _ _ (.lst hp) (.mkLst hp dom (rep_rps ra _))⟩
    · cases hb
theorem op_fdivD : OpR X (binaryOp .FloorDiv) (rB X.K .fdiv) := by
  intro pins s σ H x y v u Q I rx ry h
  obtain ⟨S, d, e, r, dom, hx, hy, hb, q⟩ := h
  cases d <;> cases e <;> (try (cases hb; done))
  rename_i i j
  have hb : (if j ≠ 0 ∧ j.natAbs < 1073741824 then some (R.fz (.int (i.fdiv j))) else none) = some r := hb
  split at hb
  · rename_i hz
    cases hb
    exact op_fdivN pins s σ H x y v u Q I rx ry ⟨i, j, hx.i, hy.i, hz, rbI q⟩
  · cases hb
theorem op_modD : OpR X (binaryOp .Mod) (rB X.K .mod) := by
  intro pins s σ H x y v u Q I rx ry h
  obtain ⟨S, d, e, r, dom, hx, hy, hb, q⟩ := h
  cases d <;> cases e <;> (try (cases hb; done))
  rename_i i j
  have hb : (if j ≠ 0 then some (R.fz (.int (i.fmod j))) else none) = some r := hb
  split at hb
  · rename_i hz
    cases hb
    exact op_modN pins s σ H x y v u Q I rx ry ⟨i, j, hx.i, hy.i, hz, rbI q⟩
  · cases hb
theorem op_powD : OpR X (binaryOp .Pow) (rB X.K .pow) := by
  intro pins s σ H x y v u Q I rx ry h
  obtain ⟨S, d, e, r, dom, hx, hy, hb, q⟩ := h
  cases d <;> cases e <;> (try (cases hb; done))
  rename_i i j
  have hb : (if 0 ≤ j ∧ j ≤ 1000000 ∧ i.natAbs < 2 ^ 64 then some (R.fz (.int (i ^ j.toNat))) else none) = some r := hb
  split at hb
  · rename_i hz
    cases hb
    exact op_pow pins s σ H x y v u Q I rx ry ⟨i, j, hx.i, hy.i, hz, rbI q⟩
  · cases hb
theorem lexAt_I : ∀ (ns ms : List Int) (i : Nat) (e r : Nat → Bool), (∀ j, e (i + j) = decide (ns.getD j 0 = ms.getD j 0)) → (∀ j, r (i + j) = decide (ns.getD j 0 < ms.getD j 0)) → Ob.lexAt e r (decide (ns.length < ms.length)) i (min ns.length ms.length) = lexLtI ns ms
  | [], [], _, _, _, _, _ => rfl
  | [], y :: ys, _, _, _, _, _ => by rw [List.length_nil, Nat.zero_min, Ob.lexAt_zero]; rfl
  | x :: xs, [], _, _, _, _, _ => by rw [List.length_nil, Nat.min_zero, Ob.lexAt_zero]; rfl
  | x :: xs, y :: ys, i, e, r, he, hr => by
    have h0 := he 0
    have r0 := hr 0
    rw [Nat.add_zero] at h0 r0
    have h0 : e i = decide (x = y) := h0
    have r0 : r i = decide (x < y) := r0
    rw [List.length_cons, List.length_cons, Nat.succ_min_succ, Ob.lexAt_succ, h0, r0]
    have hd : decide (xs.length + 1 < ys.length + 1) = decide (xs.length < ys.length) := decide_eq_decide.mpr (by omega)
    have ih := lexAt_I xs ys (i + 1) e r (fun j => by
      have := he (j + 1)
      rw [show i + 1 + j = i + (j + 1) from by omega]
      exact this) (fun j => by
      have := hr (j + 1)
      rw [show i + 1 + j = i + (j + 1) from by omega]
      exact this)
    rw [hd, ih]
    show _ = if x = y then lexLtI xs ys else decide (x < y)
    by_cases q : x = y
    · rw [if_pos (decide_eq_true q), if_pos q]
    · rw [if_neg (by rw [decide_eq_false q]; exact Bool.false_ne_true), if_neg q]
theorem op_ltTup (hu : X.A.units + 64 < cLine) {pins : List (Addr × Obj)} {s : Shared} {σ : St} {H : Hp} {Q : VK} {a b : Addr} {ns ms : List Int} (I : Inv X pins σ H s) (ha : SqT X.K H a (ns.map V.int)) (hb : SqT X.K H b (ms.map V.int)) (q : Q (.bl (lexLtI ns ms)) H) :
    wpAny (model X.prog X.w) X.A (compareOp .Lt (.ref a) (.ref b)) (EP X pins σ Q) X.xe s := by
  obtain ⟨its, r1, p1, _⟩ := I.tuple ha
  obtain ⟨its2, r2, p2, _⟩ := I.tuple hb
  have i1 : PyProof.Rows.IntsAre its ns := Vals.ints r1
  have i2 : PyProof.Rows.IntsAre its2 ms := Vals.ints r2
  have e1 : its.toArray.size = ns.length := by rw [List.size_toArray]; exact i1.length
  have e2 : its2.toArray.size = ms.length := by rw [List.size_toArray]; exact i2.length
  have at1 : ∀ j (h1 : j < its.toArray.size), ∃ t, its.toArray[j] = .int (ns.getD j 0) t := fun j h1 => PyProof.Rows.IntsAre.int_at i1 _ _ (by simp at h1; simp [h1])
  have at2 : ∀ j (h1 : j < its2.toArray.size), ∃ t, its2.toArray[j] = .int (ms.getD j 0) t := fun j h1 => PyProof.Rows.IntsAre.int_at i2 _ _ (by simp at h1; simp [h1])
  have R := Ob.RcOp.tuples_lt (A := X.A) (s := s) (e := fun j => decide (ns.getD j 0 = ms.getD j 0)) (r := fun j => decide (ns.getD j 0 < ms.getD j 0)) p1 p2 (by omega) (fun j h1 h2 => by
    obtain ⟨t, et⟩ := at1 j h1
    obtain ⟨t', et'⟩ := at2 j h2
    rw [et, et']
    have z : (ns.getD j 0 == ms.getD j 0) = decide (ns.getD j 0 = ms.getD j 0) := by
      by_cases q : ns.getD j 0 = ms.getD j 0
      · rw [decide_eq_true q]; exact beq_iff_eq.mpr q
      · rw [decide_eq_false q]; exact beq_eq_false_iff_ne.mpr q
    rw [← z]
    exact SeqAt.EqAt.int_int _ _ _ _) (fun j h1 h2 _ => by
    obtain ⟨t, et⟩ := at1 j h1
    obtain ⟨t', et'⟩ := at2 j h2
    rw [et, et']
    exact Ob.RcOp.lt_int _ _ _ _)
  rw [e1, e2, lexAt_I ns ms 0 _ _ (fun j => by rw [Nat.zero_add]) (fun j => by rw [Nat.zero_add])] at R
  have z : wpAny (model X.prog X.w) X.A (compareOp .Lt (.ref a) (.ref b)) (EP X pins σ Q) X.xe s := R X.prog X.w X.xe (EP X pins σ Q) ⟨.bl _, H, I, rfl, q⟩
  exact z
theorem op_ltD (hu : X.A.units + 64 < cLine) : OpR X (compareOp .Lt) (rC X.K .lt) := by
  intro pins s σ H x y v u Q I rx ry h
  obtain ⟨S, d, e, c, dom, hx, hy, hb, q⟩ := h
  have key : (∃ i j, d = .int i ∧ e = .int j ∧ c = decide (i < j)) ∨ (∃ xs ys ns ms, d = .tup xs ∧ e = .tup ys ∧ intsD xs = some ns ∧ intsD ys = some ms ∧ c = lexLtI ns ms) := by
    cases d <;> cases e <;> first | exact .inl ⟨_, _, rfl, rfl, (Option.some.inj hb).symm⟩ | (cases hb; done) | skip
    rename_i xs ys
    have hb : ((intsD xs).bind fun ns => (intsD ys).map fun ms => lexLtI ns ms) = some c := hb
    cases e1 : intsD xs with
    | none => rw [e1] at hb; cases hb
    | some ns =>
      rw [e1] at hb
      cases e2 : intsD ys with
      | none => rw [e2] at hb; cases hb
      | some ms =>
        rw [e2] at hb
        exact .inr ⟨xs, ys, ns, ms, rfl, rfl, e1, e2, (Option.some.inj hb).symm⟩
  rcases key with ⟨i, j, rfl, rfl, rfl⟩ | ⟨xs, ys, ns, ms, rfl, rfl, e1, e2, rfl⟩
  · exact op_lt pins s σ H x y v u Q I rx ry ⟨i, j, hx.i, hy.i, q⟩
  · obtain ⟨p, vs, rfl, hp, rp⟩ := hx.t
    obtain ⟨p2, vs2, rfl, hp2, rp2⟩ := hy.t
    have ev1 := Rps.intsD rp e1
    have ev2 := Rps.intsD rp2 e2
    subst ev1 ev2
    cases rx
    cases ry
    exact op_ltTup hu I hp hp2 q
theorem op_leD : OpR X (compareOp .LtE) (rC X.K .le) := by
  intro pins s σ H x y v u Q I rx ry h
  obtain ⟨S, d, e, c, dom, hx, hy, hb, q⟩ := h
  cases d <;> cases e <;> (try (cases hb; done))
  rename_i i j
  cases hb
  exact op_le pins s σ H x y v u Q I rx ry ⟨i, j, hx.i, hy.i, q⟩
theorem op_gtD : OpR X (compareOp .Gt) (rC X.K .gt) := by
  intro pins s σ H x y v u Q I rx ry h
  obtain ⟨S, d, e, c, dom, hx, hy, hb, q⟩ := h
  cases d <;> cases e <;> (try (cases hb; done))
  rename_i i j
  cases hb
  exact op_gt pins s σ H x y v u Q I rx ry ⟨i, j, hx.i, hy.i, q⟩
theorem op_geD : OpR X (compareOp .GtE) (rC X.K .ge) := by
  intro pins s σ H x y v u Q I rx ry h
  obtain ⟨S, d, e, c, dom, hx, hy, hb, q⟩ := h
  cases d <;> cases e <;> (try (cases hb; done))
  rename_i i j
  cases hb
  exact op_ge pins s σ H x y v u Q I rx ry ⟨i, j, hx.i, hy.i, q⟩
theorem lenNe_split {d e : D} (h : lenNe d e = true) : (∃ xs ys, d = .lst xs ∧ e = .lst ys ∧ (xs.length != ys.length) = true) ∨ (∃ xs ys, d = .tup xs ∧ e = .tup ys ∧ ((xs = [] ∧ ys.length ≠ 0) ∨ (ys = [] ∧ xs.length ≠ 0))) := by
  unfold lenNe at h
  split at h
  · exact .inl ⟨_, _, rfl, rfl, h⟩
  · exact .inr ⟨_, _, rfl, rfl, .inr ⟨rfl, by simp⟩⟩
  · exact .inr ⟨_, _, rfl, rfl, .inl ⟨rfl, by simp⟩⟩
  · cases h
theorem op_eqDD (hu : X.A.units + 64 < cLine) : OpR X (compareOp .Eq) (rC X.K .eq) := by
  intro pins s σ H x y v u Q I rx ry h
  obtain ⟨S, d, e, c, dom, hx, hy, hb, q⟩ := h
  have key : (∃ i j, d = .int i ∧ e = .int j ∧ c = decide (i = j)) ∨ (∃ a b, d = .str a ∧ e = .str b ∧ c = decide (a = b)) ∨ (if (shapedD d && shapedD e) = true then some ((toPy d).eqv (toPy e)) else if lenNe d e = true then some false else none) = some c := by
    cases d <;> cases e <;> first | exact .inl ⟨_, _, rfl, rfl, (Option.some.inj hb).symm⟩ | exact .inr (.inl ⟨_, _, rfl, rfl, (Option.some.inj hb).symm⟩) | exact .inr (.inr hb)
  rcases key with ⟨i, j, rfl, rfl, rfl⟩ | ⟨i, j, rfl, rfl, rfl⟩ | hb
  · have ex := hx.i
    have ey := hy.i
    subst ex ey
    refine op_eq pins s σ H _ _ v u Q I rx ry ⟨rfl, ?_⟩
    have e : decide (V.int i = V.int j) = decide (i = j) := decide_eq_decide.mpr ⟨fun z => V.int.inj z, fun z => by rw [z]⟩
    rw [e]
    exact q
  · have ex := hx.s
    have ey := hy.s
    subst ex ey
    refine op_eq pins s σ H _ _ v u Q I rx ry ⟨rfl, ?_⟩
    have e : decide (V.str i = V.str j) = decide (i = j) := decide_eq_decide.mpr ⟨fun z => V.str.inj z, fun z => by rw [z]⟩
    rw [e]
    exact q
  split at hb
  · rename_i hz
    cases hb
    obtain ⟨h1, h2⟩ := Bool.and_eq_true _ _ |>.mp hz
    exact op_eqD hu pins s σ H x y v u Q I rx ry ⟨_, _, hx.dp (shp h1).1, hy.dp (shp h2).1, (shp h1).2, (shp h2).2, q⟩
  · rename_i hs0
    split at hb
    · rename_i hz
      cases hb
      rcases lenNe_split hz with ht | ht
      case inr =>
        obtain ⟨xs, ys, rfl, rfl, hq⟩ := ht
        obtain ⟨a, vs, ea, ha, ra⟩ := hx.t
        obtain ⟨b, ws, eb, hb, rb⟩ := hy.t
        subst ea eb
        cases rx
        cases ry
        obtain ⟨its, r1, t1, _⟩ := I.tuple ha
        obtain ⟨its2, r2, t2, _⟩ := I.tuple hb
        have l1 : its.toArray.size = xs.length := by rw [List.size_toArray, ← r1.length, ra.length]
        have l2 : its2.toArray.size = ys.length := by rw [List.size_toArray, ← r2.length, rb.length]
        have key := SeqAt.RcAt.tuples (e := fun _ => true) (A := X.A) t1 t2 (by omega) fun j h1 h2 => by
          rcases hq with ⟨z, _⟩ | ⟨z, _⟩
          · rw [l1, z] at h1; exact absurd h1 (Nat.not_lt_zero j)
          · rw [l2, z] at h2; exact absurd h2 (Nat.not_lt_zero j)
        have hne : (its.toArray.size == its2.toArray.size) = false := by
          rw [beq_eq_false_iff_ne, l1, l2]
          rcases hq with ⟨z, w⟩ | ⟨z, w⟩
          · rw [z]; exact fun q => w q.symm
          · rw [z]; exact w
        rw [hne, Bool.and_false] at key
        exact key X.prog X.w _ _ ⟨.bl false, H, I, rfl, q⟩
      obtain ⟨xs, ys, rfl, rfl, hq⟩ := ht
      clear hz
      have hz := hq
      obtain ⟨a, vs, ea, ha, ra⟩ := hx.l
      obtain ⟨b, ws, eb, hb, rb⟩ := hy.l
      subst ea eb
      cases rx
      cases ry
      obtain ⟨z1, its, n, r1, e1⟩ := (show ObjOk X.prog X.w H s.heap a (.lst vs) from I.hok a _ ha)
      obtain ⟨z2, its2, n2, r2, e2⟩ := (show ObjOk X.prog X.w H s.heap b (.lst ws) from I.hok b _ hb)
      have hz : (xs.length != ys.length) = true := hz
      exact SeqAt.RcAt.lists_lengths ⟨_, e1, rfl, n, rfl⟩ ⟨_, e2, rfl, n2, rfl⟩ (by rw [List.size_toArray, List.size_toArray, ← r1.length, ← r2.length, ra.length, rb.length]; exact hz) (by omega) X.prog X.w _ _ ⟨.bl false, H, I, rfl, q⟩
    · cases hb
theorem op_neDD (hu : X.A.units + 64 < cLine) : OpR X (compareOp .NotEq) (rC X.K .ne) := by
  intro pins s σ H x y v u Q I rx ry h
  obtain ⟨S, d, e, c, dom, hx, hy, hb, q⟩ := h
  have key : (∃ i j, d = .int i ∧ e = .int j ∧ c = !decide (i = j)) ∨ (∃ a b, d = .str a ∧ e = .str b ∧ c = !decide (a = b)) ∨ (if (shapedD d && shapedD e) = true then some (!(toPy d).eqv (toPy e)) else none) = some c := by
    cases d <;> cases e <;> first | exact .inl ⟨_, _, rfl, rfl, (Option.some.inj hb).symm⟩ | exact .inr (.inl ⟨_, _, rfl, rfl, (Option.some.inj hb).symm⟩) | exact .inr (.inr hb)
  rcases key with ⟨i, j, rfl, rfl, rfl⟩ | ⟨i, j, rfl, rfl, rfl⟩ | hb
  · have ex := hx.i
    have ey := hy.i
    subst ex ey
    refine op_ne pins s σ H _ _ v u Q I rx ry ⟨rfl, ?_⟩
    have e : decide (V.int i = V.int j) = decide (i = j) := decide_eq_decide.mpr ⟨fun z => V.int.inj z, fun z => by rw [z]⟩
    rw [e]
    exact q
  · have ex := hx.s
    have ey := hy.s
    subst ex ey
    refine op_ne pins s σ H _ _ v u Q I rx ry ⟨rfl, ?_⟩
    have e : decide (V.str i = V.str j) = decide (i = j) := decide_eq_decide.mpr ⟨fun z => V.str.inj z, fun z => by rw [z]⟩
    rw [e]
    exact q
  split at hb
  · rename_i hz
    cases hb
    obtain ⟨h1, h2⟩ := Bool.and_eq_true _ _ |>.mp hz
    exact op_neD hu pins s σ H x y v u Q I rx ry ⟨_, _, hx.dp (shp h1).1, hy.dp (shp h2).1, (shp h1).2, (shp h2).2, q⟩
  · cases hb
theorem Vd.non_iff {K : PySem.W.Frag} {S : Addr → Prop} {H : Hp} {v : V} {d : D} (h : Vd K S H v d) : decide (v = .non) = isNonD d := by
  cases h with
  | fz h => cases h <;> first | rfl | (rename_i b; cases b <;> rfl)
  | ls e1 h r => rw [e1]; rfl
  | io e1 => rw [e1]; rfl
theorem op_isND : OpR X (compareOp .Is) (rC X.K .isN) := by
  intro pins s σ H x y v u Q I rx ry h
  obtain ⟨S, d, e, c, dom, hx, hy, hb, q⟩ := h
  cases e <;> (try (cases d <;> cases hb; done))
  case bl b =>
    cases d <;> (try (cases hb; done))
    rename_i a
    cases hb
    exact op_is_bl pins s σ H x y v u Q I rx ry ⟨a, b, hx.b, hy.b, q⟩
  have hb : some (isNonD d) = some c := by cases d <;> exact hb
  refine op_isN pins s σ H x y v u Q I rx ry ⟨hy.n, ?_⟩
  rw [hx.non_iff]
  cases hb
  exact q
theorem op_notND : OpR X (compareOp .IsNot) (rC X.K .notN) := by
  intro pins s σ H x y v u Q I rx ry h
  obtain ⟨S, d, e, c, dom, hx, hy, hb, q⟩ := h
  cases e <;> (try (cases d <;> cases hb; done))
  case bl b =>
    cases d <;> (try (cases hb; done))
    rename_i a
    cases hb
    exact op_isnot_bl pins s σ H x y v u Q I rx ry ⟨a, b, hx.b, hy.b, q⟩
  have hb : some (!isNonD d) = some c := by cases d <;> exact hb
  refine op_notN pins s σ H x y v u Q I rx ry ⟨hy.n, ?_⟩
  rw [hx.non_iff]
  cases hb
  exact q
theorem tru_d {K : PySem.W.Frag} {S : Addr → Prop} {H : Hp} {v : V} {d : D} {k : Bool} (h : Vd K S H v d) (e : truthD d = some k) : TruV K v H k := by
  cases d with
  | non => cases e; rw [h.n]; rfl
  | bl b => cases e; rw [h.b]; rfl
  | int i => cases e; rw [h.i]; rfl
  | str z =>
    have e : (if z.length ≤ sizeLine then some (z.length != 0) else none) = some k := e
    split at e
    · rename_i hz; cases e; rw [h.s]; exact ⟨hz, by rw [Bool.eq_iff_iff]; simp⟩
    · cases e
  | tup xs =>
    cases e
    obtain ⟨a, vs, ea, ha, ra⟩ := h.t
    rw [ea]
    refine .inr (.inl ⟨vs, ha, ?_⟩)
    cases ra <;> rfl
  | lst xs =>
    cases e
    obtain ⟨a, vs, ea, ha, ra⟩ := h.l
    rw [ea]
    refine .inl ⟨vs, .inl (.inl ha), ?_⟩
    cases ra <;> rfl
  | obj _ _ => cases e
  | box _ _ _ => cases e
  | emp kvs =>
    cases kvs with
    | cons _ _ => cases e
    | nil =>
      cases e
      obtain ⟨a, ea, ha⟩ := h.e
      rw [ea]
      exact .inr (.inr ⟨_, ha, rfl⟩)
  | scr xs =>
    cases e
    obtain ⟨a, vs, ea, ha, ra⟩ := h.c
    rw [ea]
    refine .inl ⟨vs, ha, ?_⟩
    cases ra <;> rfl
end
section
variable {X : Cx} {Φ : Calls} {a b c : Expr} {pos : Pos} {ia ib ic : E}
theorem de_var {i : Nat} {e : Expr} (h : PE X e (tVar i)) : PE X e (tD X.K (ev Φ (.var i))) := peImp h fun σ H Q q => by
  obtain ⟨S, ρ, r, ρ', rel, e, q⟩ := q
  simp only [ev] at e
  split at e
  · rename_i d e1
    cases e
    obtain ⟨v, e2, h⟩ := rel.atF e1
    exact ⟨v, e2, q S v H .refl rel h⟩
  · cases e
  · cases e
  · cases e
  · cases e
  · rename_i k xs _ _ _ _ e1
    cases e
    obtain ⟨a, vs, e2, _⟩ := rel.atN e1
    exact ⟨_, e2, q S _ H .refl rel e2⟩
  · cases e
theorem de_cst {v : V} {d : D} {e : Expr} (h : PE X e (tC v)) (r : ∀ S H, Rp X.K S H v d) : PE X e (tD X.K (ev Φ (.cst d))) := peImp h fun σ H Q q => by
  obtain ⟨S, ρ, x, ρ', rel, e, q⟩ := q
  obtain ⟨rfl, rfl⟩ := ret_eq (by simpa only [ev] using e)
  exact q S v H .refl rel (r S H)
theorem de_int {i : Int} {j} : PE X (.Constant (.int i) j pos) (tD X.K (ev Φ (.cst (.int i)))) := de_cst pe_int fun _ _ => .int i
theorem de_bl {i : Bool} {j} : PE X (.Constant (.bool i) j pos) (tD X.K (ev Φ (.cst (.bl i)))) := de_cst pe_bl fun _ _ => .bl i
theorem de_non {j} : PE X (.Constant .none j pos) (tD X.K (ev Φ (.cst .non))) := de_cst pe_non fun _ _ => .non
theorem de_str {i : Str} {j} : PE X (.Constant (.str i) j pos) (tD X.K (ev Φ (.cst (.str i)))) := de_cst pe_str fun _ _ => .str i
theorem de_glob {x : Str} {i : Int} {t : Tok} (hg : Gl X x) (hm : X.mg x = some (.int i t)) (hd : (x == ("__debug__" : Str)) = false := by decide) : PE X (.Name x pos) (tD X.K (ev Φ (.cst (.int i)))) := de_cst (pe_glob (v := .int i) hg hm ⟨t, rfl⟩ hd) fun _ _ => .int i
theorem vw2_split {α : Type} {x y : R} {g : D → D → M α} {ρ ρ' : Ev} {r : α} (h : bnd (vw x) (fun d => bnd (vw y) fun e => g d e) ρ = .ok r ρ') : ∃ d e, view ρ x = some d ∧ view ρ y = some e ∧ g d e ρ = .ok r ρ' := by
  obtain ⟨d, ρ1, e1, h1⟩ := bnd_eq h
  obtain ⟨v1, q1⟩ := vw_eq e1
  rw [q1] at h1
  obtain ⟨e, ρ2, e2, h2⟩ := bnd_eq h1
  obtain ⟨v2, q2⟩ := vw_eq e2
  rw [q2] at h2
  exact ⟨d, e, v1, v2, h2⟩
theorem vw1_split {α : Type} {x : R} {g : D → M α} {ρ ρ' : Ev} {r : α} (h : bnd (vw x) g ρ = .ok r ρ') : ∃ d, view ρ x = some d ∧ g d ρ = .ok r ρ' := by
  obtain ⟨d, ρ1, e1, h1⟩ := bnd_eq h
  obtain ⟨v1, q1⟩ := vw_eq e1
  rw [q1] at h1
  exact ⟨d, v1, h1⟩
theorem ofO_split {α β : Type} {o : Option β} {g : β → M α} {ρ ρ' : Ev} {r : α} (h : bnd (ofO o) g ρ = .ok r ρ') : ∃ b, o = some b ∧ g b ρ = .ok r ρ' := by
  obtain ⟨d, ρ1, e1, h1⟩ := bnd_eq h
  obtain ⟨v1, q1⟩ := ofO_eq e1
  rw [q1] at h1
  exact ⟨d, v1, h1⟩
theorem bin_split {o : Bop} {ρ ρ' : Ev} {r : R} (h : ev Φ (.bin o ia ib) ρ = .ok r ρ') : ∃ x ρ1 y d f, ev Φ ia ρ = .ok x ρ1 ∧ ev Φ ib ρ1 = .ok y ρ' ∧ view ρ' x = some d ∧ view ρ' y = some f ∧ binD o d f = some r := by
  simp only [ev] at h
  obtain ⟨x, ρ1, e1, h1⟩ := bnd_eq h
  obtain ⟨y, ρ2, e2, h2⟩ := bnd_eq h1
  obtain ⟨d, f, v1, v2, h3⟩ := vw2_split h2
  obtain ⟨e5, q⟩ := ofO_eq h3
  rw [q]
  exact ⟨x, ρ1, y, d, f, e1, e2, v1, v2, e5⟩
theorem cmp_split {o : Cop} {ρ ρ' : Ev} {r : R} (h : ev Φ (.cmp o ia ib) ρ = .ok r ρ') : ∃ x ρ1 y d f k, ev Φ ia ρ = .ok x ρ1 ∧ ev Φ ib ρ1 = .ok y ρ' ∧ view ρ' x = some d ∧ view ρ' y = some f ∧ cmpD o d f = some k ∧ r = .fz (.bl k) := by
  simp only [ev] at h
  obtain ⟨x, ρ1, e1, h1⟩ := bnd_eq h
  obtain ⟨y, ρ2, e2, h2⟩ := bnd_eq h1
  obtain ⟨d, f, v1, v2, h3⟩ := vw2_split h2
  obtain ⟨k, e5, h4⟩ := ofO_split h3
  obtain ⟨q1, q⟩ := ret_eq h4
  rw [q]
  exact ⟨x, ρ1, y, d, f, k, e1, e2, v1, v2, e5, q1⟩
/-- the truth of a value -/
theorem tru_split {m : M R} {g : R → Bool → M R} {ρ ρ' : Ev} {r : R} (h : bnd m (fun x => bnd (vw x) fun d => bnd (ofO (truthD d)) fun k => g x k) ρ = .ok r ρ') : ∃ x ρ1 d k, m ρ = .ok x ρ1 ∧ view ρ1 x = some d ∧ truthD d = some k ∧ g x k ρ1 = .ok r ρ' := by
  obtain ⟨x, ρ1, e1, h1⟩ := bnd_eq h
  obtain ⟨d, v1, h2⟩ := vw1_split h1
  obtain ⟨k, e5, h4⟩ := ofO_split h2
  exact ⟨x, ρ1, d, k, e1, v1, e5, h4⟩
/-- two in a row -/
theorem seq2 {K : PySem.W.Frag} {ma mb : M R} {G : V → V → Hp → Prop} {S : Addr → Prop} {ρ ρ1 ρ2 : Ev} {σ : St} {H : Hp} {x y : R} (rel : Rel K S ρ σ H) (ea : ma ρ = .ok x ρ1) (eb : mb ρ1 = .ok y ρ2)
    (h : ∀ S2 H2 v u, At K S ρ σ H S2 ρ2 H2 → Rv K S2 H ρ2 σ H2 v x → Rv K S2 H ρ2 σ H2 u y → G v u H2) :
    tD K ma σ H fun v H1 => tD K mb σ H1 fun u H2 => G v u H2 :=
  ⟨S, ρ, x, ρ1, rel, ea, fun S1 v H1 g1 rel1 r1 => ⟨S1, ρ1, y, ρ2, rel1, eb, fun S2 u H2 g2 rel2 r2 => h S2 H2 v u ⟨g1.trans g2, rel2⟩ (r1.go rel1 g2) (r2.base g1.stay)⟩⟩
theorem de_bin {op : Operator} {o : Bop} (ho : OpR X (binaryOp op) (rB X.K o)) (ha : PE X a (tD X.K (ev Φ ia))) (hb : PE X b (tD X.K (ev Φ ib))) : PE X (.BinOp a op b pos) (tD X.K (ev Φ (.bin o ia ib))) :=
  peImp (pe_op ho ha hb) fun σ H Q q => by
    obtain ⟨S, ρ, r, ρ', rel, e, q⟩ := q
    obtain ⟨x, ρ1, y, d, f, e1, e2, v1, v2, e5⟩ := bin_split e
    exact seq2 rel e1 e2 fun S2 H2 v u at2 r1 r2 => ⟨S2, d, f, r, at2.rel.dom, r1.view at2.rel v1, r2.view at2.rel v2, e5, at2.fin q⟩
theorem de_cmp {op : CmpOp} {o : Cop} (ho : OpR X (compareOp op) (rC X.K o)) (ha : PE X a (tD X.K (ev Φ ia))) (hb : PE X b (tD X.K (ev Φ ib))) (hm : behindInMarks op b = false) : PE X (.Compare a [op] [b] pos) (tD X.K (ev Φ (.cmp o ia ib))) :=
  peImp (pe_cmpR ho ha hb hm) fun σ H Q q => by
    obtain ⟨S, ρ, r, ρ', rel, e, q⟩ := q
    obtain ⟨x, ρ1, y, d, f, k, e1, e2, v1, v2, e5, er⟩ := cmp_split e
    subst er
    exact seq2 rel e1 e2 fun S2 H2 v u at2 r1 r2 => ⟨S2, d, f, k, at2.rel.dom, r1.view at2.rel v1, r2.view at2.rel v2, e5, q S2 _ H2 at2.go at2.rel (.bl _)⟩
/-- a test's meaning -/
def evt (Φ : Calls) (e : E) : M Bool := bnd (ev Φ e) fun x => bnd (vw x) fun d => ofO (truthD d)
theorem evt_split {e : E} {ρ ρ' : Ev} {k : Bool} (h : evt Φ e ρ = .ok k ρ') : ∃ x d, ev Φ e ρ = .ok x ρ' ∧ view ρ' x = some d ∧ truthD d = some k := by
  obtain ⟨x, ρ1, e1, h1⟩ := bnd_eq h
  obtain ⟨d, v1, h2⟩ := vw1_split h1
  obtain ⟨e5, q⟩ := ofO_eq h2
  rw [q]
  exact ⟨x, d, e1, v1, e5⟩
theorem evt_mk {e : E} {ρ ρ' : Ev} {x : R} {d : D} {k : Bool} (e1 : ev Φ e ρ = .ok x ρ') (e2 : view ρ' x = some d) (e3 : truthD d = some k) : evt Φ e ρ = .ok k ρ' := by
  show (ev Φ e ρ).then _ = _
  rw [e1]
  show (vw x ρ').then _ = _
  unfold vw
  rw [e2]
  show ofO (truthD d) ρ' = _
  rw [e3]
  rfl
theorem dt_val (ha : PE X a (tD X.K (ev Φ ia))) (hp : ∀ (whole : Sem Value), PySem.isTrue a X.env whole = (do let v ← whole; standAt a.pos; holding [v] (truthy v))) : PT X a (tT X.K (evt Φ ia)) :=
  ptImp (pt_truth ha hp) fun σ H Q q => by
    obtain ⟨S, ρ, r, ρ', rel, e, q⟩ := q
    obtain ⟨x, d, e1, v1, e5⟩ := evt_split e
    exact ⟨S, ρ, x, _, rel, e1, fun S1 v H1 g1 rel1 r1 => ⟨r, tru_d (r1.view rel1 v1) e5, q S1 _ H1 g1 rel1 rfl⟩⟩
theorem dt_cmp {op : CmpOp} {o : Cop} (ho : OpR X (compareOp op) (rC X.K o)) (ha : PE X a (tD X.K (ev Φ ia))) (hb : PE X b (tD X.K (ev Φ ib))) (hm : behindInMarks op b = false) : PT X (.Compare a [op] [b] pos) (tT X.K (evt Φ (.cmp o ia ib))) :=
  ptImp (pt_cmpR ho ha hb hm) fun σ H Q q => by
    obtain ⟨S, ρ, r, ρ', rel, e, q⟩ := q
    obtain ⟨z, d0, e0, v0, t0⟩ := evt_split e
    obtain ⟨x, ρ1, y, d, f, k, e1, e2, v1, v2, e5, er⟩ := cmp_split e0
    subst er
    cases v0
    cases t0
    exact seq2 rel e1 e2 fun S2 H2 v u at2 r1 r2 => ⟨S2, d, f, r, at2.rel.dom, r1.view at2.rel v1, r2.view at2.rel v2, e5, r, rfl, q S2 _ H2 at2.go at2.rel rfl⟩
theorem dt_not (ha : PT X a (tT X.K (evt Φ ia))) : PT X (.UnaryOp .Not a pos) (tT X.K (evt Φ (.not ia))) :=
  ptImp (pt_not ha) fun σ H Q q => by
    obtain ⟨S, ρ, r, ρ', rel, e, q⟩ := q
    obtain ⟨z, d0, e0, v0, t0⟩ := evt_split e
    simp only [ev] at e0
    obtain ⟨x, ρ1, d, k, e1, v1, e5, h1⟩ := tru_split e0
    obtain ⟨q1, q2⟩ := ret_eq h1
    subst q1 q2
    cases v0
    cases t0
    exact ⟨S, ρ, k, _, rel, evt_mk e1 v1 e5, fun S1 b H1 g1 rel1 r1 => by subst r1; exact q S1 _ H1 g1 rel1 rfl⟩
theorem dw_one {op : BoolOp} (ha : PT X a (tT X.K (evt Φ ia))) (h : op = .And ∨ op = .Or) : PW X (.BoolOp op [a] pos) (tT X.K (evt Φ ia)) := by
  rcases h with rfl | rfl
  · exact pw_and1 ha
  · exact pw_or1 ha
theorem dw_and {rest : List Expr} (ha : PT X a (tT X.K (evt Φ ia))) (hb : PW X (.BoolOp .And (b :: rest) pos) (tT X.K (evt Φ ib))) : PW X (.BoolOp .And (a :: b :: rest) pos) (tT X.K (evt Φ (.and ia ib))) :=
  pwImp (pw_and ha hb) fun σ H Q q => by
    obtain ⟨S, ρ, r, ρ', rel, e, q⟩ := q
    obtain ⟨z, d0, e0, v0, t0⟩ := evt_split e
    simp only [ev] at e0
    obtain ⟨x, ρ1, d, k, e1, v1, e5, h1⟩ := tru_split e0
    refine ⟨S, ρ, k, _, rel, evt_mk e1 v1 e5, fun S1 b H1 g1 rel1 r1 => ?_⟩
    subst r1
    cases b with
    | true =>
      exact iteT ⟨S1, _, r, ρ', rel1, evt_mk h1 v0 t0, fun S2 b2 H2 g2 rel2 r2 => q S2 b2 H2 (g1.trans g2) rel2 r2⟩
    | false =>
      obtain ⟨q1, q2⟩ := ret_eq h1
      subst q1 q2
      rw [v1] at v0
      cases v0
      rw [e5] at t0
      cases t0
      exact iteF (q S1 _ H1 g1 rel1 rfl)
theorem dw_or {rest : List Expr} (ha : PT X a (tT X.K (evt Φ ia))) (hb : PW X (.BoolOp .Or (b :: rest) pos) (tT X.K (evt Φ ib))) : PW X (.BoolOp .Or (a :: b :: rest) pos) (tT X.K (evt Φ (.or ia ib))) :=
  pwImp (pw_or ha hb) fun σ H Q q => by
    obtain ⟨S, ρ, r, ρ', rel, e, q⟩ := q
    obtain ⟨z, d0, e0, v0, t0⟩ := evt_split e
    simp only [ev] at e0
    obtain ⟨x, ρ1, d, k, e1, v1, e5, h1⟩ := tru_split e0
    refine ⟨S, ρ, k, _, rel, evt_mk e1 v1 e5, fun S1 b H1 g1 rel1 r1 => ?_⟩
    subst r1
    cases b with
    | false =>
      exact iteF ⟨S1, _, r, ρ', rel1, evt_mk h1 v0 t0, fun S2 b2 H2 g2 rel2 r2 => q S2 b2 H2 (g1.trans g2) rel2 r2⟩
    | true =>
      obtain ⟨q1, q2⟩ := ret_eq h1
      subst q1 q2
      rw [v1] at v0
      cases v0
      rw [e5] at t0
      cases t0
      exact iteT (q S1 _ H1 g1 rel1 rfl)
theorem de_one {op : BoolOp} (ha : PE X a (tD X.K (ev Φ ia))) : PE X (.BoolOp op [a] pos) (tD X.K (ev Φ ia)) := pe_one ha
theorem de_and {rest : List Expr} (ha : PE X a (tD X.K (ev Φ ia))) (hb : PE X (.BoolOp .And (b :: rest) pos) (tD X.K (ev Φ ib))) : PE X (.BoolOp .And (a :: b :: rest) pos) (tD X.K (ev Φ (.and ia ib))) :=
  peImp (pe_andT ha hb) fun σ H Q q => by
    obtain ⟨S, ρ, r, ρ', rel, e, q⟩ := q
    simp only [ev] at e
    obtain ⟨x, ρ1, d, k, e1, v1, e5, h1⟩ := tru_split e
    refine ⟨S, ρ, x, _, rel, e1, fun S1 v H1 g1 rel1 r1 => ⟨k, tru_d (r1.view rel1 v1) e5, ?_⟩⟩
    cases k with
    | true => exact iteT ⟨S1, _, r, ρ', rel1, h1, fun S2 b2 H2 g2 rel2 r2 => q S2 b2 H2 (g1.trans g2) rel2 (r2.base g1.stay)⟩
    | false =>
      obtain ⟨q1, q2⟩ := ret_eq h1
      subst q1 q2
      exact iteF (q S1 _ H1 g1 rel1 r1)
theorem de_or {rest : List Expr} (ha : PE X a (tD X.K (ev Φ ia))) (hb : PE X (.BoolOp .Or (b :: rest) pos) (tD X.K (ev Φ ib))) : PE X (.BoolOp .Or (a :: b :: rest) pos) (tD X.K (ev Φ (.or ia ib))) :=
  peImp (pe_orT ha hb) fun σ H Q q => by
    obtain ⟨S, ρ, r, ρ', rel, e, q⟩ := q
    simp only [ev] at e
    obtain ⟨x, ρ1, d, k, e1, v1, e5, h1⟩ := tru_split e
    refine ⟨S, ρ, x, _, rel, e1, fun S1 v H1 g1 rel1 r1 => ⟨k, tru_d (r1.view rel1 v1) e5, ?_⟩⟩
    cases k with
    | false => exact iteF ⟨S1, _, r, ρ', rel1, h1, fun S2 b2 H2 g2 rel2 r2 => q S2 b2 H2 (g1.trans g2) rel2 (r2.base g1.stay)⟩
    | true =>
      obtain ⟨q1, q2⟩ := ret_eq h1
      subst q1 q2
      exact iteT (q S1 _ H1 g1 rel1 r1)
theorem de_not (ha : PE X a (tD X.K (ev Φ ia))) : PE X (.UnaryOp .Not a pos) (tD X.K (ev Φ (.not ia))) :=
  peImp (pe_notT ha) fun σ H Q q => by
    obtain ⟨S, ρ, r, ρ', rel, e, q⟩ := q
    simp only [ev] at e
    obtain ⟨x, ρ1, d, k, e1, v1, e5, h1⟩ := tru_split e
    obtain ⟨q1, q2⟩ := ret_eq h1
    subst q1 q2
    exact ⟨S, ρ, x, _, rel, e1, fun S1 v H1 g1 rel1 r1 => ⟨k, tru_d (r1.view rel1 v1) e5, q S1 _ H1 g1 rel1 (.bl _)⟩⟩
theorem de_ite (hc : PT X c (tT X.K (evt Φ ic))) (ha : PE X a (tD X.K (ev Φ ia))) (hb : PE X b (tD X.K (ev Φ ib))) : PE X (.IfExp c a b pos) (tD X.K (ev Φ (.ite ic ia ib))) :=
  peImp (pe_ifExp hc ha hb) fun σ H Q q => by
    obtain ⟨S, ρ, r, ρ', rel, e, q⟩ := q
    simp only [ev] at e
    obtain ⟨x, ρ1, d, k, e1, v1, e5, h1⟩ := tru_split e
    refine ⟨S, ρ, k, _, rel, evt_mk e1 v1 e5, fun S1 v H1 g1 rel1 r1 => ?_⟩
    subst r1
    cases v with
    | true => exact iteT ⟨S1, _, r, ρ', rel1, h1, fun S2 b2 H2 g2 rel2 r2 => q S2 b2 H2 (g1.trans g2) rel2 (r2.base g1.stay)⟩
    | false => exact iteF ⟨S1, _, r, ρ', rel1, h1, fun S2 b2 H2 g2 rel2 r2 => q S2 b2 H2 (g1.trans g2) rel2 (r2.base g1.stay)⟩
end
end DL
end
section
set_option autoImplicit false
namespace DL
open PySem L2
variable [LTabs]
section
variable {K : PySem.W.Frag} {S S1 S2 : Addr → Prop} {ρ ρ1 ρ2 : Ev} {σ : St} {H H1 H2 : Hp}
/-- a result is shared: its list, if it is one, is frozen -/
theorem At.share {v : V} {x : R} {d : D} (a : At K S ρ σ H S1 ρ1 H1) (r : Rv K S1 H ρ1 σ H1 v x) (e : DL.share x ρ1 = .ok d ρ2) : ∃ S2, At K S ρ σ H S2 ρ2 H1 ∧ Rp K S2 H1 v d ∧ Ke S1 H1 S2 H1 := by
  cases x with
  | fz d' =>
    obtain ⟨q1, q2⟩ := ret_eq e
    subst q1 q2
    exact ⟨S1, a, r, fun _ h => h, fun _ _ _ h _ => h⟩
  | fr xs =>
    obtain ⟨q1, q2⟩ := ret_eq e
    subst q1 q2
    obtain ⟨p, vs, ev, h0, h1, h2, h3, h4⟩ := r
    have ke : Ke S1 H1 (fun z => S1 z ∨ z = p) H1 := ⟨fun _ h => .inl h, fun _ _ _ h _ => h⟩
    refine ⟨fun z => S1 z ∨ z = p, ⟨⟨fun z h => .inl (a.go.sub z h), fun z h => ?_, a.go.own, a.go.kp, a.go.stay, a.go.fix⟩, ⟨a.rel.len, fun i s ov e1 e2 => ?_, a.rel.inj, fun z h => ?_, a.rel.tb⟩⟩, ?_, ke⟩
    · rcases h with h | h
      · exact a.go.new z h
      · rw [h]; exact .inr (.inl h0)
    · have q := a.rel.ok i s ov e1 e2
      cases s with
      | un => trivial
      | fz d => obtain ⟨w, ew, hw⟩ := q; exact ⟨w, ew, hw.mono ke⟩
      | ls k ys =>
        obtain ⟨b, eb, nb, hb⟩ := q
        subst eb
        exact ⟨b, rfl, fun z => z.elim nb fun z => h3 (z ▸ ⟨i, k, ys, e1, e2⟩), hold_mono hb (fun _ h _ => h) ke⟩
    · rcases h with h | h
      · exact a.rel.dom z h
      · rw [h, h1]; simp
    · rw [ev]
      exact .lst ⟨.inr rfl, h1⟩ (h4.mono ke)
  | rf i =>
    have e : (match ρ1[i]? with | some (.ls .own xs) => Out.ok (D.lst xs) (ρ1.set i (.fz (.lst xs))) | _ => .stk) = .ok d ρ2 := e
    split at e
    · rename_i xs q
      cases e
      obtain ⟨p, vs, ep, h1, h2, h4⟩ := a.rel.atL q
      have r : σ[i]? = some (some v) := r
      rw [r] at ep
      cases ep
      have hi : i < ρ1.length := (List.getElem?_eq_some_iff.mp q).1
      have ke : Ke S1 H1 (fun z => S1 z ∨ z = p) H1 := ⟨fun _ h => .inl h, fun _ _ _ h _ => h⟩
      have own : ∀ z, Own (ρ1.set i (.fz (.lst xs))) σ z → Own ρ1 σ z ∧ z ≠ p := fun z ⟨j, k, ys, e1, e2⟩ => by
        by_cases hj : i = j
        · subst hj
          rw [List.getElem?_set_self hi] at e1
          cases e1
        · rw [List.getElem?_set_ne hj] at e1
          exact ⟨⟨j, k, ys, e1, e2⟩, fun z => hj (a.rel.inj i j .own k xs ys p q e1 r (z ▸ e2))⟩
      refine ⟨fun z => S1 z ∨ z = p, ⟨⟨fun z h => .inl (a.go.sub z h), fun z h => ?_, fun z h => a.go.own z (own z h).1, a.go.kp, a.go.stay, fun j k ys e1 n => ?_⟩, ⟨by rw [List.length_set]; exact a.rel.len, fun j s ov e1 e2 => ?_, fun j l k k' ys zs b e1 e2 e3 e4 => ?_, fun z h => ?_, a.rel.tb⟩⟩, .lst ⟨.inr rfl, h1⟩ (h4.mono ke), ke⟩
      · rcases h with h | h
        · exact a.go.new z h
        · rw [h]; exact .inr (a.go.own p ⟨i, .own, xs, q, r⟩)
      · obtain ⟨zs, z1, z2, z3⟩ := a.go.fix j k ys e1 n
        have hj : i ≠ j := fun z => by rw [← z, q] at z1; cases z1; cases n
        exact ⟨zs, by rw [List.getElem?_set_ne hj]; exact z1, z2, z3⟩
      · by_cases hj : i = j
        · subst hj
          rw [List.getElem?_set_self hi] at e1
          cases e1
          rw [r] at e2
          cases e2
          exact ⟨_, rfl, .lst ⟨.inr rfl, h1⟩ (h4.mono ke)⟩
        · rw [List.getElem?_set_ne hj] at e1
          have w := a.rel.ok j s ov e1 e2
          cases s with
          | un => trivial
          | fz d => obtain ⟨w, ew, hw⟩ := w; exact ⟨w, ew, hw.mono ke⟩
          | ls k ys =>
            obtain ⟨b, eb, nb, hb⟩ := w
            subst eb
            exact ⟨b, rfl, fun z => z.elim nb fun z => hj (a.rel.inj i j .own k xs ys p q e1 r (z ▸ e2)), hold_mono hb (fun _ h _ => h) ke⟩
      · by_cases hj : i = j
        · subst hj
          rw [List.getElem?_set_self hi] at e1
          cases e1
        · by_cases hl : i = l
          · subst hl
            rw [List.getElem?_set_self hi] at e2
            cases e2
          · rw [List.getElem?_set_ne hj] at e1
            rw [List.getElem?_set_ne hl] at e2
            exact a.rel.inj j l k k' ys zs b e1 e2 e3 e4
      · rcases h with h | h
        · exact a.rel.dom z h
        · rw [h, h1]; simp
    · cases e
/-- values to be shared, from the left -/
abbrev tPs (K : PySem.W.Frag) (m : M (List D)) : TA := tG K (fun S' _ _ _ H' vs ds => Rps K S' H' vs ds) m
inductive Rvs (K : PySem.W.Frag) (S : Addr → Prop) (H₀ : Hp) (ρ : Ev) (σ : St) (H : Hp) : List V → List R → Prop
  | nil : Rvs K S H₀ ρ σ H [] []
  | cons {v : V} {vs : List V} {r : R} {rs : List R} : Rv K S H₀ ρ σ H v r → Rvs K S H₀ ρ σ H vs rs → Rvs K S H₀ ρ σ H (v :: vs) (r :: rs)
abbrev tRs (K : PySem.W.Frag) (m : M (List R)) : TA := tG K (Rvs K) m
theorem Rvs.base {H₀ H₁ : Hp} (st : ∀ a, H₁ a = none → H₀ a = none) : ∀ {vs : List V} {rs : List R}, Rvs K S H₁ ρ σ H vs rs → Rvs K S H₀ ρ σ H vs rs
  | _, _, .nil => .nil
  | _, _, .cons h r => .cons (h.base st) (r.base st)
inductive Vds (K : PySem.W.Frag) (S : Addr → Prop) (H : Hp) : List V → List D → Prop
  | nil : Vds K S H [] []
  | cons {v : V} {vs : List V} {r : D} {rs : List D} : Vd K S H v r → Vds K S H vs rs → Vds K S H (v :: vs) (r :: rs)
theorem Rvs.views {H₀ : Hp} (rel : Rel K S ρ σ H) : ∀ {vs : List V} {rs : List R} {ds : List D}, Rvs K S H₀ ρ σ H vs rs → rs.mapM (view ρ) = some ds → Vds K S H vs ds
  | _, _, _, .nil, e => by cases e; exact .nil
  | _, _, ds, .cons (rs := rs) (r := r) h t, e => by
    rw [List.mapM_cons] at e
    cases e1 : view ρ r with
    | none => rw [e1] at e; cases e
    | some d =>
      rw [e1] at e
      cases e2 : rs.mapM (view ρ) with
      | none => rw [e2] at e; cases e
      | some es =>
        rw [e2] at e
        cases e
        exact .cons (h.view rel e1) (Rvs.views rel t e2)
end
section
variable {X : Cx} {Φ : Calls} {a b c : Expr} {es : List Expr} {pos : Pos} {ia ib ic : E} {ies : Es}
theorem da_nil : PA X [] (tPs X.K (evs Φ .nil)) := paImp pa_nil fun σ H Q q => by
  obtain ⟨S, ρ, r, ρ', rel, e, q⟩ := q
  simp only [evs] at e
  obtain ⟨q1, q2⟩ := ret_eq e
  subst q1 q2
  exact q S [] H .refl rel .nil
theorem da_cons (ha : PE X a (tD X.K (ev Φ ia))) (hr : PA X es (tPs X.K (evs Φ ies))) (hs : starEach (a :: es) X.env = (false, eval a X.env) :: starEach es X.env := by rfl) : PA X (a :: es) (tPs X.K (evs Φ (.cons ia ies))) :=
  paImp (pa_cons ha hr hs) fun σ H Q q => by
    obtain ⟨S, ρ, r, ρ', rel, e, q⟩ := q
    simp only [evs] at e
    obtain ⟨x, ρ1, e1, h1⟩ := bnd_eq e
    obtain ⟨d, ρ2, e2, h2⟩ := bnd_eq h1
    obtain ⟨ds, ρ3, e3, h3⟩ := bnd_eq h2
    obtain ⟨q1, q2⟩ := ret_eq h3
    subst q1 q2
    refine ⟨S, ρ, x, ρ1, rel, e1, fun S1 v H1 g1 rel1 r1 => ?_⟩
    obtain ⟨S2, at2, rp, _⟩ := At.share ⟨g1, rel1⟩ r1 e2
    exact ⟨S2, ρ2, ds, _, at2.rel, e3, fun S3 vs H3 g3 rel3 r3 => q S3 _ H3 (at2.go.trans g3) rel3 (.cons (rp.mono (g3.ke at2.rel)) r3)⟩
theorem dr_nil : PA X [] (tRs X.K (evrs Φ .nil)) := paImp pa_nil fun σ H Q q => by
  obtain ⟨S, ρ, r, ρ', rel, e, q⟩ := q
  simp only [evrs] at e
  obtain ⟨q1, q2⟩ := ret_eq e
  subst q1 q2
  exact q S [] H .refl rel .nil
theorem dr_cons (ha : PE X a (tD X.K (ev Φ ia))) (hr : PA X es (tRs X.K (evrs Φ ies))) (hs : starEach (a :: es) X.env = (false, eval a X.env) :: starEach es X.env := by rfl) : PA X (a :: es) (tRs X.K (evrs Φ (.cons ia ies))) :=
  paImp (pa_cons ha hr hs) fun σ H Q q => by
    obtain ⟨S, ρ, r, ρ', rel, e, q⟩ := q
    simp only [evrs] at e
    obtain ⟨x, ρ1, e1, h1⟩ := bnd_eq e
    obtain ⟨ds, ρ3, e3, h3⟩ := bnd_eq h1
    obtain ⟨q1, q2⟩ := ret_eq h3
    subst q1 q2
    exact ⟨S, ρ, x, ρ1, rel, e1, fun S1 v H1 g1 rel1 r1 => ⟨S1, ρ1, ds, _, rel1, e3, fun S3 vs H3 g3 rel3 r3 => q S3 _ H3 (g1.trans g3) rel3 (.cons (r1.go rel1 g3) (r3.base g1.stay))⟩⟩
theorem de_tup {x1} (h : PA X es (tPs X.K (evs Φ ies))) : PE X (.Tuple es x1 pos) (tD X.K (ev Φ (.tup ies))) :=
  peImp (pe_tup h) fun σ H Q q => by
    obtain ⟨S, ρ, r, ρ', rel, e, q⟩ := q
    simp only [ev] at e
    obtain ⟨ds, ρ1, e1, h1⟩ := bnd_eq e
    split at h1
    · rename_i hz
      obtain ⟨q1, q2⟩ := ret_eq h1
      subst q1 q2
      exact ⟨S, ρ, ds, _, rel, e1, fun S1 vs H1 g1 rel1 r1 => ⟨by rw [r1.length]; exact hz, fun p hp => At.fin q ⟨g1, rel1⟩ _ _ _ (.tup hp) (Rp.mkTup hp r1)⟩⟩
    · cases h1
theorem de_emp : PE X (.Dict [] [] pos) (tD X.K (ev Φ (.cst (.emp [])))) := peImp pe_dnewK fun σ H Q q => by
  obtain ⟨S, ρ, r, ρ', rel, e, q⟩ := q
  simp only [ev] at e
  obtain ⟨q1, q2⟩ := ret_eq e
  subst q1 q2
  exact fun p hp => At.fin q ⟨.refl, rel⟩ _ _ _ (Gn.one hp) (Rp.emp (.inr rfl) upd_same)
theorem de_lst (h : PA X es (tPs X.K (evs Φ ies))) : PE X (.List es pos) (tD X.K (ev Φ (.lst ies))) :=
  peImp (pe_lst h) fun σ H Q q => by
    obtain ⟨S, ρ, r, ρ', rel, e, q⟩ := q
    simp only [ev] at e
    obtain ⟨ds, ρ1, e1, h1⟩ := bnd_eq e
    split at h1
    · rename_i hz
      obtain ⟨q1, q2⟩ := ret_eq h1
      subst q1 q2
      exact ⟨S, ρ, ds, _, rel, e1, fun S1 vs H1 g1 rel1 r1 => ⟨by rw [r1.length]; exact hz, fun p hp => At.fin q ⟨g1, rel1⟩ _ _ _ (.lst hp) (.mkLst hp rel1.dom r1)⟩⟩
    · cases h1
theorem atI_rp {K : PySem.W.Frag} {S : Addr → Prop} {H : Hp} {vs : List V} {ds : List D} {i : Int} {d : D} (r : Rps K S H vs ds) (e : atD ds i = some d) : ∃ v, atI vs i = some v ∧ Rp K S H v d := by
  unfold atD atI at e
  unfold atI
  rw [r.length]
  cases q : ixN ds.length i with
  | none => rw [q] at e; cases e
  | some j => rw [q] at e; exact r.get e
theorem de_idx (ha : PE X a (tD X.K (ev Φ ia))) (hb : PE X b (tD X.K (ev Φ ib))) (hp : PlainIx b) : PE X (.Subscript a b pos) (tD X.K (ev Φ (.idx ia ib))) :=
  peImp (pe_ix ix_seq ha hb hp) fun σ H Q q => by
    obtain ⟨S, ρ, r, ρ', rel, e, q⟩ := q
    simp only [ev] at e
    obtain ⟨x, ρ1, e1, h1⟩ := bnd_eq e
    obtain ⟨y, ρ2, e2, h2⟩ := bnd_eq h1
    obtain ⟨d, f, v1, v2, h3⟩ := vw2_split h2
    obtain ⟨g, e5, h4⟩ := ofO_split h3
    obtain ⟨q1, q2⟩ := ret_eq h4
    subst q1 q2
    refine seq2 rel e1 e2 fun S2 H2 v u at2 r1 r2 => ?_
    have w1 := r1.view at2.rel v1
    have w2 := r2.view at2.rel v2
    cases d <;> cases f <;> (try (cases e5; done))
    · rename_i z k
      have e5 : (if z.length ≤ sizeLine then (atI z.cps.toList k).map fun c => D.str ⟨#[c]⟩ else none) = some g := e5
      split at e5
      · rename_i hz
        cases e6 : atI z.cps.toList k with
        | none => rw [e6] at e5; cases e5
        | some c =>
          rw [e6] at e5
          cases e5
          exact .inr (.inr ⟨z, k, c, w1.s, w2.i, hz, e6, q S2 _ H2 at2.go at2.rel (.str _)⟩)
      · cases e5
    · obtain ⟨p, vs, ep, hp, rp⟩ := w1.t
      obtain ⟨z, ez, rz⟩ := atI_rp rp e5
      exact .inr (.inl ⟨p, vs, _, z, ep, w2.i, hp, ez, q S2 _ H2 at2.go at2.rel rz⟩)
    · obtain ⟨p, vs, ep, hp, rp⟩ := w1.l
      obtain ⟨z, ez, rz⟩ := atI_rp rp e5
      exact .inl ⟨p, vs, _, z, ep, w2.i, .inl (.inl hp), ez, q S2 _ H2 at2.go at2.rel rz⟩
    · obtain ⟨p, vs, ep, hp, rp⟩ := w1.c
      obtain ⟨z, ez, rz⟩ := atI_rp rp e5
      exact .inl ⟨p, vs, _, z, ep, w2.i, hp, ez, q S2 _ H2 at2.go at2.rel rz⟩
/-- an optional part of a slice -/
abbrev tO (K : PySem.W.Frag) (m : M (Option Int)) : TO := tG K (fun _ _ _ _ _ b a => b = a) m
theorem poImp {X : Cx} {e : Option Expr} {t t' : TO} (h : PO X e t) (i : ∀ σ H Q, t' σ H Q → t σ H Q) : PO X e t' := ⟨fun pins s σ H Q I q => h.run pins s σ H Q I (i _ _ _ q)⟩
theorem do_none : PO X none (tO X.K (evo Φ .none)) := poImp po_none fun σ H Q q => by
  obtain ⟨S, ρ, r, ρ', rel, e, q⟩ := q
  simp only [evo] at e
  obtain ⟨q1, q2⟩ := ret_eq e
  subst q1 q2
  exact q S _ H .refl rel rfl
theorem do_some (ha : PE X a (tD X.K (ev Φ ia))) : PO X (some a) (tO X.K (evo Φ (.some ia))) := poImp (po_some ha) fun σ H Q q => by
  obtain ⟨S, ρ, r, ρ', rel, e, q⟩ := q
  simp only [evo] at e
  obtain ⟨x, ρ1, e1, h1⟩ := bnd_eq e
  obtain ⟨d, v1, h2⟩ := vw1_split h1
  cases d <;> (try (cases h2; done))
  rename_i i
  obtain ⟨q1, q2⟩ := ret_eq h2
  subst q1 q2
  exact ⟨S, ρ, x, _, rel, e1, fun S1 v H1 g1 rel1 r1 => ⟨i, (r1.view rel1 v1).i, q S1 _ H1 g1 rel1 rfl⟩⟩
def rSl (K : PySem.W.Frag) : V → Option Int → Option Int → Hp → VK → Prop := fun x lo hi H Q => ∃ S d r, Dom S H ∧ Vd K S H x d ∧ slcD d lo hi = some r ∧ ∀ S' v H', Gn S H S' H' → Rn K S' H H' v r → Q v H'
theorem sIx_clip (n d : Nat) (o : Option Int) : HT.sIx n d o = o.elim d (clipAt n) := by
  cases o with
  | none => rfl
  | some v =>
    show (if v < 0 then (v + (n : Int)).toNat else min v.toNat n) = clipAt n v
    unfold clipAt
    by_cases hv : v < 0
    · rw [if_pos hv, if_pos hv]; omega
    · rw [if_neg hv, if_neg hv]; omega
theorem cut_byt {K : PySem.W.Frag} {S : Addr → Prop} {H : Hp} (b : Array UInt8) (lo hi : Option Int) : Rp K S H (.byt (PySem.W.KBy.picked b lo hi)) (.box 3 0 (cut (b.toList.map fun x => D.int x.toNat) lo hi)) := by
  have e : (PySem.W.KBy.picked b lo hi).toList.map (fun x => D.int x.toNat) = cut (b.toList.map fun x => D.int x.toNat) lo hi := by
    rw [PySem.W.KBc.picked_eq]
    unfold cut
    rw [sIx_clip, sIx_clip, List.length_map, Array.length_toList, ← List.map_drop, ← List.map_take]
  rw [← e]
  exact .box (.byt _) (by
    have := Rps.ofInts (K := K) (S := S) (H := H) ((PySem.W.KBy.picked b lo hi).toList.map fun x => ((x.toNat : Nat) : Int))
    rw [List.map_map, List.map_map] at this
    exact this)
theorem sl_D : SlR X (rSl X.K) := by
  intro pins s σ H x v vl vu lo hi sl Q I rx hs pl pu h
  obtain ⟨S, d, r, dom, hx, hb, q⟩ := h
  cases d <;> (try (cases hb; done))
  · rename_i z
    have hb : (if z.length ≤ sizeLine then some (R.fz (.str (cutS z lo hi))) else none) = some r := hb
    split at hb
    · rename_i hz
      cases hb
      exact sl_str pins s σ H x v vl vu lo hi sl Q I rx hs pl pu ⟨z, hx.s, hz, q S _ H .refl (.str _)⟩
    · cases hb
  · rename_i ds
    cases hb
    obtain ⟨p, vs, ep, hp, rp⟩ := hx.t
    refine sl_tupA pins s σ H x v vl vu lo hi sl Q I rx hs pl pu ⟨p, vs, ep, hp, fun hw => ?_, fun _ t ht => q _ _ _ (.tup ht) (Rp.mkTup ht (rp.cut lo hi))⟩
    rw [← ep]
    refine q S _ H .refl ?_
    have hc : cut ds lo hi = ds := by
      unfold cut
      rw [← rp.length, hw.1, hw.2, rp.length]
      simp
    rw [hc]
    exact (show Rp X.K S H x _ from hx.tf)
  · rename_i ds
    cases hb
    obtain ⟨p, vs, ep, hp, rp⟩ := hx.l
    exact sl_list pins s σ H x v vl vu lo hi sl Q I rx hs pl pu ⟨p, vs, ep, .inl (.inl hp), fun t ht => q _ _ _ (.lst ht) (.mkLst ht dom (rp.cut lo hi))⟩
  · rename_i ds
    cases hb
    obtain ⟨p, vs, ep, hp, rp⟩ := hx.c
    exact sl_list pins s σ H x v vl vu lo hi sl Q I rx hs pl pu ⟨p, vs, ep, hp, fun t ht => q _ _ _ (.lst ht) (.mkLst ht dom (rp.cut lo hi))⟩
  · rename_i n m xs
    have hb : (if n = 3 ∧ xs.length ≤ 100000 then some (R.fz (.box 3 0 (cut xs lo hi))) else none) = some r := hb
    split at hb
    · rename_i hz
      cases hb
      obtain ⟨hn3, hz⟩ := hz
      clear hb
      subst hn3
      cases hx with
      | fz h =>
        cases h with
        | box bx rp =>
          cases bx with
          | byt b =>
            have hz : b.size ≤ 100000 := by rw [List.length_map] at hz; exact hz
            exact sl_byt pins s σ H _ v vl vu lo hi sl Q I rx hs pl pu ⟨b, rfl, by omega, q S _ H .refl (cut_byt b lo hi)⟩
    · cases hb
theorem de_slc {lo hi : Option Expr} {p2 : Pos} {il ih : Eo} (ha : PE X a (tD X.K (ev Φ ia))) (hl : PO X lo (tO X.K (evo Φ il))) (hh : PO X hi (tO X.K (evo Φ ih))) : PE X (.Subscript a (.Slice lo hi none p2) pos) (tD X.K (ev Φ (.slc ia il ih))) :=
  peImp (pe_slice sl_D ha hl hh) fun σ H Q q => by
    obtain ⟨S, ρ, r, ρ', rel, e, q⟩ := q
    simp only [ev] at e
    obtain ⟨x, ρ1, e1, h1⟩ := bnd_eq e
    obtain ⟨l, ρ2, e2, h2⟩ := bnd_eq h1
    obtain ⟨h, ρ3, e3, h3⟩ := bnd_eq h2
    obtain ⟨d, v1, h4⟩ := vw1_split h3
    obtain ⟨e5, q1⟩ := ofO_eq h4
    subst q1
    exact ⟨S, ρ, x, ρ1, rel, e1, fun S1 v H1 g1 rel1 r1 => ⟨S1, ρ1, l, ρ2, rel1, e2, fun S2 l2 H2 g2 rel2 r2 => by
      subst r2
      exact ⟨S2, ρ2, h, _, rel2, e3, fun S3 h3 H3 g3 rel3 r3 => by
        subst r3
        exact ⟨S3, d, r, rel3.dom, ((r1.go rel1 g2).go rel2 g3).view rel3 v1, e5, At.fin q ⟨(g1.trans g2).trans g3, rel3⟩⟩⟩⟩⟩
theorem chn_split {o p : Cop} {ρ ρ' : Ev} {r : R} (h : ev Φ (.chn o p ia ib ic) ρ = .ok r ρ') : ∃ x ρ1 y ρ2 d f k, ev Φ ia ρ = .ok x ρ1 ∧ ev Φ ib ρ1 = .ok y ρ2 ∧ view ρ2 x = some d ∧ view ρ2 y = some f ∧ cmpD o d f = some k ∧
    ((k = true ∧ ∃ z f g k2, ev Φ ic ρ2 = .ok z ρ' ∧ view ρ' y = some f ∧ view ρ' z = some g ∧ cmpD p f g = some k2 ∧ r = .fz (.bl k2)) ∨ (k = false ∧ r = .fz (.bl false) ∧ ρ' = ρ2)) := by
  simp only [ev] at h
  obtain ⟨x, ρ1, e1, h1⟩ := bnd_eq h
  obtain ⟨y, ρ2, e2, h2⟩ := bnd_eq h1
  obtain ⟨d, f, v1, v2, h3⟩ := vw2_split h2
  obtain ⟨k, e5, h4⟩ := ofO_split h3
  refine ⟨x, ρ1, y, ρ2, d, f, k, e1, e2, v1, v2, e5, ?_⟩
  cases k with
  | true =>
    obtain ⟨z, ρ3, e6, h5⟩ := bnd_eq (show bnd (ev Φ ic) _ ρ2 = _ from h4)
    obtain ⟨f2, g, v3, v4, h6⟩ := vw2_split h5
    obtain ⟨k2, e7, h7⟩ := ofO_split h6
    obtain ⟨q1, q2⟩ := ret_eq h7
    subst q1 q2
    exact .inl ⟨rfl, z, f2, g, k2, e6, v3, v4, e7, rfl⟩
  | false =>
    obtain ⟨q1, q2⟩ := ret_eq (show ret _ ρ2 = _ from h4)
    exact .inr ⟨rfl, q1, q2⟩
theorem chn_read {o p : Cop} {σ : St} {H : Hp} {Q : VK} (q : tD X.K (ev Φ (.chn o p ia ib ic)) σ H Q) : tChain (rC X.K o) (rC X.K p) (tD X.K (ev Φ ia)) (tD X.K (ev Φ ib)) (tD X.K (ev Φ ic)) σ H Q := by
  obtain ⟨S, ρ, r, ρ', rel, e, q⟩ := q
  obtain ⟨x, ρ1, y, ρ2, d, f, k, e1, e2, v1, v2, e5, h⟩ := chn_split e
  refine seq2 rel e1 e2 fun S2 H2 v u at2 r1 r2 => ⟨S2, d, f, k, at2.rel.dom, r1.view at2.rel v1, r2.view at2.rel v2, e5, k, rfl, ?_⟩
  rcases h with ⟨rfl, z, f2, g, k2, e6, v3, v4, e7, rfl⟩ | ⟨rfl, rfl, rfl⟩
  · exact iteT ⟨S2, ρ2, z, ρ', at2.rel, e6, fun S3 w H3 g3 rel3 r3 => ⟨S3, f2, g, k2, rel3.dom, (r2.go at2.rel g3).view rel3 v3, r3.view rel3 v4, e7, q S3 _ H3 (at2.go.trans g3) rel3 (.bl _)⟩⟩
  · exact iteF (q S2 _ H2 at2.go at2.rel (.bl _))
theorem de_chn {op op' : CmpOp} {o p : Cop} (ho : OpR X (compareOp op) (rC X.K o)) (ho' : OpR X (compareOp op') (rC X.K p)) (ha : PE X a (tD X.K (ev Φ ia))) (hb : PE X b (tD X.K (ev Φ ib))) (hc : PE X c (tD X.K (ev Φ ic))) (hm : lastMarks [op, op'] [b, c] = false := by rfl) :
    PE X (.Compare a [op, op'] [b, c] pos) (tD X.K (ev Φ (.chn o p ia ib ic))) := peImp (pe_chain ho ho' ha hb hc hm) fun σ H Q q => chn_read q
end
end DL
end
section
set_option autoImplicit false
namespace DL
open PySem L2
variable [LTabs]
def rK (K : PySem.W.Frag) (b : Bi) : List V → Hp → VK → Prop := fun vs H Q => ∃ S ds r, Dom S H ∧ Vds K S H vs ds ∧ biD b ds = some r ∧ ∀ S' v H', Gn S H S' H' → Rn K S' H H' v r → Q v H'
section
variable {X : Cx} {Φ : Calls} {a b c : Expr} {es : List Expr} {pos : Pos} {ia ib ic : E} {ies : Es}
theorem bi_split {b : Bi} {ρ ρ' : Ev} {r : R} (h : ev Φ (.bi b ies) ρ = .ok r ρ') : ∃ rs ds, evrs Φ ies ρ = .ok rs ρ' ∧ rs.mapM (view ρ') = some ds ∧ biD b ds = some r := by
  simp only [ev] at h
  obtain ⟨rs, ρ1, e1, h1⟩ := bnd_eq h
  split at h1
  · rename_i ds e2
    obtain ⟨e3, q⟩ := ofO_eq h1
    subst q
    exact ⟨rs, ds, e1, e2, e3⟩
  · cases h1
theorem bi_read {b : Bi} {σ : St} {H : Hp} {Q : VK} (q : tD X.K (ev Φ (.bi b ies)) σ H Q) : tCB (rK X.K b) (tRs X.K (evrs Φ ies)) σ H Q := by
  obtain ⟨S, ρ, r, ρ', rel, e, q⟩ := q
  obtain ⟨rs, ds, e1, e2, e3⟩ := bi_split e
  exact ⟨S, ρ, rs, ρ', rel, e1, fun S1 vs H1 g1 rel1 r1 => ⟨S1, ds, r, rel1.dom, Rvs.views rel1 r1 e2, e3, At.fin q ⟨g1, rel1⟩⟩⟩
theorem de_bi {b : Bi} {id : String} {x : Str} {p : Pos} {e : Expr} (hc : CallR X (.builtin id) (rK X.K b)) (hg : Gl X x) (hm : X.mg x = none) (hv : bootBuiltins x = some (.builtin id)) (ha : PA X (e :: es) (tRs X.K (evrs Φ ies))) (hn : x ≠ "__name__" := by decide) (hdb : (x == ("__debug__" : Str)) = false := by decide)
    (he : starEach (e :: es) X.env = (false, eval e X.env) :: starEach es X.env := by rfl) (hpl : (PySem.backTo pos (starEach es X.env)).any (·.1) = false := by rfl) : PE X (.Call (.Name x p) (e :: es) [] pos) (tD X.K (ev Φ (.bi b ies))) :=
  peImp (pe_callB hc hg hm hv ha hn hdb he hpl) fun σ H Q q => bi_read q
theorem de_ty {b : Bi} {id : String} {x : Str} {p : Pos} {e : Expr} (hc : CallR X (.type id) (rK X.K b)) (hg : Gl X x) (hm : X.mg x = none) (hv : bootBuiltins x = some (.type id)) (ha : PA X (e :: es) (tRs X.K (evrs Φ ies))) (hn : x ≠ "__name__" := by decide) (hdb : (x == ("__debug__" : Str)) = false := by decide)
    (he : starEach (e :: es) X.env = (false, eval e X.env) :: starEach es X.env := by rfl) (hpl : (PySem.backTo pos (starEach es X.env)).any (·.1) = false := by rfl) : PE X (.Call (.Name x p) (e :: es) [] pos) (tD X.K (ev Φ (.bi b ies))) :=
  peImp (pe_callTy hc hg hm hv ha hn hdb he hpl) fun σ H Q q => bi_read q
theorem vds1 {K : PySem.W.Frag} {S : Addr → Prop} {H : Hp} {vs : List V} {d : D} (h : Vds K S H vs [d]) : ∃ v, vs = [v] ∧ Vd K S H v d := by
  cases h with | cons h r => cases r; exact ⟨_, rfl, h⟩
theorem vds2 {K : PySem.W.Frag} {S : Addr → Prop} {H : Hp} {vs : List V} {d e : D} (h : Vds K S H vs [d, e]) : ∃ v u, vs = [v, u] ∧ Vd K S H v d ∧ Vd K S H u e := by
  cases h with | cons h r => cases r with | cons h2 r => cases r; exact ⟨_, _, rfl, h, h2⟩
theorem cr_lenD : CallR X (.builtin "len") (rK X.K .len) := by
  intro pins s σ H vs us Q I r h
  obtain ⟨S, ds, x, dom, hv, hb, q⟩ := h
  match ds, hv, hb with
  | [.tup xs], hv, hb =>
    cases hb
    obtain ⟨v, rfl, w⟩ := vds1 hv
    obtain ⟨p, ws, ep, hp, rp⟩ := w.t
    subst ep
    refine call_len pins s σ H _ us Q I r ⟨_, ws.length, rfl, .inr ⟨ws, hp, rfl⟩, ?_⟩
    rw [rp.length]
    exact q S _ H .refl (.int _)
  | [.lst xs], hv, hb =>
    cases hb
    obtain ⟨v, rfl, w⟩ := vds1 hv
    obtain ⟨p, ws, ep, hp, rp⟩ := w.l
    subst ep
    refine call_len pins s σ H _ us Q I r ⟨_, ws.length, rfl, .inl ⟨ws, .inl (.inl hp), rfl⟩, ?_⟩
    rw [rp.length]
    exact q S _ H .refl (.int _)
  | [.scr xs], hv, hb =>
    cases hb
    obtain ⟨v, rfl, w⟩ := vds1 hv
    obtain ⟨p, ws, ep, hp, rp⟩ := w.c
    subst ep
    refine call_len pins s σ H _ us Q I r ⟨_, ws.length, rfl, .inl ⟨ws, hp, rfl⟩, ?_⟩
    rw [rp.length]
    exact q S _ H .refl (.int _)
  | [.str z], hv, hb =>
    have hb : (if z.length ≤ sizeLine then some (R.fz (.int z.length)) else none) = some x := hb
    split at hb
    · rename_i hz
      cases hb
      obtain ⟨v, rfl, w⟩ := vds1 hv
      have e := w.s
      subst e
      exact call_len pins s σ H _ us Q I r ⟨_, z.length, rfl, ⟨hz, rfl⟩, q S _ H .refl (.int _)⟩
    · cases hb
theorem cr_absD : CallR X (.builtin "abs") (rK X.K .abs) := by
  intro pins s σ H vs us Q I r h
  obtain ⟨S, ds, x, dom, hv, hb, q⟩ := h
  match ds, hv, hb with
  | [.int i], hv, hb =>
    cases hb
    obtain ⟨v, rfl, w⟩ := vds1 hv
    have e := w.i
    subst e
    exact call_abs pins s σ H _ us Q I r ⟨i, rfl, q S _ H .refl (.int _)⟩
theorem cr_intD : CallR X (.type "int") (rK X.K .int1) := by
  intro pins s σ H vs us Q I r h
  obtain ⟨S, ds, x, dom, hv, hb, q⟩ := h
  match ds, hv, hb with
  | [.int i], hv, hb =>
    cases hb
    obtain ⟨v, rfl, w⟩ := vds1 hv
    have e := w.i
    subst e
    exact call_int1 pins s σ H _ us Q I r (.inl ⟨i, rfl, q S _ H .refl (.int _)⟩)
  | [.str z], hv, hb =>
    have hb : (if z.length ≤ 640 then (PySem.intText? z).map fun n => R.fz (.int n) else none) = some x := hb
    split at hb
    · rename_i hz
      cases e6 : PySem.intText? z with
      | none => rw [e6] at hb; cases hb
      | some n =>
        rw [e6] at hb
        cases hb
        obtain ⟨v, rfl, w⟩ := vds1 hv
        have e := w.s
        subst e
        exact call_int_str pins s σ H _ us Q I r ⟨z, n, rfl, e6, hz, q S _ H .refl (.int _)⟩
    · cases hb
  | [.bl i], hv, hb =>
    cases hb
    obtain ⟨v, rfl, w⟩ := vds1 hv
    have e := w.b
    subst e
    exact call_int1 pins s σ H _ us Q I r (.inr ⟨i, rfl, q S _ H .refl (.int _)⟩)
theorem cr_tupleD : CallR X (.type "tuple") (rK X.K .tuple) := by
  intro pins s σ H vs us Q I r h
  obtain ⟨S, ds, x, dom, hv, hb, q⟩ := h
  match ds, hv, hb with
  | [.tup xs], hv, hb =>
    cases hb
    obtain ⟨v, rfl, w⟩ := vds1 hv
    obtain ⟨p, ws, ep, hp, rp⟩ := w.t
    have tf := w.tf
    subst ep
    exact call_tuple_of pins s σ H _ us Q I r ⟨p, ws, rfl, .inr ⟨hp, q S _ H .refl tf⟩⟩
  | [.lst xs], hv, hb =>
    cases hb
    obtain ⟨v, rfl, w⟩ := vds1 hv
    obtain ⟨p, ws, ep, hp, rp⟩ := w.l
    subst ep
    exact call_tuple_of pins s σ H _ us Q I r ⟨p, ws, rfl, .inl ⟨.inl (.inl hp), fun l hl => q _ _ _ (.tup hl) (Rp.mkTup hl rp)⟩⟩
theorem cr_max2D (hc : X.calm = true) : CallR X (.builtin "max") (rK X.K .max2) := by
  intro pins s σ H vs us Q I r h
  obtain ⟨S, ds, x, dom, hv, hb, q⟩ := h
  match ds, hv, hb with
  | [.int i, .int j], hv, hb =>
    cases hb
    obtain ⟨v, u, rfl, w1, w2⟩ := vds2 hv
    have e1 := w1.i
    have e2 := w2.i
    subst e1 e2
    exact call_max2 hc pins s σ H _ us Q I r ⟨i, j, rfl, q S _ H .refl (.int _)⟩
theorem cr_min2D (hc : X.calm = true) : CallR X (.builtin "min") (rK X.K .min2) := by
  intro pins s σ H vs us Q I r h
  obtain ⟨S, ds, x, dom, hv, hb, q⟩ := h
  match ds, hv, hb with
  | [.int i, .int j], hv, hb =>
    cases hb
    obtain ⟨v, u, rfl, w1, w2⟩ := vds2 hv
    have e1 := w1.i
    have e2 := w2.i
    subst e1 e2
    exact call_min2 hc pins s σ H _ us Q I r ⟨i, j, rfl, q S _ H .refl (.int _)⟩
theorem cr_sumD (hc : X.calm = true) : CallR X (.builtin "sum") (rK X.K .sum) := by
  intro pins s σ H vs us Q I r h
  obtain ⟨S, ds, x, dom, hv, hb, q⟩ := h
  match ds, hv, hb with
  | [.lst xs], hv, hb =>
    have hb : (DL.intsD xs).map (fun ns => R.fz (.int ns.sum)) = some x := hb
    cases e1 : DL.intsD xs with
    | none => rw [e1] at hb; cases hb
    | some ns =>
      rw [e1] at hb
      cases hb
      obtain ⟨v, rfl, w⟩ := vds1 hv
      obtain ⟨p, ws, ep, hp, rp⟩ := w.l
      subst ep
      have e3 := rp.intsD e1
      subst e3
      exact cr_sum hc pins s σ H _ us Q I r ⟨p, ns, rfl, .inl (.inl hp), q S _ H .refl (.int _)⟩
  | [.tup xs], hv, hb =>
    have hb : (DL.intsD xs).map (fun ns => R.fz (.int ns.sum)) = some x := hb
    cases e1 : DL.intsD xs with
    | none => rw [e1] at hb; cases hb
    | some ns =>
      rw [e1] at hb
      cases hb
      obtain ⟨v, rfl, w⟩ := vds1 hv
      obtain ⟨p, ws, ep, hp, rp⟩ := w.t
      subst ep
      have e3 := rp.intsD e1
      subst e3
      obtain ⟨its, rv, pl, hz⟩ := I.tuple hp
      rw [Vals.ref1 r]
      have hi := rv.ints
      obtain ⟨xs', e⟩ := hi.allInts.items
      have hn : PySem.numsOf (intItems xs').toList = ns := by rw [← e]; exact hi.numsOf
      rw [nums_intItems] at hn
      obtain ⟨o, ho, hcl, n0, hd⟩ := pl
      have ht : s.heap.IsTuple p (intItems xs') := ⟨o, ho, hcl, n0, by rw [hd, e]⟩
      refine PySem.W.ktm_sumG (I.ok.hd hc) ht fun h' tk t' hk => ?_
      rw [preSum_eq, List.take_of_length_le (by simp), hn]
      exact ⟨.int _, H, I.kept hk, ⟨_, rfl⟩, q S _ H .refl (.int _)⟩
theorem cr_allD (hc : X.calm = true) : CallR X (.builtin "all") (rK X.K .all) := by
  intro pins s σ H vs us Q I r h
  obtain ⟨S, ds, x, dom, hv, hb, q⟩ := h
  match ds, hv, hb with
  | [.lst xs], hv, hb =>
    have hb : (DL.boolsD xs).map (fun ns => R.fz (.bl (ns.all id))) = some x := hb
    cases e1 : DL.boolsD xs with
    | none => rw [e1] at hb; cases hb
    | some ns =>
      rw [e1] at hb
      cases hb
      obtain ⟨v, rfl, w⟩ := vds1 hv
      obtain ⟨p, ws, ep, hp, rp⟩ := w.l
      subst ep
      have e3 := rp.boolsD e1
      subst e3
      exact cr_all hc pins s σ H _ us Q I r ⟨p, ns, rfl, .inl (.inl hp), q S _ H .refl (.bl _)⟩
theorem cr_divmodD : CallR X (.builtin "divmod") (rK X.K .divmod) := by
  intro pins s σ H vs us Q I r h
  obtain ⟨S, ds, x, dom, hv, hb, q⟩ := h
  match ds, hv, hb with
  | [.int i, .int j], hv, hb =>
    have hb : (if 0 < j ∧ j < 1000000000000000000000000000000000000000000000000000000000000 then some (R.fz (.tup [.int (i / j), .int (i % j)])) else none) = some x := hb
    split at hb
    · rename_i hz
      cases hb
      obtain ⟨v, u, rfl, w1, w2⟩ := vds2 hv
      have e1 := w1.i
      have e2 := w2.i
      subst e1 e2
      have hw : (2 : Nat) ^ 200 < 2 ^ 201 := by decide +kernel
      have hj : j.natAbs < 2 ^ 200 := Nat.lt_of_lt_of_le (show j.natAbs < 1000000000000000000000000000000000000000000000000000000000000 by omega) (by decide +kernel)
      have hl : j.natAbs.log2 < 9000 := (wide_div (i := 0) hz.1 hj (by decide) (by decide)).2
      exact call_divmodW pins s σ H _ us Q I r ⟨i, j, rfl, ⟨hz.1, PyProof.noPylong_of_log2 hl⟩, fun p hp => q _ _ _ (.tup hp) (Rp.mkTup hp (.cons (.int _) (.cons (.int _) .nil)))⟩
    · cases hb
end
mutual
inductive Rdq (h : Heap) : Value → PyData → Prop
  | none : Rdq h .none .none
  | bool (b : Bool) : Rdq h (.bool b) (.bool b)
  | int (i : Int) (t : Tok) : Rdq h (.int i t) (.int i)
  | str (x : Str) (t : Tok) : Rdq h (.str x t) (.str x)
  | list {a : Addr} {o : Obj} {vs : Array Value} {n : Nat} {xs : List PyData} : h.get? a = some o → o.cls = .type "list" → o.data = .seq vs n → RdqA h vs.toList xs → Rdq h (.ref a) (.list xs)
  | tuple {a : Addr} {o : Obj} {vs : Array Value} {n : Nat} {xs : List PyData} : h.get? a = some o → o.cls = .type "tuple" → o.data = .seq vs n → RdqA h vs.toList xs → Rdq h (.ref a) (.tuple xs)
  | emp {a : Addr} {o : Obj} {es : Array DictEntry} {n : Nat} {kvs : List (PyData × PyData)} : h.get? a = some o → o.cls = .type "dict" → o.data = .dict es n → RdqA h (es.toList.map (·.key)) (kvs.map (·.1)) → RdqA h (es.toList.map (·.val)) (kvs.map (·.2)) → (a == sysModules) = false → Rdq h (.ref a) (.dict kvs)
inductive RdqA (h : Heap) : List Value → List PyData → Prop
  | nil : RdqA h [] []
  | cons {v : Value} {vs : List Value} {d : PyData} {ds : List PyData} : Rdq h v d → RdqA h vs ds → RdqA h (v :: vs) (d :: ds)
end
mutual
theorem Rdq.reads {h : Heap} : ∀ {v : Value} {d : PyData}, Rdq h v d → ∃ as, Reads h v d as
  | _, _, .none => ⟨_, .none⟩
  | _, _, .bool b => ⟨_, .bool b⟩
  | _, _, .int i t => ⟨_, .int i t⟩
  | _, _, .str x t => ⟨_, .str x t⟩
  | _, _, .list h1 h2 h3 h4 => by
    obtain ⟨as, q⟩ := RdqA.reads h4
    exact ⟨_, .list h1 h2 h3 q⟩
  | _, _, .tuple h1 h2 h3 h4 => by
    obtain ⟨as, q⟩ := RdqA.reads h4
    exact ⟨_, .tuple h1 h2 h3 q⟩
  | _, _, .emp h1 h2 h3 h4 h5 _ => by
    obtain ⟨as, q⟩ := RdqA.reads h4
    obtain ⟨bs, r⟩ := RdqA.reads h5
    exact ⟨_, .dict h1 h2 h3 q r⟩
theorem RdqA.reads {h : Heap} : ∀ {v : List Value} {d : List PyData}, RdqA h v d → ∃ as, ReadsAll h v d as
  | _, _, .nil => ⟨_, .nil⟩
  | _, _, .cons a b => by
    obtain ⟨as, q⟩ := Rdq.reads a
    obtain ⟨bs, r⟩ := RdqA.reads b
    exact ⟨_, .cons q r⟩
end
section
variable {prog : Program} {w : World} {h₀ : Heap}
mutual
theorem Rdq.reprK : ∀ {v : Value} {d : PyData}, Rdq h₀ v d → d.showable = true → d.shown.length ≤ sizeLine → ∃ bs, ReadAtMost h₀ d.depth bs ∧ ReprK prog w bs h₀ d.depth v d.shown
  | _, _, .none, _, _ => ⟨[], (fun _ h => nomatch h), by simp only [PyData.shown]; exact .of_is ReprIs.none _ _ _⟩
  | _, _, .bool b, _, _ => ⟨[], (fun _ h => nomatch h), by simp only [PyData.shown]; exact .of_is (ReprIs.bool b) _ _ _⟩
  | _, _, .int i t, hs, _ => ⟨[], (fun _ h => nomatch h), by simp only [PyData.shown]; exact .of_is (ReprIs.int t (by simpa [PyData.showable] using hs)) _ _ _⟩
  | _, _, .str x t, _, hz => ⟨[], (fun _ h => nomatch h), by simp only [PyData.shown]; exact .of_is (ReprIs.str x t (by simpa only [PyData.shown] using hz)) _ _ _⟩
  | _, _, .list (a := a) (vs := vs) (xs := xs) h1 h2 h3 h4, hs, hz => by
    have hz' : (listText (PyData.shownAll xs)).length ≤ sizeLine := by simpa only [PyData.shown] using hz
    obtain ⟨bs, hb, hk⟩ := RdqA.reprK h4 (by simpa [PyData.showable] using hs) (fun t ht => Nat.le_trans (listText_mem_le ht) hz')
    obtain ⟨as, ra⟩ := RdqA.reads h4
    have r : Reads h₀ (.ref a) (.list xs) _ := .list h1 h2 h3 ra
    have hna : a ∉ bs := not_mem_of_deeper r (by simp only [PyData.depth]; omega) hb
    refine ⟨a :: bs, ReadAtMost.cons r (by simp only [PyData.depth]; omega) hb, ?_⟩
    simp only [PyData.depth, PyData.shown]
    obtain ⟨l⟩ := vs
    cases l with
    | nil =>
      have h4' : RdqA h₀ [] xs := h4
      cases h4'
      simp only [PyData.shownAll, listText_nil]
      exact ReprK.listEmpty h1 h2 h3
    | cons x l => exact ReprK.list h1 h2 h3 hna (by simpa using hk.length_eq) (fun i y e => hk.item i y (by simpa using e))
  | _, _, .tuple (a := a) (xs := xs) h1 h2 h3 h4, hs, hz => by
    have hz' : (tupleText (PyData.shownAll xs)).length ≤ sizeLine := by simpa only [PyData.shown] using hz
    obtain ⟨bs, hb, hk⟩ := RdqA.reprK h4 (by simpa [PyData.showable] using hs) (fun t ht => Nat.le_trans (tupleText_mem_le ht) hz')
    obtain ⟨as, ra⟩ := RdqA.reads h4
    have r : Reads h₀ (.ref a) (.tuple xs) _ := .tuple h1 h2 h3 ra
    have hna : a ∉ bs := not_mem_of_deeper r (by simp only [PyData.depth]; omega) hb
    refine ⟨a :: bs, ReadAtMost.cons r (by simp only [PyData.depth]; omega) hb, ?_⟩
    simp only [PyData.depth, PyData.shown]
    exact ReprK.tuple h1 h2 h3 hna hk
  | _, _, .emp (a := a) (es := es) (kvs := kvs) h1 h2 h3 h4 h5 h6, hs, hz => by
    have hz' : (dictText (PyData.shownKv kvs)).length ≤ sizeLine := by simpa only [PyData.shown] using hz
    obtain ⟨hs1, hs2⟩ := PyData.showableKv_split kvs (by simpa [PyData.showable] using hs)
    obtain ⟨b1, hb1, k1⟩ := RdqA.reprK h4 hs1 (fun t ht => let ⟨p, hp, hl⟩ := PyData.shownKv_key_le kvs t ht; Nat.le_trans hl (Nat.le_trans (dictText_mem_le hp) hz'))
    obtain ⟨b2, hb2, k2⟩ := RdqA.reprK h5 hs2 (fun t ht => let ⟨p, hp, hl⟩ := PyData.shownKv_val_le kvs t ht; Nat.le_trans hl (Nat.le_trans (dictText_mem_le hp) hz'))
    obtain ⟨as, ra⟩ := RdqA.reads h4
    obtain ⟨bs, rb⟩ := RdqA.reads h5
    have r : Reads h₀ (.ref a) (.dict kvs) _ := .dict h1 h2 h3 ra rb
    have hb : ReadAtMost h₀ (PyData.depthKv kvs) (b1 ++ b2) := (hb1.mono (PyData.depthAll_keys_le kvs)).append (hb2.mono (PyData.depthAll_vals_le kvs))
    have hna : a ∉ b1 ++ b2 := not_mem_of_deeper r (by simp only [PyData.depth]; omega) hb
    refine ⟨a :: (b1 ++ b2), ReadAtMost.cons r (by simp only [PyData.depth]; omega) hb, ?_⟩
    simp only [PyData.depth, PyData.shown, PyData.shownKv_eq]
    exact ReprK.dict h1 h2 h3 h6 hna (ReprEntriesK.of_two es.toList _ _
      (k1.more_le (fun b hb => List.mem_append_left _ hb) (PyData.depthAll_keys_le kvs)) (k2.more_le (fun b hb => List.mem_append_right _ hb) (PyData.depthAll_vals_le kvs)))
theorem RdqA.reprK : ∀ {vs : List Value} {ds : List PyData}, RdqA h₀ vs ds → PyData.showableAll ds = true → (∀ t ∈ PyData.shownAll ds, t.length ≤ sizeLine) →
    ∃ bs, ReadAtMost h₀ (PyData.depthAll ds) bs ∧ ReprAllK prog w bs h₀ (PyData.depthAll ds) vs (PyData.shownAll ds)
  | _, _, .nil, _, _ => ⟨[], (fun _ h => nomatch h), by simp only [PyData.shownAll]; exact .nil⟩
  | _, _, .cons (d := d) (ds := ds) r rs, hs, hz => by
    have hs' : d.showable = true ∧ PyData.showableAll ds = true := by simpa [PyData.showableAll] using hs
    obtain ⟨b1, hb1, k1⟩ := Rdq.reprK r hs'.1 (hz _ (by simp only [PyData.shownAll]; exact List.mem_cons_self ..))
    obtain ⟨b2, hb2, k2⟩ := RdqA.reprK rs hs'.2 (fun t ht => hz t (by simp only [PyData.shownAll]; exact List.mem_cons_of_mem _ ht))
    refine ⟨b1 ++ b2, ?_, ?_⟩
    · intro b hm
      simp only [PyData.depthAll]
      rcases List.mem_append.mp hm with hm | hm
      · obtain ⟨d', as', r', hd'⟩ := hb1 b hm
        exact ⟨d', as', r', Nat.le_trans hd' (Nat.le_max_left _ _)⟩
      · obtain ⟨d', as', r', hd'⟩ := hb2 b hm
        exact ⟨d', as', r', Nat.le_trans hd' (Nat.le_max_right _ _)⟩
    · simp only [PyData.depthAll, PyData.shownAll]
      exact .cons ((k1.more fun b hb => List.mem_append_left _ hb).level_le (Nat.le_max_left _ _)) (k2.more_le (fun b hb => List.mem_append_right _ hb) (Nat.le_max_right _ _))
end
variable {a : Addr} {d : PyData}
theorem showsBy_of_rq (r : Rdq h₀ (.ref a) d) (hs : d.showable = true) (hsz : d.shown.length ≤ sizeLine) : ∃ T idr, ShowsBy prog w h₀ a d T idr := by
  have r0 := r
  cases r with
  | list h1 h2 h3 h4 =>
    rename_i o vs n xs
    have hz' : (listText (PyData.shownAll xs)).length ≤ sizeLine := by simpa only [PyData.shown] using hsz
    obtain ⟨bs, hb, hk⟩ := RdqA.reprK (prog := prog) (w := w) h4 (by simpa [PyData.showable] using hs) (fun t ht => Nat.le_trans (listText_mem_le ht) hz')
    obtain ⟨as, ra⟩ := RdqA.reads h4
    have hna : a ∉ bs := not_mem_of_deeper (.list h1 h2 h3 ra) (by simp only [PyData.depth]; omega) hb
    refine ⟨"list", "list.__repr__", F.slot_list_repr.toG, F.slot_list_str, F.slot_list_format, fun s hk0 => ⟨o, hk0 _ _ h1, h2⟩, fun A E s Q hg hu hk0 hQ => ?_⟩
    simp only [PyData.depth] at hu
    simp only [PyData.shown] at hQ
    obtain ⟨l⟩ := vs
    cases l with
    | nil =>
      have h4' : RdqA h₀ [] xs := h4
      cases h4'
      simp only [PyData.shownAll, listText_nil] at hQ
      exact call_list_repr_empty ⟨o, hk0 _ _ h1, h2⟩ (hk0 _ _ h1) h3 (hQ s.heap _ _ fun _ _ e => e)
    | cons x l =>
      exact call_list_reprK h1 h2 h3 hna (by simpa using hk.length_eq) (fun i y e => hk.item i y (by simpa using e)) hg (fun b _ => Clear.nil b) hu hk0 hQ hz'
  | tuple h1 h2 h3 h4 =>
    rename_i o vs n xs
    have hz' : (tupleText (PyData.shownAll xs)).length ≤ sizeLine := by simpa only [PyData.shown] using hsz
    obtain ⟨bs, hb, hk⟩ := RdqA.reprK (prog := prog) (w := w) h4 (by simpa [PyData.showable] using hs) (fun t ht => Nat.le_trans (tupleText_mem_le ht) hz')
    obtain ⟨as, ra⟩ := RdqA.reads h4
    have hna : a ∉ bs := not_mem_of_deeper (.tuple h1 h2 h3 ra) (by simp only [PyData.depth]; omega) hb
    refine ⟨"tuple", "tuple.__repr__", F.slot_tuple_repr, F.slot_tuple_str, F.slot_tuple_format, fun s hk0 => ⟨o, hk0 _ _ h1, h2⟩, fun A E s Q hg hu hk0 hQ => ?_⟩
    simp only [PyData.depth] at hu
    simp only [PyData.shown] at hQ
    exact call_tuple_reprK h1 h2 h3 hna hk hg (fun b _ => Clear.nil b) hu hk0 hQ hz'
  | emp h1 h2 h3 h4 h5 h6 =>
    rename_i o es n kvs
    obtain ⟨as, r⟩ := Rdq.reads r0
    refine ⟨"dict", "dict.__repr__", F.slot_dict_repr, F.slot_dict_str, F.slot_dict_format, fun s hk0 => ⟨o, hk0 _ _ h1, h2⟩, fun A E s Q hg hu hk0 hQ => ?_⟩
    have hz' : (dictText (PyData.shownKv kvs)).length ≤ sizeLine := by simpa only [PyData.shown] using hsz
    obtain ⟨hs1, hs2⟩ := PyData.showableKv_split kvs (by simpa [PyData.showable] using hs)
    obtain ⟨b1, hb1, k1⟩ := RdqA.reprK (prog := prog) (w := w) h4 hs1 (fun t ht => let ⟨p, hp, hl⟩ := PyData.shownKv_key_le kvs t ht; Nat.le_trans hl (Nat.le_trans (dictText_mem_le hp) hz'))
    obtain ⟨b2, hb2, k2⟩ := RdqA.reprK (prog := prog) (w := w) h5 hs2 (fun t ht => let ⟨p, hp, hl⟩ := PyData.shownKv_val_le kvs t ht; Nat.le_trans hl (Nat.le_trans (dictText_mem_le hp) hz'))
    obtain ⟨as1, ra⟩ := RdqA.reads h4
    obtain ⟨bs1, rb⟩ := RdqA.reads h5
    have hb : ReadAtMost h₀ (PyData.depthKv kvs) (b1 ++ b2) := (hb1.mono (PyData.depthAll_keys_le kvs)).append (hb2.mono (PyData.depthAll_vals_le kvs))
    have hna : a ∉ b1 ++ b2 := not_mem_of_deeper (.dict h1 h2 h3 ra rb) (by simp only [PyData.depth]; omega) hb
    simp only [PyData.depth] at hu
    simp only [PyData.shown, PyData.shownKv_eq] at hQ
    exact call_dict_reprK h1 h2 h3 h6 hna (ReprEntriesK.of_two es.toList _ _
      (k1.more_le (fun b hb => List.mem_append_left _ hb) (PyData.depthAll_keys_le kvs)) (k2.more_le (fun b hb => List.mem_append_right _ hb) (PyData.depthAll_vals_le kvs))) hg (fun b _ => Clear.nil b) hu hk0 hQ (by rw [← PyData.shownKv_eq]; exact hz')
theorem repr_of_rq {A : Around} {E : Value → Shared → Prop} {s : Shared} {Q : Value → Shared → Prop} (r : Rdq h₀ (.ref a) d) (hs : d.showable = true) (hg : A.guards = some []) (hu : A.units + (d.depth + 1) < cLine) (hk0 : ∀ b o, h₀.get? b = some o → s.heap.get? b = some o)
    (hQ : ∀ h' u tk, (∀ b o, s.heap.get? b = some o → h'.get? b = some o) → Q (.str d.shown u) { s with heap := h', toks := tk })
    (hsz : d.shown.length ≤ sizeLine) : wpAny (model prog w) A (call (.builtin "repr") [.ref a]) Q E s := by
  obtain ⟨T, idr, S⟩ := showsBy_of_rq (prog := prog) (w := w) r hs hsz
  exact call_repr_slot (by omega) (S.typeIs s hk0) S.slotRepr (S.call A.in1 E s _ hg (by show A.units + 1 + d.depth < cLine; omega) hk0 fun h' u tk hk => ⟨_, _, rfl, hQ h' u tk hk⟩)
end
section
variable {X : Cx} {pins : List (Addr × Obj)} {σ : St} {H : Hp} {s : Shared}
theorem rdq_kv {P : Program} {w : World} {h : Heap} : ∀ {kvs : List (Key × Int)} {vs : List (Key × Value)} {es : List DictEntry}, KV (kvE kvs) vs → Pairs (mixKind P w) es vs → RdqA h (es.map (·.key)) ((kvP kvs).map (·.1)) ∧ RdqA h (es.map (·.val)) ((kvP kvs).map (·.2))
  | [], _, _, r, q => by
    cases r
    cases q
    exact ⟨.nil, .nil⟩
  | (k, i) :: kvs, _, _, r, q => by
    cases r with
    | @cons a b as bs r1 r2 =>
      obtain ⟨b1, b2⟩ := b
      cases q with
      | cons q1 q2 q3 =>
        obtain ⟨h1, h2⟩ := rdq_kv r2 q3
        obtain ⟨e1, e2⟩ := r1
        have e1 : k = b1 := e1
        subst e1
        refine ⟨.cons ?_ h1, .cons ?_ h2⟩
        · rcases keyIs_shape q1 with ⟨j, t, e, e'⟩ | ⟨x, t, e, e'⟩
          · have e : k = .inl j := e
            subst e
            show Rdq h (DictEntry.key _) _
            rw [e']
            exact .int j t
          · have e : k = .inr x := e
            subst e
            show Rdq h (DictEntry.key _) _
            rw [e']
            exact .str x t
        · obtain ⟨t, e⟩ := (show ∃ t, b2 = Value.int i t from e2)
          show Rdq h (DictEntry.val _) _
          rw [q2]
          show Rdq h b2 _
          rw [e]
          exact .int i t
mutual
theorem Dq.rq (I : L2.Inv X pins σ H s) : ∀ (d : PyData) (v : V) (u : Value), Dq X.K H v d → RelV v u → Rdq s.heap u d
  | .none, _, _, h, r => by
    cases h
    cases r
    exact .none
  | .bool b, _, _, h, r => by
    cases h
    cases r
    exact .bool b
  | .int i, _, _, h, r => by
    cases h
    obtain ⟨t, rfl⟩ := r
    exact .int i t
  | .str x, _, _, h, r => by
    cases h
    obtain ⟨t, rfl⟩ := r
    exact .str x t
  | .list ds, _, _, h, r => by
    cases h with
    | lst hs ha =>
      cases r
      obtain ⟨its, rv, ⟨o, n, ho, hc, _, hd⟩, _⟩ := I.list hs
      exact .list ho hc hd (Dqs.rq I ds _ its ha rv)
  | .tuple ds, _, _, h, r => by
    cases h with
    | tup hs ha =>
      cases r
      obtain ⟨its, rv, ⟨o, ho, hc, n, hd⟩, _⟩ := I.tuple hs
      exact .tuple ho hc hd (Dqs.rq I ds _ its ha rv)
  | .dict _, _, _, h, r => by
    cases h with
    | emp e =>
      cases r
      rename_i kvs
      obtain ⟨_, hs, vs, rk, o, es, ep, h1, h2, h3, h4, h5, _⟩ := dk_of I.hok e
      obtain ⟨q1, q2⟩ := rdq_kv rk h5
      exact .emp h1 h2.1 h3 q1 q2 hs
theorem Dqs.rq (I : L2.Inv X pins σ H s) : ∀ (ds : List PyData) (vs : List V) (us : List Value), Dqs X.K H vs ds → Vals vs us → RdqA s.heap us ds
  | [], _, _, h, r => by
    cases h
    cases r
    exact .nil
  | d :: ds, _, _, h, r => by
    cases h with
    | cons h1 h2 =>
      cases r with
      | cons r1 r2 => exact .cons (Dq.rq I d _ _ h1 r1) (Dqs.rq I ds _ _ h2 r2)
end
end
section
variable {X : Cx} {Φ : Calls} {a b c : Expr} {es : List Expr} {pos : Pos} {ia ib ic : E} {ies : Es}
theorem cr_reprD (hg : X.A.guards = some []) (hu : X.A.units + 70 < cLine) : CallR X (.builtin "repr") (rK X.K .repr) := by
  intro pins s σ H vs us Q I r h
  obtain ⟨S, ds, x, dom, hv, hb, q⟩ := h
  match ds, hv, hb with
  | [d], hv, hb =>
    have hb : (if (pureR d && (toPy d).showable && decide ((toPy d).depth ≤ 64) && decide ((toPy d).shown.length ≤ sizeLine)) = true then some (R.fz (.str (toPy d).shown)) else none) = some x := by
      cases d <;> exact hb
    split at hb
    · rename_i hz
      cases hb
      obtain ⟨hz, z4⟩ := Bool.and_eq_true _ _ |>.mp hz
      obtain ⟨hz, z3⟩ := Bool.and_eq_true _ _ |>.mp hz
      obtain ⟨zp, z1⟩ := Bool.and_eq_true _ _ |>.mp hz
      have z3 := of_decide_eq_true z3
      have z4 := of_decide_eq_true z4
      obtain ⟨v, rfl, w⟩ := vds1 hv
      obtain ⟨u, rfl, ru⟩ := vals1 r
      have fin : ∀ (h' : Heap) (t : Tok) (tk : Nat), (∀ b o, s.heap.get? b = some o → h'.get? b = some o) → EP X pins σ Q (.str (toPy d).shown t) { s with heap := h', toks := tk } := fun h' t tk hk =>
        ⟨.str _, H, I.kept (t' := tk) hk, ⟨t, rfl⟩, q S _ H .refl (.str _)⟩
      cases d with
      | non =>
        have e := w.n
        subst e
        cases ru
        exact PySem.P.repr_of_none (fin s.heap _ _ fun _ _ h => h)
      | bl b =>
        have e := w.b
        subst e
        cases ru
        refine PySem.P.repr_of_bool ?_
        have q2 := fin s.heap s.toks (s.toks + 1) fun _ _ h => h
        cases b <;> exact q2
      | int i =>
        have e := w.i
        subst e
        obtain ⟨t, rfl⟩ := ru
        have hz : i.natAbs.log2 < 1920 := by simpa [toPy, PyData.showable] using z1
        exact PySem.P.repr_of_int hz (fin s.heap _ _ fun _ _ h => h)
      | str y =>
        have e := w.s
        subst e
        obtain ⟨t, rfl⟩ := ru
        exact PySem.P.repr_of_str (fin s.heap _ _ fun _ _ h => h) z4
      | tup xs =>
        obtain ⟨p, ws, ep, hp, rp⟩ := w.t
        have ra := Dq.rq I _ _ _ (w.dq zp) ru
        subst ep
        cases ru
        exact repr_of_rq ra z1 hg (by omega) (fun _ _ h => h) (fun h' t tk hk => fin h' t tk hk) z4
      | lst xs =>
        obtain ⟨p, ws, ep, hp, rp⟩ := w.l
        have ra := Dq.rq I _ _ _ (w.dq zp) ru
        subst ep
        cases ru
        exact repr_of_rq ra z1 hg (by omega) (fun _ _ h => h) (fun h' t tk hk => fin h' t tk hk) z4
      | obj _ _ => cases zp
      | box _ _ _ => cases zp
      | emp =>
        obtain ⟨p, ep, hp⟩ := w.e
        have ra := Dq.rq I _ _ _ (w.dq zp) ru
        subst ep
        cases ru
        exact repr_of_rq ra z1 hg (by omega) (fun _ _ h => h) (fun h' t tk hk => fin h' t tk hk) z4
      | scr xs =>
        obtain ⟨p, ws, ep, hp, rp⟩ := w.c
        have ra := Dq.rq I _ _ _ (w.dq zp) ru
        subst ep
        cases ru
        exact repr_of_rq ra z1 hg (by omega) (fun _ _ h => h) (fun h' t tk hk => fin h' t tk hk) z4
    · cases hb
theorem Vds.length {K : PySem.W.Frag} {S : Addr → Prop} {H : Hp} : ∀ {vs : List V} {ds : List D}, Vds K S H vs ds → vs.length = ds.length
  | _, _, .nil => rfl
  | _, _, .cons _ r => congrArg (· + 1) (Vds.length r)
end
end DL
end
section
set_option autoImplicit false
namespace DL
open PySem L2
variable [LTabs]
def tyN : D → String
  | .non => "NoneType" | .bl _ => "bool" | .int _ => "int" | .str _ => "str" | .tup _ => "tuple" | .lst _ => "list" | .scr _ => "list" | .obj _ _ => "object" | .box _ _ _ => "object" | .emp _ => "dict"
def noObj : D → Bool
  | .obj _ _ => false
  | .box _ _ _ => false
  | _ => true
def Ty.nm : Ty → String
  | .int => "int" | .bool => "bool" | .tuple => "tuple" | .list => "list" | .str => "str"
theorem kit_tab : ∀ (a : String) (t : Ty), a ∈ ["NoneType", "bool", "int", "str", "tuple", "list", "dict"] → L2.kitB a t.nm = some (match t with | .int => a == "int" || a == "bool" | .bool => a == "bool" | .tuple => a == "tuple" | .list => a == "list" | .str => a == "str") := by
  intro a t ha
  simp only [List.mem_cons, List.not_mem_nil, or_false] at ha
  rcases ha with rfl | rfl | rfl | rfl | rfl | rfl | rfl <;> cases t <;> decide +kernel
theorem kit_d (d : D) (t : Ty) (n : noObj d = true) : L2.kitB (tyN d) t.nm = some (isD d t) := by
  rw [kit_tab (tyN d) t (by cases d <;> first | (simp [tyN]; done) | cases n)]
  cases d <;> first | (cases n; done) | (cases t <;> rfl)
theorem ty_d {K : PySem.W.Frag} {S : Addr → Prop} {H : Hp} {v : V} {d : D} (h : Vd K S H v d) (n : noObj d = true) : TyX K H v (.type (tyN d)) := by
  cases h with
  | ls e h r => subst e; exact .base (.lst h)
  | io => cases n
  | fz h =>
    cases h with
    | non => exact .base .non
    | bl b => exact .base (.bl b)
    | int b => exact .base (.int b)
    | str b => exact .base (.str b)
    | lst h r => exact .base (.lst h.2)
    | tup h r =>
      rcases h with ⟨_, h | ⟨o, h⟩⟩ | ⟨o, its, n, h1, h2, _⟩
      · exact .base (.tup h)
      · exact .fTuple h
      · exact .kTuple h1 h2
    | obj _ _ _ _ _ => cases n
    | box _ _ => cases n
    | emp s h => exact .base (.dK h)
    | scr h r =>
      rcases h with ⟨_, h | ⟨o, h⟩⟩ | ⟨o, its, n, h1, h2, _⟩
      · exact .base (.lst h)
      · exact .base (.frz h)
      · exact .kList h1 h2
def noOb2 : D → Bool
  | .box n _ _ => n == 2 || n == 3
  | d => noObj d
def tyN2 : D → String
  | .box n _ _ => if n = 2 then "function" else "bytes"
  | d => tyN d
theorem box_ok {n m : Nat} {xs : List D} (h : n = 2 ∨ n = 3) : noOb2 (.box n m xs) = true := by rcases h with rfl | rfl <;> rfl
theorem box_no {n m : Nat} {xs : List D} (h : ¬ noOb2 (.box n m xs) = true) : ¬ (n = 2 ∨ n = 3) := fun z => h (box_ok z)
theorem isn_no {c : Nat} {d : D} {r : R} (h : noOb2 d = true) (e : biD (.isn c) [d] = some r) : r = .fz (.bl false) := by
  cases d with
  | obj _ _ => cases h
  | box n m xs =>
    have e : (if n = 2 ∨ n = 3 then some (R.fz (.bl false)) else none) = some r := e
    split at e
    · exact (Option.some.inj e).symm
    · cases e
  | _ => exact (Option.some.inj e).symm
theorem tyN2_mem {d : D} (h : noOb2 d = true) : tyN2 d ∈ ["NoneType", "bool", "int", "str", "tuple", "list", "dict", "function", "bytes"] := by
  cases d with
  | obj _ _ => cases h
  | box n m xs =>
    show (if n = 2 then "function" else "bytes") ∈ _
    split <;> simp
  | _ => simp [tyN2, tyN]
inductive TyY (K : PySem.W.Frag) (H : Hp) : V → Value → Prop
  | x {v : V} {t : Value} : TyX K H v t → TyY K H v t
  | fn {f : Addr} {o : Obj} : K.lookup f = some o → o.cls = .type "function" → TyY K H (.ref f) (.type "function")
theorem kit_ofY {X : Cx} {pins : List (Addr × Obj)} {σ : St} {H : Hp} {s : Shared} {x : V} {u t : Value} (I : L2.Inv X pins σ H s) (rx : RelV x u) (ty : TyY X.K H x t) : ∃ P : Heap → Prop, PySem.W.KitX X.K u t P ∧ P s.heap ∧ u ≠ .builtin "__main__.__loader__#opaque" := by
  cases ty with
  | x h => exact kit_of I rx h
  | fn e c =>
    cases rx
    exact ⟨_, DLo.kitx_fn, ⟨_, I.kIn _ _ e, c⟩, fun z => nomatch z⟩
def rIsiY (K : PySem.W.Frag) : List V → Hp → VK → Prop := fun xs H Q => ∃ (x c : V) (t u : Value) (b : Bool), xs = [x, c] ∧ ClsV c u ∧ TyY K H x t ∧ PySem.W.kitOne K t u = some b ∧ Q (.bl b) H
theorem call_isiY {X : Cx} : CallR X (.builtin "isinstance") (rIsiY X.K) := by
  intro pins s σ H xs us Q I r h
  obtain ⟨x, c, t, u, b, rfl, k, ty, e, q⟩ := h
  obtain ⟨u1, u2, rfl, r1, r2⟩ := vals2 r
  have e2 := k.eq r2
  subst e2
  obtain ⟨P, Z, p, hx⟩ := kit_ofY I r1 ty
  exact PySem.W.kia_one Z I.kIn p e hx fun tk => ⟨.bl b, H, I.tok tk, rfl, q⟩
theorem ty_d2 {K : PySem.W.Frag} {S : Addr → Prop} {H : Hp} {v : V} {d : D} (h : Vd K S H v d) (n : noOb2 d = true) : TyY K H v (.type (tyN2 d)) := by
  cases d with
  | obj _ _ => cases n
  | box k m xs =>
    cases h with
    | fz h =>
      cases h with
      | box b r =>
        cases b with
        | dic _ _ _ => cases n
        | fn _ e =>
          obtain ⟨o, e1, e2⟩ := e
          exact .fn e1 e2
        | byt b => exact .x (.byt b)
  | _ => exact .x (ty_d h n)
section
variable {X : Cx} {Φ : Calls} {a b c : Expr} {es : List Expr} {pos : Pos} {ia ib ic : E} {ies : Es}
theorem de_isi (t : Ty) {p : Pos} (hg : Gl X "isinstance") (hm : X.mg "isinstance" = none) (hT : PE X b (tC (.ty t.nm))) (ha : PE X a (tD X.K (ev Φ ia)))
    (he : starEach [a, b] X.env = (false, eval a X.env) :: starEach [b] X.env := by rfl) (he2 : starEach [b] X.env = (false, eval b X.env) :: starEach [] X.env := by rfl) (hpl : (PySem.backTo pos (starEach [b] X.env)).any (·.1) = false := by rfl) :
    PE X (.Call (.Name "isinstance" p) [a, b] [] pos) (tD X.K (ev Φ (.bi (.isi t) (.cons ia .nil)))) :=
  peImp (pe_callB call_isi hg hm (by decide +kernel) (pa_cons ha (pa_cons hT pa_nil he2) he) (by decide) (by decide) he hpl) fun σ H Q q => by
    obtain ⟨S, ρ, r, ρ', rel, e, q⟩ := q
    obtain ⟨rs, ds, e1, e2, e3⟩ := bi_split e
    simp only [evrs] at e1
    obtain ⟨y, ρ1, e4, h1⟩ := bnd_eq e1
    obtain ⟨zs, ρ3, e5, h3⟩ := bnd_eq h1
    obtain ⟨q1, q2⟩ := ret_eq e5
    subst q1 q2
    obtain ⟨q1, q2⟩ := ret_eq h3
    subst q1 q2
    obtain ⟨d, v1, e6⟩ : ∃ d, view ρ' y = some d ∧ ds = [d] := by
      rw [List.mapM_cons, List.mapM_nil] at e2
      cases q : view ρ' y with
      | none => rw [q] at e2; cases e2
      | some d => rw [q] at e2; exact ⟨d, rfl, (Option.some.inj e2).symm⟩
    subst e6
    have hn : noObj d = true := by cases d <;> first | rfl | cases e3
    have e3 : some (R.fz (.bl (isD d t))) = some r := by cases d <;> first | exact e3 | cases hn
    cases e3
    exact ⟨S, ρ, y, ρ', rel, e4, fun S1 v H1 g1 rel1 r1 => ⟨v, _, _, _, _, rfl, .ty _, ty_d (r1.view rel1 v1) hn, kit_ty (kit_d d t hn), q S1 _ H1 g1 rel1 (.bl _)⟩⟩
end
/-- a def's promise, where nothing is being shown -/
structure FnG (P : Program) (w : World) (K : PySem.W.Frag) (mg : Str → Option Value) (base : Heap) (CX : CXT) (k : Nat) (f : Addr) (fd : FuncData) (ps : List Str) (sp : Sp) : Prop where
  len : ∀ vs H Q E, sp vs H Q E → vs.length = ps.length
  run : ∀ (A : Around) (outer : List Env) (s : Shared) (H : Hp) (args : Args) (us : List Value) (vs : List V) (Q : VK) (E : XK), Room k A → Gok A →
    Env0 P w K mg base A outer s H → BindsTo s fd args (ps.zip us) → Vals vs us → sp vs H Q E → codeAny (model P w) A (.call (.ref f) args) (CR CX outer P w H s Q E) s
/-- what a call of the table's def f promises: Φ says it -/
def spD (K : PySem.W.Frag) (Φ : Calls) (f : Nat) : Sp := fun vs H Q _ => ∃ S as r as', Rel K S as (vs.map some) H ∧ Φ f as = some (r, as') ∧ (∀ (i : Nat) (k : Lk) (xs : List D), as[i]? = some (Sl.ls k xs) → k.isB = true) ∧
  ∀ S' v H', Go S as (vs.map some) H S' as' (vs.map some) H' → Rel K S' as' (vs.map some) H' → Rn K S' H H' v r → Q v H'
theorem pick_cons {α : Type} {j : Nat} {p : List Nat} {l : List α} {zs : List α} (h : pick (j :: p) l = some zs) : ∃ z r, l[j]? = some z ∧ pick p l = some r ∧ zs = z :: r := by
  unfold pick at h
  rw [List.mapM_cons] at h
  cases e : l[j]? with
  | none => rw [e] at h; cases h
  | some z =>
    rw [e] at h
    cases e2 : pick p l with
    | none =>
      have e3 : List.mapM (fun j => l[j]?) p = none := e2
      rw [e3] at h; cases h
    | some r =>
      have e3 : List.mapM (fun j => l[j]?) p = some r := e2
      rw [e3] at h
      exact ⟨z, r, rfl, rfl, (Option.some.inj h).symm⟩
theorem pick_vals {vs : List V} {us : List Value} (r : Vals vs us) : ∀ {p : List Nat} {zs : List V}, pick p vs = some zs → ∃ ws, pick p us = some ws ∧ Vals zs ws
  | [], zs, h => by cases h; exact ⟨[], rfl, .nil⟩
  | j :: p, zs, h => by
    obtain ⟨z, rr, e1, e2, rfl⟩ := pick_cons h
    obtain ⟨u, eu, ru⟩ := r.get e1
    obtain ⟨ws, ew, rw'⟩ := pick_vals r e2
    refine ⟨u :: ws, ?_, .cons ru rw'⟩
    unfold pick
    rw [List.mapM_cons, eu]
    have e3 : List.mapM (fun j => us[j]?) p = some ws := ew
    show (Option.bind (some u) fun a => (List.mapM (fun j => us[j]?) p).bind fun b => some (a :: b)) = _
    rw [e3] <;> rfl
/-- how a call of n positional arguments and keywords ks binds: perm puts them in the parameters' order -/
def BindP (K : PySem.W.Frag) (fd : FuncData) (ps : List Str) (n : Nat) (ks : List Str) (perm : List Nat) : Prop :=
  ∀ (s : Shared) (us ws zs : List Value), K.In s.heap → us.length = n → ws.length = ks.length → pick perm (us ++ ws) = some zs → BindsTo s fd ⟨us, ks.zip ws⟩ (ps.zip zs)
section
variable {X : Cx} {CX : CXT} {k : Nat} {f : Addr} {fd : FuncData} {ps ks : List Str} {sp : Sp} {x : Str} {p pos : Pos} {e : Expr} {es : List Expr} {kws : List Keyword} {t tk : TA} {perm : List Nat} {n : Nat}
theorem run_fnG {pins : List (Addr × Obj)} {σ : St} {H : Hp} {s : Shared} {Q : VK} {us ws : List Value} {vs ys zs : List V} (F : FnG X.prog X.w X.K X.mg X.base CX k f fd ps sp) (hr : Room k X.A) (hgd : Gok X.A) (hb : BindP X.K fd ps n ks perm) (hx : Passes CX X E0)
    (I : L2.Inv X pins σ H s) (r : Vals vs us) (rz : Vals ys ws) (h1 : us.length = n) (h2 : ws.length = ks.length) (hp : pick perm (vs ++ ys) = some zs) (h : sp zs H Q E0) : wpAny (model X.prog X.w) X.A (call (.ref f) us (ks.zip ws)) (EP X pins σ Q) X.xe s := by
  obtain ⟨qs, eq, rq⟩ := pick_vals (r.append rz) hp
  refine wpAny_call (codeAny_mono (F.run X.A X.stack s H ⟨us, ks.zip ws⟩ qs zs Q E0 hr hgd I.env0 (hb s us ws qs I.kIn h1 h2 eq) rq h) fun r s' hq => ?_)
  cases r with
  | error e => exact hx pins σ H s e s' I hq
  | ok fl => cases fl with
    | ret u => exact I.after hq
    | next => exact False.elim hq
    | brk => exact False.elim hq
    | cont => exact False.elim hq
def tCallP (sp : Sp) (perm : List Nat) (n m : Nat) (t tk : TA) : TE := fun σ H Q => t σ H fun vs H1 => tk σ H1 fun ys H2 => vs.length = n ∧ ys.length = m ∧ ∃ zs, pick perm (vs ++ ys) = some zs ∧ sp zs H2 Q E0
theorem pe_callG (F : FnG X.prog X.w X.K X.mg X.base CX k f fd ps sp) (hr : Room k X.A) (hgd : Gok X.A) (hg : Gl X x) (hm : X.mg x = some (.ref f)) (hk : PySem.W.keepIn X.K (.ref f) = true) (hb : BindP X.K fd ps n [] perm) (hx : Passes CX X E0)
    (ha : PA X (e :: es) t) (hdb : (x == ("__debug__" : Str)) = false := by decide) (he : starEach (e :: es) X.env = (false, eval e X.env) :: starEach es X.env := by rfl) (hpl : (PySem.backTo pos (starEach es X.env)).any (·.1) = false := by rfl) :
    PE X (.Call (.Name x p) (e :: es) [] pos) (tCallP sp perm n 0 t tNil) := by
  refine ⟨fun pins s σ H Q I h => ?_⟩
  refine wpAny_Call_Name_kw (ld_glob I hg hm ?_ hdb)
  refine PySem.W.callWith_K (h₀ := X.base) I.ok.mod.kin hk (thn (ha.run pos pins s σ H _ I h) fun us s1 ⟨vs, H1, I1, r, l1, _, zs, hp, q⟩ => ⟨I1.kIn, ?_⟩) he hpl
  exact run_fnG (us := us) (ks := []) (ws := []) (ys := []) F hr hgd hb hx I1 r .nil (by rw [← r.length]; exact l1) rfl hp q
end
end DL
end
section
set_option autoImplicit false
namespace DL
open PySem L2
variable [LTabs]
/-- an evaluated argument -/
def Ra (K : PySem.W.Frag) (S : Addr → Prop) (H₀ : Hp) (ρ : Ev) (σ : St) (H : Hp) (v : V) : A → Prop
  | .val d => Rp K S H v d
  | .rf i => σ[i]? = some (some v)
  | .fr xs => ∃ a vs, v = .ref a ∧ H₀ a = none ∧ H a = some (.lst vs) ∧ ¬ S a ∧ ¬ Own ρ σ a ∧ Rps K S H vs xs
inductive Ras (K : PySem.W.Frag) (S : Addr → Prop) (H₀ : Hp) (ρ : Ev) (σ : St) (H : Hp) : List V → List A → Prop
  | nil : Ras K S H₀ ρ σ H [] []
  | cons {v : V} {vs : List V} {r : A} {rs : List A} : Ra K S H₀ ρ σ H v r → Ras K S H₀ ρ σ H vs rs → Ras K S H₀ ρ σ H (v :: vs) (r :: rs)
abbrev tAs (K : PySem.W.Frag) (m : M (List A)) : TA := tG K (Ras K) m
section
variable {K : PySem.W.Frag} {S S' S1 : Addr → Prop} {ρ ρ' ρ1 ρ2 : Ev} {σ : St} {H H' H1 H₀ : Hp}
theorem Ra.go {v : V} {r : A} (rel : Rel K S ρ σ H) (g : Go S ρ σ H S' ρ' σ H') (h : Ra K S H₀ ρ σ H v r) : Ra K S' H₀ ρ' σ H' v r := by
  cases r with
  | val d => exact Rp.mono (g.ke rel) h
  | fr xs => exact (Rv.go (r := .fr xs) rel g h)
  | rf i => exact h
theorem Ra.base {v : V} {r : A} (st : ∀ a, H₀ a = none → H1 a = none) (h : Ra K S H₀ ρ σ H v r) : Ra K S H1 ρ σ H v r := by
  cases r with
  | val d => exact h
  | fr xs => exact (Rv.base (r := .fr xs) st h)
  | rf i => exact h
theorem Ras.base (st : ∀ a, H₀ a = none → H1 a = none) : ∀ {vs : List V} {rs : List A}, Ras K S H₀ ρ σ H vs rs → Ras K S H1 ρ σ H vs rs
  | _, _, .nil => .nil
  | _, _, .cons h r => .cons (h.base st) (r.base st)
theorem Ras.get : ∀ {vs : List V} {rs : List A} {i : Nat} {r : A}, Ras K S H₀ ρ σ H vs rs → rs[i]? = some r → ∃ v, vs[i]? = some v ∧ Ra K S H₀ ρ σ H v r
  | _, _, i, d, .nil, e => by simp at e
  | _, _, 0, d, .cons h _, e => by simp at e; subst e; exact ⟨_, rfl, h⟩
  | _, _, i + 1, d, .cons _ r, e => by
    obtain ⟨v, h1, h2⟩ := Ras.get (i := i) (r := d) r (by simpa using e)
    exact ⟨v, by simpa using h1, h2⟩
theorem Ras.pick {vs : List V} {rs : List A} (h : Ras K S H₀ ρ σ H vs rs) : ∀ {p : List Nat} {qs : List A}, pick p rs = some qs → ∃ zs, DL.pick p vs = some zs ∧ Ras K S H₀ ρ σ H zs qs
  | [], qs, e => by cases e; exact ⟨[], rfl, .nil⟩
  | j :: p, qs, e => by
    obtain ⟨q, r, e1, e2, rfl⟩ := pick_cons e
    obtain ⟨v, e3, h3⟩ := h.get e1
    obtain ⟨zs, e4, h4⟩ := h.pick e2
    refine ⟨v :: zs, ?_, .cons h3 h4⟩
    unfold DL.pick
    rw [List.mapM_cons, e3]
    have e5 : List.mapM (fun j => vs[j]?) p = some zs := e4
    show (Option.bind (some v) fun a => (List.mapM (fun j => vs[j]?) p).bind fun b => some (a :: b)) = _
    rw [e5] <;> rfl
theorem Ras.length : ∀ {vs : List V} {rs : List A}, Ras K S H₀ ρ σ H vs rs → vs.length = rs.length
  | _, _, .nil => rfl
  | _, _, .cons _ r => congrArg (· + 1) r.length
/-- the slots that the arguments make -/
theorem slots_at : ∀ {as : List A} {ss : List Sl} {i : Nat} {a : A}, slotsOf ρ as = some ss → as[i]? = some a → ∃ s, ss[i]? = some s ∧ slotOf ρ a = some s
  | [], _, i, _, _, e => by simp at e
  | x :: r, ss, i, a, h, e => by
    unfold slotsOf at h
    cases e1 : slotOf ρ x with
    | none => rw [e1] at h; cases h
    | some s =>
      rw [e1] at h
      cases e2 : slotsOf ρ r with
      | none => rw [e2] at h; cases h
      | some r' =>
        rw [e2] at h
        cases h
        cases i with
        | zero => simp at e; subst e; exact ⟨s, rfl, e1⟩
        | succ i => simp at e; simpa using slots_at (i := i) e2 e
theorem slots_len : ∀ {as : List A} {ss : List Sl}, slotsOf ρ as = some ss → ss.length = as.length
  | [], _, h => by cases h; rfl
  | x :: r, ss, h => by
    unfold slotsOf at h
    cases e1 : slotOf ρ x with
    | none => rw [e1] at h; cases h
    | some s =>
      rw [e1] at h
      cases e2 : slotsOf ρ r with
      | none => rw [e2] at h; cases h
      | some r' => rw [e2] at h; cases h; exact congrArg (· + 1) (slots_len e2)
/-- k, as a caller's -/
def Bk (k k' : Lk) : Prop := (k.isL = true ∧ k' = .bor) ∨ ∃ c, k.cls = some c ∧ k' = .inb c
theorem Bk.b {k k' : Lk} (h : Bk k k') : k'.isB = true := by
  rcases h with ⟨_, rfl⟩ | ⟨_, _, rfl⟩ <;> rfl
theorem Lk.isB_nI {k : Lk} (h : k.isB = true) : k.isI = false := by cases k <;> first | rfl | cases h
theorem Lk.isB_fx {k : Lk} (h : k.isB = true) : k.fx = true := by cases k <;> first | rfl | cases h
theorem Bk.hold {k k' : Lk} (h : Bk k k') {K : PySem.W.Frag} {S : Addr → Prop} {H : Hp} {a : Addr} {xs : List D} : Hold K S H a k xs ↔ Hold K S H a k' xs := by
  rcases h with ⟨hk, rfl⟩ | ⟨c, hk, rfl⟩
  · constructor
    · rintro (⟨_, q⟩ | ⟨q, _⟩ | ⟨c, q, _⟩ | ⟨q, _⟩)
      · exact .inl ⟨rfl, q⟩
      · rw [q] at hk; cases hk
      · exact (Lk.isL_cls hk q).elim
      · rw [q] at hk; cases hk
    · rintro (⟨_, q⟩ | ⟨q, _⟩ | ⟨c, q, _⟩ | ⟨q, _⟩)
      · exact .inl ⟨hk, q⟩
      · cases q
      · cases q
      · cases q
  · constructor
    · rintro (⟨q, _⟩ | ⟨q, _⟩ | ⟨c', q, q2⟩ | ⟨q, _⟩)
      · exact (Lk.isL_cls q hk).elim
      · rw [q] at hk; cases hk
      · rw [hk] at q; cases q; exact .inr (.inr (.inl ⟨c, rfl, q2⟩))
      · rw [q] at hk; cases hk
    · rintro (⟨q, _⟩ | ⟨q, _⟩ | ⟨c', q, q2⟩ | ⟨q, _⟩)
      · cases q
      · cases q
      · cases q; exact .inr (.inr (.inl ⟨c, hk, q2⟩))
      · cases q
theorem slotOf_rf {i : Nat} {s : Sl} (h : slotOf ρ (.rf i) = some s) : ∃ k k' xs, ρ[i]? = some (.ls k xs) ∧ s = .ls k' xs ∧ k ≠ .lck ∧ Bk k k' := by
  have h : (match ρ[i]? with | some (.ls .own xs) => some (Sl.ls .bor xs) | some (.ls .bor xs) => some (.ls .bor xs) | some (.ls (.ins c) xs) => some (.ls (.inb c) xs) | some (.ls (.inb c) xs) => some (.ls (.inb c) xs) | _ => none) = some s := h
  split at h
  · rename_i xs e; cases h; exact ⟨_, _, xs, e, rfl, by simp, .inl ⟨rfl, rfl⟩⟩
  · rename_i xs e; cases h; exact ⟨_, _, xs, e, rfl, by simp, .inl ⟨rfl, rfl⟩⟩
  · rename_i c xs e; cases h; exact ⟨_, _, xs, e, rfl, by simp, .inr ⟨c, rfl, rfl⟩⟩
  · rename_i c xs e; cases h; exact ⟨_, _, xs, e, rfl, by simp, .inr ⟨c, rfl, rfl⟩⟩
  · cases h
theorem refs_mem : ∀ {as : List A} {i : Nat}, i ∈ refs as ↔ ∃ j : Nat, as[j]? = some (A.rf i)
  | [], i => by simp [refs]
  | .rf j :: r, i => by
    have ih := refs_mem (as := r) (i := i)
    constructor
    · intro h
      rcases List.mem_cons.mp h with rfl | h
      · exact ⟨0, rfl⟩
      · obtain ⟨j, e⟩ := ih.mp h; exact ⟨j + 1, by simpa using e⟩
    · rintro ⟨j, e⟩
      cases j with
      | zero => cases e; exact List.mem_cons_self
      | succ j => exact List.mem_cons_of_mem _ (ih.mpr ⟨j, by simpa using e⟩)
  | .val d :: r, i => by
    have ih := refs_mem (as := r) (i := i)
    constructor
    · intro h; obtain ⟨j, e⟩ := ih.mp h; exact ⟨j + 1, by simpa using e⟩
    · rintro ⟨j, e⟩
      cases j with
      | zero => cases e
      | succ j => exact ih.mpr ⟨j, by simpa using e⟩
  | .fr d :: r, i => by
    have ih := refs_mem (as := r) (i := i)
    constructor
    · intro h; obtain ⟨j, e⟩ := ih.mp h; exact ⟨j + 1, by simpa using e⟩
    · rintro ⟨j, e⟩
      cases j with
      | zero => cases e
      | succ j => exact ih.mpr ⟨j, by simpa using e⟩
theorem refs_inj : ∀ {as : List A} {i j l : Nat}, (refs as).Nodup → as[j]? = some (A.rf i) → as[l]? = some (A.rf i) → j = l
  | [], i, j, l, _, e, _ => by simp at e
  | x :: r, i, 0, 0, _, _, _ => rfl
  | x :: r, i, 0, l + 1, n, e1, e2 => by
    simp at e1; subst e1
    exact absurd (refs_mem.mpr ⟨l, by simpa using e2⟩) (List.nodup_cons.mp n).1
  | x :: r, i, j + 1, 0, n, e1, e2 => by
    simp at e2; subst e2
    exact absurd (refs_mem.mpr ⟨j, by simpa using e1⟩) (List.nodup_cons.mp n).1
  | x :: r, i, j + 1, l + 1, n, e1, e2 => by
    have n' : (refs r).Nodup := by
      cases x with
      | val d => exact n
      | fr d => exact n
      | rf k => exact (List.nodup_cons.mp n).2
    exact congrArg (· + 1) (refs_inj (as := r) (i := i) n' (by simpa using e1) (by simpa using e2))
theorem frs_pos : ∀ {as : List A} {j : Nat} {xs : List D}, as[j]? = some (A.fr xs) → 1 ≤ frs as
  | [], j, _, e => by simp at e
  | x :: r, 0, xs, e => by simp at e; subst e; exact Nat.le_add_left _ _
  | x :: r, j + 1, xs, e => by
    have := frs_pos (as := r) (j := j) (by simpa using e)
    cases x with
    | fr _ => exact Nat.le_add_left _ _
    | val _ => exact this
    | rf _ => exact this
theorem frs_inj : ∀ {as : List A} {j l : Nat} {xs ys : List D}, frs as ≤ 1 → as[j]? = some (A.fr xs) → as[l]? = some (A.fr ys) → j = l
  | [], j, l, _, _, _, e, _ => by simp at e
  | x :: r, 0, 0, _, _, _, _, _ => rfl
  | x :: r, 0, l + 1, xs, ys, n, e1, e2 => by
    simp at e1; subst e1
    have := frs_pos (as := r) (j := l) (by simpa using e2)
    have n : frs r + 1 ≤ 1 := n
    omega
  | x :: r, j + 1, 0, xs, ys, n, e1, e2 => by
    simp at e2; subst e2
    have := frs_pos (as := r) (j := j) (by simpa using e1)
    have n : frs r + 1 ≤ 1 := n
    omega
  | x :: r, j + 1, l + 1, xs, ys, n, e1, e2 => by
    have n' : frs r ≤ 1 := by
      cases x with
      | val d => exact n
      | fr d => exact Nat.le_trans (Nat.le_succ _) n
      | rf k => exact n
    exact congrArg (· + 1) (frs_inj (as := r) (xs := xs) (ys := ys) n' (by simpa using e1) (by simpa using e2))
theorem back_len : ∀ {as : List A} {ss : List Sl} {ρ : Ev}, (putBack as ss ρ).length = ρ.length
  | [], ss, ρ => by unfold putBack; rfl
  | a :: r, [], ρ => by
    cases a <;> (unfold putBack; rfl)
  | .val d :: r, s :: ss, ρ => by
    show (putBack r ss ρ).length = _
    exact back_len
  | .fr d :: r, s :: ss, ρ => by
    show (putBack r ss ρ).length = _
    exact back_len
  | .rf i :: r, .un :: ss, ρ => by
    show (putBack r ss ρ).length = _
    exact back_len
  | .rf i :: r, .fz d :: ss, ρ => by
    show (putBack r ss ρ).length = _
    exact back_len
  | .rf i :: r, .ls k xs :: ss, ρ => by
    show (putBack r ss (match ρ[i]? with | some (.ls k _) => ρ.set i (.ls k xs) | _ => ρ)).length = _
    rw [back_len]
    split
    · rw [List.length_set]
    · rfl
theorem back_out : ∀ {as : List A} {ss : List Sl} {ρ : Ev} {i : Nat}, i ∉ refs as → (putBack as ss ρ)[i]? = ρ[i]?
  | [], ss, ρ, i, _ => by unfold putBack; rfl
  | a :: r, [], ρ, i, _ => by
    cases a <;> (unfold putBack; rfl)
  | .val d :: r, s :: ss, ρ, i, h => by
    show (putBack r ss ρ)[i]? = _
    exact back_out h
  | .fr d :: r, s :: ss, ρ, i, h => by
    show (putBack r ss ρ)[i]? = _
    exact back_out h
  | .rf j :: r, .un :: ss, ρ, i, h => by
    show (putBack r ss ρ)[i]? = _
    exact back_out fun z => h (List.mem_cons_of_mem _ z)
  | .rf j :: r, .fz d :: ss, ρ, i, h => by
    show (putBack r ss ρ)[i]? = _
    exact back_out fun z => h (List.mem_cons_of_mem _ z)
  | .rf j :: r, .ls k xs :: ss, ρ, i, h => by
    show (putBack r ss (match ρ[j]? with | some (.ls k _) => ρ.set j (.ls k xs) | _ => ρ))[i]? = _
    rw [back_out fun z => h (List.mem_cons_of_mem _ z)]
    have hji : j ≠ i := fun z => h (by rw [← z]; exact List.mem_cons_self)
    split
    · rw [List.getElem?_set_ne hji]
    · rfl
theorem back_in : ∀ {as : List A} {ss : List Sl} {ρ : Ev} {i j : Nat} {k l : Lk} {xs ys : List D}, (refs as).Nodup → as[j]? = some (A.rf i) → ss[j]? = some (.ls l ys) → ρ[i]? = some (.ls k xs) → (putBack as ss ρ)[i]? = some (.ls k ys)
  | [], _, _, _, j, _, _, _, _, _, e, _, _ => by simp at e
  | a :: r, [], _, _, j, _, _, _, _, _, _, e, _ => by simp at e
  | .val d :: r, s :: ss, ρ, i, j, k, l, xs, ys, n, e1, e2, e3 => by
    show (putBack r ss ρ)[i]? = _
    cases j with
    | zero => cases e1
    | succ j => exact back_in n (by simpa using e1) (by simpa using e2) e3
  | .fr d :: r, s :: ss, ρ, i, j, k, l, xs, ys, n, e1, e2, e3 => by
    show (putBack r ss ρ)[i]? = _
    cases j with
    | zero => cases e1
    | succ j => exact back_in n (by simpa using e1) (by simpa using e2) e3
  | .rf i' :: r, .un :: ss, ρ, i, j, k, l, xs, ys, n, e1, e2, e3 => by
    show (putBack r ss ρ)[i]? = _
    cases j with
    | zero => cases e2
    | succ j => exact back_in (List.nodup_cons.mp n).2 (by simpa using e1) (by simpa using e2) e3
  | .rf i' :: r, .fz d :: ss, ρ, i, j, k, l, xs, ys, n, e1, e2, e3 => by
    show (putBack r ss ρ)[i]? = _
    cases j with
    | zero => cases e2
    | succ j => exact back_in (List.nodup_cons.mp n).2 (by simpa using e1) (by simpa using e2) e3
  | .rf i' :: r, .ls k' zs :: ss, ρ, i, j, k, l, xs, ys, n, e1, e2, e3 => by
    show (putBack r ss (match ρ[i']? with | some (.ls k _) => ρ.set i' (.ls k zs) | _ => ρ))[i]? = _
    obtain ⟨n1, n2⟩ := List.nodup_cons.mp n
    cases j with
    | zero =>
      cases e1
      cases e2
      rw [back_out n1, e3]
      exact List.getElem?_set_self (List.getElem?_eq_some_iff.mp e3).1
    | succ j =>
      have e1' : r[j]? = some (.rf i) := by simpa using e1
      refine back_in n2 e1' (by simpa using e2) (xs := xs) ?_
      have : i' ≠ i := fun z => n1 (z ▸ refs_mem.mpr ⟨j, e1'⟩)
      split
      · rw [List.getElem?_set_ne this]; exact e3
      · exact e3
end
section
variable {K : PySem.W.Frag} {Φ : Calls} {S S1 : Addr → Prop} {ρ ρ1 ρ2 : Ev} {σ : St} {H H1 : Hp}
/-- THE CALL: from the arguments' values the promise's premise; and back -/
theorem At.callC {QS : (Addr → Prop) → VK} {f : Nat} {perm : List Nat} {as : List A} {vs : List V} {r : R} (at1 : At K S ρ σ H S1 ρ1 H1) (ra : Ras K S1 H ρ1 σ H1 vs as) (e : callM Φ f perm as ρ1 = .ok r ρ2)
    (hQ : ∀ S' v H', Go S ρ σ H S' ρ2 σ H' → Rel K S' ρ2 σ H' → Rv K S' H ρ2 σ H' v r → QS S' v H') : ∃ zs bs ss ss', pick perm vs = some zs ∧ pick perm as = some bs ∧ slotsOf ρ1 bs = some ss ∧
      Rel K S1 ss (zs.map some) H1 ∧ Φ f ss = some (r, ss') ∧ (∀ (i : Nat) (k : Lk) (xs : List D), ss[i]? = some (Sl.ls k xs) → k.isB = true) ∧
      ∀ S' v H', Go S1 ss (zs.map some) H1 S' ss' (zs.map some) H' → Rel K S' ss' (zs.map some) H' → Rn K S' H1 H' v r → QS S' v H' := by
  unfold callM at e
  cases ep : pick perm as with
  | none => simp only [ep] at e; cases e
  | some bs =>
    simp only [ep] at e
    split at e
    · rename_i hz
      obtain ⟨hn, hf⟩ := hz
      cases es : slotsOf ρ1 bs with
      | none => simp only [es] at e; cases e
      | some ss =>
        simp only [es] at e
        cases eΦ : Φ f ss with
        | none => simp only [eΦ] at e; cases e
        | some rr =>
          obtain ⟨r0, ss'⟩ := rr
          simp only [eΦ] at e
          cases e
          obtain ⟨zs, ez, rz⟩ := ra.pick ep
          refine ⟨zs, bs, ss, ss', ez, rfl, es, ?_, eΦ, ?_, ?_⟩
          · -- the arguments stand
            have atZ : ∀ (i : Nat) (s : Sl), ss[i]? = some s → ∃ a v, bs[i]? = some a ∧ zs[i]? = some v ∧ slotOf ρ1 a = some s ∧ Ra K S1 H ρ1 σ H1 v a := fun i s e => by
              have hi : i < bs.length := by rw [← slots_len es]; exact (List.getElem?_eq_some_iff.mp e).1
              obtain ⟨s', e1, e2⟩ := slots_at es (List.getElem?_eq_getElem hi)
              rw [e] at e1; cases e1
              obtain ⟨v, e3, h3⟩ := rz.get (List.getElem?_eq_getElem hi)
              exact ⟨_, v, List.getElem?_eq_getElem hi, e3, e2, h3⟩
            refine ⟨by rw [List.length_map, rz.length, slots_len es], fun i s ov e1 e2 => ?_, fun i j k l xs ys a e1 e2 e3 e4 => ?_, at1.rel.dom, at1.rel.tb⟩
            · obtain ⟨b, v, eb, ev, hs, hv⟩ := atZ i s e1
              rw [List.getElem?_map, ev] at e2
              cases e2
              cases b with
              | val d => cases hs; exact ⟨v, rfl, hv⟩
              | fr xs =>
                cases hs
                obtain ⟨p, ws, ep, h0, h1, h2, h3, h4⟩ := hv
                subst ep
                exact .mkL (by decide) rfl h1 h2 h4
              | rf l =>
                obtain ⟨k, k', xs, el, rfl, nl, bk⟩ := slotOf_rf hs
                obtain ⟨ov, q1, p, q2, q3, q4⟩ := at1.rel.at el
                have hv : σ[l]? = some (some v) := hv
                rw [hv] at q1
                cases q1
                exact ⟨p, q2, q3, bk.hold.mp q4⟩
            · obtain ⟨b, v, eb, ev, hs, hv⟩ := atZ i _ e1
              obtain ⟨b2, v2, eb2, ev2, hs2, hv2⟩ := atZ j _ e2
              rw [List.getElem?_map, ev] at e3
              rw [List.getElem?_map, ev2] at e4
              cases e3
              cases e4
              cases b with
              | val d => cases hs
              | fr xs' =>
                obtain ⟨p, ws, ep, h0, h1, h2, h3, h4⟩ := hv
                cases ep
                cases b2 with
                | val d => cases hs2
                | fr ys' => exact frs_inj hf eb eb2
                | rf l' =>
                  obtain ⟨k', _, xs'', el, _, _⟩ := slotOf_rf hs2
                  exact absurd ⟨l', k', xs'', el, hv2⟩ h3
              | rf l =>
                obtain ⟨k', _, xs'', el, _, _⟩ := slotOf_rf hs
                cases b2 with
                | val d => cases hs2
                | fr ys' =>
                  obtain ⟨p, ws, ep, h0, h1, h2, h3, h4⟩ := hv2
                  cases ep
                  exact absurd ⟨l, k', xs'', el, hv⟩ h3
                | rf l' =>
                  obtain ⟨k3, _, xs3, el3, _, _⟩ := slotOf_rf hs2
                  have := at1.rel.inj l l' _ _ _ _ _ el el3 hv hv2
                  subst this
                  exact refs_inj hn eb eb2
          · intro i k xs e1
            have hi : i < bs.length := by rw [← slots_len es]; exact (List.getElem?_eq_some_iff.mp e1).1
            obtain ⟨s', e2, e3⟩ := slots_at es (List.getElem?_eq_getElem hi)
            rw [e1] at e2; cases e2
            cases q : bs[i] with
            | val d => rw [q] at e3; cases e3
            | fr d => rw [q] at e3; cases e3; rfl
            | rf l =>
              rw [q] at e3
              obtain ⟨_, _, _, _, z, _, bk⟩ := slotOf_rf e3
              cases z
              exact bk.b
          · intro S' v H' g rel' rn
            -- facts of the callee's slots
            have hcal : ∀ a, Own ss (zs.map some) a → (∃ i k xs, i ∈ refs bs ∧ ρ1[i]? = some (.ls k xs) ∧ σ[i]? = some (some (V.ref a)) ∧ k ≠ .lck) ∨ (H a = none ∧ ¬ Own ρ1 σ a) := fun a ⟨j, k, xs, e1, e2⟩ => by
              have hi : j < bs.length := by rw [← slots_len es]; exact (List.getElem?_eq_some_iff.mp e1).1
              obtain ⟨s', e3, e4⟩ := slots_at es (List.getElem?_eq_getElem hi)
              rw [e1] at e3; cases e3
              obtain ⟨v', e5, h5⟩ := rz.get (List.getElem?_eq_getElem hi)
              rw [List.getElem?_map, e5] at e2
              cases e2
              cases q : bs[j] with
              | val d => rw [q] at e4; cases e4
              | fr d =>
                rw [q] at h5
                obtain ⟨p, ws, ep, h0, h1, h2, h3, h4⟩ := h5
                cases ep
                exact .inr ⟨h0, h3⟩
              | rf l =>
                rw [q] at h5 e4
                obtain ⟨k', _, xs', el, _, nl, _⟩ := slotOf_rf e4
                exact .inl ⟨l, k', xs', refs_mem.mpr ⟨j, by rw [← q]; exact List.getElem?_eq_getElem hi⟩, el, h5, nl⟩
            have hbor : ∀ (j : Nat) (k : Lk) (xs : List D), ss[j]? = some (.ls k xs) → ∃ ys, ss'[j]? = some (.ls k ys) := fun j k xs e1 => by
              have hk : k.isB = true := by
                have hi : j < bs.length := by rw [← slots_len es]; exact (List.getElem?_eq_some_iff.mp e1).1
                obtain ⟨s', e2, e3⟩ := slots_at es (List.getElem?_eq_getElem hi)
                rw [e1] at e2; cases e2
                cases q : bs[j] with
                | val d => rw [q] at e3; cases e3
                | fr d => rw [q] at e3; cases e3; rfl
                | rf l =>
                  rw [q] at e3
                  obtain ⟨_, _, _, _, z, _, bk⟩ := slotOf_rf e3
                  cases z
                  exact bk.b
              obtain ⟨ys, e2, _, _⟩ := g.fix j k xs e1 (Lk.isB_fx hk)
              exact ⟨ys, e2⟩
            have nS' : ∀ a, Own ss (zs.map some) a → ¬ S' a := fun a ⟨j, k, xs, e1, e2⟩ => by
              obtain ⟨ys, e3⟩ := hbor j k xs e1
              exact rel'.own_ns ⟨j, k, ys, e3, e2⟩
            have nC : ∀ a, H1 a ≠ none → S' a → S1 a := fun a n h => by
              rcases g.new a h with q | q | q
              · exact q
              · exact absurd q n
              · exact absurd h (nS' a q)
            have relC : Rel K S1 ss (zs.map some) H1 → True := fun _ => trivial
            have noC : ∀ a, S1 a → ¬ Own ss (zs.map some) a := fun a h q => by
              rcases hcal a q with ⟨i, k, xs, _, e1, e2, _⟩ | ⟨h0, h1⟩
              · exact at1.rel.own_ns ⟨i, k, xs, e1, e2⟩ h
              · exact nS' a q (g.sub a h)
            have ke : Ke S1 H1 S' H' := ⟨g.sub, fun a o h e1 nt => g.keep a o e1 (noC a h) nt⟩
            -- the caller's slots
            have inv : ∀ (i : Nat) (k : Lk) (xs : List D), (putBack bs ss' ρ1)[i]? = some (.ls k xs) → ∃ ys, ρ1[i]? = some (.ls k ys) := fun i k xs e1 => by
              by_cases hi : i ∈ refs bs
              · obtain ⟨j, ej⟩ := refs_mem.mp hi
                obtain ⟨s, e2, e3⟩ := slots_at es ej
                obtain ⟨k', _, zs', e4, rfl, _⟩ := slotOf_rf e3
                obtain ⟨ys, e5⟩ := hbor j _ _ e2
                rw [back_in hn ej e5 e4] at e1
                cases e1
                exact ⟨zs', e4⟩
              · rw [back_out hi] at e1
                exact ⟨xs, e1⟩
            have fwd : ∀ (i : Nat) (k : Lk) (xs : List D), ρ1[i]? = some (.ls k xs) → ∃ ys, (putBack bs ss' ρ1)[i]? = some (.ls k ys) ∧ (k = .lck → ys = xs) := fun i k xs e1 => by
              by_cases hi : i ∈ refs bs
              · obtain ⟨j, ej⟩ := refs_mem.mp hi
                obtain ⟨s, e2, e3⟩ := slots_at es ej
                obtain ⟨k', _, zs', e4, rfl, nl, _⟩ := slotOf_rf e3
                obtain ⟨ys, e5⟩ := hbor j _ _ e2
                rw [e1] at e4
                cases e4
                exact ⟨ys, back_in hn ej e5 e1, fun z => absurd z nl⟩
              · exact ⟨xs, by rw [back_out hi]; exact e1, fun _ => rfl⟩
            have own : ∀ a, Own (putBack bs ss' ρ1) σ a → Own ρ1 σ a := fun a ⟨i, k, xs, e1, e2⟩ => let ⟨ys, e3⟩ := inv i k xs e1; ⟨i, k, ys, e3, e2⟩
            have go2 : Go S ρ σ H S' (putBack bs ss' ρ1) σ H' := ⟨fun a h => g.sub a (at1.go.sub a h), fun a h => ?_, fun a h => at1.go.own a (own a h), fun a o e1 n nt => ?_, fun a h => at1.go.stay a (g.stay a h), fun i k xs e1 n => ?_⟩
            · refine hQ S' v H' go2 ⟨by rw [back_len]; exact at1.rel.len, fun i s ov e1 e2 => ?_, fun i j k l xs ys a e1 e2 e3 e4 => ?_, rel'.dom, rel'.tb⟩ ?_
              · by_cases hi : i ∈ refs bs
                · obtain ⟨j, ej⟩ := refs_mem.mp hi
                  obtain ⟨s2, e3, e4⟩ := slots_at es ej
                  obtain ⟨k', _, zs', e5, rfl, nl4, bk⟩ := slotOf_rf e4
                  obtain ⟨ys, e6⟩ := hbor j _ _ e3
                  rw [back_in hn ej e6 e5] at e1
                  cases e1
                  obtain ⟨v', e7, h7⟩ := rz.get ej
                  have h7 : σ[i]? = some (some v') := h7
                  rw [h7] at e2
                  cases e2
                  obtain ⟨ov, q1, p, q2, q3, q4⟩ := rel'.at e6
                  rw [List.getElem?_map, e7] at q1
                  cases q1
                  exact ⟨p, q2, q3, bk.hold.mpr q4⟩
                · rw [back_out hi] at e1
                  have w := at1.rel.ok i s ov e1 e2
                  cases s with
                  | un => trivial
                  | fz d => obtain ⟨z, ez, hz⟩ := w; exact ⟨z, ez, hz.mono ke⟩
                  | ls k xs =>
                    obtain ⟨p, ep, h2, h1⟩ := w
                    subst ep
                    have no : ¬ Own ss (zs.map some) p := fun q => by
                      rcases hcal p q with ⟨i', k', xs', hm, q1, q2, _⟩ | ⟨_, q2⟩
                      · have := at1.rel.inj i i' k k' xs xs' p e1 q1 e2 q2
                        exact hi (this ▸ hm)
                      · exact q2 ⟨i, k, xs, e1, e2⟩
                    exact ⟨p, rfl, fun z => h2 (nC p (hold_some h1) z), hold_mono h1 (fun o h nt => g.keep p o h no nt) ke⟩
              · obtain ⟨ys1, q1⟩ := inv i k xs e1
                obtain ⟨ys2, q2⟩ := inv j l ys e2
                exact at1.rel.inj i j k l _ _ a q1 q2 e3 e4
              · cases r with
                | fz d => exact rn
                | rf _ => exact rn.elim
                | fr xs =>
                  obtain ⟨p, ws, ep, h0, h1, h2, h3⟩ := rn
                  refine ⟨p, ws, ep, at1.go.stay p h0, h1, h2, fun q => ?_, h3⟩
                  obtain ⟨us, eu⟩ := at1.rel.own_lst (own p q)
                  rw [eu] at h0
                  cases h0
            · rcases g.new a h with q | q | q
              · exact at1.go.new a q
              · exact .inr (.inl (at1.go.stay a q))
              · exact absurd h (nS' a q)
            · have n1 : ¬ Own ρ1 σ a := fun q => (at1.go.own a q).elim (fun z => by rw [z] at e1; cases e1) n
              refine g.keep a o (at1.go.keep a o e1 n nt) (nt := nt) fun q => ?_
              rcases hcal a q with ⟨i, k, xs, _, q1, q2, _⟩ | ⟨q1, _⟩
              · exact n1 ⟨i, k, xs, q1, q2⟩
              · rw [q1] at e1; cases e1
            · obtain ⟨ys, q1, q2, q3⟩ := at1.go.fix i k xs e1 n
              obtain ⟨zs', q4, q5⟩ := fwd i k ys q1
              exact ⟨zs', q4, q2, fun z => (q5 z).trans (q3 z)⟩
    · cases e
theorem At.call {Q : VK} {f : Nat} {perm : List Nat} {as : List A} {vs : List V} {r : R} (at1 : At K S ρ σ H S1 ρ1 H1) (ra : Ras K S1 H ρ1 σ H1 vs as) (e : callM Φ f perm as ρ1 = .ok r ρ2)
    (hQ : ∀ S' v H', Go S ρ σ H S' ρ2 σ H' → Rel K S' ρ2 σ H' → Rv K S' H ρ2 σ H' v r → Q v H') : ∃ zs, pick perm vs = some zs ∧ spD K Φ f zs H1 Q E0 := by
  obtain ⟨zs, bs, ss, ss', ez, _, _, rel, eΦ, hb, q⟩ := At.callC (QS := fun _ => Q) at1 ra e hQ
  exact ⟨zs, ez, S1, ss, r, ss', rel, eΦ, hb, q⟩
end
end DL
end
section
set_option autoImplicit false
namespace DL
open PySem L2
variable [LTabs]
section
variable {X : Cx} {Φ : Calls} {a b c : Expr} {es : List Expr} {pos : Pos} {ia ib ic : E} {ies iks : As} {kws : List Keyword}
theorem args_nil_read {σ : St} {H : Hp} {Q : List V → Hp → Prop} (q : tAs X.K (evas Φ .nil) σ H Q) : Q [] H := by
  obtain ⟨S, ρ, r, ρ', rel, e, q⟩ := q
  simp only [evas] at e
  obtain ⟨q1, q2⟩ := ret_eq e
  subst q1 q2
  exact q S [] H .refl rel .nil
/-- two parts of an argument list -/
theorem Ras.step {K : PySem.W.Frag} {S S' : Addr → Prop} {H₀ H H' : Hp} {ρ ρ' : Ev} {σ : St} (rel : Rel K S ρ σ H) (g : Go S ρ σ H S' ρ' σ H') : ∀ {vs : List V} {rs : List A}, Ras K S H₀ ρ σ H vs rs → Ras K S' H₀ ρ' σ H' vs rs
  | _, _, .nil => .nil
  | _, _, .cons h r => .cons (h.go rel g) (r.step rel g)
theorem Ras.append {K : PySem.W.Frag} {S : Addr → Prop} {H₀ H : Hp} {ρ : Ev} {σ : St} : ∀ {vs us : List V} {rs ts : List A}, Ras K S H₀ ρ σ H vs rs → Ras K S H₀ ρ σ H us ts → Ras K S H₀ ρ σ H (vs ++ us) (rs ++ ts)
  | _, _, _, _, .nil, s => s
  | _, _, _, _, .cons h r, s => .cons h (r.append s)
theorem val_read {te : TE} {tr : TA} {σ : St} {H : Hp} {Q : List V → Hp → Prop} (q : tAs X.K (evas Φ (.val ia ies)) σ H Q) (h1 : te = tD X.K (ev Φ ia)) (h2 : tr = tAs X.K (evas Φ ies)) : tCons te tr σ H Q := by
  subst h1 h2
  obtain ⟨S, ρ, r, ρ', rel, e, q⟩ := q
  simp only [evas] at e
  obtain ⟨x, ρ1, e1, h1⟩ := bnd_eq e
  obtain ⟨d, ρ2, e2, h2⟩ := bnd_eq h1
  obtain ⟨ds, ρ3, e3, h3⟩ := bnd_eq h2
  obtain ⟨q1, q2⟩ := ret_eq h3
  subst q1 q2
  refine ⟨S, ρ, x, ρ1, rel, e1, fun S1 v H1 g1 rel1 r1 => ?_⟩
  obtain ⟨S2, at2, rp, _⟩ := At.share ⟨g1, rel1⟩ r1 e2
  exact ⟨S2, ρ2, ds, _, at2.rel, e3, fun S3 vs H3 g3 rel3 r3 => q S3 _ H3 (at2.go.trans g3) rel3 (.cons (show Ra X.K S3 H _ σ H3 v (.val d) from rp.mono (g3.ke at2.rel)) (r3.base at2.go.stay))⟩
theorem ref_read {te : TE} {tr : TA} {σ : St} {H : Hp} {Q : List V → Hp → Prop} (q : tAs X.K (evas Φ (.ref ia ies)) σ H Q) (h1 : te = tD X.K (ev Φ ia)) (h2 : tr = tAs X.K (evas Φ ies)) : tCons te tr σ H Q := by
  subst h1 h2
  obtain ⟨S, ρ, r, ρ', rel, e, q⟩ := q
  simp only [evas] at e
  obtain ⟨x, ρ1, e1, h1⟩ := bnd_eq e
  obtain ⟨d, e2, h2⟩ := ofO_split h1
  obtain ⟨ds, ρ3, e3, h3⟩ := bnd_eq h2
  obtain ⟨q1, q2⟩ := ret_eq h3
  subst q1 q2
  refine ⟨S, ρ, x, ρ1, rel, e1, fun S1 v H1 g1 rel1 r1 => ?_⟩
  have w : Ra X.K S1 H ρ1 σ H1 v d := by
    cases x with
    | fz _ => cases e2
    | fr _ => cases e2; exact r1
    | rf _ => cases e2; exact r1
  exact ⟨S1, ρ1, ds, _, rel1, e3, fun S3 vs H3 g3 rel3 r3 => q S3 _ H3 (g1.trans g3) rel3 (.cons (w.go rel1 g3) (r3.base g1.stay))⟩
theorem daa_nil : PA X [] (tAs X.K (evas Φ .nil)) := paImp pa_nil fun σ H Q q => args_nil_read q
theorem daa_val (ha : PE X a (tD X.K (ev Φ ia))) (hr : PA X es (tAs X.K (evas Φ ies))) (hs : starEach (a :: es) X.env = (false, eval a X.env) :: starEach es X.env := by rfl) : PA X (a :: es) (tAs X.K (evas Φ (.val ia ies))) :=
  paImp (pa_cons ha hr hs) fun σ H Q q => val_read q rfl rfl
theorem daa_ref (ha : PE X a (tD X.K (ev Φ ia))) (hr : PA X es (tAs X.K (evas Φ ies))) (hs : starEach (a :: es) X.env = (false, eval a X.env) :: starEach es X.env := by rfl) : PA X (a :: es) (tAs X.K (evas Φ (.ref ia ies))) :=
  paImp (pa_cons ha hr hs) fun σ H Q q => ref_read q rfl rfl
theorem evas_len : ∀ {as : As} {ρ ρ' : Ev} {rs : List A}, evas Φ as ρ = .ok rs ρ' → rs.length = as.len
  | .nil, ρ, ρ', rs, e => by simp only [evas] at e; obtain ⟨q1, _⟩ := ret_eq e; subst q1; rfl
  | .val ia r, ρ, ρ', rs, e => by
    simp only [evas] at e
    obtain ⟨x, ρ1, e1, h1⟩ := bnd_eq e
    obtain ⟨d, ρ2, e2, h2⟩ := bnd_eq h1
    obtain ⟨ds, ρ3, e3, h3⟩ := bnd_eq h2
    obtain ⟨q1, _⟩ := ret_eq h3
    subst q1
    exact congrArg (· + 1) (evas_len e3)
  | .ref ia r, ρ, ρ', rs, e => by
    simp only [evas] at e
    obtain ⟨x, ρ1, e1, h1⟩ := bnd_eq e
    obtain ⟨d, e2, h2⟩ := ofO_split h1
    obtain ⟨ds, ρ3, e3, h3⟩ := bnd_eq h2
    obtain ⟨q1, _⟩ := ret_eq h3
    subst q1
    exact congrArg (· + 1) (evas_len e3)
theorem call_read {f : Nat} {perm : List Nat} {n m : Nat} {σ : St} {H : Hp} {Q : VK} (hn : ies.len = n) (hm : iks.len = m) (q : tD X.K (ev Φ (.call f perm ies iks)) σ H Q) : tCallP (spD X.K Φ f) perm n m (tAs X.K (evas Φ ies)) (tAs X.K (evas Φ iks)) σ H Q := by
  obtain ⟨S, ρ, r, ρ', rel, e, q⟩ := q
  simp only [ev] at e
  obtain ⟨as, ρ1, e1, h1⟩ := bnd_eq e
  obtain ⟨ks, ρ2, e2, h2⟩ := bnd_eq h1
  refine ⟨S, ρ, as, ρ1, rel, e1, fun S1 vs H1 g1 rel1 r1 => ⟨S1, ρ1, ks, ρ2, rel1, e2, fun S2 ys H2 g2 rel2 r2 => ⟨by rw [r1.length, evas_len e1]; exact hn, by rw [r2.length, evas_len e2]; exact hm, ?_⟩⟩⟩
  exact At.call ⟨g1.trans g2, rel2⟩ ((r1.step rel1 g2).append (r2.base g1.stay)) h2 q
variable {CX : CXT} {k : Nat} {f : Addr} {fi : Nat} {fd : FuncData} {ps ks : List Str} {x : Str} {p : Pos} {e : Expr} {perm : List Nat} {n : Nat}
theorem de_call (F : FnG X.prog X.w X.K X.mg X.base CX k f fd ps (spD X.K Φ fi)) (hr : Room k X.A) (hgd : Gok X.A) (hm : X.mg x = some (.ref f)) (hk : PySem.W.keepIn X.K (.ref f) = true) (hb : BindP X.K fd ps n [] perm) (hx : Passes CX X E0) (hg : Gl X x) (ha : PA X (e :: es) (tAs X.K (evas Φ ies))) (hn : ies.len = n := by rfl)
    (hdb : (x == ("__debug__" : Str)) = false := by decide) (he : starEach (e :: es) X.env = (false, eval e X.env) :: starEach es X.env := by rfl) (hpl : (PySem.backTo pos (starEach es X.env)).any (·.1) = false := by rfl) :
    PE X (.Call (.Name x p) (e :: es) [] pos) (tD X.K (ev Φ (.call fi perm ies .nil))) :=
  peImp (pe_callG F hr hgd hg hm hk hb hx ha hdb he hpl) fun σ H Q q => by
    obtain ⟨S, ρ, r, ρ', rel, e, q⟩ := call_read (n := n) (m := 0) hn rfl q
    exact ⟨S, ρ, r, ρ', rel, e, fun S' vs H' g rel' r' => args_nil_read (q S' vs H' g rel' r')⟩
end
section
variable {K : PySem.W.Frag} {S S1 : Addr → Prop} {ρ ρ1 ρ2 : Ev} {σ : St} {H H1 : Hp}
theorem putL_eq {i : Nat} {xs : List D} {u : Unit} (h : putL i xs ρ = .ok u ρ1) : ∃ k ys, ρ[i]? = some (.ls k ys) ∧ (k ≠ .lck ∧ k.isL = true) ∧ ρ1 = ρ.set i (.ls k xs) := by
  unfold putL at h
  split at h
  · rename_i ys e; cases h; exact ⟨_, ys, e, by simp, rfl⟩
  · rename_i ys e; cases h; exact ⟨_, ys, e, by simp, rfl⟩
  · cases h
theorem getL_eq {i : Nat} {xs : List D} (h : getL i ρ = .ok xs ρ1) : ρ1 = ρ ∧ ∃ k, k.isL = true ∧ ρ[i]? = some (.ls k xs) := by
  unfold getL at h
  split at h
  · cases h
  · cases h
  · cases h
  · cases h
  · rename_i k ys n1 n0 n2 n3 e
    cases h
    refine ⟨rfl, k, ?_, e⟩
    cases k with
    | own => rfl
    | bor => rfl
    | lck => rfl
    | dic => exact (n1 rfl).elim
    | dit => exact (n0 rfl).elim
    | ins c => exact (n2 c rfl).elim
    | inb c => exact (n3 c rfl).elim
  · cases h
/-- what slot i holds is changed in place: its object o -/
theorem At.putG {i : Nat} {k : Lk} {ys xs : List D} {a : Addr} {oN : HO} (at1 : At K S ρ σ H S1 ρ1 H1) (e : ρ1[i]? = some (.ls k ys)) (nk : k ≠ .lck) (ea : σ[i]? = some (some (V.ref a))) (hs : LTb (upd H1 a oN)) (hv : Ke S1 H1 S1 (upd H1 a oN) → Hold K S1 (upd H1 a oN) a k xs) :
    At K S ρ σ H S1 (ρ1.set i (.ls k xs)) (upd H1 a oN) := by
  have hi : i < ρ1.length := (List.getElem?_eq_some_iff.mp e).1
  have h2 : ¬ S1 a := at1.rel.own_ns ⟨i, k, ys, e, ea⟩
  have na : ∀ b, S1 b → b ≠ a := fun b h z => h2 (z ▸ h)
  have ke : Ke S1 H1 S1 (upd H1 a oN) := ⟨fun _ h => h, fun b o h e _ => by rw [upd_ne (na b h)]; exact e⟩
  have inv : ∀ (j : Nat) (l : Lk) (zs : List D), (ρ1.set i (.ls k xs))[j]? = some (.ls l zs) → ∃ zs', ρ1[j]? = some (.ls l zs') := fun j l zs e1 => by
    by_cases hj : i = j
    · subst hj
      rw [List.getElem?_set_self hi] at e1
      cases e1
      exact ⟨ys, e⟩
    · rw [List.getElem?_set_ne hj] at e1
      exact ⟨zs, e1⟩
  have own : ∀ b, Own (ρ1.set i (.ls k xs)) σ b → Own ρ1 σ b := fun b ⟨j, l, zs, e1, e2⟩ => let ⟨zs', e3⟩ := inv j l zs e1; ⟨j, l, zs', e3, e2⟩
  have oa : Own ρ1 σ a := ⟨i, k, ys, e, ea⟩
  refine ⟨⟨at1.go.sub, at1.go.new, fun b h => at1.go.own b (own b h), fun b o h n nt => ?_, fun b h => ?_, fun j l zs e1 n => ?_⟩, ⟨by rw [List.length_set]; exact at1.rel.len, fun j s ov e1 e2 => ?_, fun j j' l l' zs zs' b e1 e2 e3 e4 => ?_, fun b h => ?_, hs⟩⟩
  · have hb : b ≠ a := fun z => by
      subst z
      exact (at1.go.own b oa).elim (fun z => by rw [z] at h; cases h) n
    rw [upd_ne hb]
    exact at1.go.keep b o h n nt
  · by_cases hb : b = a
    · rw [hb, upd_same] at h; cases h
    · rw [upd_ne hb] at h; exact at1.go.stay b h
  · obtain ⟨ws, q1, q2, q3⟩ := at1.go.fix j l zs e1 n
    by_cases hj : i = j
    · subst hj
      rw [e] at q1
      cases q1
      exact ⟨xs, by rw [List.getElem?_set_self hi], q2, fun z => absurd z nk⟩
    · exact ⟨ws, by rw [List.getElem?_set_ne hj]; exact q1, q2, q3⟩
  · by_cases hj : i = j
    · subst hj
      rw [List.getElem?_set_self hi] at e1
      cases e1
      rw [ea] at e2
      cases e2
      exact ⟨a, rfl, h2, hv ke⟩
    · rw [List.getElem?_set_ne hj] at e1
      have w := at1.rel.ok j s ov e1 e2
      cases s with
      | un => trivial
      | fz d => obtain ⟨z, ez, hz⟩ := w; exact ⟨z, ez, hz.mono ke⟩
      | ls l zs =>
        obtain ⟨b, eb, q2, q1⟩ := w
        subst eb
        have hb : b ≠ a := fun z => hj (at1.rel.inj i j k l ys zs a e e1 ea (z ▸ e2))
        exact ⟨b, rfl, q2, hold_mono q1 (fun o h _ => by rw [upd_ne hb]; exact h) ke⟩
  · obtain ⟨z1, q1⟩ := inv j l zs e1
    obtain ⟨z2, q2⟩ := inv j' l' zs' e2
    exact at1.rel.inj j j' l l' _ _ b q1 q2 e3 e4
  · by_cases hb : b = a
    · rw [hb, upd_same]; simp
    · rw [upd_ne hb]; exact at1.rel.dom b h
/-- the list of slot i gets the items xs; its object vs -/
theorem At.put {i : Nat} {k : Lk} {ys xs : List D} {a : Addr} {vs : List V} (at1 : At K S ρ σ H S1 ρ1 H1) (e : ρ1[i]? = some (.ls k ys)) (nk : k ≠ .lck ∧ k.isL = true) (ea : σ[i]? = some (some (V.ref a))) (hv : Rps K S1 H1 vs xs) :
    At K S ρ σ H S1 (ρ1.set i (.ls k xs)) (upd H1 a (.lst vs)) := by
  obtain ⟨b, us, eb, h1, h2, h4⟩ := at1.rel.atL e nk.2
  rw [ea] at eb; cases eb
  exact at1.putG e nk.1 ea (at1.rel.tb.set h1) fun ke => .inl ⟨nk.2, vs, upd_same, hv.mono ke⟩
end
section
variable {X : Cx} {Φ : Calls} {a b : Expr} {ia ib : E} {apos cpos : Pos}
theorem Rel.ls {K : PySem.W.Frag} {S : Addr → Prop} {ρ : Ev} {σ : St} {H : Hp} {i : Nat} {xs : List D} {ρ1 : Ev} (rel : Rel K S ρ σ H) (e : getL i ρ = .ok xs ρ1) : ρ1 = ρ ∧ ∃ p ws k, σ[i]? = some (some (V.ref p)) ∧ H p = some (.lst ws) ∧ ¬ S p ∧ Rps K S H ws xs ∧ ρ[i]? = some (.ls k xs) := by
  obtain ⟨q, k, nk, e1⟩ := getL_eq e
  obtain ⟨p, ws, e2, h1, h2, h3⟩ := rel.atL e1 nk
  exact ⟨q, p, ws, k, e2, h1, h2, h3, e1⟩
theorem de_app {i : Nat} (ha : PE X a (tVar i)) (hb : PE X b (tD X.K (ev Φ ib)))
    (hbase : attributeBase a "append" X.env (eval a X.env) = eval a X.env := by rfl)
    (h1 : ((((PySem.backTo cpos (starEach [b] X.env)).all fun x => !x.1) && (backToKw cpos (keywordEach [] X.env)).all fun x => x.1.isSome) && decide (([b].length + ([] : List Keyword).length + if ([] : List Keyword).isEmpty = true then 0 else 1) < 30)) = true := by rfl)
    (h2 : (apos.endLine == cpos.line) = true := by rfl) (h3 : starEach [b] X.env = (false, eval b X.env) :: starEach [] X.env := by rfl) (h4 : ((PySem.backTo cpos (starEach [] X.env)).any fun x => x.1) = false := by rfl) :
    PE X (.Call (.Attribute a "append" apos) [b] [] cpos) (tD X.K (ev Φ (.app i ib))) :=
  peImp (pe_bm PySem.F.plainAttrs_list PySem.F.slot_list_append PySem.F.type_list_append mt_append ha (pa_cons hb pa_nil h3) hbase h1 h2 h3 h4) fun σ H Q q => by
    obtain ⟨S, ρ, r, ρ', rel, e, q⟩ := q
    simp only [ev] at e
    obtain ⟨x0, ρ1, e1, k1⟩ := bnd_eq e
    obtain ⟨q0, p, ws, k0, e0, g0, _, _, _⟩ := rel.ls e1
    subst q0
    obtain ⟨y, ρ2, e2, k2⟩ := bnd_eq k1
    obtain ⟨d, ρ3, e3, k3⟩ := bnd_eq k2
    obtain ⟨xs, ρ4, e4, k4⟩ := bnd_eq k3
    obtain ⟨q4, kk, nkk, e4'⟩ := getL_eq e4
    subst q4
    split at k4
    · rename_i hz
      obtain ⟨u, ρ5, e5, k5⟩ := bnd_eq k4
      obtain ⟨l, ys, e6, nk, q5⟩ := putL_eq e5
      subst q5
      obtain ⟨q1, q2⟩ := ret_eq k5
      subst q1 q2
      rw [e4'] at e6
      cases e6
      refine ⟨_, e0, .inl ⟨rfl, ws, .inl (.inl g0)⟩, S, ρ1, y, ρ2, rel, e2, fun S2 u2 H2 g2 rel2 r2 => ?_⟩
      obtain ⟨S3, at3, rp, ke⟩ := At.share ⟨g2, rel2⟩ r2 e3
      obtain ⟨p3, ws3, ep3, h3', _, rr3⟩ := at3.rel.atL e4' nkk
      rw [e0] at ep3
      cases ep3
      have fin := at3.put e4' nk e0 (rr3.append (.cons rp .nil))
      exact ⟨p, ws3, u2, rfl, rfl, h3', by rw [rr3.length]; exact hz, q S3 _ _ fin.go fin.rel .non⟩
    · cases k4
end
end DL
end
section
set_option autoImplicit false
namespace DL
open PySem L2
variable [LTabs]
section
variable {K : PySem.W.Frag} {S S1 : Addr → Prop} {ρ ρ1 ρ2 : Ev} {σ : St} {H H1 : Hp}
/-- a slot that may be written -/
def Wr (ρ : Ev) (i : Nat) : Prop := ∃ s, ρ[i]? = some s ∧ ∀ k xs, s = .ls k xs → k.fx = false
theorem setD_eq {i : Nat} {d : D} {u : Unit} (h : setD i d ρ = .ok u ρ1) : Wr ρ i ∧ ρ1 = ρ.set i (.fz d) := by
  unfold setD at h
  split at h
  · rename_i e; cases h; exact ⟨⟨_, e, fun k xs z => (nomatch z)⟩, rfl⟩
  · rename_i e; cases h; exact ⟨⟨_, e, fun k xs z => (nomatch z)⟩, rfl⟩
  · rename_i e; cases h; exact ⟨⟨_, e, fun k xs z => by cases z; rfl⟩, rfl⟩
  · rename_i e; cases h; exact ⟨⟨_, e, fun k xs z => by cases z; rfl⟩, rfl⟩
  · cases h
theorem setL_eq {i : Nat} {d : List D} {u : Unit} (h : setL i d ρ = .ok u ρ1) : Wr ρ i ∧ ρ1 = ρ.set i (.ls .own d) := by
  unfold setL at h
  split at h
  · rename_i e; cases h; exact ⟨⟨_, e, fun k xs z => (nomatch z)⟩, rfl⟩
  · rename_i e; cases h; exact ⟨⟨_, e, fun k xs z => (nomatch z)⟩, rfl⟩
  · rename_i e; cases h; exact ⟨⟨_, e, fun k xs z => by cases z; rfl⟩, rfl⟩
  · rename_i e; cases h; exact ⟨⟨_, e, fun k xs z => by cases z; rfl⟩, rfl⟩
  · cases h
/-- the state, the slots turning too -/
structure Ac (K : PySem.W.Frag) (S : Addr → Prop) (ρ : Ev) (σ : St) (H : Hp) (S1 : Addr → Prop) (ρ1 : Ev) (σ1 : St) (H1 : Hp) : Prop where
  go : Go S ρ σ H S1 ρ1 σ1 H1
  rel : Rel K S1 ρ1 σ1 H1
theorem Ac.start (r : Rel K S ρ σ H) : Ac K S ρ σ H S ρ σ H := ⟨.refl, r⟩
theorem At.ac (a : At K S ρ σ H S1 ρ1 H1) : Ac K S ρ σ H S1 ρ1 σ H1 := ⟨a.go, a.rel⟩
variable {σ1 σ2 : St} {S2 : Addr → Prop} {H2 : Hp}
theorem Ac.trans (a : Ac K S ρ σ H S1 ρ1 σ1 H1) (b : Ac K S1 ρ1 σ1 H1 S2 ρ2 σ2 H2) : Ac K S ρ σ H S2 ρ2 σ2 H2 := ⟨a.go.trans b.go, b.rel⟩
/-- a name gets frozen data -/
theorem Ac.setD {i : Nat} {d : D} {v : V} (at1 : Ac K S ρ σ H S1 ρ1 σ1 H1) (w : Wr ρ1 i) (r : Rp K S1 H1 v d) : Ac K S ρ σ H S1 (ρ1.set i (.fz d)) (σ1.set i (some v)) H1 := by
  obtain ⟨s, es, hs⟩ := w
  have hi : i < ρ1.length := (List.getElem?_eq_some_iff.mp es).1
  have hj : i < σ1.length := by rw [← at1.rel.len]; exact hi
  have inv : ∀ (j : Nat) (k : Lk) (xs : List D) (a : Addr), (ρ1.set i (.fz d))[j]? = some (.ls k xs) → (σ1.set i (some v))[j]? = some (some (V.ref a)) → i ≠ j ∧ ρ1[j]? = some (.ls k xs) ∧ σ1[j]? = some (some (V.ref a)) := fun j k xs a e1 e2 => by
    by_cases h : i = j
    · subst h
      rw [List.getElem?_set_self hi] at e1
      cases e1
    · rw [List.getElem?_set_ne h] at e1 e2
      exact ⟨h, e1, e2⟩
  have own : ∀ a, Own (ρ1.set i (.fz d)) (σ1.set i (some v)) a → Own ρ1 σ1 a := fun a ⟨j, k, xs, e1, e2⟩ => let ⟨_, q1, q2⟩ := inv j k xs a e1 e2; ⟨j, k, xs, q1, q2⟩
  refine ⟨⟨at1.go.sub, at1.go.new, fun a h => at1.go.own a (own a h), at1.go.kp, at1.go.stay, fun j k xs e1 n => ?_⟩, ⟨by rw [List.length_set, List.length_set]; exact at1.rel.len, fun j s' ov e1 e2 => ?_, fun j l k k' xs ys a e1 e2 e3 e4 => ?_, at1.rel.dom, at1.rel.tb⟩⟩
  · obtain ⟨ys, q1, q2, q3⟩ := at1.go.fix j k xs e1 n
    have h : i ≠ j := fun z => by rw [← z, es] at q1; cases q1; rw [hs _ _ rfl] at n; cases n
    exact ⟨ys, by rw [List.getElem?_set_ne h]; exact q1, fun z => by rw [List.getElem?_set_ne h]; exact q2 z, q3⟩
  · by_cases h : i = j
    · subst h
      rw [List.getElem?_set_self hi] at e1
      rw [List.getElem?_set_self hj] at e2
      cases e1
      cases e2
      exact ⟨v, rfl, r⟩
    · rw [List.getElem?_set_ne h] at e1 e2
      exact at1.rel.ok j s' ov e1 e2
  · obtain ⟨_, q1, q2⟩ := inv j k xs a e1 e3
    obtain ⟨_, q3, q4⟩ := inv l k' ys a e2 e4
    exact at1.rel.inj j l k k' xs ys a q1 q3 q2 q4
/-- a name gets a fresh thing -/
theorem Ac.setH {i : Nat} {kN : Lk} {xs : List D} {p : Addr} (at1 : Ac K S ρ σ H S1 ρ1 σ1 H1) (w : ∃ s, ρ1[i]? = some s ∧ ∀ k xs, s = .ls k xs → k.fx = false ∨ (k = kN ∧ kN.isI = true)) (h0 : H p = none) (h2 : ¬ S1 p) (h3 : ¬ Own ρ1 σ1 p) (hh : Hold K S1 H1 p kN xs) : Ac K S ρ σ H S1 (ρ1.set i (.ls kN xs)) (σ1.set i (some (V.ref p))) H1 := by
  obtain ⟨s, es, hs⟩ := w
  have hi : i < ρ1.length := (List.getElem?_eq_some_iff.mp es).1
  have hj : i < σ1.length := by rw [← at1.rel.len]; exact hi
  have inv : ∀ (j : Nat) (k : Lk) (ys : List D) (a : Addr), (ρ1.set i (.ls kN xs))[j]? = some (.ls k ys) → (σ1.set i (some (V.ref p)))[j]? = some (some (V.ref a)) → (i = j ∧ a = p) ∨ (i ≠ j ∧ ρ1[j]? = some (.ls k ys) ∧ σ1[j]? = some (some (V.ref a))) := fun j k ys a e1 e2 => by
    by_cases h : i = j
    · subst h
      rw [List.getElem?_set_self hj] at e2
      cases e2
      exact .inl ⟨rfl, rfl⟩
    · rw [List.getElem?_set_ne h] at e1 e2
      exact .inr ⟨h, e1, e2⟩
  refine ⟨⟨at1.go.sub, at1.go.new, fun a ⟨j, k, ys, e1, e2⟩ => ?_, at1.go.kp, at1.go.stay, fun j k xs e1 n => ?_⟩, ⟨by rw [List.length_set, List.length_set]; exact at1.rel.len, fun j s' ov e1 e2 => ?_, fun j l k k' xs ys a e1 e2 e3 e4 => ?_, at1.rel.dom, at1.rel.tb⟩⟩
  · rcases inv j k ys a e1 e2 with ⟨_, rfl⟩ | ⟨_, q1, q2⟩
    · exact .inl h0
    · exact at1.go.own a ⟨j, k, ys, q1, q2⟩
  · obtain ⟨ys, q1, q2, q3⟩ := at1.go.fix j k xs e1 n
    by_cases h : i = j
    · subst h
      rw [es] at q1
      cases q1
      rcases hs _ _ rfl with hf | ⟨rfl, hI⟩
      · rw [hf] at n; cases n
      · refine ⟨_, List.getElem?_set_self hi, fun z => ?_, fun z => ?_⟩
        · rw [hI] at z; cases z
        · rw [z] at hI; cases hI
    · exact ⟨ys, by rw [List.getElem?_set_ne h]; exact q1, fun z => by rw [List.getElem?_set_ne h]; exact q2 z, q3⟩
  · by_cases h : i = j
    · subst h
      rw [List.getElem?_set_self hi] at e1
      rw [List.getElem?_set_self hj] at e2
      cases e1
      cases e2
      exact ⟨p, rfl, h2, hh⟩
    · rw [List.getElem?_set_ne h] at e1 e2
      exact at1.rel.ok j s' ov e1 e2
  · rcases inv j k xs a e1 e3 with ⟨z1, z2⟩ | ⟨n1, q1, q2⟩
    · rcases inv l k' ys a e2 e4 with ⟨z3, _⟩ | ⟨n3, q3, q4⟩
      · exact z1.symm.trans z3
      · subst z2
        exact absurd ⟨l, k', ys, q3, q4⟩ h3
    · rcases inv l k' ys a e2 e4 with ⟨z3, z4⟩ | ⟨n3, q3, q4⟩
      · subst z4
        exact absurd ⟨j, k, xs, q1, q2⟩ h3
      · exact at1.rel.inj j l k k' xs ys a q1 q3 q2 q4
/-- a name gets a fresh list -/
theorem Ac.setL {i : Nat} {xs : List D} {v : V} (at1 : Ac K S ρ σ H S1 ρ1 σ1 H1) (w : Wr ρ1 i) (r : Rv K S1 H ρ1 σ1 H1 v (.fr xs)) : Ac K S ρ σ H S1 (ρ1.set i (.ls .own xs)) (σ1.set i (some v)) H1 := by
  obtain ⟨p, vs, ev, h0, h1, h2, h3, h4⟩ := r
  subst ev
  exact at1.setH (let ⟨s, q1, q2⟩ := w; ⟨s, q1, fun k xs z => .inl (q2 k xs z)⟩) h0 h2 h3 (.inl ⟨rfl, vs, h1, h4⟩)
/-- sharing, with slots that have turned -/
theorem Ac.share {v : V} {x : R} {d : D} (a : Ac K S ρ σ H S1 ρ1 σ1 H1) (r : Rv K S1 H ρ1 σ1 H1 v x) (e : DL.share x ρ1 = .ok d ρ2) : ∃ S2, Ac K S ρ σ H S2 ρ2 σ1 H1 ∧ Rp K S2 H1 v d ∧ Ke S1 H1 S2 H1 := by
  -- the part from the last state on, over the heap at the start for what is new
  cases x with
  | fz d' =>
    obtain ⟨q1, q2⟩ := ret_eq e
    subst q1 q2
    exact ⟨S1, a, r, fun _ h => h, fun _ _ _ h _ => h⟩
  | fr xs =>
    obtain ⟨q1, q2⟩ := ret_eq e
    subst q1 q2
    obtain ⟨p, vs, ev, h0, h1, h2, h3, h4⟩ := r
    have ke : Ke S1 H1 (fun z => S1 z ∨ z = p) H1 := ⟨fun _ h => .inl h, fun _ _ _ h _ => h⟩
    refine ⟨fun z => S1 z ∨ z = p, ⟨⟨fun z h => .inl (a.go.sub z h), fun z h => ?_, a.go.own, a.go.kp, a.go.stay, a.go.fix⟩, ⟨a.rel.len, fun i s ov e1 e2 => ?_, a.rel.inj, fun z h => ?_, a.rel.tb⟩⟩, ?_, ke⟩
    · rcases h with h | h
      · exact a.go.new z h
      · rw [h]; exact .inr (.inl h0)
    · have q := a.rel.ok i s ov e1 e2
      cases s with
      | un => trivial
      | fz d => obtain ⟨w, ew, hw⟩ := q; exact ⟨w, ew, hw.mono ke⟩
      | ls k ys =>
        obtain ⟨b, eb, nb, hb⟩ := q
        subst eb
        exact ⟨b, rfl, fun z => z.elim nb fun z => h3 (z ▸ ⟨i, k, ys, e1, e2⟩), hold_mono hb (fun _ h _ => h) ke⟩
    · rcases h with h | h
      · exact a.rel.dom z h
      · rw [h, h1]; simp
    · rw [ev]
      exact .lst ⟨.inr rfl, h1⟩ (h4.mono ke)
  | rf i =>
    -- the slot's own step
    obtain ⟨S2, at2, rp, ke⟩ := At.share (At.start a.rel) (x := .rf i) r e
    exact ⟨S2, a.trans at2.ac, rp, ke⟩
end
/-- only these slots have turned -/
def Sw (sl : List Nat) (σ σ' : St) : Prop := σ'.length = σ.length ∧ ∀ j, j ∉ sl → σ'[j]? = σ[j]?
/-- a target that gets frozen data -/
def gD (K : PySem.W.Frag) (sl : List Nat) (m : D → M Unit) : TG := fun v σ H Q => ∃ S ρ d ρ', Rel K S ρ σ H ∧ Rp K S H v d ∧ m d ρ = .ok () ρ' ∧
  ∀ S' σ' H', Ac K S ρ σ H S' ρ' σ' H' → Sw sl σ σ' → Q σ' H'
def gDs (K : PySem.W.Frag) (sl : List Nat) (m : List D → M Unit) : TGs := fun vs σ H Q => ∃ S ρ ds ρ', Rel K S ρ σ H ∧ Rps K S H vs ds ∧ m ds ρ = .ok () ρ' ∧
  ∀ S' σ' H', Ac K S ρ σ H S' ρ' σ' H' → Sw sl σ σ' → Q σ' H'
theorem pgImp {X : Cx} {e : Expr} {t t' : TG} (h : PG X e t) (i : ∀ v σ H Q, t' v σ H Q → t v σ H Q) : PG X e t' := ⟨fun pins s σ H v u Q I r q => h.run pins s σ H v u Q I r (i _ _ _ _ q)⟩
theorem pgsImp {X : Cx} {e : List Expr} {t t' : TGs} (h : PGs X e t) (i : ∀ v σ H Q, t' v σ H Q → t v σ H Q) : PGs X e t' := ⟨fun pins s σ H v u Q I r q => h.run pins s σ H v u Q I r (i _ _ _ _ q)⟩
section
variable {X : Cx} {Φ : Calls} {a b : Expr} {es : List Expr} {pos : Pos} {ib : E} {tg : Tg} {tgs : Tgs}
theorem dg_nm {i : Nat} {e : Expr} (h : PG X e (gName i)) : PG X e (gD X.K (Tg.nm i).slots (asgn Φ (.nm i))) := pgImp h fun v σ H Q q => by
  obtain ⟨S, ρ, d, ρ', rel, r, e, q⟩ := q
  simp only [asgn] at e
  obtain ⟨w, q1⟩ := setD_eq e
  subst q1
  refine q S _ H ((Ac.start rel).setD w r) ⟨List.length_set, fun j hj => ?_⟩
  have : i ≠ j := fun z => hj (by rw [z]; exact List.mem_singleton.mpr rfl)
  rw [List.getElem?_set_ne this]
theorem dg_sub {i : Nat} (ha : PE X a (tVar i)) (hb : PE X b (tD X.K (ev Φ ib)))
    (hp : ∀ (v : Value), assign (.Subscript a b pos) X.env v = (do
      let ov ← holding [v] (eval a X.env)
      let iv ← holding [v, ov] (eval b X.env)
      standAt pos
      holding [v, ov, iv] (setItem ov iv v)
      release [v, ov, iv] []) := by intro _; rfl) : PG X (.Subscript a b pos) (gD X.K (Tg.sub i ib).slots (asgn Φ (.sub i ib))) := pgImp (pg_sub ha hb set_list hp) fun v σ H Q q => by
  obtain ⟨S, ρ, d, ρ', rel, r, e, q⟩ := q
  simp only [asgn] at e
  obtain ⟨x0, ρ1, e1, k1⟩ := bnd_eq e
  obtain ⟨q0, p, ws, k0, e0, g0, _, _, _⟩ := rel.ls e1
  subst q0
  obtain ⟨y, ρ2, e2, k2⟩ := bnd_eq k1
  obtain ⟨d2, v1, k3⟩ := vw1_split k2
  cases d2 <;> (try (cases k3; done))
  rename_i kx
  obtain ⟨xs, ρ4, e4, k4⟩ := bnd_eq k3
  obtain ⟨q4, kk, nkk, e4'⟩ := getL_eq e4
  subst q4
  cases ej : ixN xs.length kx with
  | none => rw [ej] at k4; cases k4
  | some j =>
    rw [ej] at k4
    obtain ⟨l, ys, e6, nk, q5⟩ := putL_eq k4
    subst q5
    rw [e4'] at e6
    cases e6
    refine ⟨_, e0, S, ρ1, y, _, rel, e2, fun S2 u2 H2 g2 rel2 r2 => ?_⟩
    obtain ⟨p3, ws3, ep3, h3', _, rr3⟩ := rel2.atL e4' nkk
    rw [e0] at ep3
    cases ep3
    have fin := At.put ⟨g2, rel2⟩ e4' nk e0 (Rps.set (r.mono (g2.ke rel)) j rr3)
    exact ⟨p, ws3, kx, j, rfl, (r2.view rel2 v1).i, h3', by rw [rr3.length]; exact ej, q S2 _ _ fin.ac ⟨rfl, fun _ _ => rfl⟩⟩
/-- what is known of the field f: in each class its place -/
structure FldW (K : PySem.W.Frag) (f : Str) (ks : List (Nat × Nat)) : Prop where
  at' : ∀ (c j : Nat), ks.lookup c = some j → (cFlds c)[j]? = some f ∧ ∀ C, PySem.W.nsIn K mainGlobals (cName c) = some (some (.ref C)) → Cls K C ∧ NoAttr K C f
theorem cFlds_nd (c : Nat) : (cFlds c).Nodup := by
  match c with
  | 0 => decide
  | 1 => decide
  | 2 => decide
  | 3 => decide
  | _ + 4 => exact (by decide : (["levels", "targets"] : List Str).Nodup)
theorem dgs_nil : PGs X [] (gDs X.K Tgs.nil.slots (asgns Φ .nil)) := pgsImp pgs_nil fun v σ H Q q => by
  obtain ⟨S, ρ, ds, ρ', rel, r, e, q⟩ := q
  cases r with
  | nil =>
    simp only [asgns] at e
    obtain ⟨_, q2⟩ := ret_eq e
    subst q2
    exact ⟨rfl, q S _ H (Ac.start rel) ⟨rfl, fun _ _ => rfl⟩⟩
  | cons h t => simp only [asgns] at e; cases e
theorem dgs_cons (ha : PG X a (gD X.K tg.slots (asgn Φ tg))) (hb : PGs X es (gDs X.K tgs.slots (asgns Φ tgs)))
    (hx : (assignEach (a :: es) X.env).map (·.2) = assign a X.env :: (assignEach es X.env).map (·.2) := by rfl) : PGs X (a :: es) (gDs X.K (Tgs.cons tg tgs).slots (asgns Φ (.cons tg tgs))) := pgsImp (pgs_cons ha hb hx) fun v σ H Q q => by
  obtain ⟨S, ρ, ds, ρ', rel, r, e, q⟩ := q
  cases r with
  | nil => simp only [asgns] at e; cases e
  | cons h t =>
    simp only [asgns] at e
    obtain ⟨u, ρ1, e1, k1⟩ := bnd_eq e
    refine ⟨_, _, rfl, S, ρ, _, ρ1, rel, h, e1, fun S1 σ1 H1 a1 s1 => ⟨S1, ρ1, _, ρ', a1.rel, t.mono (a1.go.ke rel), k1, fun S2 σ2 H2 a2 s2 => q S2 σ2 H2 (a1.trans a2) ⟨s2.1.trans s1.1, fun j hj => ?_⟩⟩⟩
    have hj : j ∉ tg.slots ++ tgs.slots := hj
    rw [s2.2 j fun z => hj (List.mem_append_right _ z), s1.2 j fun z => hj (List.mem_append_left _ z)]
theorem dg_tp {k : Nat} {n : Nat} (hc : X.calm = true) (h : PGs X es (gDs X.K tgs.slots (asgns Φ tgs))) (h1 : (assignEach es X.env).length = n := by rfl) (h2 : (assignEach es X.env).findIdx? (fun x => x.1) = none := by rfl)
    (hl : ∀ (ds : List D) (ρ ρ' : Ev), asgns Φ tgs ds ρ = .ok () ρ' → ds.length = n) : PG X (.Tuple es k pos) (gD X.K (Tg.tp tgs).slots (asgn Φ (.tp tgs))) := pgImp (pg_or (pg_tup hc h h1 h2) (pg_unl hc h h1 h2)) fun v σ H Q q => by
  obtain ⟨S, ρ, d, ρ', rel, r, e, q⟩ := q
  cases r with
  | tup hr hs =>
    simp only [asgn] at e
    exact .inl ⟨_, _, rfl, hr.sq, by rw [hs.length]; exact hl _ _ _ e, S, ρ, _, ρ', rel, hs, e, q⟩
  | non => simp only [asgn] at e; cases e
  | bl _ => simp only [asgn] at e; cases e
  | int _ => simp only [asgn] at e; cases e
  | str _ => simp only [asgn] at e; cases e
  | lst hr hs =>
    simp only [asgn] at e
    exact .inr ⟨_, _, rfl, hr.sq, by rw [hs.length]; exact hl _ _ _ e, S, ρ, _, ρ', rel, hs, e, q⟩
  | scr _ _ => simp only [asgn] at e; cases e
  | obj _ _ _ _ _ => simp only [asgn] at e; cases e
  | box _ _ => simp only [asgn] at e; cases e
  | emp _ _ => simp only [asgn] at e; cases e
def Tgs.len : Tgs → Nat
  | .nil => 0
  | .cons _ r => r.len + 1
theorem asgns_len : ∀ {ts : Tgs} (ds : List D) (ρ ρ' : Ev), asgns Φ ts ds ρ = .ok () ρ' → ds.length = ts.len
  | .nil, [], _, _, _ => rfl
  | .nil, _ :: _, _, _, e => by simp only [asgns] at e; cases e
  | .cons t r, [], _, _, e => by simp only [asgns] at e; cases e
  | .cons t r, d :: ds, ρ, ρ', e => by
    simp only [asgns] at e
    obtain ⟨u, ρ1, e1, k1⟩ := bnd_eq e
    exact congrArg (· + 1) (asgns_len (ts := r) ds ρ1 ρ' k1)
end
end DL
end
section
set_option autoImplicit false
namespace DL
open PySem L2
variable [LTabs]
theorem wipeS_len (ρ : Ev) : ∀ vs : List Nat, (wipeS ρ vs).length = ρ.length
  | [] => rfl
  | v :: vs => by show ((wipeS ρ vs).set v .un).length = _; rw [List.length_set, wipeS_len ρ vs]
theorem wipeS_out {ρ : Ev} {i : Nat} : ∀ {vs : List Nat}, i ∉ vs → (wipeS ρ vs)[i]? = ρ[i]?
  | [], _ => rfl
  | v :: vs, h => by
    show ((wipeS ρ vs).set v .un)[i]? = _
    have hv : v ≠ i := fun z => h (by rw [z]; exact List.mem_cons_self)
    rw [List.getElem?_set_ne hv]
    exact wipeS_out fun z => h (List.mem_cons_of_mem _ z)
theorem wipeS_in {ρ : Ev} {i : Nat} {s : Sl} : ∀ {vs : List Nat}, i ∈ vs → (wipeS ρ vs)[i]? = some s → s = .un
  | v :: vs, h, e => by
    have e : ((wipeS ρ vs).set v .un)[i]? = some s := e
    by_cases hv : v = i
    · subst hv
      by_cases hl : v < (wipeS ρ vs).length
      · rw [List.getElem?_set_self hl] at e; cases e; rfl
      · rw [List.getElem?_eq_none (by rw [List.length_set]; omega)] at e; cases e
    · rw [List.getElem?_set_ne hv] at e
      rcases List.mem_cons.mp h with z | z
      · exact absurd z.symm hv
      · exact wipeS_in z e
theorem backS_len (ρ ρ' : Ev) : ∀ vs : List Nat, (backS ρ ρ' vs).length = ρ'.length
  | [] => rfl
  | v :: vs => by show ((backS ρ ρ' vs).set v _).length = _; rw [List.length_set, backS_len ρ ρ' vs]
theorem backS_out {ρ ρ' : Ev} {i : Nat} : ∀ {vs : List Nat}, i ∉ vs → (backS ρ ρ' vs)[i]? = ρ'[i]?
  | [], _ => rfl
  | v :: vs, h => by
    show ((backS ρ ρ' vs).set v _)[i]? = _
    have hv : v ≠ i := fun z => h (by rw [z]; exact List.mem_cons_self)
    rw [List.getElem?_set_ne hv]
    exact backS_out fun z => h (List.mem_cons_of_mem _ z)
theorem backS_in {ρ ρ' : Ev} {i : Nat} : ∀ {vs : List Nat}, i ∈ vs → i < ρ.length → i < ρ'.length → (backS ρ ρ' vs)[i]? = ρ[i]?
  | v :: vs, h, hl, hl' => by
    show ((backS ρ ρ' vs).set v (ρ.getD v .un))[i]? = _
    by_cases hv : v = i
    · subst hv
      rw [List.getElem?_set_self (by rw [backS_len]; exact hl')]
      rw [List.getD_eq_getElem?_getD, List.getElem?_eq_getElem hl]
      rfl
    · rw [List.getElem?_set_ne hv]
      rcases List.mem_cons.mp h with z | z
      · exact absurd z.symm hv
      · exact backS_in z hl hl'
theorem wipeV_out {σ : St} {i : Nat} : ∀ {vs : List Nat}, i ∉ vs → (wipe σ vs)[i]? = σ[i]?
  | [], _ => rfl
  | v :: vs, h => by
    show ((wipe σ vs).set v none)[i]? = _
    have hv : v ≠ i := fun z => h (by rw [z]; exact List.mem_cons_self)
    rw [List.getElem?_set_ne hv]
    exact wipeV_out fun z => h (List.mem_cons_of_mem _ z)
theorem wipeV_in {σ : St} {i : Nat} : ∀ {vs : List Nat}, i ∈ vs → i < σ.length → (wipe σ vs)[i]? = some none
  | v :: vs, h, hl => by
    show ((wipe σ vs).set v none)[i]? = _
    by_cases hv : v = i
    · subst hv
      rw [List.getElem?_set_self (by rw [wipe_length]; exact hl)]
    · rw [List.getElem?_set_ne hv]
      rcases List.mem_cons.mp h with z | z
      · exact absurd z.symm hv
      · exact wipeV_in z hl
theorem wipeV_eq {σ σ' : St} {vs : List Nat} (hl : σ'.length = σ.length) (h : ∀ j, j ∉ vs → σ'[j]? = (wipe σ vs)[j]?) : wipe σ' vs = wipe σ vs := by
  refine List.ext_getElem? fun i => ?_
  by_cases hi : i ∈ vs
  · by_cases h1 : i < σ.length
    · rw [wipeV_in hi (by rw [hl]; exact h1), wipeV_in hi h1]
    · rw [List.getElem?_eq_none (by rw [wipe_length]; omega), List.getElem?_eq_none (by rw [wipe_length]; omega)]
  · rw [wipeV_out hi, h i hi]
theorem wipeM_eq {own : List Nat} {ρ ρ' : Ev} {u : Unit} (h : wipeM own ρ = .ok u ρ') : (∀ i ∈ own, ∀ k xs, ρ[i]? ≠ some (.ls k xs)) ∧ ρ' = wipeS ρ own := by
  unfold wipeM at h
  split at h
  · rename_i ho
    cases h
    refine ⟨fun i hi k xs e => ?_, rfl⟩
    have := List.all_eq_true.mp ho i hi
    rw [e] at this
    cases this
  · cases h
section
variable {K : PySem.W.Frag} {S S1 : Addr → Prop} {ρ ρ1 ρ2 : Ev} {σ σ1 : St} {H H1 : Hp} {own : List Nat}
theorem Own.wipe (no : ∀ i ∈ own, ∀ k xs, ρ[i]? ≠ some (.ls k xs)) {a : Addr} : Own (wipeS ρ own) (L2.wipe σ own) a ↔ Own ρ σ a := by
  constructor
  · rintro ⟨i, k, xs, e1, e2⟩
    by_cases hi : i ∈ own
    · cases wipeS_in hi e1
    · rw [wipeS_out hi] at e1
      rw [wipeV_out hi] at e2
      exact ⟨i, k, xs, e1, e2⟩
  · rintro ⟨i, k, xs, e1, e2⟩
    have hi : i ∉ own := fun z => no i z k xs e1
    exact ⟨i, k, xs, by rw [wipeS_out hi]; exact e1, by rw [wipeV_out hi]; exact e2⟩
theorem Rel.wipe (rel : Rel K S ρ σ H) (no : ∀ i ∈ own, ∀ k xs, ρ[i]? ≠ some (.ls k xs)) : Rel K S (wipeS ρ own) (L2.wipe σ own) H := by
  refine ⟨by rw [wipeS_len, wipe_length]; exact rel.len, fun i s ov e1 e2 => ?_, fun i j k l xs ys a e1 e2 e3 e4 => ?_, rel.dom, rel.tb⟩
  · by_cases hi : i ∈ own
    · cases wipeS_in hi e1
      trivial
    · rw [wipeS_out hi] at e1
      rw [wipeV_out hi] at e2
      exact rel.ok i s ov e1 e2
  · have h1 : i ∉ own := fun z => by cases wipeS_in z e1
    have h2 : j ∉ own := fun z => by cases wipeS_in z e2
    rw [wipeS_out h1] at e1
    rw [wipeS_out h2] at e2
    rw [wipeV_out h1] at e3
    rw [wipeV_out h2] at e4
    exact rel.inj i j k l xs ys a e1 e2 e3 e4
/-- the slots of the own names forgotten -/
theorem Go.wipe {S' : Addr → Prop} {H' : Hp} (g : Go S ρ σ H S' ρ1 σ1 H') (no : ∀ i ∈ own, ∀ k xs, ρ1[i]? ≠ some (.ls k xs)) (n0 : ∀ i ∈ own, ∀ k xs, ρ[i]? ≠ some (.ls k xs)) : Go S (wipeS ρ own) (L2.wipe σ own) H S' (wipeS ρ1 own) (L2.wipe σ1 own) H' :=
  ⟨g.sub, fun a h => (g.new a h).imp id (Or.imp id (Own.wipe n0).mpr), fun a h => (g.own a ((Own.wipe no).mp h)).imp id (Own.wipe n0).mpr, fun a o h n nt => g.keep a o h (nt := nt) fun w => n ((Own.wipe n0).mpr w), g.stay, fun i k xs e n => by
    have hi : i ∉ own := fun z => by cases wipeS_in z e
    rw [wipeS_out hi] at e
    obtain ⟨ys, q1, q2, q3⟩ := g.fix i k xs e n
    exact ⟨ys, by rw [wipeS_out hi]; exact q1, fun z => by rw [wipeV_out hi, wipeV_out hi]; exact q2 z, q3⟩⟩
end
end DL
end
section
set_option autoImplicit false
namespace DL
open PySem L2
variable [LTabs]
abbrev SrcT := (Addr → Prop) → Ev → St → Hp → Prop
/-- J walks the items while Src stands -/
structure Wk (K : PySem.W.Frag) (J : L2.It) (Src : SrcT) (xs : List D) : Prop where
  stop : ∀ S ρ σ H, Rel K S ρ σ H → Src S ρ σ H → ∀ i, xs.length ≤ i → J.stop i H
  go : ∀ S ρ σ H, Rel K S ρ σ H → Src S ρ σ H → ∀ i, i < xs.length → J.go i H
  yld : ∀ S ρ σ H i d x H', Rel K S ρ σ H → Src S ρ σ H → xs[i]? = some d → J.yld i H x H' → ∃ S', Gn S H S' H' ∧ Rp K S' H' x d
  stay : ∀ S ρ σ H S' ρ' σ' H', Rel K S ρ σ H → Src S ρ σ H → Go S ρ σ H S' ρ' σ' H' → Rel K S' ρ' σ' H' → Src S' ρ' σ' H'
  wip : ∀ (own : List Nat) (S : Addr → Prop) (ρ : Ev) (σ : St) (H : Hp), (∀ i ∈ own, ∀ k xs, ρ[i]? ≠ some (.ls k xs)) → Src S ρ σ H → Src S (wipeS ρ own) (L2.wipe σ own) H
/-- the thing that is walked stands: r, of value v, its data d -/
def Held (K : PySem.W.Frag) (r : R) (d : D) (v : V) : SrcT := fun S ρ σ H => match r with
  | .rf i => ∃ xs, d = .lst xs ∧ ρ[i]? = some (.ls .lck xs) ∧ σ[i]? = some (some v)
  | .fz e => e = d ∧ Rp K S H v e
  | .fr xs => d = .lst xs ∧ Rv K S (fun _ => none) ρ σ H v (.fr xs)
section
variable {K : PySem.W.Frag} {S S' : Addr → Prop} {ρ ρ' : Ev} {σ σ' : St} {H H' : Hp} {r : R} {d : D} {v : V}
theorem Rv.go4 (rel : Rel K S ρ σ H) (g : Go S ρ σ H S' ρ' σ' H') {xs : List D} {H₀ : Hp} (h : Rv K S H₀ ρ σ H v (.fr xs)) : Rv K S' H₀ ρ' σ' H' v (.fr xs) := by
  obtain ⟨a, vs, e, h0, h1, h2, h3, h4⟩ := h
  refine ⟨a, vs, e, h0, g.keep a _ h1 h3, fun z => ?_, fun z => ?_, h4.mono (g.ke rel)⟩
  · rcases g.new a z with q | q | q
    · exact h2 q
    · rw [h1] at q; cases q
    · exact h3 q
  · rcases g.own a z with q | q
    · rw [h1] at q; cases q
    · exact h3 q
theorem Held.stay (rel : Rel K S ρ σ H) (h : Held K r d v S ρ σ H) (g : Go S ρ σ H S' ρ' σ' H') : Held K r d v S' ρ' σ' H' := by
  cases r with
  | fz e => exact ⟨h.1, h.2.mono (g.ke rel)⟩
  | fr xs => exact ⟨h.1, Rv.go4 rel g h.2⟩
  | rf i =>
    obtain ⟨xs, e0, e1, e2⟩ := h
    obtain ⟨ys, q1, q2, q3⟩ := g.fix i .lck xs e1 (by simp)
    rw [q3 rfl] at q1
    exact ⟨xs, e0, q1, (q2 rfl).trans e2⟩
theorem Held.vd (rel : Rel K S ρ σ H) (h : Held K r d v S ρ σ H) : Vd K S H v d := by
  cases r with
  | fz e => obtain ⟨rfl, h⟩ := h; exact .fz h
  | fr xs => obtain ⟨rfl, a, vs, e, h0, h1, h2, h3, h4⟩ := h; exact .ls e h1 h4
  | rf i =>
    obtain ⟨xs, e0, e1, e2⟩ := h
    subst e0
    obtain ⟨a, vs, q1, q2, _, q3⟩ := rel.atL e1
    rw [e2] at q1; cases q1
    exact .ls rfl q2 q3
variable {own : List Nat}
theorem Held.wipe {r : R} {d : D} {v : V} (no : ∀ i ∈ own, ∀ k xs, ρ[i]? ≠ some (.ls k xs)) (h : Held K r d v S ρ σ H) : Held K r d v S (wipeS ρ own) (L2.wipe σ own) H := by
  cases r with
  | fz e => exact h
  | fr xs =>
    obtain ⟨e0, a, vs, e1, h0, h1, h2, h3, h4⟩ := h
    exact ⟨e0, a, vs, e1, h0, h1, h2, fun z => h3 ((Own.wipe no).mp z), h4⟩
  | rf i =>
    obtain ⟨xs, e0, e1, e2⟩ := h
    have hi : i ∉ own := fun z => no i z .lck xs e1
    exact ⟨xs, e0, by rw [wipeS_out hi]; exact e1, by rw [wipeV_out hi]; exact e2⟩
/-- the list, as HandS reads it -/
theorem Vd.sq {xs : List D} (h : Vd K S H v d) (e : itemsD d = some xs) (hn : ∀ ys, d ≠ .tup ys) : ∃ a vs, v = .ref a ∧ SqL K H a vs ∧ Rps K S H vs xs := by
  cases d with
  | lst ys => cases e; obtain ⟨a, vs, ea, h1, h2⟩ := h.l; exact ⟨a, vs, ea, .inl (.inl h1), h2⟩
  | scr ys => cases e; exact h.c
  | tup ys => exact absurd rfl (hn ys)
  | non => cases e
  | bl _ => cases e
  | int _ => cases e
  | obj _ _ => cases e
  | box _ _ _ => cases e
  | emp => cases e
  | str _ => cases e
variable {a : Addr} {xs : List D}
theorem ref_inj {p q : Addr} (h : V.ref p = V.ref q) : p = q := by cases h; rfl
theorem Wk.lst (e : itemsD d = some xs) (hn : ∀ ys, d ≠ .tup ys) : Wk K (Itl K a) (Held K r d (.ref a)) xs where
  stop := fun S ρ σ H rel h i hi => by
    obtain ⟨p, vs, ep, h1, h2⟩ := (h.vd rel).sq e hn
    cases ep
    exact ⟨vs, h1, by rw [h2.length]; exact hi⟩
  go := fun S ρ σ H rel h i hi => by
    obtain ⟨p, vs, ep, h1, h2⟩ := (h.vd rel).sq e hn
    cases ep
    have hi : i < vs.length := by rw [h2.length]; exact hi
    exact ⟨vs, vs[i], h1, List.getElem?_eq_getElem hi⟩
  yld := fun S ρ σ H i d' x H' rel h ei y => by
    obtain ⟨p, vs, ep, h1, h2⟩ := (h.vd rel).sq e hn
    cases ep
    obtain ⟨rfl, y⟩ := y
    obtain ⟨w, e1, h3⟩ := h2.get ei
    rw [y vs h1] at e1
    cases e1
    exact ⟨S, .refl, h3⟩
  stay := fun S ρ σ H S' ρ' σ' H' rel h g _ => h.stay rel g
  wip := fun own S ρ σ H no h => h.wipe no
theorem Wk.tup : Wk K (Itt K a) (Held K r (.tup xs) (.ref a)) xs where
  stop := fun S ρ σ H rel h i hi => by
    obtain ⟨p, vs, ep, h1, h2⟩ := (h.vd rel).t
    cases ep
    exact ⟨vs, h1, by rw [h2.length]; exact hi⟩
  go := fun S ρ σ H rel h i hi => by
    obtain ⟨p, vs, ep, h1, h2⟩ := (h.vd rel).t
    cases ep
    have hi : i < vs.length := by rw [h2.length]; exact hi
    exact ⟨vs, vs[i], h1, List.getElem?_eq_getElem hi⟩
  yld := fun S ρ σ H i d' x H' rel h ei y => by
    obtain ⟨p, vs, ep, h1, h2⟩ := (h.vd rel).t
    cases ep
    obtain ⟨rfl, y⟩ := y
    obtain ⟨w, e1, h3⟩ := h2.get ei
    rw [y vs h1] at e1
    cases e1
    exact ⟨S, .refl, h3⟩
  stay := fun S ρ σ H S' ρ' σ' H' rel h g _ => h.stay rel g
  wip := fun own S ρ σ H no h => h.wipe no
theorem enum_get : ∀ {xs : List D} {n i : Nat} {e : D}, (enumFrom n xs)[i]? = some e → ∃ d, xs[i]? = some d ∧ e = .tup [.int ((n + i : Nat) : Int), d]
  | [], n, i, e, h => by simp [enumFrom] at h
  | x :: xs, n, 0, e, h => by simp [enumFrom] at h; exact ⟨x, rfl, by rw [← h]; rfl⟩
  | x :: xs, n, i + 1, e, h => by
    obtain ⟨d, h1, h2⟩ := enum_get (xs := xs) (n := n + 1) (i := i) (e := e) (by simpa [enumFrom] using h)
    exact ⟨d, by simpa using h1, by rw [h2]; congr 4; omega⟩
theorem enum_len : ∀ (xs : List D) (n : Nat), (enumFrom n xs).length = xs.length
  | [], _ => rfl
  | x :: xs, n => congrArg (· + 1) (enum_len xs (n + 1))
theorem Wk.enum (e : itemsD d = some xs) (hn : ∀ ys, d ≠ .tup ys) : Wk K (Ite K a) (Held K r d (.ref a)) (enumFrom 0 xs) where
  stop := fun S ρ σ H rel h i hi => by
    obtain ⟨p, vs, ep, h1, h2⟩ := (h.vd rel).sq e hn
    cases ep
    exact ⟨vs, h1, by rw [h2.length]; rw [enum_len] at hi; exact hi⟩
  go := fun S ρ σ H rel h i hi => by
    obtain ⟨p, vs, ep, h1, h2⟩ := (h.vd rel).sq e hn
    cases ep
    rw [enum_len] at hi
    have hi : i < vs.length := by rw [h2.length]; exact hi
    exact ⟨vs, vs[i], h1, List.getElem?_eq_getElem hi⟩
  yld := fun S ρ σ H i d' x H' rel h ei y => by
    obtain ⟨p, vs, ep, h1, h2⟩ := (h.vd rel).sq e hn
    cases ep
    obtain ⟨T, z, rfl, nT, rfl, y⟩ := y
    obtain ⟨d2, e2, rfl⟩ := enum_get ei
    obtain ⟨w, e1, h3⟩ := h2.get e2
    rw [y vs h1] at e1
    cases e1
    rw [Nat.zero_add]
    exact ⟨_, .tup nT, Rp.mkTup nT (.cons (.int _) (.cons h3 .nil))⟩
  stay := fun S ρ σ H S' ρ' σ' H' rel h g _ => h.stay rel g
  wip := fun own S ρ σ H no h => h.wipe no
theorem Wk.rngD {lo hi : Int} {n : Nat} (hn : n = (lo - hi).toNat) : Wk K (Itc lo (-1) n) (fun _ _ _ _ => True) (rngDL lo hi) where
  stop := fun S ρ σ H rel _ i h => by
    show n ≤ i
    unfold rngDL at h
    rw [List.length_map, List.length_range] at h
    omega
  go := fun S ρ σ H rel _ i h => by
    show i < n
    unfold rngDL at h
    rw [List.length_map, List.length_range] at h
    omega
  yld := fun S ρ σ H i d x H' rel _ hd hy => by
    obtain ⟨e1, e2⟩ := hy
    subst e1 e2
    refine ⟨S, .refl, ?_⟩
    unfold rngDL at hd
    rw [List.getElem?_map] at hd
    cases q : (List.range (lo - hi).toNat)[i]? with
    | none => rw [q] at hd; cases hd
    | some k =>
      rw [q] at hd
      obtain ⟨h1, h2⟩ := List.getElem?_eq_some_iff.mp q
      rw [List.getElem_range] at h2
      subst h2
      cases hd
      rw [show lo + (i : Int) * -1 = lo - (i : Int) from by omega]
      exact .int _
  stay := fun _ _ _ _ _ _ _ _ _ _ _ _ => trivial
  wip := fun _ _ _ _ _ _ _ => trivial
theorem Wk.rng {lo hi : Int} {n : Nat} (hn : n = (hi - lo).toNat) : Wk K (Itr lo n) (fun _ _ _ _ => True) (rngL lo hi) where
  stop := fun S ρ σ H rel h i hi => by
    unfold rngL at hi
    rw [List.length_map, List.length_range] at hi
    rw [hn]; exact hi
  go := fun S ρ σ H rel h i hi => by
    unfold rngL at hi
    rw [List.length_map, List.length_range] at hi
    rw [hn]; exact hi
  yld := fun S ρ σ H i d' x H' rel h ei y => by
    obtain ⟨rfl, rfl⟩ := y
    unfold rngL at ei
    rw [List.getElem?_map] at ei
    cases q : (List.range (hi - lo).toNat)[i]? with
    | none => rw [q] at ei; cases ei
    | some j =>
      rw [q] at ei
      cases ei
      have : j = i := by
        obtain ⟨h1, h2⟩ := List.getElem?_eq_some_iff.mp q
        rw [List.getElem_range] at h2
        exact h2.symm
      subst this
      exact ⟨S, .refl, .int _⟩
  stay := fun _ _ _ _ _ _ _ _ _ _ _ _ => trivial
  wip := fun _ _ _ _ _ _ _ => trivial
end
/-- the environment while the walked list is locked -/
def locked (l : Option (Nat × Lk)) (ρ : Ev) : Ev := match l with
  | none => ρ
  | some (i, _) => match ρ[i]? with
    | some (.ls _ xs) => ρ.set i (.ls .lck xs)
    | _ => ρ
/-- a walk's reading -/
def iD (K : PySem.W.Frag) (m : M (Option (Nat × Lk) × List D)) : TI := fun σ H R => ∃ S ρ l xs ρ', Rel K S ρ σ H ∧ m ρ = .ok (l, xs) ρ' ∧
  ∀ S' H' J Src, At K S ρ σ H S' ρ' H' → Wk K J Src xs → Src S' (locked l ρ') σ H' → R J H'
theorem piImp {X : Cx} {tg e : Expr} {t t' : TI} (h : PI X tg e t) (i : ∀ σ H R, t' σ H R → t σ H R) : PI X tg e t' := ⟨fun pins s σ H R I q => h.run pins s σ H R I (i _ _ _ q)⟩
section
variable {X : Cx} {Φ : Calls} {a b tg : Expr} {pos : Pos} {ia ib : E}
/-- what stands behind the evaluation of a walked thing -/
theorem held_of {K : PySem.W.Frag} {S S' : Addr → Prop} {ρ ρ' : Ev} {σ : St} {H H' : Hp} {r : R} {d : D} {v : V} (at1 : At K S ρ σ H S' ρ' H') (rv : Rv K S' H ρ' σ H' v r) (e : view ρ' r = some d) (hy : ∀ c xs, d ≠ .obj c xs := by intro _ _ z; cases z) : Held K r d v S' (locked (lockOf ρ' r) ρ') σ H' := by
  cases r with
  | fz d' => cases e; exact ⟨rfl, rv⟩
  | fr xs =>
    cases e
    obtain ⟨a, vs, e, h0, h⟩ := rv
    exact ⟨rfl, a, vs, e, rfl, h⟩
  | rf i =>
    have e : (match ρ'[i]? with | some (.ls k xs) => k.see xs | _ => none) = some d := e
    split at e
    · rename_i k xs q
      have hk : k.isL = true ∧ d = .lst xs := by
        cases k with
        | own => cases e; exact ⟨rfl, rfl⟩
        | bor => cases e; exact ⟨rfl, rfl⟩
        | lck => cases e; exact ⟨rfl, rfl⟩
        | dic => cases e
        | dit => cases e
        | ins c => cases e; exact absurd rfl (hy _ _)
        | inb c => cases e; exact absurd rfl (hy _ _)
      obtain ⟨nk, hd⟩ := hk
      subst hd
      have hl : lockOf ρ' (.rf i) = some (i, k) := by
        show (match ρ'[i]? with | some (.ls .dic _) => none | some (.ls .dit _) => none | some (.ls (.ins _) _) => none | some (.ls (.inb _) _) => none | some (.ls k _) => some (i, k) | _ => none) = _
        rw [q]
        cases k <;> first | rfl | exact absurd nk (by simp)
      rw [hl]
      have hk : locked (some (i, k)) ρ' = ρ'.set i (.ls .lck xs) := by
        show (match ρ'[i]? with | some (.ls _ xs) => ρ'.set i (.ls .lck xs) | _ => ρ') = _
        rw [q]
      rw [hk]
      exact ⟨xs, rfl, List.getElem?_set_self (List.getElem?_eq_some_iff.mp q).1, rv⟩
    · cases e
theorem itv_split {f : Ev → List D → Option (Nat × Lk) × List D} {ρ ρ' : Ev} {l : Option (Nat × Lk)} {xs : List D} {m : M R} {g : R → List D → Option (Nat × Lk) × List D}
    (h : bnd m (fun x => bnd (vw x) fun d => fun ρ => bnd (ofO (itemsD d)) (fun xs => ret (lockOf ρ x, f ρ xs |>.2)) ρ) ρ = .ok (l, xs) ρ') : ∃ x d ys, m ρ = .ok x ρ' ∧ view ρ' x = some d ∧ itemsD d = some ys ∧ l = lockOf ρ' x ∧ xs = (f ρ' ys).2 := by
  obtain ⟨x, ρ1, e1, h1⟩ := bnd_eq h
  obtain ⟨d, v1, h2⟩ := vw1_split h1
  obtain ⟨ys, e2, h3⟩ := ofO_split h2
  obtain ⟨q1, q2⟩ := ret_eq h3
  cases q1
  subst q2
  exact ⟨x, d, ys, e1, v1, e2, rfl, rfl⟩
theorem di_val (ha : PE X a (tD X.K (ev Φ ia))) : PI X tg a (iD X.K (evit Φ (.val ia))) := ⟨fun pins s σ H R I q => by
  obtain ⟨S, ρ, l, xs, ρ', rel, e, q⟩ := q
  simp only [evit] at e
  obtain ⟨x, d, ys, e1, v1, e2, rfl, rfl⟩ := itv_split (f := fun _ xs => (none, xs)) (g := fun _ xs => (none, xs)) e
  by_cases ht : ∃ zs, d = .tup zs
  · obtain ⟨zs, rfl⟩ := ht
    cases e2
    refine (pi_tup ha).run pins s σ H R I ⟨S, ρ, x, ρ', rel, e1, fun S1 v H1 g1 rel1 r1 => ?_⟩
    obtain ⟨p, vs, ep, h1, h2⟩ := (r1.view rel1 v1).t
    have hd := held_of ⟨g1, rel1⟩ r1 v1
    subst ep
    exact ⟨p, rfl, ⟨vs, h1⟩, q S1 H1 _ _ ⟨g1, rel1⟩ .tup hd⟩
  · refine (pi_list ha).run pins s σ H R I ⟨S, ρ, x, ρ', rel, e1, fun S1 v H1 g1 rel1 r1 => ?_⟩
    have hn : ∀ ys, d ≠ .tup ys := fun ys z => ht ⟨ys, z⟩
    obtain ⟨p, vs, ep, h1, h2⟩ := (r1.view rel1 v1).sq e2 hn
    have hd := held_of ⟨g1, rel1⟩ r1 v1 (by intro _ _ z; rw [z] at e2; cases e2)
    subst ep
    exact ⟨p, rfl, ⟨vs, h1⟩, q S1 H1 _ _ ⟨g1, rel1⟩ (.lst e2 hn) hd⟩⟩
theorem di_rng1 {p : Pos} (hg : Gl X "range") (hm : X.mg "range" = none) (ha : PE X a (tD X.K (ev Φ ia))) (hs : starEach [a] X.env = [(false, eval a X.env)] := by rfl) : PI X tg (.Call (.Name "range" p) [a] [] pos) (iD X.K (evit Φ (.rng1 ia))) :=
  piImp (pi_range1 hg hm (pa_cons ha pa_nil hs) hs) fun σ H R q => by
    obtain ⟨S, ρ, l, xs, ρ', rel, e, q⟩ := q
    simp only [evit] at e
    obtain ⟨x, ρ1, e1, h1⟩ := bnd_eq e
    obtain ⟨d, v1, h2⟩ := vw1_split h1
    cases d <;> (try (cases h2; done))
    rename_i j
    have h2 : (if small62 j = true then ret (none, rngL 0 j) else stuck) ρ1 = .ok (l, xs) ρ' := h2
    split at h2
    · rename_i hz
      obtain ⟨q1, q2⟩ := ret_eq h2
      cases q1
      subst q2
      obtain ⟨z3, z4⟩ : -(2 ^ 62) ≤ j ∧ j < 2 ^ 62 := by simpa [small62] using hz
      refine ⟨S, ρ, x, _, rel, e1, fun S1 v H1 g1 rel1 r1 => ⟨j, ?_, z3, z4, q S1 H1 _ _ ⟨g1, rel1⟩ (.rng (by rw [Int.sub_zero])) trivial⟩⟩
      rw [(r1.view rel1 v1).i]
    · cases h2
end
end DL
end
section
set_option autoImplicit false
namespace DL
open PySem L2
variable [LTabs]
section
/-- the tuple at a, each item in a new pair, counted from k -/
def IteT (K : PySem.W.Frag) (k : Int) (a : Addr) : L2.It :=
  ⟨fun i H => ∃ (xs : List V) (x : V), SqT K H a xs ∧ xs[i]? = some x,
   fun i H v H' => ∃ T x, v = .ref T ∧ H T = none ∧ H' = upd H T (.tup [.int (k + (i : Nat)), x]) ∧ ∀ xs, SqT K H a xs → xs[i]? = some x,
   fun i H => ∃ xs : List V, SqT K H a xs ∧ xs.length ≤ i⟩
theorem iter_ne {h : Heap} {e it t : Addr} {k : Int} {old : Value} {i : Nat} {items : Array Value} (he : IsEnum h e it k old) (hi : h.IsTupleIter it t i) (ht : h.IsTuple t items) : t ≠ e ∧ t ≠ it := by
  obtain ⟨o, e1, e2, _⟩ := ht
  refine ⟨fun z => ?_, fun z => ?_⟩
  · subst z
    have he : h.get? t = some _ := he
    rw [e1] at he
    rw [Option.some.inj he] at e2
    exact absurd (Value.type.inj e2) (by decide)
  · subst z
    obtain ⟨o2, e3, e4, _⟩ := hi
    rw [e1] at e3
    rw [← Option.some.inj e3, e2] at e4
    exact absurd (Value.type.inj e4) (by decide)
theorem turn_enumT {P : Program} {w : World} {K : PySem.W.Frag} {elts : List Expr} {kk : Nat} {tpos : Pos} (k : Int) (a e it : Addr) :
    Turn P w K (.Tuple elts kk tpos) (IteT K k a) [e, it] e (fun i h => (∃ old, IsEnum h e it (k + ((i : Nat) : Int)) old) ∧ h.IsTupleIter it a i ∧ e ≠ it) where
  mem := List.mem_cons_self
  obj := fun i h st b hb => by
    obtain ⟨⟨old, he⟩, ⟨o, ho, hc, hd⟩, _⟩ := st
    rcases List.mem_cons.mp hb with z | z
    · rw [z]; exact ⟨_, he, fun v q => nomatch q⟩
    · rw [List.mem_singleton.mp z]; exact ⟨o, ho, fun v q => by rw [hd] at q; cases q⟩
  keep := fun i h h' st kp => by
    obtain ⟨⟨old, he⟩, hi, hne⟩ := st
    exact ⟨⟨old, kp e List.mem_cons_self _ he⟩, hi.at fun o q => kp it (List.mem_cons_of_mem _ List.mem_cons_self) o q, hne⟩
  item := by
    intro X hP hw hK hc i pins s σ H E I hf st hg
    subst hP hw hK
    obtain ⟨⟨old, he⟩, hit, hne⟩ := st
    obtain ⟨xs, x, hq, hx⟩ := hg
    obtain ⟨its, rv, p, hz⟩ := I.tuple hq
    obtain ⟨u, hu, ru⟩ := rv.get hx
    obtain ⟨n1, n2⟩ := iter_ne he hit p
    have hel : e < s.heap.objs.size := Heap.lt_size he
    have hil : it < s.heap.objs.size := by obtain ⟨_, q, _⟩ := hit; exact Heap.lt_size q
    have hlen : i < its.toArray.size := by rw [List.size_toArray]; exact (List.getElem?_eq_some_iff.mp hu).1
    refine wpAny_pyNext_enum_itemC (Draws.tuple (A := X.A.in1) (I.ok.hd hc) it a n2 its.toArray) he ⟨hit, p⟩ hlen hne (fun z => ?_) fun y h' tk hy ho hst' hT hsz hk => ?_
    · rcases List.mem_cons.mp z with z | z
      · exact hne z
      · exact n1 (List.mem_singleton.mp z).symm
    · have hy : its.toArray[i]? = some y := hy
      have ey : y = u := by
        rw [List.getElem?_toArray, hu] at hy
        exact (Option.some.inj hy).symm
      subst ey
      refine ⟨_, rfl, wpAny_letOwnedTupleGo_enum (s := { s with heap := h', toks := tk + 1 }) ho fun h'' he' sb => ?_⟩
      have hT2 : h''.get? s.heap.objs.size = some { cls := .type "tuple", data := .seq #[.int (k + (i : Nat)) tk, y] } := (sb.2 _ (Nat.ne_of_gt hel)).trans hT
      have new : ObjOk X.prog X.w (upd H s.heap.objs.size (.tup [.int (k + (i : Nat)), x])) h'' s.heap.objs.size (.tup [.int (k + (i : Nat)), x]) :=
        ⟨(by decide : 2 ≤ sizeLine), [.int (k + (i : Nat)) tk, y], .cons ⟨_, rfl⟩ (.cons ru .nil), ⟨_, hT2, rfl, _, rfl⟩⟩
      have I1 : L2.Inv X pins σ (upd H s.heap.objs.size (.tup [.int (k + (i : Nat)), x])) { s with heap := h'', toks := tk + 1 } := by
        refine I.turnedNew (ch := [e, it]) (fun b ob hb q => ?_) hf (Nat.le_refl _) new
        have b1 : b ≠ e := fun z => hb (by rw [z]; exact List.mem_cons_self)
        have b2 : b ≠ it := fun z => hb (by rw [z]; exact List.mem_cons_of_mem _ List.mem_cons_self)
        exact (sb.2 b b1).trans (hk b ob b1 b2 q)
      refine ⟨.ref s.heap.objs.size, _, I1, rfl, ⟨_, x, rfl, I.hok.fresh (Nat.le_refl _), rfl, fun ys hy => by rw [I.tuple_inj hy hq]; exact hx⟩, ⟨⟨y, ?_⟩, hst'.1.at fun o q => (sb.2 it (Ne.symm hne)).trans q, hne⟩, fun b hb => ?_⟩
      · have e1 : k + ((i + 1 : Nat) : Int) = k + (i : Int) + 1 := by omega
        rw [e1]
        exact he'
      · have hb' : b < s.heap.objs.size := by
          rcases List.mem_cons.mp hb with z | z
          · rw [z]; exact hel
          · rw [List.mem_singleton.mp z]; exact hil
        rw [upd_ne (Nat.ne_of_lt hb')]
        exact (hf b hb).1
  done := by
    intro X hP hw hK hc i pins s σ H E I hf st hg
    subst hP hw hK
    obtain ⟨⟨old, he⟩, hit, hne⟩ := st
    obtain ⟨xs, hq, hx⟩ := hg
    obtain ⟨its, rv, p, hz⟩ := I.tuple hq
    obtain ⟨n1, n2⟩ := iter_ne he hit p
    have hmem : it ∈ [e, it] := List.mem_cons_of_mem _ List.mem_cons_self
    obtain ⟨f0, f1, f2, f3, f4, f5⟩ := hf it hmem
    have hl := rv.length
    have hgo : its.toArray[i]? = none := by
      rw [List.getElem?_toArray]
      exact List.getElem?_eq_none (by omega)
    have D : Draws X.prog X.w X.A.in1 it [it, a] i (fun i v => its.toArray[i]? = some v) (fun j h => j = i ∧ h.IsTupleIter it a j ∧ h.IsTuple a its.toArray) := {
      live := fun _ _ st => let ⟨o, ho, _⟩ := st.2.1; ⟨o, ho⟩
      frame := fun _ _ _ st hk => ⟨st.1, st.2.1.at fun o e => hk it List.mem_cons_self o e, st.2.2.at fun o e => hk a (List.mem_cons_of_mem _ List.mem_cons_self) o e⟩
      item := fun j s' Q E hj st hQ => absurd (st.1 ▸ hj) (Nat.lt_irrefl _)
      done := fun s' Q E st hE => wpAny_nextOf_tuple_end (I.ok.hd hc) st.2.1 st.2.2 hgo hE }
    exact wpAny_pyNext_enum_endD D he ⟨rfl, hit, p⟩ fun h' eb => ⟨rfl, I.turned (t' := s.toks) (fun b o hb q => eb b o hb q) f0 f1 f3 f4 f5⟩
  self := fun A i s Q E st h => let ⟨⟨_, he⟩, _⟩ := st; wpAny_pyIter_enum he h
/-- enumerate(v) of anything that begins -/
theorem meets_enum1 {v : Value} {o : Obj} {B : Heap → Prop} (b : Begins v o B) :
    Meets (Builtin.«enumerate.__new__» ⟨[.type "enumerate", v], []⟩) (fun _ R s => B s.heap ∧
      R (.ok (.ret (.ref (s.heap.push o).objs.size))) { s with heap := (s.heap.push o).push { cls := .type "enumerate", data := .fields #[.none, .bool false, .ref s.heap.objs.size, rawInt 0, .none, .none] } }) :=
  Meets.of_wp fun prog w A R s hh => by
    obtain ⟨hp, g, d, tk, os⟩ := s
    obtain ⟨h1, h⟩ := hh
    have hsub := sub_enumerate
    have q1 : ∀ {A' : Around} {E : Value → Shared → Prop} {Q : Value → Shared → Prop}, Q (.ref hp.objs.size) ⟨hp.push o, g, d, tk, os⟩ → wpAny (model prog w) A' (pyIter v) Q E ⟨hp, g, d, tk, os⟩ := fun q =>
      b.iter prog w _ _ ⟨hp, g, d, tk, os⟩ _ h1 q
    wp_walk using q1
    refine wpAny_stack_any fun st => wpAny_pure ?_
    split
    · rename_i c _ _ _ _ _
      cases (c == Value.type "enumerate") <;> (wp_walk using q1; exact ⟨_, rfl, h⟩)
    · (wp_walk using q1; exact ⟨_, rfl, h⟩)
theorem enum_begins1 {prog : Program} {w : World} {A : Around} {E : Value → Shared → Prop} {s : Shared} {v : Value} {o : Obj} {B : Heap → Prop} {Q : Value → Shared → Prop} (b : Begins v o B) (h1 : B s.heap)
    (h : ∀ h', IsEnum h' (s.heap.objs.size + 1) s.heap.objs.size 0 .none → h'.get? s.heap.objs.size = some o →
      (∀ c o', s.heap.get? c = some o' → h'.get? c = some o') → Q (.ref (s.heap.objs.size + 1)) { s with heap := h' }) :
    wpAny (model prog w) A (call (.type "enumerate") [v]) Q E s := by
  refine callType_new F.called_enumerate (by decide) (F.typeCall_enumerate_1 _) (F.newCall_enumerate_1 _) (fun obj => F.args_object_init_2 obj _) F.entry_enumerate_new (meets_enum1 b) ⟨h1, ?_⟩
  have hz : (s.heap.push o).objs.size = s.heap.objs.size + 1 := Heap.size_push ..
  show _ ∧ _
  rw [hz]
  have he : IsEnum ((s.heap.push o).push { cls := .type "enumerate", data := .fields #[.none, .bool false, .ref s.heap.objs.size, rawInt 0, .none, .none] }) (s.heap.objs.size + 1) s.heap.objs.size 0 .none := by
    have q := Heap.get?_push_size (s.heap.push o) (o := { cls := .type "enumerate", data := .fields #[.none, .bool false, .ref s.heap.objs.size, rawInt 0, .none, .none] }) rfl
    rw [hz] at q
    exact q
  exact ⟨⟨_, he, rfl⟩, h _ he (Heap.get?_push_of_some _ (Heap.get?_push_size _ b.free)) fun c o' x => Heap.get?_push_of_some _ (Heap.get?_push_of_some _ x)⟩
variable {X : Cx} {Φ : Calls} {a b tg : Expr} {pos : Pos} {ia ib : E}
def iEnumT (K : PySem.W.Frag) (ta : TA) : TI := fun σ H R => ta σ H fun vs H1 => ∃ a xs, vs = [.ref a] ∧ SqT K H1 a xs ∧ R (IteT K 0 a) H1
theorem pi_enumT {e : Expr} {ta : TA} {p tpos : Pos} {elts : List Expr} {kk : Nat} (hg : Gl X "enumerate") (hm : X.mg "enumerate" = none) (ha : PA X [e] ta) (hs : starEach [e] X.env = [(false, eval e X.env)] := by rfl) :
    PI X (.Tuple elts kk tpos) (.Call (.Name "enumerate" p) [e] [] pos) (iEnumT X.K ta) := ⟨fun pins s σ H R I h => by
  refine PyProof.Rows.Call_ (ld_blt I hg hm PyProof.Rows.boot_enumerate (PyProof.Rows.callWith_type1 (thn (ha.run pos pins s σ H _ I h) fun us s1 ⟨vs, H1, I1, r1, q1⟩ => ?_) hs rfl))
  obtain ⟨a, xs, ex, hq, q⟩ := q1
  subst ex
  cases r1 with
  | cons r rr =>
    cases rr
    cases r
    obtain ⟨its, rv, p', hz⟩ := I1.tuple hq
    refine enum_begins1 (begins_tuple a its.toArray) p' fun h' he hit hk => wpAny_pyIter_enum he ?_
    have I2 : L2.Inv X pins σ H1 { s1 with heap := h' } := I1.kept (t' := s1.toks) hk
    refine ⟨s1.heap.objs.size + 1, [s1.heap.objs.size + 1, s1.heap.objs.size], _, _, H1, rfl, I2, turn_enumT 0 a (s1.heap.objs.size + 1) s1.heap.objs.size, ⟨⟨.none, he⟩, ⟨_, hit, rfl, rfl⟩, Nat.succ_ne_self _⟩, fun c hc => ?_, q⟩
    have hle : s1.heap.objs.size ≤ c := by
      rcases List.mem_cons.mp hc with z | z
      · rw [z]; exact Nat.le_succ _
      · rw [List.mem_singleton.mp z]; exact Nat.le_refl _
    exact I1.fpOk hle (I1.hok.fresh hle)⟩
variable {K : PySem.W.Frag} {r : R} {d : D} {xs : List D}
theorem enum_getZ {k : Int} {xs : List D} {i : Nat} {e : D} (h : (enumFrom 0 xs)[i]? = some e) : ∃ d, xs[i]? = some d ∧ e = .tup [.int ((i : Nat) : Int), d] := by
  obtain ⟨d, h1, h2⟩ := enum_get h
  rw [Nat.zero_add] at h2
  exact ⟨d, h1, h2⟩
theorem Wk.enumT {a : Addr} : Wk K (IteT K 0 a) (Held K r (.tup xs) (.ref a)) (enumFrom 0 xs) where
  stop := fun S ρ σ H rel h i hi => by
    obtain ⟨p, vs, ep, h1, h2⟩ := (h.vd rel).t
    cases ep
    exact ⟨vs, h1, by rw [h2.length]; rw [enum_len] at hi; exact hi⟩
  go := fun S ρ σ H rel h i hi => by
    obtain ⟨p, vs, ep, h1, h2⟩ := (h.vd rel).t
    cases ep
    rw [enum_len] at hi
    have hi : i < vs.length := by rw [h2.length]; exact hi
    exact ⟨vs, vs[i], h1, List.getElem?_eq_getElem hi⟩
  yld := fun S ρ σ H i d' x H' rel h ei y => by
    obtain ⟨p, vs, ep, h1, h2⟩ := (h.vd rel).t
    cases ep
    obtain ⟨T, z, rfl, nT, rfl, y⟩ := y
    obtain ⟨d2, e2, rfl⟩ := enum_getZ (k := 0) ei
    obtain ⟨w, e1, h3⟩ := h2.get e2
    rw [y vs h1] at e1
    cases e1
    rw [Int.zero_add]
    exact ⟨_, .tup nT, Rp.mkTup nT (.cons (.int _) (.cons h3 .nil))⟩
  stay := fun S ρ σ H S' ρ' σ' H' rel h g _ => h.stay rel g
  wip := fun own S ρ σ H no h => h.wipe no
theorem di_enum {p tpos : Pos} {elts : List Expr} {kk : Nat} (hg : Gl X "enumerate") (hm : X.mg "enumerate" = none) (ha : PE X a (tD X.K (ev Φ ia))) (hs : starEach [a] X.env = [(false, eval a X.env)] := by rfl) :
    PI X (.Tuple elts kk tpos) (.Call (.Name "enumerate" p) [a] [] pos) (iD X.K (evit Φ (.enum ia))) := ⟨fun pins s σ H R I q => by
  obtain ⟨S, ρ, l, xs, ρ', rel, e, q⟩ := q
  simp only [evit] at e
  obtain ⟨x, d, ys, e1, v1, e2, rfl, rfl⟩ := itv_split (f := fun _ xs => (none, enumFrom 0 xs)) (g := fun _ xs => (none, xs)) e
  by_cases ht : ∃ zs, d = .tup zs
  · obtain ⟨zs, rfl⟩ := ht
    cases e2
    refine (pi_enumT hg hm (pa_cons ha pa_nil hs) hs).run pins s σ H R I ⟨S, ρ, x, ρ', rel, e1, fun S1 v H1 g1 rel1 r1 => ?_⟩
    obtain ⟨p, vs, ep, h1, h2⟩ := (r1.view rel1 v1).t
    have hd := held_of ⟨g1, rel1⟩ r1 v1
    subst ep
    exact ⟨p, vs, rfl, h1, q S1 H1 _ _ ⟨g1, rel1⟩ .enumT hd⟩
  · refine (pi_enum hg hm (pa_cons ha pa_nil hs) hs).run pins s σ H R I ⟨S, ρ, x, ρ', rel, e1, fun S1 v H1 g1 rel1 r1 => ?_⟩
    have hn : ∀ ys, d ≠ .tup ys := fun ys z => ht ⟨ys, z⟩
    obtain ⟨p, vs, ep, h1, h2⟩ := (r1.view rel1 v1).sq e2 hn
    have hd := held_of ⟨g1, rel1⟩ r1 v1 (by intro _ _ z; rw [z] at e2; cases e2)
    subst ep
    exact ⟨p, vs, rfl, h1, q S1 H1 _ _ ⟨g1, rel1⟩ (.enum e2 hn) hd⟩⟩
end
end DL
end
section
set_option autoImplicit false
namespace DL
open PySem L2
variable [LTabs]
/-- where a statement's end leads -/
def SEnd (K : PySem.W.Frag) (S : Addr → Prop) (ρ : Ev) (σ : St) (H : Hp) (ρ' : Ev) (D : Ends) : Fl → Prop
  | .nx => ∀ S' σ' H', Ac K S ρ σ H S' ρ' σ' H' → D.nx σ' H'
  | .bk => ∀ S' σ' H', Ac K S ρ σ H S' ρ' σ' H' → D.bk σ' H'
  | .ct => ∀ S' σ' H', Ac K S ρ σ H S' ρ' σ' H' → D.ct σ' H'
  | .rt r => ∀ S' σ' H' v, Ac K S ρ σ H S' ρ' σ' H' → Rv K S' H ρ' σ' H' v r → D.rt v H'
def tS (K : PySem.W.Frag) (m : M Fl) : TS := fun D σ H => ∃ S ρ fl ρ', Rel K S ρ σ H ∧ m ρ = .ok fl ρ' ∧ SEnd K S ρ σ H ρ' D fl
theorem psImp {X : Cx} {st : Stmt} {t t' : TS} (h : PS X st t) (i : ∀ D σ H, t' D σ H → t D σ H) : PS X st t' := ⟨fun pins s σ H D I q => h.run pins s σ H D I (i _ _ _ q)⟩
theorem pssImp {X : Cx} {st : List Stmt} {t t' : TS} (h : PSs X st t) (i : ∀ D σ H, t' D σ H → t D σ H) : PSs X st t' := ⟨fun pins s σ H D I q => h.run pins s σ H D I (i _ _ _ q)⟩
section
variable {K : PySem.W.Frag} {S S1 : Addr → Prop} {ρ ρ1 ρ2 : Ev} {σ σ1 : St} {H H1 : Hp} {D : Ends}
/-- an end, seen from an earlier point -/
theorem SEnd.from {fl : Fl} (a : Ac K S ρ σ H S1 ρ1 σ1 H1) (h : SEnd K S ρ σ H ρ2 D fl) : SEnd K S1 ρ1 σ1 H1 ρ2 D fl := by
  cases fl with
  | nx => exact fun S' σ' H' b => h S' σ' H' (a.trans b)
  | bk => exact fun S' σ' H' b => h S' σ' H' (a.trans b)
  | ct => exact fun S' σ' H' b => h S' σ' H' (a.trans b)
  | rt r => exact fun S' σ' H' v b rv => h S' σ' H' v (a.trans b) (rv.base a.go.stay)
/-- a name gets a result -/
theorem Ac.setR {i : Nat} {r : R} {v : V} {u : Unit} (a : Ac K S ρ σ H S1 ρ1 σ1 H1) (rv : Rv K S1 H ρ1 σ1 H1 v r) (e : DL.setR i r ρ1 = .ok u ρ2) : ∃ S2, Ac K S ρ σ H S2 ρ2 (σ1.set i (some v)) H1 ∧ Ke S1 H1 S2 H1 := by
  cases r with
  | fz d =>
    obtain ⟨w, q⟩ := setD_eq (show DL.setD i d ρ1 = Out.ok u ρ2 from e)
    subst q
    exact ⟨S1, a.setD w rv, fun _ h => h, fun _ _ _ h _ => h⟩
  | fr xs =>
    obtain ⟨w, q⟩ := setL_eq (show DL.setL i xs ρ1 = Out.ok u ρ2 from e)
    subst q
    exact ⟨S1, a.setL w rv, fun _ h => h, fun _ _ _ h _ => h⟩
  | rf j =>
    obtain ⟨d, ρ3, e1, e2⟩ := bnd_eq (show bnd (DL.share (.rf j)) (DL.setD i) ρ1 = Out.ok u ρ2 from e)
    obtain ⟨S2, a2, rp, ke⟩ := a.share rv e1
    obtain ⟨w, q⟩ := setD_eq e2
    subst q
    exact ⟨S2, a2.setD w rp, ke⟩
theorem Ac.setN {i : Nat} {r : R} {v : V} {u : Unit} (a : Ac K S ρ σ H S1 ρ1 σ1 H1) (hn : ∀ k, r ≠ .rf k) (rv : Rv K S1 H ρ1 σ1 H1 v r) (e : DL.setR i r ρ1 = .ok u ρ2) : Ac K S ρ σ H S1 ρ2 (σ1.set i (some v)) H1 := by
  cases r with
  | fz d =>
    obtain ⟨w, q⟩ := setD_eq (show DL.setD i d ρ1 = Out.ok u ρ2 from e)
    subst q
    exact a.setD w rv
  | fr xs =>
    obtain ⟨w, q⟩ := setL_eq (show DL.setL i xs ρ1 = Out.ok u ρ2 from e)
    subst q
    exact a.setL w rv
  | rf j => exact absurd rfl (hn j)
theorem unref_ok {H₀ : Hp} {v : V} {r t : R} (a : Ac K S ρ σ H S1 ρ1 σ1 H1) (rv : Rv K S1 H₀ ρ1 σ1 H1 v r) (e : unref r ρ1 = .ok t ρ2) : ∃ S2, Ac K S ρ σ H S2 ρ2 σ1 H1 ∧ Rv K S2 H₀ ρ2 σ1 H1 v t ∧ ∀ k, t ≠ .rf k := by
  cases r with
  | fz d =>
    obtain ⟨q1, q2⟩ := ret_eq (show DL.ret (R.fz d) ρ1 = .ok t ρ2 from e)
    subst q1 q2
    exact ⟨S1, a, rv, fun k z => nomatch z⟩
  | fr d =>
    obtain ⟨q1, q2⟩ := ret_eq (show DL.ret (R.fr d) ρ1 = .ok t ρ2 from e)
    subst q1 q2
    exact ⟨S1, a, rv, fun k z => nomatch z⟩
  | rf i =>
    obtain ⟨d, ρ3, e1, e2⟩ := bnd_eq (show bnd (DL.share (.rf i)) (fun d => DL.ret (R.fz d)) ρ1 = .ok t ρ2 from e)
    obtain ⟨q1, q2⟩ := ret_eq e2
    subst q1 q2
    obtain ⟨S2, at2, rp, ke⟩ := At.share (At.start a.rel) (x := .rf i) rv e1
    exact ⟨S2, a.trans at2.ac, rp, fun k z => nomatch z⟩
end
section
variable {X : Cx} {Φ : Calls} {a b c : Expr} {es : List Expr} {pos : Pos} {ia ib ic : E} {tg : Tg} {is js : Ss} {s1 : S} {st : Stmt} {sts : List Stmt}
theorem dss_nil : PSs X [] (tS X.K (execs Φ .nil)) := pssImp pss_nil fun D σ H q => by
  obtain ⟨S, ρ, fl, ρ', rel, e, q⟩ := q
  simp only [execs] at e
  obtain ⟨q1, q2⟩ := ret_eq e
  subst q1 q2
  exact q S σ H (Ac.start rel)
theorem dss_cons (h1 : PS X st (tS X.K (exec Φ s1))) (h2 : PSs X sts (tS X.K (execs Φ is))) : PSs X (st :: sts) (tS X.K (execs Φ (.cons s1 is))) := pssImp (pss_cons h1 h2) fun D σ H q => by
  obtain ⟨S, ρ, fl, ρ', rel, e, q⟩ := q
  simp only [execs] at e
  obtain ⟨f, ρ1, e1, k1⟩ := bnd_eq e
  refine ⟨S, ρ, f, ρ1, rel, e1, ?_⟩
  cases f with
  | nx => exact fun S1 σ1 H1 a1 => ⟨S1, ρ1, fl, ρ', a1.rel, k1, SEnd.from a1 q⟩
  | bk => obtain ⟨q1, q2⟩ := ret_eq k1; subst q1 q2; exact q
  | ct => obtain ⟨q1, q2⟩ := ret_eq k1; subst q1 q2; exact q
  | rt r => obtain ⟨q1, q2⟩ := ret_eq k1; subst q1 q2; exact q
theorem Ac.drop {K : PySem.W.Frag} {S : Addr → Prop} {ρ : Ev} {σ : St} {H : Hp} {ws : List Nat} (rel : Rel K S ρ σ H) (h : dropOk ρ ws = true) : Ac K S ρ σ H S (wipeS ρ ws) σ H := by
  have ls : ∀ (i : Nat) (k : Lk) (xs : List D), (wipeS ρ ws)[i]? = some (.ls k xs) → ρ[i]? = some (.ls k xs) := fun i k xs e => by
    by_cases hi : i ∈ ws
    · cases wipeS_in hi e
    · rw [wipeS_out hi] at e; exact e
  refine ⟨⟨fun _ h => h, fun _ h => .inl h, fun a ⟨i, k, xs, e1, e2⟩ => .inr ⟨i, k, xs, ls i k xs e1, e2⟩, fun _ _ h _ _ => h, fun _ h => h, fun i k xs e hk => ⟨xs, ?_, fun _ => rfl, fun _ => rfl⟩⟩, ⟨?_, fun i s ov e e2 => ?_, fun i j k l xs ys a e1 e2 e3 e4 => rel.inj i j k l xs ys a (ls _ _ _ e1) (ls _ _ _ e2) e3 e4, rel.dom, rel.tb⟩⟩
  · by_cases hi : i ∈ ws
    · have := List.all_eq_true.mp h i hi
      rw [e] at this
      cases k with
      | own => cases hk
      | bor => cases this
      | lck => cases this
      | dic => cases this
      | dit => cases hk
      | ins c => cases this
      | inb c => cases this
    · rw [wipeS_out hi]; exact e
  · rw [wipeS_len]; exact rel.len
  · by_cases hi : i ∈ ws
    · cases wipeS_in hi e; exact True.intro
    · rw [wipeS_out hi] at e; exact rel.ok i s ov e e2
theorem dss_wip {ws : List Nat} (h2 : PSs X sts (tS X.K (execs Φ is))) : PSs X sts (tS X.K (execs Φ (.cons (.wip ws) is))) := pssImp h2 fun D σ H q => by
  obtain ⟨S, ρ, fl, ρ', rel, e, q⟩ := q
  simp only [execs, exec] at e
  obtain ⟨f, ρ1, e1, k1⟩ := bnd_eq e
  obtain ⟨_, ρ2, e2, k2⟩ := bnd_eq e1
  obtain ⟨q1, q2⟩ := ret_eq k2
  subst q1 q2
  have e2 : (if dropOk ρ ws then Out.ok () (wipeS ρ ws) else .stk) = .ok _ ρ1 := e2
  split at e2
  · rename_i hd
    cases e2
    have a1 := Ac.drop rel hd
    exact ⟨S, _, fl, ρ', a1.rel, k1, SEnd.from a1 q⟩
  · cases e2
theorem ds_ret (ha : PE X a (tD X.K (ev Φ ia))) : PS X (.Return (some a) pos) (tS X.K (exec Φ (.ret ia))) := psImp (ps_ret ha) fun D σ H q => by
  obtain ⟨S, ρ, fl, ρ', rel, e, q⟩ := q
  simp only [exec] at e
  obtain ⟨r, ρ1, e1, k1⟩ := bnd_eq e
  obtain ⟨q1, q2⟩ := ret_eq k1
  subst q1 q2
  exact ⟨S, ρ, r, _, rel, e1, fun S1 v H1 g1 rel1 r1 => q S1 σ H1 v ⟨g1, rel1⟩ r1⟩
theorem ds_ex (ha : PE X a (tD X.K (ev Φ ia))) (hs : swapsWith a none pos.line X.env = pure false := by rfl) : PS X (.Expr a pos) (tS X.K (exec Φ (.ex ia))) := psImp (ps_expr ha hs) fun D σ H q => by
  obtain ⟨S, ρ, fl, ρ', rel, e, q⟩ := q
  simp only [exec] at e
  obtain ⟨r, ρ1, e1, k1⟩ := bnd_eq e
  obtain ⟨q1, q2⟩ := ret_eq k1
  subst q1 q2
  exact ⟨S, ρ, r, _, rel, e1, fun S1 v H1 g1 rel1 r1 => q S1 σ H1 ⟨g1, rel1⟩⟩
theorem ds_if (hc : PT X c (tT X.K (evt Φ ic))) (h1 : PSs X sts (tS X.K (execs Φ is))) {ss2 : List Stmt} (h2 : PSs X ss2 (tS X.K (execs Φ js))) : PS X (.If c sts ss2 pos) (tS X.K (exec Φ (.ifs ic is js))) := psImp (ps_if hc h1 h2) fun D σ H q => by
  obtain ⟨S, ρ, fl, ρ', rel, e, q⟩ := q
  simp only [exec] at e
  obtain ⟨x, ρ1, e1, k1⟩ := bnd_eq e
  obtain ⟨d, v1, k2⟩ := vw1_split k1
  obtain ⟨k, e5, k3⟩ := ofO_split k2
  refine ⟨S, ρ, k, ρ1, rel, evt_mk e1 v1 e5, fun S1 b H1 g1 rel1 r1 => ?_⟩
  subst r1
  have a1 : Ac X.K S ρ σ H S1 ρ1 σ H1 := ⟨g1, rel1⟩
  cases b with
  | true => exact iteT ⟨S1, ρ1, fl, ρ', rel1, k3, SEnd.from a1 q⟩
  | false => exact iteF ⟨S1, ρ1, fl, ρ', rel1, k3, SEnd.from a1 q⟩
/-- x = e -/
theorem ds_nm {i : Nat} {t : Expr} (ht : PG X t (gName i)) (ha : PE X a (tD X.K (ev Φ ia))) (h1 : swapsWithSole [t] a pos.line X.env = pure false := by rfl) (h2 : swappedStores [t] a X.env = pure none := by rfl)
    (h3 : (assignEach [t] X.env).map (fun x => x.2) = [assign t X.env] := by rfl) : PS X (.Assign [t] a pos) (tS X.K (exec Φ (.asg (.nm i) ia))) := psImp (ps_asg ha ht h1 h2 h3) fun D σ H q => by
  obtain ⟨S, ρ, fl, ρ', rel, e, q⟩ := q
  simp only [exec] at e
  obtain ⟨r, ρ1, e1, k1⟩ := bnd_eq e
  obtain ⟨u, ρ2, e2, k2⟩ := bnd_eq k1
  obtain ⟨q1, q2⟩ := ret_eq k2
  subst q1 q2
  refine ⟨S, ρ, r, ρ1, rel, e1, fun S1 v H1 g1 rel1 r1 => ?_⟩
  obtain ⟨S2, a2, _⟩ := Ac.setR ⟨g1, rel1⟩ r1 (show setR i r ρ1 = .ok u _ from e2)
  exact q S2 _ H1 a2
/-- any other target -/
theorem ds_asg {t : Expr} (hn : ∀ i, tg ≠ .nm i) (ht : PG X t (gD X.K tg.slots (asgn Φ tg))) (ha : PE X a (tD X.K (ev Φ ia))) (h1 : swapsWithSole [t] a pos.line X.env = pure false := by rfl) (h2 : swappedStores [t] a X.env = pure none := by rfl)
    (h3 : (assignEach [t] X.env).map (fun x => x.2) = [assign t X.env] := by rfl) : PS X (.Assign [t] a pos) (tS X.K (exec Φ (.asg tg ia))) := psImp (ps_asg ha ht h1 h2 h3) fun D σ H q => by
  obtain ⟨S, ρ, fl, ρ', rel, e, q⟩ := q
  simp only [exec] at e
  obtain ⟨r, ρ1, e1, k1⟩ := bnd_eq e
  obtain ⟨u, ρ2, e2, k2⟩ := bnd_eq k1
  obtain ⟨q1, q2⟩ := ret_eq k2
  subst q1 q2
  have e2 : bnd (share r) (fun d => asgn Φ tg d) ρ1 = .ok u ρ' := by
    cases tg with
    | nm i => exact absurd rfl (hn i)
    | sub _ _ => exact e2
    | tp _ => exact e2
    | fld _ _ => exact e2
  obtain ⟨d, ρ3, e3, k3⟩ := bnd_eq e2
  refine ⟨S, ρ, r, ρ1, rel, e1, fun S1 v H1 g1 rel1 r1 => ?_⟩
  obtain ⟨S2, a2, rp, _⟩ := Ac.share ⟨g1, rel1⟩ r1 e3
  exact ⟨S2, ρ3, d, _, a2.rel, rp, k3, fun S3 σ3 H3 a3 _ => q S3 σ3 H3 (a2.trans a3)⟩
/-- x, y = e1, e2 -/
theorem ds_par {i j : Nat} {x y : Str} {px py pt pt2 : Pos} {kt k2 : Nat} (hc : X.calm = true) (hN : X.N.Nodup) (hi : X.N[i]? = some x) (hj : X.N[j]? = some y) (hij : i ≠ j) (lx : X.env.scope.names.lookup x = some .local) (ly : X.env.scope.names.lookup y = some .local)
    (ha : PE X a (tD X.K (ev Φ ia))) (hb : PE X b (tD X.K (ev Φ ib))) (h1 : starEach [a, b] X.env = (false, eval a X.env) :: starEach [b] X.env := by rfl) (h2 : starEach [b] X.env = (false, eval b X.env) :: starEach [] X.env := by rfl)
    (h3 : swappedStores [.Tuple [.Name x px, .Name y py] kt pt] (.Tuple [a, b] k2 pt2) X.env = pure (some [x, y]) := by rfl) (h4 : swapsWithSole [.Tuple [.Name x px, .Name y py] kt pt] (.Tuple [a, b] k2 pt2) pos.line X.env = pure false := by rfl) :
    PS X (.Assign [.Tuple [.Name x px, .Name y py] kt pt] (.Tuple [a, b] k2 pt2) pos) (tS X.K (exec Φ (.par i j ia ib))) := psImp (ps_par hc hN hi hj hij lx ly (pa_cons ha (pa_cons hb pa_nil h2) h1) h3 h4) fun D σ H q => by
  obtain ⟨S, ρ, fl, ρ', rel, e, q⟩ := q
  simp only [exec] at e
  obtain ⟨r1, ρ1, e1, k1⟩ := bnd_eq e
  obtain ⟨r2, ρ2, e2, k2⟩ := bnd_eq k1
  obtain ⟨t1, ρ3, e3, k3⟩ := bnd_eq k2
  obtain ⟨t2, ρ4, e4, k4⟩ := bnd_eq k3
  obtain ⟨u5, ρ5, e5, k5⟩ := bnd_eq k4
  obtain ⟨u6, ρ6, e6, k6⟩ := bnd_eq k5
  obtain ⟨q1, q2⟩ := ret_eq k6
  subst q1 q2
  refine ⟨S, ρ, r1, ρ1, rel, e1, fun S1 v H1 g1 rel1 w1 => ⟨S1, ρ1, r2, ρ2, rel1, e2, fun S2 u H2 g2 rel2 w2 => ⟨v, u, rfl, ?_⟩⟩⟩
  obtain ⟨S3, a3, x1, n1⟩ := unref_ok (Ac.start rel2) (w1.go rel1 g2) e3
  have y1 : Rv X.K S3 H1 ρ3 σ H2 u r2 := w2.go rel2 a3.go
  obtain ⟨S4, a4, y2, n2⟩ := unref_ok (Ac.start a3.rel) y1 e4
  have x2 := x1.go a3.rel a4.go
  have all4 : Ac X.K S ρ σ H S4 ρ4 σ H2 := ((⟨g1.trans g2, rel2⟩ : Ac X.K S ρ σ H S2 ρ2 σ H2).trans a3).trans a4
  have a5 := all4.setN n1 x2 e5
  -- the second value behind the first store
  have y3 : Rv X.K S4 H ρ5 (σ.set i (some v)) H2 u t2 := by
    cases t2 with
    | fz d => exact y2
    | rf k => exact absurd rfl (n2 k)
    | fr ys =>
      obtain ⟨p, vs, ep, h0, h1, h2, h3, h4⟩ := y2
      have own5 : ∀ z, Own ρ5 (σ.set i (some v)) z → Own ρ4 σ z ∨ H1 z ≠ none := fun z hz => by
        cases t1 with
        | rf k => exact absurd rfl (n1 k)
        | fz d =>
          obtain ⟨_, q⟩ := setD_eq (show setD i d ρ4 = .ok u5 ρ5 from e5)
          subst q
          obtain ⟨l, k, zs, z1, z2⟩ := hz
          by_cases h : i = l
          · subst h
            by_cases hb : i < ρ4.length
            · rw [List.getElem?_set_self hb] at z1; cases z1
            · rw [List.getElem?_eq_none (by rw [List.length_set]; omega)] at z1; cases z1
          · rw [List.getElem?_set_ne h] at z1 z2
            exact .inl ⟨l, k, zs, z1, z2⟩
        | fr xs =>
          obtain ⟨_, q⟩ := setL_eq (show setL i xs ρ4 = .ok u5 ρ5 from e5)
          subst q
          obtain ⟨l, k, zs, z1, z2⟩ := hz
          by_cases h : i = l
          · subst h
            by_cases hb : i < σ.length
            · rw [List.getElem?_set_self hb] at z2
              cases z2
              refine .inr ?_
              -- the first value stood ahead of the second's evaluation
              cases r1 with
              | fz d => cases (show ret (R.fz d) ρ2 = .ok (R.fr xs) ρ3 from e3)
              | rf k' =>
                obtain ⟨d, ρ9, f1, f2⟩ := bnd_eq (show bnd (share (.rf k')) (fun d => ret (.fz d)) ρ2 = .ok (R.fr xs) ρ3 from e3)
                obtain ⟨f3, _⟩ := ret_eq f2
                cases f3
              | fr xs' =>
                obtain ⟨p', vs', ep', _, h1', _⟩ := w1
                rw [ref_inj ep', h1']
                simp
            · rw [List.getElem?_eq_none (by rw [List.length_set]; omega)] at z2; cases z2
          · rw [List.getElem?_set_ne h] at z1 z2
            exact .inl ⟨l, k, zs, z1, z2⟩
      exact ⟨p, vs, ep, g1.stay p h0, h1, h2, fun z => (own5 p z).elim h3 fun n => n h0, h4⟩
  obtain ⟨S6, a6, _⟩ := a5.setR y3 e6
  exact q S6 _ H2 a6
/-- x += e, ints -/
theorem ds_aug {i : Nat} {x : Str} {op : Operator} {o : Bop} {f : Int → Int → Int} {pos' : Pos} (hN : X.N.Nodup) (hi : X.N[i]? = some x) (hx : L2.Loc X.env.scope x) (hop : PIp X op (ipI f)) (ho : ∀ i j, binD o (.int i) (.int j) = some (.fz (.int (f i j))))
    (ha : PE X a (tD X.K (ev Φ ia))) (hf : X.fn x = true ∨ X.env.scope.names.lookup x = some .local := by first | exact .inl rfl | exact .inr rfl) : PS X (.AugAssign (.Name x pos') op a pos) (tS X.K (exec Φ (.aug i o ia))) := psImp (ps_aug hN hi hx ha hop hf) fun D σ H q => by
  obtain ⟨S, ρ, fl, ρ', rel, e, q⟩ := q
  simp only [exec] at e
  obtain ⟨r1, ρ1, e1, k1⟩ := bnd_eq e
  obtain ⟨r2, ρ2, e2, k2⟩ := bnd_eq k1
  obtain ⟨d1, d2, v1, v2, k3⟩ := vw2_split k2
  cases d1 <;> (try (cases k3; done))
  cases d2 <;> (try (cases k3; done))
  rename_i m n
  obtain ⟨r3, e3, k4⟩ := ofO_split (show bnd (ofO (binD o (.int m) (.int n))) _ ρ2 = _ from k3)
  obtain ⟨u, ρ4, e4, k5⟩ := bnd_eq k4
  obtain ⟨q1, q2⟩ := ret_eq k5
  subst q1 q2
  rw [ho] at e3
  cases e3
  simp only [ev] at e1
  split at e1
  · rename_i d z
    cases e1
    cases v1
    obtain ⟨w, ew, rw'⟩ := rel.atF z
    cases rw'
    refine ⟨_, ew, S, _, r2, ρ2, rel, e2, fun S1 v H1 g1 rel1 w1 => ⟨m, n, rfl, (w1.view rel1 v2).i, ?_⟩⟩
    obtain ⟨wr, q3⟩ := setD_eq (show setD i (.int (f m n)) ρ2 = .ok u _ from e4)
    subst q3
    exact q S1 _ H1 ((⟨g1, rel1⟩ : Ac X.K S _ σ H S1 ρ2 σ H1).setD wr (.int _))
  · cases e1
  · cases e1
  · cases e1
  · cases e1
  · rename_i k xs _ _ _ _ z
    cases e1
    have v1 : (match ρ2[i]? with | some (Sl.ls k xs) => k.see xs | _ => none) = some (DL.D.int m) := v1
    split at v1
    · rename_i k xs _
      cases k <;> cases v1
    · cases v1
  · cases e1
end
end DL
end
section
set_option autoImplicit false
namespace DL
open PySem L2
variable [LTabs]
section
variable {K : PySem.W.Frag} {S S1 : Addr → Prop} {ρ ρ1 ρ2 : Ev} {σ σ1 : St} {H H1 : Hp} {D : Ends}
/-- the kind of a slot's list is turned -/
theorem Rel.kind {i : Nat} {k l : Lk} {xs : List DL.D} (rel : Rel K S ρ σ H) (e : ρ[i]? = some (.ls k xs)) (nk : k.isL = true) (nl : l.isL = true) : Rel K S (ρ.set i (.ls l xs)) σ H := by
  have hi : i < ρ.length := (List.getElem?_eq_some_iff.mp e).1
  have inv : ∀ (j : Nat) (m : Lk) (ys : List DL.D), (ρ.set i (.ls l xs))[j]? = some (.ls m ys) → ∃ m', ρ[j]? = some (.ls m' ys) := fun j m ys e1 => by
    by_cases h : i = j
    · subst h
      rw [List.getElem?_set_self hi] at e1
      cases e1
      exact ⟨k, e⟩
    · rw [List.getElem?_set_ne h] at e1
      exact ⟨m, e1⟩
  refine ⟨by rw [List.length_set]; exact rel.len, fun j s ov e1 e2 => ?_, fun j j' m m' ys zs a e1 e2 e3 e4 => ?_, rel.dom, rel.tb⟩
  · by_cases h : i = j
    · subst h
      rw [List.getElem?_set_self hi] at e1
      cases e1
      obtain ⟨p, ws, w1, w2, w3, w4⟩ := rel.atL e nk
      rw [w1] at e2
      cases e2
      exact .mkL nl rfl w2 w3 w4
    · rw [List.getElem?_set_ne h] at e1
      exact rel.ok j s ov e1 e2
  · obtain ⟨m1, q1⟩ := inv j m ys e1
    obtain ⟨m2, q2⟩ := inv j' m' zs e2
    exact rel.inj j j' m1 m2 ys zs a q1 q2 e3 e4
theorem Own.kind {i : Nat} {k l : Lk} {xs : List DL.D} (e : ρ[i]? = some (.ls k xs)) {a : Addr} : Own (ρ.set i (.ls l xs)) σ a ↔ Own ρ σ a := by
  have hi : i < ρ.length := (List.getElem?_eq_some_iff.mp e).1
  constructor
  · rintro ⟨j, m, ys, e1, e2⟩
    by_cases h : i = j
    · subst h
      rw [List.getElem?_set_self hi] at e1
      cases e1
      exact ⟨i, k, xs, e, e2⟩
    · rw [List.getElem?_set_ne h] at e1
      exact ⟨j, m, ys, e1, e2⟩
  · rintro ⟨j, m, ys, e1, e2⟩
    by_cases h : i = j
    · subst h
      rw [e] at e1
      cases e1
      exact ⟨i, l, xs, List.getElem?_set_self hi, e2⟩
    · exact ⟨j, m, ys, by rw [List.getElem?_set_ne h]; exact e1, e2⟩
/-- a run under a lock: opened again -/
theorem Ac.unlock {i : Nat} {k : Lk} {xs ys : List DL.D} (nk : k.isL = true) (e : ρ[i]? = some (.ls k xs)) (a : Ac K S (ρ.set i (.ls .lck xs)) σ H S1 ρ1 σ1 H1) (e1 : ρ1[i]? = some (.ls .lck ys)) : Ac K S ρ σ H S1 (ρ1.set i (.ls k ys)) σ1 H1 := by
  have hi : i < ρ.length := (List.getElem?_eq_some_iff.mp e).1
  have hi1 : i < ρ1.length := (List.getElem?_eq_some_iff.mp e1).1
  obtain ⟨zs, q1, q2, q3⟩ := a.go.fix i .lck xs (List.getElem?_set_self hi) (by simp)
  have ez : ys = xs := by
    rw [e1] at q1
    cases q1
    exact q3 rfl
  refine ⟨⟨a.go.sub, fun z h => (a.go.new z h).imp id (Or.imp id (Own.kind e).mp), fun z h => (a.go.own z ((Own.kind e1).mp h)).imp id (Own.kind e).mp, fun z o h n nt => a.go.keep z o h (nt := nt) fun w => n ((Own.kind e).mp w), a.go.stay, fun j m ws e2 n => ?_⟩, a.rel.kind e1 (by decide) nk⟩
  by_cases h : i = j
  · subst h
    rw [e] at e2
    cases e2
    exact ⟨ys, List.getElem?_set_self hi1, fun _ => q2 rfl, fun _ => ez⟩
  · obtain ⟨us, w1, w2, w3⟩ := a.go.fix j m ws (by rw [List.getElem?_set_ne h]; exact e2) n
    exact ⟨us, by rw [List.getElem?_set_ne h]; exact w1, w2, w3⟩
theorem Rv.kind {i : Nat} {k l : Lk} {xs : List DL.D} {H₀ : Hp} {v : V} {r : R} (e : ρ[i]? = some (.ls k xs)) (h : Rv K S H₀ ρ σ H v r) : Rv K S H₀ (ρ.set i (.ls l xs)) σ H v r := by
  cases r with
  | fz d => exact h
  | fr ys => obtain ⟨a, vs, e1, h0, h1, h2, h3, h4⟩ := h; exact ⟨a, vs, e1, h0, h1, h2, fun z => h3 ((Own.kind e).mp z), h4⟩
  | rf j => exact h
/-- what withLock did -/
theorem lock_split {α : Type} {l : Option (Nat × Lk)} {m : M α} {x : α} (hl : ∀ i k, l = some (i, k) → ∃ xs, ρ[i]? = some (.ls k xs)) (h : withLock l m ρ = .ok x ρ2) :
    (l = none ∧ m ρ = .ok x ρ2) ∨ ∃ i k xs ys ρ1, l = some (i, k) ∧ ρ[i]? = some (.ls k xs) ∧ m (ρ.set i (.ls .lck xs)) = .ok x ρ1 ∧ (∃ k', ρ1[i]? = some (.ls k' ys)) ∧ ρ2 = ρ1.set i (.ls k ys) := by
  unfold withLock at h
  split at h
  · exact .inl ⟨rfl, h⟩
  · rename_i i k
    obtain ⟨xs, e⟩ := hl i k rfl
    rw [e] at h
    obtain ⟨a, ρ1, e1, h1⟩ := then_eq (show (m (ρ.set i (.ls .lck xs))).then _ = _ from h)
    split at h1
    · rename_i k' ys e2
      cases h1
      exact .inr ⟨i, k, xs, ys, ρ1, rfl, e, e1, ⟨k', e2⟩, rfl⟩
    · cases h1
theorem lockOf_ok {r : R} {i : Nat} {k : Lk} (h : lockOf ρ r = some (i, k)) : k.isL = true ∧ ∃ xs, ρ[i]? = some (.ls k xs) := by
  cases r with
  | fz _ => cases h
  | fr _ => cases h
  | rf j =>
    have h : (match ρ[j]? with | some (Sl.ls .dic _) => none | some (Sl.ls .dit _) => none | some (Sl.ls (.ins _) _) => none | some (Sl.ls (.inb _) _) => none | some (Sl.ls k _) => some (j, k) | _ => none) = some (i, k) := h
    split at h
    · cases h
    · cases h
    · cases h
    · cases h
    · rename_i k' xs n1 n0 n2 n3 e
      cases h
      refine ⟨?_, xs, e⟩
      cases k with
      | own => rfl
      | bor => rfl
      | lck => rfl
      | dic => exact (n1 rfl).elim
      | dit => exact (n0 rfl).elim
      | ins c => exact (n2 c rfl).elim
      | inb c => exact (n3 c rfl).elim
    · cases h
end
/-- the kinds of walks lock what stands in a slot -/
theorem evit_lock {Φ : Calls} {it : DL.It} {ρ ρ' : Ev} {l : Option (Nat × Lk)} {xs : List DL.D} (h : evit Φ it ρ = .ok (l, xs) ρ') : ∀ i k, l = some (i, k) → k.isL = true ∧ ∃ xs, ρ'[i]? = some (.ls k xs) := by
  have one : ∀ {m : M R} {f : List DL.D → List DL.D}, bnd m (fun x => bnd (vw x) fun d => fun ρ => bnd (ofO (itemsD d)) (fun xs => ret (lockOf ρ x, f xs)) ρ) ρ = .ok (l, xs) ρ' → ∀ i k, l = some (i, k) → k.isL = true ∧ ∃ xs, ρ'[i]? = some (.ls k xs) := fun h i k e => by
    obtain ⟨x, d, ys, _, _, _, e1, _⟩ := itv_split (f := fun _ xs => (none, _)) (g := fun _ xs => (none, xs)) h
    exact lockOf_ok (e1.symm.trans e)
  have none_of : ∀ {m : M (Option (Nat × Lk) × List DL.D)}, (∀ ρ ρ' p, m ρ = .ok p ρ' → p.1 = none) → m ρ = .ok (l, xs) ρ' → ∀ i k, l = some (i, k) → k.isL = true ∧ ∃ xs, ρ'[i]? = some (.ls k xs) := fun hm h i k e => by
    have := hm _ _ _ h
    rw [show l = none from this] at e
    cases e
  cases it with
  | val e => simp only [evit] at h; exact one (f := id) h
  | enum e => simp only [evit] at h; exact one (f := enumFrom 0) h
  | rev e => simp only [evit] at h; exact one (f := List.reverse) h
  | rng1 e =>
    simp only [evit] at h
    intro i k e
    obtain ⟨x, ρ1, e1, h1⟩ := bnd_eq h
    obtain ⟨d, v1, h2⟩ := vw1_split h1
    cases d <;> (try (cases h2; done))
    rename_i j
    have h2 : (if small62 j = true then ret (none, rngL 0 j) else stuck) ρ1 = .ok (l, xs) ρ' := h2
    split at h2
    · obtain ⟨q1, _⟩ := ret_eq h2
      cases q1
      cases e
    · cases h2
  | rng2 a b =>
    simp only [evit] at h
    intro i k e
    obtain ⟨x, ρ1, e1, h1⟩ := bnd_eq h
    obtain ⟨y, ρ2, e2, h2⟩ := bnd_eq h1
    obtain ⟨d, f, v1, v2, h3⟩ := vw2_split h2
    cases d <;> (try (cases h3; done))
    cases f <;> (try (cases h3; done))
    rename_i m n
    have h3 : (if (small62 m && small62 n) = true then ret (none, rngL m n) else stuck) ρ2 = .ok (l, xs) ρ' := h3
    split at h3
    · obtain ⟨q1, _⟩ := ret_eq h3
      cases q1
      cases e
    · cases h3
  | rngD a b =>
    simp only [evit] at h
    intro i k e
    obtain ⟨x, ρ1, e1, h1⟩ := bnd_eq h
    obtain ⟨y, ρ2, e2, h2⟩ := bnd_eq h1
    obtain ⟨d, f, v1, v2, h3⟩ := vw2_split h2
    cases d <;> (try (cases h3; done))
    cases f <;> (try (cases h3; done))
    rename_i m n
    have h3 : (if (small62 m && small62 n) = true then ret (none, rngDL m n) else stuck) ρ2 = .ok (l, xs) ρ' := h3
    split at h3
    · obtain ⟨q1, _⟩ := ret_eq h3
      cases q1
      cases e
    · cases h3
  | enumZ a b =>
    simp only [evit] at h
    intro i k e
    obtain ⟨x, ρ1, e1, h1⟩ := bnd_eq h
    obtain ⟨d, ρ2, e2, h2⟩ := bnd_eq h1
    obtain ⟨y, ρ3, e3, h3⟩ := bnd_eq h2
    obtain ⟨f, ρ4, e4, h4⟩ := bnd_eq h3
    cases d <;> (try (cases h4; done))
    cases f <;> (try (cases h4; done))
    obtain ⟨q1, _⟩ := ret_eq h4
    cases q1
    cases e
  | keys a =>
    simp only [evit] at h
    intro i k e
    obtain ⟨x, ρ1, e1, h1⟩ := bnd_eq h
    split at h1
    · obtain ⟨q1, _⟩ := ret_eq h1
      cases q1
      cases e
    · cases h1
  | zip a b =>
    simp only [evit] at h
    intro i k e
    obtain ⟨x, ρ1, e1, h1⟩ := bnd_eq h
    obtain ⟨d, ρ2, e2, h2⟩ := bnd_eq h1
    obtain ⟨y, ρ3, e3, h3⟩ := bnd_eq h2
    obtain ⟨f, ρ4, e4, h4⟩ := bnd_eq h3
    obtain ⟨zs, _, h5⟩ := ofO_split h4
    obtain ⟨q1, _⟩ := ret_eq h5
    cases q1
    cases e
  | zip3 a b c =>
    simp only [evit] at h
    intro i k e
    obtain ⟨x, ρ1, e1, h1⟩ := bnd_eq h
    obtain ⟨d, ρ2, e2, h2⟩ := bnd_eq h1
    obtain ⟨y, ρ3, e3, h3⟩ := bnd_eq h2
    obtain ⟨f, ρ4, e4, h4⟩ := bnd_eq h3
    obtain ⟨z, ρ5, e5, h5⟩ := bnd_eq h4
    obtain ⟨g, ρ6, e6, h6⟩ := bnd_eq h5
    cases d <;> (try (cases h6; done))
    cases f <;> (try (cases h6; done))
    cases g <;> (try (cases h6; done))
    obtain ⟨q1, _⟩ := ret_eq h6
    cases q1
    cases e
section
variable {X : Cx} {Φ : Calls} {a b c : Expr} {es : List Expr} {pos : Pos} {ia ib ic : E} {tg : Tg} {is js : Ss} {t iter : Expr} {it : DL.It} {body : List Stmt}
/-- the loop from some turn on -/
theorem for_loop {J : L2.It} {Src : SrcT} {xs : List DL.D} {g : TG} {tb : TS} {K : PySem.W.Frag} {S : Addr → Prop} {ρ ρ2 : Ev} {σ : St} {H : Hp} {D : Ends} {fl : Fl} {sl : List Nat} {m : DL.D → M Unit} {bd : M Fl} (w : Wk K J Src xs)
    (hg : ∀ v σ H Q, gD K sl m v σ H Q → g v σ H Q) (hb : ∀ D σ H, tS K bd D σ H → tb D σ H) (rel : Rel K S ρ σ H) (src : Src S ρ σ H)
    (e : forL (fun x => bnd (m x) fun _ => bd) xs ρ = .ok fl ρ2) (nb : fl = .nx ∨ ∃ r, fl = .rt r) (q : SEnd K S ρ σ H ρ2 D fl) :
    ∃ W : Nat → Nat → St → Hp → Prop, (∃ m, W 0 m σ H) ∧ ∀ i m σ' H', W i m σ' H' → (J.stop i H' ∧ D.nx σ' H') ∨ (J.go i H' ∧ ∃ N : St → Hp → Prop, (∀ σ2 H2, N σ2 H2 → ∃ m', m' < m ∧ W (i + 1) m' σ2 H2) ∧
      ∀ x H2, J.yld i H' x H2 → g x σ' H2 fun σ3 H3 => tb { nx := N, rt := D.rt, bk := D.nx, ct := N } σ3 H3) := by
  refine ⟨fun i n σ' H' => i + n = xs.length ∧ ∃ S' ρ', Ac K S ρ σ H S' ρ' σ' H' ∧ forL (fun x => bnd (m x) fun _ => bd) (xs.drop i) ρ' = .ok fl ρ2, ⟨xs.length, Nat.zero_add _, S, ρ, Ac.start rel, e⟩, fun i n σ' H' hW => ?_⟩
  obtain ⟨hn, S', ρ', ac, e'⟩ := hW
  have src' := w.stay _ _ _ _ _ _ _ _ rel src ac.go ac.rel
  by_cases hi : i < xs.length
  · refine .inr ⟨w.go _ _ _ _ ac.rel src' i hi, fun σ2 H2 => ∃ S2 ρ3, Ac K S ρ σ H S2 ρ3 σ2 H2 ∧ forL (fun x => bnd (m x) fun _ => bd) (xs.drop (i + 1)) ρ3 = .ok fl ρ2, fun σ2 H2 ⟨S2, ρ3, a2, e2⟩ => ⟨n - 1, by omega, by omega, S2, ρ3, a2, e2⟩, fun x H2 hy => ?_⟩
    have hd : xs[i]? = some xs[i] := List.getElem?_eq_getElem hi
    obtain ⟨S2, gn, rp⟩ := w.yld _ _ _ _ _ _ _ _ ac.rel src' hd hy
    have a2 : Ac K S ρ σ H S2 ρ' σ' H2 := ac.trans ⟨gn.go, ac.rel.gn gn⟩
    rw [List.drop_eq_getElem_cons hi] at e'
    obtain ⟨f, ρ4, e4, k4⟩ := bnd_eq (show bnd (bnd (m xs[i]) fun _ => bd) _ ρ' = _ from e')
    obtain ⟨u, ρ5, e5, k5⟩ := bnd_eq e4
    refine hg x σ' H2 _ ⟨S2, ρ', xs[i], ρ5, a2.rel, rp, e5, fun S3 σ3 H3 a3 _ => hb _ _ _ ⟨S3, ρ5, f, ρ4, a3.rel, k5, ?_⟩⟩
    have a23 := a2.trans a3
    cases f with
    | nx => exact fun S6 σ6 H6 a6 => ⟨S6, ρ4, a23.trans a6, k4⟩
    | ct => exact fun S6 σ6 H6 a6 => ⟨S6, ρ4, a23.trans a6, k4⟩
    | bk =>
      obtain ⟨q1, q2⟩ := ret_eq (show ret Fl.nx ρ4 = .ok fl ρ2 from k4)
      subst q1 q2
      exact fun S6 σ6 H6 a6 => q S6 σ6 H6 (a23.trans a6)
    | rt r =>
      obtain ⟨q1, q2⟩ := ret_eq (show ret (Fl.rt r) ρ4 = .ok fl ρ2 from k4)
      subst q1 q2
      exact fun S6 σ6 H6 v a6 rv => q S6 σ6 H6 v (a23.trans a6) (rv.base a23.go.stay)
  · refine .inl ⟨w.stop _ _ _ _ ac.rel src' i (by omega), ?_⟩
    rw [List.drop_eq_nil_of_le (by omega)] at e'
    obtain ⟨q1, q2⟩ := ret_eq (show ret Fl.nx ρ' = .ok fl ρ2 from e')
    subst q1 q2
    exact q S' σ' H' ac
theorem forL_end {step : DL.D → M Fl} : ∀ {xs : List DL.D} {ρ ρ' : Ev} {fl : Fl}, forL step xs ρ = .ok fl ρ' → fl = .nx ∨ ∃ r, fl = .rt r
  | [], ρ, ρ', fl, h => by obtain ⟨q, _⟩ := ret_eq (show ret Fl.nx ρ = .ok fl ρ' from h); exact .inl q
  | x :: r, ρ, ρ', fl, h => by
    obtain ⟨f, ρ1, e1, k1⟩ := bnd_eq (show bnd (step x) _ ρ = _ from h)
    cases f with
    | nx => exact forL_end (xs := r) k1
    | ct => exact forL_end (xs := r) k1
    | bk => obtain ⟨q, _⟩ := ret_eq (show ret Fl.nx ρ1 = .ok fl ρ' from k1); exact .inl q
    | rt r => obtain ⟨q, _⟩ := ret_eq (show ret (Fl.rt r) ρ1 = .ok fl ρ' from k1); exact .inr ⟨r, q⟩
/-- for t in iter: body -/
theorem ds_for (hp : PassesOwn (model X.prog X.w) X.A X.env X.xe) (hc : X.calm = true) (hi : PI X t iter (iD X.K (evit Φ it))) (ht : PG X t (gD X.K tg.slots (asgn Φ tg))) (hb : PSs X body (tS X.K (execs Φ is))) (hf : ∀ (x : Value), foldedSetIterable iter X.env x = pure x := by intro _; rfl) :
    PS X (.For t iter body [] pos) (tS X.K (exec Φ (.for_ tg it is))) := psImp (ps_for hp hc hi ht hb hf) fun D σ H q => by
  obtain ⟨S, ρ, fl, ρ', rel, e, q⟩ := q
  simp only [exec] at e
  obtain ⟨⟨l, xs⟩, ρ1, e1, k1⟩ := bnd_eq e
  refine ⟨S, ρ, l, xs, ρ1, rel, e1, fun S1 H1 J Src at1 w src => ?_⟩
  have a1 := at1.ac
  rcases lock_split (fun i k z => (evit_lock e1 i k z).2) (show withLock l _ ρ1 = _ from k1) with ⟨rfl, k2⟩ | ⟨i, k, ys, zs, ρ2, rfl, e2, k2, ⟨k', e3⟩, rfl⟩
  · exact for_loop w (fun _ _ _ _ h => h) (fun _ _ _ h => h) a1.rel src k2 (forL_end k2) (SEnd.from a1 q)
  · have hk : locked (some (i, k)) ρ1 = ρ1.set i (.ls .lck ys) := by
      show (match ρ1[i]? with | some (.ls _ xs) => ρ1.set i (.ls .lck xs) | _ => ρ1) = _
      rw [e2]
    rw [hk] at src
    have nd := (evit_lock e1 i k rfl).1
    have relL : Rel X.K S1 (ρ1.set i (.ls .lck ys)) σ H1 := a1.rel.kind e2 nd (by decide)
    have unl : ∀ {S' σ' H'}, Ac X.K S1 (ρ1.set i (.ls .lck ys)) σ H1 S' ρ2 σ' H' → Ac X.K S ρ σ H S' (ρ2.set i (.ls k zs)) σ' H' ∧ ρ2[i]? = some (.ls .lck zs) := fun {S' σ' H'} a => by
      obtain ⟨us, w1, _, _⟩ := a.go.fix i .lck ys (List.getElem?_set_self (List.getElem?_eq_some_iff.mp e2).1) (by simp)
      rw [e3] at w1
      cases w1
      exact ⟨a1.trans (a.unlock nd e2 e3), e3⟩
    have nb := forL_end k2
    refine for_loop w (fun _ _ _ _ h => h) (fun _ _ _ h => h) relL src k2 nb ?_
    rcases nb with rfl | ⟨r, rfl⟩
    · exact fun S' σ' H' a => q S' σ' H' (unl a).1
    · exact fun S' σ' H' v a rv => q S' σ' H' v (unl a).1 ((rv.base a1.go.stay).kind (unl a).2)
/-- while c: body -/
theorem ds_whl (hp : PassesOwn (model X.prog X.w) X.A X.env X.xe) (hc : PT X c (tT X.K (evt Φ ic))) (hb : PSs X body (tS X.K (execs Φ is))) : PS X (.While c body [] pos) (tS X.K (exec Φ (.whl ic is))) := psImp (ps_while hp hc hb) fun D σ H q => by
  obtain ⟨S, ρ, fl, ρ', rel, e, q⟩ := q
  simp only [exec] at e
  refine ⟨fun n σ' H' => ∃ S' ρ1, Ac X.K S ρ σ H S' ρ1 σ' H' ∧ whileN (evt Φ ic) (execs Φ is) n ρ1 = .ok fl ρ', ⟨fuelW, S, ρ, Ac.start rel, e⟩, fun n σ' H' hW => ?_⟩
  obtain ⟨S', ρ1, ac, e1⟩ := hW
  cases n with
  | zero => cases e1
  | succ n =>
    obtain ⟨k, ρ2, e2, k2⟩ := bnd_eq (show bnd (evt Φ ic) _ ρ1 = _ from e1)
    refine ⟨S', ρ1, k, ρ2, ac.rel, e2, fun S3 b H3 g3 rel3 r3 => ?_⟩
    subst r3
    have a3 : Ac X.K S ρ σ H S3 ρ2 σ' H3 := ac.trans ⟨g3, rel3⟩
    cases b with
    | true =>
      obtain ⟨f, ρ4, e4, k4⟩ := bnd_eq (show bnd (execs Φ is) _ ρ2 = _ from k2)
      refine iteT ⟨fun σ2 H2 => ∃ S2 ρ3, Ac X.K S ρ σ H S2 ρ3 σ2 H2 ∧ whileN (evt Φ ic) (execs Φ is) n ρ3 = .ok fl ρ', fun σ2 H2 h => ⟨n, Nat.lt_succ_self _, h⟩, S3, ρ2, f, ρ4, rel3, e4, ?_⟩
      cases f with
      | nx => exact fun S6 σ6 H6 a6 => ⟨S6, ρ4, a3.trans a6, k4⟩
      | ct => exact fun S6 σ6 H6 a6 => ⟨S6, ρ4, a3.trans a6, k4⟩
      | bk =>
        obtain ⟨q1, q2⟩ := ret_eq (show ret Fl.nx ρ4 = .ok fl ρ' from k4)
        subst q1 q2
        exact fun S6 σ6 H6 a6 => q S6 σ6 H6 (a3.trans a6)
      | rt r =>
        obtain ⟨q1, q2⟩ := ret_eq (show ret (Fl.rt r) ρ4 = .ok fl ρ' from k4)
        subst q1 q2
        exact fun S6 σ6 H6 v a6 rv => q S6 σ6 H6 v (a3.trans a6) (rv.base a3.go.stay)
    | false =>
      obtain ⟨q1, q2⟩ := ret_eq (show ret Fl.nx ρ2 = .ok fl ρ' from k2)
      subst q1 q2
      exact iteF (q S3 σ' H3 a3)
end
end DL
end
section
set_option autoImplicit false
namespace DL
open PySem L2
variable [LTabs]
section
variable {X : Cx} {Φ : Calls} {a b c : Expr} {pos : Pos} {ie ic : E} {tg : Tg} {t iter elt : Expr} {it : DL.It} {own : List Nat}
/-- an optional test -/
theorem dts_none : PTs X [] (tT X.K (evc Φ .none)) := ⟨fun pins s σ H Q I q => by
  obtain ⟨S, ρ, r, ρ', rel, e, q⟩ := q
  simp only [evc] at e
  obtain ⟨q1, q2⟩ := ret_eq e
  subst q1 q2
  exact pts_nil.run pins s σ H Q I (q S _ H .refl rel rfl)⟩
/-- one turn's meaning -/
def compStep (Φ : Calls) (own : List Nat) (tg : Tg) (cond : Eo) (elt : E) : D → M (Option D) := fun x => bnd (asgn Φ tg x) fun _ => bnd (evc Φ cond) fun k =>
  if k then bnd (ev Φ elt) fun r => bnd (share r) fun y => bnd (wipeM own) fun _ => ret (some y) else bnd (wipeM own) fun _ => ret none
theorem Go.temp {S S' : Addr → Prop} {ρ ρ' : Ev} {σ σ' : St} {H H' : Hp} {Da : Addr} {o : HO} (g : Go S ρ σ H S' ρ' σ' H') (h0 : H Da = none) : Go S ρ σ H S' ρ' σ' (upd H' Da o) :=
  ⟨g.sub, g.new, g.own, fun a u h n nt => by rw [upd_ne (ne_of_none h h0)]; exact g.keep a u h n nt, fun a h => by
    by_cases e : a = Da
    · rw [e, upd_same] at h; cases h
    · rw [upd_ne e] at h; exact g.stay a h, g.fix⟩
theorem Rel.temp {K : PySem.W.Frag} {S : Addr → Prop} {ρ : Ev} {σ : St} {H : Hp} {Da : Addr} {o : HO} (rel : Rel K S ρ σ H) (h1 : ¬ S Da) (h2 : ¬ Own ρ σ Da) (tb : LTb (upd H Da o)) : Rel K S ρ σ (upd H Da o) := by
  have ke : Ke S H S (upd H Da o) := ⟨fun _ h => h, fun a u s h _ => by
    have na : a ≠ Da := fun z => h1 (by rw [← z]; exact s)
    rw [upd_ne na]; exact h⟩
  refine ⟨rel.len, fun i s ov e1 e2 => ?_, rel.inj, fun a h => ?_, tb⟩
  · have w := rel.ok i s ov e1 e2
    cases s with
    | un => trivial
    | fz d => obtain ⟨v, ev, hv⟩ := w; exact ⟨v, ev, hv.mono ke⟩
    | ls k xs =>
      obtain ⟨a, ea, q2, q1⟩ := w
      subst ea
      have na : a ≠ Da := fun z => h2 (by rw [← z]; exact ⟨i, k, xs, e1, e2⟩)
      exact ⟨a, rfl, q2, hold_mono q1 (fun o h _ => by rw [upd_ne na]; exact h) ke⟩
  · by_cases e : a = Da
    · exact absurd (e ▸ h) h1
    · rw [upd_ne e]; exact rel.dom a h
theorem wipeS_idem (ρ : Ev) (vs : List Nat) : wipeS (wipeS ρ vs) vs = wipeS ρ vs := by
  refine List.ext_getElem? fun i => ?_
  by_cases hi : i ∈ vs
  · cases e : (wipeS (wipeS ρ vs) vs)[i]? with
    | none =>
      have h := List.getElem?_eq_none_iff.mp e
      rw [wipeS_len] at h
      exact (List.getElem?_eq_none h).symm
    | some s =>
      cases wipeS_in hi e
      have h := (List.getElem?_eq_some_iff.mp e).1
      rw [wipeS_len] at h
      have e2 := List.getElem?_eq_getElem h
      have e3 := wipeS_in hi e2
      rw [e2, e3]
  · rw [wipeS_out hi]
theorem wipeV_idem (σ : St) (vs : List Nat) : wipe (wipe σ vs) vs = wipe σ vs := wipeV_eq (wipe_length σ vs) fun _ _ => rfl
theorem wipeS_ok {ρ : Ev} {own : List Nat} : ∀ i ∈ own, ∀ k zs, (wipeS ρ own)[i]? ≠ some (.ls k zs) := fun i hi k zs e => by cases wipeS_in hi e
/-- the turns from some place on, the list so far at Da -/
theorem comp_loop {K : PySem.W.Frag} {J : L2.It} {Src : SrcT} {xs ys : List D} {g : TG} {tt : TT} {te : TE} {S : Addr → Prop} {ρ ρ2 : Ev} {σ : St} {H : Hp} {cond : Eo} {elt : E} {Qd : Hp → Prop} {Da : Addr} (w : Wk K J Src xs)
    (hg : ∀ v σ H Q, gD K tg.slots (asgn Φ tg) v σ H Q → g v σ H Q) (ht : ∀ σ H Q, tT K (evc Φ cond) σ H Q → tt σ H Q) (he : ∀ σ H Q, tD K (ev Φ elt) σ H Q → te σ H Q) (hs : ∀ i ∈ tg.slots, i ∈ own)
    (rel : Rel K S (wipeS ρ own) (wipe σ own) H) (src : Src S (wipeS ρ own) (wipe σ own) H) (hD : H Da = none)
    (e : cmpL (compStep Φ own tg cond elt) xs [] (wipeS ρ own) = .ok ys ρ2)
    (q : ∀ S' H', Ac K S (wipeS ρ own) (wipe σ own) H S' ρ2 (wipe σ own) H' → Rv K S' (fun _ => none) ρ2 (wipe σ own) H' (.ref Da) (.fr ys) → Qd H') :
    ∃ W : Nat → Nat → Hp → Prop, (∃ m, W 0 m (upd H Da (.lst []))) ∧ ∀ i m H', W i m H' → (J.stop i H' ∧ Qd H') ∨ (J.go i H' ∧ ∃ Nx : Hp → Prop, (∀ H2, Nx H2 → ∃ m', m' < m ∧ W (i + 1) m' H2) ∧
      ∀ x H2, J.yld i H' x H2 → g x (wipe σ own) H2 fun σ3 H3 => wipe σ3 own = wipe σ own ∧ tt σ3 H3 fun b H4 => if b = true then te σ3 H4 fun y H5 => ∃ acc, H5 Da = some (.lst acc) ∧ acc.length < sizeLine ∧ Nx (upd H5 Da (.lst (acc ++ [y]))) else Nx H4) := by
  -- the state between the turns
  refine ⟨fun i n H' => i + n = xs.length ∧ ∃ S' ρ' ds, Ac K S (wipeS ρ own) (wipe σ own) H S' ρ' (wipe σ own) H' ∧ wipeS ρ' own = ρ' ∧ Rv K S' (fun _ => none) ρ' (wipe σ own) H' (.ref Da) (.fr ds) ∧
      cmpL (compStep Φ own tg cond elt) (xs.drop i) ds ρ' = .ok ys ρ2, ⟨xs.length, Nat.zero_add _, S, _, [], ⟨(Gn.lst hD).go, rel.gn (Gn.lst hD)⟩, wipeS_idem _ _, ⟨Da, [], rfl, rfl, upd_same, fun z => rel.dom Da z hD, (fun z => by
        obtain ⟨us, eu⟩ := rel.own_lst z
        rw [hD] at eu
        cases eu), .nil⟩, e⟩, fun i n H' hW => ?_⟩
  obtain ⟨hn, S', ρ', ds, ac1, wi, t1, e'⟩ := hW
  have src' := w.stay _ _ _ _ _ _ _ _ rel src ac1.go ac1.rel
  by_cases hi : i < xs.length
  · refine .inr ⟨w.go _ _ _ _ ac1.rel src' i hi, fun H2 => ∃ S2 ρ3 es, Ac K S (wipeS ρ own) (wipe σ own) H S2 ρ3 (wipe σ own) H2 ∧ wipeS ρ3 own = ρ3 ∧ Rv K S2 (fun _ => none) ρ3 (wipe σ own) H2 (.ref Da) (.fr es) ∧
        cmpL (compStep Φ own tg cond elt) (xs.drop (i + 1)) es ρ3 = .ok ys ρ2, fun H2 h => ⟨n - 1, by omega, by omega, h⟩, fun x H2 hy => ?_⟩
    have hd : xs[i]? = some xs[i] := List.getElem?_eq_getElem hi
    obtain ⟨S2, gn, rp⟩ := w.yld _ _ _ _ _ _ _ _ ac1.rel src' hd hy
    have rel2 := ac1.rel.gn gn
    have t2 := Rv.go4 ac1.rel (gn.go (ρ := ρ') (σ := wipe σ own)) t1
    rw [List.drop_eq_getElem_cons hi] at e'
    obtain ⟨o, ρ4, e4, k4⟩ := bnd_eq (show bnd (compStep Φ own tg cond elt xs[i]) _ ρ' = _ from e')
    obtain ⟨u, ρ5, e5, k5⟩ := bnd_eq (show bnd (asgn Φ tg xs[i]) _ ρ' = _ from e4)
    obtain ⟨bb, ρ6, e6, k6⟩ := bnd_eq k5
    refine hg x _ H2 _ ⟨S2, ρ', xs[i], ρ5, rel2, rp, e5, fun S3 σ3 H3 a3 s3 => ?_⟩
    have ws : wipe σ3 own = wipe σ own := wipeV_eq (s3.1.trans (wipe_length σ own)) fun j hj => s3.2 j fun z => hj (hs j z)
    have t3 := Rv.go4 rel2 a3.go t2
    refine ⟨ws, ht _ _ _ ⟨S3, ρ5, bb, ρ6, a3.rel, e6, fun S4 b H4 g4 rel4 eb => ?_⟩⟩
    subst eb
    have t4 := Rv.go4 a3.rel g4 t3
    have ac4 : Ac K S (wipeS ρ own) (wipe σ own) H S4 ρ6 σ3 H4 := (ac1.trans ⟨gn.go, rel2⟩).trans (a3.trans ⟨g4, rel4⟩)
    -- the next turn's state, from the end of this one
    have fin : ∀ {S7 : Addr → Prop} {ρ7 : Ev} {H7 : Hp} {es : List D}, Ac K S (wipeS ρ own) (wipe σ own) H S7 ρ7 σ3 H7 → Rv K S7 (fun _ => none) ρ7 σ3 H7 (.ref Da) (.fr es) → (∀ i ∈ own, ∀ k zs, ρ7[i]? ≠ some (.ls k zs)) →
        Ac K S (wipeS ρ own) (wipe σ own) H S7 (wipeS ρ7 own) (wipe σ own) H7 ∧ Rv K S7 (fun _ => none) (wipeS ρ7 own) (wipe σ own) H7 (.ref Da) (.fr es) := fun {S7 ρ7 H7 es} a7 t7 no => by
      have g7 := a7.go.wipe no wipeS_ok
      rw [wipeS_idem, wipeV_idem, ws] at g7
      have r7 := a7.rel.wipe no
      rw [ws] at r7
      obtain ⟨p, vs, ep, _, q1, q2, q3, q4⟩ := t7
      refine ⟨⟨g7, r7⟩, p, vs, ep, rfl, q1, q2, fun z => q3 ?_, q4⟩
      rw [← ws] at z
      exact (Own.wipe no).mp z
    cases b with
    | true =>
      obtain ⟨r, ρ7, e7, k7⟩ := bnd_eq (show bnd (ev Φ elt) _ ρ6 = _ from k6)
      obtain ⟨y, ρ8, e8, k8⟩ := bnd_eq k7
      obtain ⟨u9, ρ9, e9, k9⟩ := bnd_eq k8
      obtain ⟨q1, q2⟩ := ret_eq k9
      subst q1 q2
      obtain ⟨no, q9⟩ := wipeM_eq e9
      subst q9
      refine iteT (he _ _ _ ⟨S4, ρ6, r, ρ7, rel4, e7, fun S5 v H5 g5 rel5 r5 => ?_⟩)
      obtain ⟨S6, at6, rp6, _⟩ := At.share ⟨g5, rel5⟩ r5 e8
      have t6 := Rv.go4 rel4 at6.go t4
      obtain ⟨a6, t6⟩ := fin (ac4.trans at6.ac) t6 no
      obtain ⟨p, vs, ep, _, h1, h2, h3, h4⟩ := t6
      cases ep
      have k4 : (if ds.length < sizeLine then cmpL (compStep Φ own tg cond elt) (xs.drop (i + 1)) (ds ++ [y]) else stuck) (wipeS ρ8 own) = .ok ys ρ2 := k4
      split at k4
      · rename_i hz
        have ke : Ke S6 H5 S6 (upd H5 Da (.lst (vs ++ [v]))) := ⟨fun _ h => h, fun a u s h _ => by
          have na : a ≠ Da := fun z => h2 (by rw [← z]; exact s)
          rw [upd_ne na]; exact h⟩
        exact ⟨vs, h1, by rw [h4.length]; exact hz, S6, _, ds ++ [y], ⟨a6.go.temp hD, a6.rel.temp h2 h3 (a6.rel.tb.set h1)⟩, wipeS_idem _ _, ⟨Da, vs ++ [v], rfl, rfl, upd_same, h2, h3, (h4.append (.cons rp6 .nil)).mono ke⟩, k4⟩
      · cases k4
    | false =>
      obtain ⟨u9, ρ9, e9, k9⟩ := bnd_eq (show bnd (wipeM own) _ ρ6 = _ from k6)
      obtain ⟨q1, q2⟩ := ret_eq k9
      subst q1 q2
      obtain ⟨no, q9⟩ := wipeM_eq e9
      subst q9
      obtain ⟨a6, t6⟩ := fin ac4 t4 no
      exact iteF ⟨S4, _, ds, a6, wipeS_idem _ _, t6, k4⟩
  · refine .inl ⟨w.stop _ _ _ _ ac1.rel src' i (by omega), ?_⟩
    rw [List.drop_eq_nil_of_le (by omega)] at e'
    obtain ⟨q1, q2⟩ := ret_eq (show ret ds ρ' = .ok ys ρ2 from e')
    subst q1 q2
    exact q S' H' ac1 t1
/-- the own names' slots as they were -/
theorem Ac.back {K : PySem.W.Frag} {S S1 S2 : Addr → Prop} {ρ ρ1 ρ2 : Ev} {σ : St} {H H1 H2 : Hp} (a : Ac K S ρ σ H S1 ρ1 σ H1) (no : ∀ i ∈ own, ∀ k zs, ρ1[i]? ≠ some (.ls k zs)) (b : Ac K S1 (wipeS ρ1 own) (wipe σ own) H1 S2 ρ2 (wipe σ own) H2) :
    Ac K S ρ σ H S2 (backS ρ1 ρ2 own) σ H2 ∧ ∀ z, Own (backS ρ1 ρ2 own) σ z → Own ρ2 (wipe σ own) z := by
  have hl : ρ2.length = ρ1.length := by rw [b.rel.len, wipe_length, ← a.rel.len]
  have own1 : ∀ z, Own (backS ρ1 ρ2 own) σ z → Own ρ2 (wipe σ own) z := fun z ⟨i, k, xs, e1, e2⟩ => by
    by_cases hi : i ∈ own
    · have h1 : i < ρ1.length := by
        have := (List.getElem?_eq_some_iff.mp e1).1
        rw [backS_len, hl] at this
        exact this
      rw [backS_in hi h1 (by rw [hl]; exact h1)] at e1
      exact absurd e1 (no i hi k xs)
    · rw [backS_out hi] at e1
      exact ⟨i, k, xs, e1, by rw [wipeV_out hi]; exact e2⟩
  have ownw : ∀ z, Own (wipeS ρ1 own) (wipe σ own) z ↔ Own ρ1 σ z := fun z => Own.wipe no
  have go1 : Go S1 ρ1 σ H1 S2 (backS ρ1 ρ2 own) σ H2 := ⟨b.go.sub, fun z h => (b.go.new z h).imp id (Or.imp id (ownw z).mp), fun z h => (b.go.own z (own1 z h)).imp id (ownw z).mp, fun z o h n nt => b.go.keep z o h (nt := nt) fun w => n ((ownw z).mp w), b.go.stay, fun i k xs e n => by
    have hi : i ∉ own := fun z => no i z k xs e
    obtain ⟨ys, q1, q2, q3⟩ := b.go.fix i k xs (by rw [wipeS_out hi]; exact e) n
    exact ⟨ys, by rw [backS_out hi]; exact q1, fun _ => rfl, q3⟩⟩
  refine ⟨⟨a.go.trans go1, ⟨by rw [backS_len, hl]; exact a.rel.len, fun i s ov e1 e2 => ?_, fun i j k l xs ys z e1 e2 e3 e4 => ?_, b.rel.dom, b.rel.tb⟩⟩, own1⟩
  · by_cases hi : i ∈ own
    · have h1 : i < ρ1.length := by
        have := (List.getElem?_eq_some_iff.mp e1).1
        rw [backS_len, hl] at this
        exact this
      rw [backS_in hi h1 (by rw [hl]; exact h1)] at e1
      have w := a.rel.ok i s ov e1 e2
      cases s with
      | un => trivial
      | fz d => obtain ⟨v, ev, hv⟩ := w; exact ⟨v, ev, hv.mono (go1.ke a.rel)⟩
      | ls k xs => exact absurd e1 (no i hi k xs)
    · rw [backS_out hi] at e1
      exact b.rel.ok i s ov e1 (by rw [wipeV_out hi]; exact e2)
  · have f : ∀ (i : Nat) (k : Lk) (xs : List D), (backS ρ1 ρ2 own)[i]? = some (.ls k xs) → i ∉ own := fun i k xs e hi => by
      have h1 : i < ρ1.length := by
        have := (List.getElem?_eq_some_iff.mp e).1
        rw [backS_len, hl] at this
        exact this
      rw [backS_in hi h1 (by rw [hl]; exact h1)] at e
      exact no i hi k xs e
    have f1 := f i k xs e1
    have f2 := f j l ys e2
    rw [backS_out f1] at e1
    rw [backS_out f2] at e2
    exact b.rel.inj i j k l xs ys z e1 e2 (by rw [wipeV_out f1]; exact e3) (by rw [wipeV_out f2]; exact e4)
theorem comp_read {wi : TI} {g : TG} {tt : TT} {te : TE} {cond : Eo} {ielt : E} {σ : St} {H : Hp} {Q : VK} (hi : wi = iD X.K (evit Φ it)) (hg : g = gD X.K tg.slots (asgn Φ tg)) (ht : tt = tT X.K (evc Φ cond)) (he : te = tD X.K (ev Φ ielt))
    (hs : ∀ i ∈ tg.slots, i ∈ own) (q : tD X.K (ev Φ (.comp own tg it cond ielt)) σ H Q) : tLc wi g tt te own σ H Q := by
  subst hi hg ht he
  obtain ⟨S, ρ, r, ρ', rel, e, q⟩ := q
  simp only [ev] at e
  obtain ⟨⟨l, xs⟩, ρ1, e1, k1⟩ := bnd_eq e
  obtain ⟨ys, ρ2, k2, k3⟩ := then_eq (show Out.then _ _ = _ from k1)
  cases k3
  obtain ⟨u, ρ3, e3, k4⟩ := bnd_eq k2
  obtain ⟨no, q3⟩ := wipeM_eq e3
  subst q3
  refine ⟨S, ρ, l, xs, ρ1, rel, e1, fun S1 H1 J Src at1 w src Da hD => ?_⟩
  have a1 := at1.ac
  have relw := a1.rel.wipe no
  have lk := evit_lock e1
  -- what is left at the end
  have fin : ∀ {S' : Addr → Prop} {H' : Hp} {ρ4 : Ev}, Ac X.K S1 (wipeS ρ1 own) (wipe σ own) H1 S' ρ4 (wipe σ own) H' → Rv X.K S' (fun _ => none) ρ4 (wipe σ own) H' (.ref Da) (.fr ys) → ρ4 = ρ2 → Q (.ref Da) H' := fun {S' H' ρ4} a t e4 => by
    subst e4
    obtain ⟨b, ob⟩ := a1.back no a
    obtain ⟨p, vs, ep, _, h1, h2, h3, h4⟩ := t
    cases ep
    exact q S' _ H' b.go b.rel ⟨Da, vs, rfl, at1.go.stay Da hD, h1, h2, fun z => h3 (ob Da z), h4⟩
  have lkw : ∀ i k, l = some (i, k) → ∃ xs, (wipeS ρ1 own)[i]? = some (.ls k xs) := fun i k z => by
    obtain ⟨zs, ez⟩ := (lk i k z).2
    have hi : i ∉ own := fun h => no i h k zs ez
    exact ⟨zs, by rw [wipeS_out hi]; exact ez⟩
  rcases lock_split lkw (show withLock l _ (wipeS ρ1 own) = _ from k4) with ⟨rfl, k5⟩ | ⟨i, k, us, zs, ρ5, rfl, e2, k5, ⟨k', e5⟩, q5⟩
  · exact comp_loop w (fun _ _ _ _ h => h) (fun _ _ _ h => h) (fun _ _ _ h => h) hs relw (w.wip own _ _ _ _ no src) hD k5 fun S' H' a t => fin a t rfl
  · have hi : i ∉ own := fun h => by cases wipeS_in h e2
    have e2' : ρ1[i]? = some (.ls k us) := by rw [← wipeS_out hi]; exact e2
    have hk : locked (some (i, k)) ρ1 = ρ1.set i (.ls .lck us) := by
      show (match ρ1[i]? with | some (.ls _ xs) => ρ1.set i (.ls .lck xs) | _ => ρ1) = _
      rw [e2']
    rw [hk] at src
    have sw : wipeS (ρ1.set i (.ls .lck us)) own = (wipeS ρ1 own).set i (.ls .lck us) := by
      refine List.ext_getElem? fun j => ?_
      by_cases hj : j ∈ own
      · have hij : i ≠ j := fun z => hi (z ▸ hj)
        rw [List.getElem?_set_ne hij]
        cases z1 : (wipeS (ρ1.set i (.ls .lck us)) own)[j]? with
        | none =>
          have z2 := List.getElem?_eq_none_iff.mp z1
          rw [wipeS_len, List.length_set] at z2
          exact (List.getElem?_eq_none (by rw [wipeS_len]; exact z2)).symm
        | some s =>
          cases wipeS_in hj z1
          have z2 := (List.getElem?_eq_some_iff.mp z1).1
          rw [wipeS_len, List.length_set] at z2
          have z3 := List.getElem?_eq_getElem (l := wipeS ρ1 own) (i := j) (by rw [wipeS_len]; exact z2)
          rw [z3, wipeS_in hj z3]
      · rw [wipeS_out hj]
        by_cases hij : i = j
        · subst hij
          rw [List.getElem?_set_self (List.getElem?_eq_some_iff.mp e2').1, List.getElem?_set_self (List.getElem?_eq_some_iff.mp e2).1]
        · rw [List.getElem?_set_ne hij, List.getElem?_set_ne hij, wipeS_out hj]
    have noL : ∀ j ∈ own, ∀ k zs, (ρ1.set i (.ls .lck us))[j]? ≠ some (.ls k zs) := fun j hj k zs z => by
      have hij : i ≠ j := fun z => hi (z ▸ hj)
      rw [List.getElem?_set_ne hij] at z
      exact no j hj k zs z
    have src2 := w.wip own _ _ _ _ noL src
    have relL : Rel X.K S1 (wipeS (ρ1.set i (.ls .lck us)) own) (wipe σ own) H1 := by
      rw [sw]
      exact relw.kind e2 (lk i k rfl).1 (by decide)
    rw [← sw] at k5
    refine comp_loop w (fun _ _ _ _ h => h) (fun _ _ _ h => h) (fun _ _ _ h => h) hs relL src2 hD k5 fun S' H' a t => ?_
    rw [sw] at a
    obtain ⟨ws, w1, _, _⟩ := a.go.fix i .lck us (List.getElem?_set_self (List.getElem?_eq_some_iff.mp e2).1) (by simp)
    rw [e5] at w1
    cases w1
    have a2 := a.unlock (lk i k rfl).1 e2 e5
    exact fin a2 (t.kind e5) q5.symm
end
end DL
end
section
set_option autoImplicit false
namespace DL
open PySem L2
variable [LTabs]
section
variable {X : Cx} {Φ : Calls} {pos : Pos} {ielt : E} {ic : Eo} {tg t : Tg} {tx iter elt : Expr} {ifs : List Expr} {it : DL.It} {own : List (Str × Nat)} {scope : Scope}
theorem de_comp (hc : X.calm = true) (hN : X.N.Nodup) (ok : blkC X.N X.env.scope scope own = true) (hs : ∀ i ∈ tg.slots, i ∈ own.map (·.2)) (hi : PI X tx iter (iD X.K (evit Φ it)))
    (hg : ∀ (s : Shared) (H : Hp) (C : Addr) (cl : List (Str × Addr)) (fp : List Addr), PG (X.blk s H scope (compEnvC scope cl C X.env) fp) tx (gD X.K tg.slots (asgn Φ tg)))
    (ht : ∀ (s : Shared) (H : Hp) (C : Addr) (cl : List (Str × Addr)) (fp : List Addr), PTs (X.blk s H scope (compEnvC scope cl C X.env) fp) ifs (tT X.K (evc Φ ic)))
    (he : ∀ (s : Shared) (H : Hp) (C : Addr) (cl : List (Str × Addr)) (fp : List Addr), PE (X.blk s H scope (compEnvC scope cl C X.env) fp) elt (tD X.K (ev Φ ielt)))
    (hf : ∀ x, foldedSetIterable iter X.env x = pure x := by intro _; rfl) : PE X (.ListComp elt [⟨tx, iter, ifs, 0⟩] scope pos) (tD X.K (ev Φ (.comp (own.map (·.2)) tg it ic ielt))) :=
  peImp (pe_lc hc hN hi (blkOk_by ok) hg ht he hf) fun σ H Q q => comp_read (it := it) (own := own.map (·.2)) rfl rfl rfl rfl hs q
end
/-- a def (a method) as it stands behind the top; dV: its defaults -/
structure FunW (K : PySem.W.Frag) (x qual : Str) (st : Stmt) (f : Addr) (fd : FuncData) (dV : Value) : Prop where
  ex : ∃ (oc : Value) (od : Option Addr) (kV doc pm : Value) (an : Option Addr) (cdv ct : Value) (osl : Array (Option Value)),
    fd = PySem.W.fnOf x qual (defArgs st) (defBody st) (defScope st) dV kV doc pm an cdv ct ∧ K.lookup f = some ⟨oc, od, .func fd, osl⟩ ∧ PySem.W.codeIn K cdv qual = true
  kp : PySem.W.keepIn K (.ref f) = true
open PySem.Spec PyProof.Rows in
/-- a def's promise from its body -/
theorem fnG_of {P : Program} {w : World} {K : PySem.W.Frag} {mg : Str → Option Value} {base : Heap} {k : Nat} {x qual : Str} {st : Stmt} {f : Addr} {fd : FuncData} {N ps : List Str} {sp : Sp} {dV : Value} (F : FunW K x qual st f fd dV) (sc : FnScope N ps (defScope st))
    (len : ∀ vs H Q E, sp vs H Q E → vs.length = ps.length)
    (body : ∀ (cd : Value) (A : Around) (out : List Env) (s : Shared) (H : Hp) (vs : List V) (Q : VK) (E : XK), Room k (A.deeper (envOfC qual (defScope st) s.heap.objs.size f cd)) → Gok (A.deeper (envOfC qual (defScope st) s.heap.objs.size f cd)) →
      sp vs H Q E → ∃ t, PSs (cxOf L2.CX0 P w K mg base N qual (defScope st) f cd A out s H E).nox (defBody st) t ∧ t ⟨fun _ h => Q .non h, Q, fun _ _ => False, fun _ _ => False⟩ (start N vs) H) :
    FnG P w K mg base L2.CX0 (k + 1) f fd ps sp := by
  rcases F.ex with ⟨oc, od, kv, dc, pm, an, cd, ct, osl, efd, lk, cin⟩
  subst efd
  constructor
  · exact len
  intro A out s0 H args us vs Q E room gd env0 bt rv h
  have nlen := len vs H Q E h
  have kin : K.In s0.heap := env0.mod.kin.keeps fun b o z => (env0.bs b o z).1
  have nl : s0.heap.NoLimit := env0.mod.nolimit.keeps fun b o z => (env0.bs b o z).1
  apply codeAny_call_function room.depth (kin _ _ lk) rfl sc.co sc.gen rfl (PySem.W.codeRec_of kin cin) (bt _ _ _ _ _)
  apply wpAny_newFunctionEnv_cells sc.kind
  · rintro ⟨n, v⟩ mem
    rcases sc.par n (List.of_mem_zip mem).1 with z | z
    · exact Or.inl z
    · exact Or.inr ⟨z, PySem.W.cellsFrom_some _ _ _ (Or.inl z)⟩
  intro env eenv s1 made
  subst eenv
  refine And.intro (nl.keeps made.toInCall.keep) ?_
  apply codeAny_func
  obtain ⟨t, read, got⟩ := body cd A out s0 H vs Q E (room.deeper _) gd h
  have inv := inv_start (CX := L2.CX0) (E := E) sc room.hd env0 nlen rv made
  refine wpAny_mono (read.nox.run [] s1 _ H _ inv got) ?_ fun _ _ z => z
  intro fl s2 z
  cases fl with
  | brk => obtain ⟨_, _, _, w⟩ := z; exact w.elim
  | cont => obtain ⟨_, _, _, w⟩ := z; exact w.elim
  | next => obtain ⟨σ2, H2, J, w⟩ := z; exact ⟨V.non, H2, J.os, J.bare, J.base, J.hok, rfl, w⟩
  | ret u => obtain ⟨v2, σ2, H2, J, rv2, w⟩ := z; exact ⟨v2, H2, J.os, J.bare, J.base, J.hok, rv2, w⟩
end DL
end
section
set_option autoImplicit false
namespace DL
open PySem L2
variable [LTabs]
section
variable {K : PySem.W.Frag} {S S' : Addr → Prop} {ρ ρ' : Ev} {σ σ' : St} {H H' : Hp} {r : R} {d : D} {v : V} {a b : Addr} {xs ys : List D}
theorem zip_get : ∀ {xs ys : List D} {i : Nat} {d : D}, (zipD xs ys)[i]? = some d → ∃ x y, xs[i]? = some x ∧ ys[i]? = some y ∧ d = .tup [x, y]
  | [], _, _, _, h => by unfold zipD at h; cases h
  | _ :: _, [], _, _, h => by unfold zipD at h; cases h
  | x :: xs, y :: ys, 0, d, h => by cases h; exact ⟨x, y, rfl, rfl, rfl⟩
  | x :: xs, y :: ys, i + 1, d, h => zip_get (xs := xs) (ys := ys) h
theorem zip_len : ∀ (xs ys : List D), (zipD xs ys).length = min xs.length ys.length
  | [], ys => by simp [zipD]
  | _ :: _, [] => by simp [zipD]
  | _ :: xs, _ :: ys => by
    show (zipD xs ys).length + 1 = _
    rw [zip_len xs ys, List.length_cons, List.length_cons]
    omega
/-- two frozen things -/
def Two (K : PySem.W.Frag) (u v : V) (d e : D) : SrcT := fun S _ _ H => Rp K S H u d ∧ Rp K S H v e
theorem Two.stay {u v : V} {d e : D} (rel : Rel K S ρ σ H) (h : Two K u v d e S ρ σ H) (g : Go S ρ σ H S' ρ' σ' H') : Two K u v d e S' ρ' σ' H' := ⟨h.1.mono (g.ke rel), h.2.mono (g.ke rel)⟩
end
end DL
end
section
set_option autoImplicit false
namespace DL
open PySem L2
variable [LTabs]
theorem behind_len : ∀ (as : List Sl) (ρ : Ev), (behind as ρ).length = as.length
  | [], _ => rfl
  | .ls _ _ :: as, s :: ρ => by show (behind as ρ).length + 1 = as.length + 1; rw [behind_len as ρ]
  | .ls _ _ :: as, [] => by show (behind as _).length + 1 = as.length + 1; rw [behind_len as _]
  | .un :: as, ρ => by
    cases ρ <;> (show (behind as _).length + 1 = as.length + 1; rw [behind_len as _])
  | .fz _ :: as, ρ => by
    cases ρ <;> (show (behind as _).length + 1 = as.length + 1; rw [behind_len as _])
theorem behind_get : ∀ (as : List Sl) (ρ : Ev) (i : Nat), (behind as ρ)[i]? = match as[i]? with | some (.ls k xs) => some (ρ[i]?.getD (.ls k xs)) | o => o
  | [], _, _ => rfl
  | .ls _ _ :: as, s :: ρ, 0 => rfl
  | .ls _ _ :: as, s :: ρ, i + 1 => behind_get as ρ i
  | .ls _ _ :: as, [], 0 => rfl
  | .ls _ _ :: as, [], i + 1 => by
    refine (behind_get as [] i).trans ?_
    show _ = match as[i]? with | some (.ls k xs) => _ | o => o
    rfl
  | .un :: as, [], 0 => rfl
  | .un :: as, _ :: _, 0 => rfl
  | .un :: as, [], i + 1 => behind_get as [] i
  | .un :: as, _ :: ρ, i + 1 => behind_get as ρ i
  | .fz _ :: as, [], 0 => rfl
  | .fz _ :: as, _ :: _, 0 => rfl
  | .fz _ :: as, [], i + 1 => behind_get as [] i
  | .fz _ :: as, _ :: ρ, i + 1 => behind_get as ρ i
section
variable {K : PySem.W.Frag} {S S' : Addr → Prop} {as : List Sl} {vs : List V} {H H' : Hp} {n m : Nat} {ρ' : Ev} {σ' : St}
theorem un_at {i : Nat} {k : Lk} {xs : List D} (h : (as ++ List.replicate n Sl.un)[i]? = some (.ls k xs)) : as[i]? = some (.ls k xs) := by
  by_cases hi : i < as.length
  · rw [List.getElem?_append_left hi] at h; exact h
  · rw [List.getElem?_append_right (by omega), List.getElem?_replicate] at h
    split at h <;> cases h
theorem at_un {i : Nat} {s : Sl} (h : as[i]? = some s) : (as ++ List.replicate n Sl.un)[i]? = some s := by
  rw [List.getElem?_append_left (List.getElem?_eq_some_iff.mp h).1]; exact h
theorem st_at {i : Nat} {s : Sl} (rel : Rel K S as (vs.map some) H) (h : as[i]? = some s) : (vs.map some ++ List.replicate m none)[i]? = (vs.map some)[i]? := by
  have := (List.getElem?_eq_some_iff.mp h).1
  rw [rel.len] at this
  rw [List.getElem?_append_left this]
theorem Rel.begin (rel : Rel K S as (vs.map some) H) (hn : n = m) : Rel K S (as ++ List.replicate n .un) (vs.map some ++ List.replicate m none) H := by
  subst hn
  refine ⟨by rw [List.length_append, List.length_append, rel.len, List.length_replicate, List.length_replicate], fun i s ov e1 e2 => ?_, fun i j k l xs ys a e1 e2 e3 e4 => ?_, rel.dom, rel.tb⟩
  · by_cases hi : i < as.length
    · have e : as[i]? = some s := by rw [List.getElem?_append_left hi] at e1; exact e1
      rw [st_at rel e] at e2
      exact rel.ok i s ov e e2
    · rw [List.getElem?_append_right (by omega), List.getElem?_replicate] at e1
      split at e1 <;> cases e1
      trivial
  · have f1 := un_at e1
    have f2 := un_at e2
    rw [st_at rel f1] at e3
    rw [st_at rel f2] at e4
    exact rel.inj i j k l xs ys a f1 f2 e3 e4
theorem Own.begin (rel : Rel K S as (vs.map some) H) {a : Addr} : Own (as ++ List.replicate n .un) (vs.map some ++ List.replicate m none) a ↔ Own as (vs.map some) a :=
  ⟨fun ⟨i, k, xs, e1, e2⟩ => ⟨i, k, xs, un_at e1, by rw [st_at rel (un_at e1)] at e2; exact e2⟩, fun ⟨i, k, xs, e1, e2⟩ => ⟨i, k, xs, at_un e1, by rw [st_at rel e1]; exact e2⟩⟩
/-- the end of a def's body, seen from its call -/
theorem Ac.over (rel : Rel K S as (vs.map some) H) (rel0 : Rel K S (as ++ List.replicate n .un) (vs.map some ++ List.replicate m none) H) (hb : ∀ (i : Nat) (k : Lk) (xs : List D), as[i]? = some (Sl.ls k xs) → k.isB = true) (a : Ac K S (as ++ List.replicate n .un) (vs.map some ++ List.replicate m none) H S' ρ' σ' H') :
    Go S as (vs.map some) H S' (behind as ρ') (vs.map some) H' ∧ Rel K S' (behind as ρ') (vs.map some) H' := by
  have fixA : ∀ (i : Nat) (k : Lk) (xs : List D), as[i]? = some (.ls k xs) → ∃ ys, ρ'[i]? = some (.ls k ys) ∧ σ'[i]? = (vs.map some)[i]? ∧ (behind as ρ')[i]? = some (.ls k ys) ∧ k.isB = true := fun i k xs e => by
    have hk := hb i k xs e
    obtain ⟨ys, e1, e2, _⟩ := a.go.fix i k xs (at_un e) (Lk.isB_fx hk)
    refine ⟨ys, e1, by rw [e2 (Lk.isB_nI hk), st_at rel e], ?_, hk⟩
    rw [behind_get, e, e1]
    rfl
  have back : ∀ (i : Nat) (k : Lk) (ys : List D), (behind as ρ')[i]? = some (.ls k ys) → ρ'[i]? = some (.ls k ys) ∧ σ'[i]? = (vs.map some)[i]? ∧ ∃ xs, as[i]? = some (.ls k xs) := fun i k ys e => by
    rw [behind_get] at e
    cases q : as[i]? with
    | none => rw [q] at e; cases e
    | some s =>
      cases s with
      | un => rw [q] at e; cases e
      | fz d => rw [q] at e; cases e
      | ls k2 xs =>
        obtain ⟨zs, e1, e2, e3, e4⟩ := fixA i k2 xs q
        rw [q, e1] at e
        cases e
        exact ⟨e1, e2, xs, rfl⟩
  refine ⟨⟨a.go.sub, fun z h => (a.go.new z h).imp id (Or.imp id (Own.begin rel).mp), fun z ⟨i, k, xs, e1, e2⟩ => ?_, fun z o h no nt => a.go.keep z o h (nt := nt) fun w => no ((Own.begin rel).mp w), a.go.stay, fun i k xs e hk => ?_⟩, ⟨?_, fun i s ov e1 e2 => ?_, fun i j k l xs ys z e1 e2 e3 e4 => ?_, a.rel.dom, a.rel.tb⟩⟩
  · obtain ⟨_, _, xs, e3⟩ := back i k xs e1
    exact .inr ⟨i, k, xs, e3, e2⟩
  · obtain ⟨ys, e1, e2, e3, e4⟩ := fixA i k xs e
    exact ⟨ys, e3, fun _ => rfl, fun z => by rw [z] at e4; cases e4⟩
  · rw [behind_len, rel.len]
  · cases s with
    | un => trivial
    | ls k ys =>
      obtain ⟨e3, e4, _⟩ := back i k ys e1
      exact a.rel.ok i _ ov e3 (by rw [e4]; exact e2)
    | fz d =>
      rw [behind_get] at e1
      cases q : as[i]? with
      | none => rw [q] at e1; cases e1
      | some s =>
        cases s with
        | un => rw [q] at e1; cases e1
        | ls k xs =>
          obtain ⟨zs, e3, _⟩ := fixA i k xs q
          rw [q, e3] at e1
          cases e1
        | fz d2 =>
          rw [q] at e1
          cases e1
          obtain ⟨v, ev, hv⟩ := rel.ok i _ ov q e2
          exact ⟨v, ev, hv.mono (a.go.ke rel0)⟩
  · obtain ⟨f1, f2, _⟩ := back i k xs e1
    obtain ⟨f3, f4, _⟩ := back j l ys e2
    exact a.rel.inj i j k l xs ys z f1 f3 (by rw [f2]; exact e3) (by rw [f4]; exact e4)
theorem callN_split {T : List Df} {k f : Nat} {r : R} {as' : List Sl} {d0 : Df} (hd0 : T[f]? = some d0) (h : callN T (k + 1) f as = some (r, as')) : ∃ d fl ρ', T[f]? = some d ∧ as.length = d.np ∧ execs (callN T k) d.body (as ++ List.replicate (d.ns - d.np) .un) = .ok fl ρ' ∧ as' = behind as ρ' ∧
    ((∃ r0, fl = .rt r0 ∧ leave ρ' r0 = some r) ∨ (fl = .nx ∧ r = .fz .non)) := by
  unfold callN at h
  split at h
  · rename_i hd
    rw [hd0] at hd
    cases hd
  · rename_i d hd
    split at h
    · rename_i hl
      split at h
      · rename_i r0 ρ' he
        cases q : leave ρ' r0 with
        | none => rw [q] at h; cases h
        | some r1 => rw [q] at h; cases h; exact ⟨d, _, ρ', hd, hl, he, rfl, .inl ⟨r0, rfl, q⟩⟩
      · rename_i ρ' he
        cases h
        exact ⟨d, _, ρ', hd, hl, he, rfl, .inr ⟨rfl, rfl⟩⟩
      · cases h
    · cases h
/-- a call's promise, read at the def's entry -/
theorem read_fn {T : List Df} {k f : Nat} {d : Df} {N : List Str} {Q : VK} {E : XK} (hd : T[f]? = some d) (hN : N.length = d.ns) (h : spD K (callN T (k + 1)) f vs H Q E) :
    tS K (execs (callN T k) d.body) ⟨fun _ h => Q .non h, Q, fun _ _ => False, fun _ _ => False⟩ (start N vs) H := by
  obtain ⟨S, as, r, as', rel, e, hb, q⟩ := h
  obtain ⟨d2, fl, ρ', e1, hl, e2, rfl, e3⟩ := callN_split hd e
  rw [hd] at e1
  cases e1
  have hv : vs.length = d.np := by rw [← hl, rel.len, List.length_map]
  have eN : N.length - vs.length = d.ns - d.np := by rw [hN, hv]
  have rel0 := rel.begin (n := d.ns - d.np) (m := N.length - vs.length) eN.symm
  refine ⟨S, _, fl, ρ', rel0, e2, ?_⟩
  rcases e3 with ⟨r0, rfl, e4⟩ | ⟨rfl, rfl⟩
  · intro S' σ' H' v a rv
    obtain ⟨g, rl⟩ := Ac.over rel rel0 hb a
    refine q S' v H' g rl ?_
    cases r0 with
    | fz x => cases e4; exact rv
    | fr xs =>
      cases e4
      obtain ⟨p, ws, ev, h0, h1, h2, h3, h4⟩ := rv
      exact ⟨p, ws, ev, h0, h1, h2, h4⟩
    | rf i =>
      unfold leave at e4
      simp only at e4
      split at e4
      · rename_i xs e5
        cases e4
        have rv : σ'[i]? = some (some v) := rv
        obtain ⟨p, ws, ev, h1, h2, h3⟩ := a.rel.atL e5
        rw [rv] at ev
        cases ev
        refine ⟨p, ws, rfl, ?_, h1, h2, h3⟩
        rcases a.go.own p ⟨i, _, xs, e5, rv⟩ with z | z
        · exact z
        · obtain ⟨j, k2, zs, f1, f2⟩ := z
          have f3 := un_at f1
          have f4 := hb j k2 zs f3
          obtain ⟨ys, g1, g2, _⟩ := a.go.fix j k2 zs f1 (Lk.isB_fx f4)
          have f2 : (start N vs)[j]? = some (some (V.ref p)) := f2
          have := a.rel.inj i j _ _ _ _ p e5 g1 rv ((g2 (Lk.isB_nI f4)).trans f2)
          subst this
          rw [e5] at g1
          cases g1
          cases f4
      · cases e4
  · intro S' σ' H' a
    obtain ⟨g, rl⟩ := Ac.over rel rel0 hb a
    exact q S' .non H' g rl .non
theorem spD_len {Φ : Calls} {f : Nat} {Q : VK} {E : XK} (h : spD K Φ f vs H Q E) : ∃ as : List Sl, ∃ r as', as.length = vs.length ∧ Φ f as = some (r, as') := by
  obtain ⟨S, as, r, as', rel, e, _⟩ := h
  exact ⟨as, r, as', by rw [rel.len, List.length_map], e⟩
theorem spD_np {T : List Df} {k f : Nat} {d : Df} {Q : VK} {E : XK} (hd : T[f]? = some d) (h : spD K (callN T k) f vs H Q E) : vs.length = d.np := by
  obtain ⟨as, r, as', hl, e⟩ := spD_len h
  cases k with
  | zero => cases e
  | succ k =>
    obtain ⟨d2, fl, ρ', e1, h2, _⟩ := callN_split hd e
    rw [hd] at e1
    cases e1
    rw [← hl, h2]
end
end DL
end
section
set_option autoImplicit false
namespace DL
open PySem L2 PySem.Spec PyProof.Rows
variable [LTabs]
section
variable {P : Program} {w : World} {K : PySem.W.Frag} {mg : Str → Option Value} {base : Heap}
theorem fnG_zero {T : List Df} {j m : Nat} {fa : Addr} {fd : FuncData} {ps : List Str} : FnG P w K mg base L2.CX0 m fa fd ps (spD K (callN T 0) j) :=
  by
  constructor
  · intro vs H Q E h
    obtain ⟨_, _, _, _, e⟩ := spD_len h
    cases e
  · intro A out s H args us vs Q E _ _ _ _ _ h
    obtain ⟨_, _, _, _, e⟩ := spD_len h
    cases e
theorem fnG_tab {T : List Df} {k j : Nat} {d : Df} {N ps : List Str} {x qual : Str} {st : Stmt} {fa : Addr} {fd : FuncData} {dV : Value} (F : FunW K x qual st fa fd dV) (sc : FnScope N ps (defScope st)) (hd : T[j]? = some d) (hN : N.length = d.ns) (hp : ps.length = d.np)
    (body : ∀ (cd : Value) (A : Around) (out : List Env) (s : Shared) (H : Hp) (E : XK), Room (2 * k + 1) (A.deeper (envOfC qual (defScope st) s.heap.objs.size fa cd)) → Gok A →
      PSs (cxOf L2.CX0 P w K mg base N qual (defScope st) fa cd A out s H E).nox (defBody st) (tS K (execs (callN T k) d.body))) :
    FnG P w K mg base L2.CX0 (2 * (k + 1)) fa fd ps (spD K (callN T (k + 1)) j) :=
  fnG_of (k := 2 * k + 1) F sc (fun vs H Q E h => (spD_np hd h).trans hp.symm) fun cd A out s H vs Q E room gd h => ⟨_, body cd A out s H E room gd, read_fn hd hN h⟩
theorem rps_ints {S : Addr → Prop} {H : Hp} : ∀ ns : List Int, Rps K S H (ns.map V.int) (ns.map D.int)
  | [] => .nil
  | n :: r => .cons (.int n) (rps_ints r)
/-- the tables stand empty ahead of the law -/
def TabsAt (K : PySem.W.Frag) (h : Heap) : Prop := ∀ p ∈ LTabs.T, K.lookup p.1 = none ∧ ∃ c, h.TableAt c p.1 #[]
/-- the tables stand apart from what the builtins' module is -/
def BltAt (mg : Str → Option Value) (base : Heap) : Prop := ∀ p ∈ LTabs.T, base.BuiltinsAt mg p.1 ∧ mainGlobals ≠ p.1
/-- the law's call -/
theorem end_call {T : List Df} {mb : Str → Option Value} {m k fi : Nat} {fa a : Addr} {fd : FuncData} {x : Str} {s1 : Shared} {vs : List Value} {ns : List Int} {as' : List Sl}
    (kin : K.In s1.heap) (hns : s1.heap.Ns mainGlobals mg) (hb : s1.heap.Ns builtinsNs mb) (hbb : ∀ x : Str, x ≠ "__name__" → mb x = bootBuiltins x) (nol : s1.heap.NoLimit) (gn : s1.gens = #[])
    (ha : s1.heap.get? a = some { cls := .type "list", data := .seq vs.toArray }) (hi : IntsAre vs ns) (hl : ns.length ≤ sizeLine) (room : Room m callerA)
    (F : ∀ base : Heap, K.In base → base.Ns mainGlobals mg → BltAt mg base → FnG P w K mg base L2.CX0 m fa fd [x] (spD K (callN T k) fi)) (bt : ∀ (s : Shared) (u : Value), BindsTo s fd ⟨[u], []⟩ [(x, u)])
    (hm : callN T k fi [.fz (.scr (ns.map D.int))] = some (.fz (.bl true), as')) (tabs : TabsAt K s1.heap)
    (hbm : ∃ (bm : Addr) (ob : Obj), mg "__builtins__" = some (.ref bm) ∧ bm ≠ builtinsNs ∧ s1.heap.get? bm = some ob ∧ ob.cls = .type "module" ∧ ob.dict = some builtinsNs ∧ ob.data = .plain) :
    codeAny (model P w) callerA (.call (.ref fa) ⟨[.ref a], []⟩) (fun r s' => r = .ok (.ret (.bool true)) ∧ OldK s1.heap s'.heap ∧ s'.os = s1.os ∧ AllBare s'.gens) s1 := by
  have vi := vals_ints hi
  have core : ∀ (H : Hp) (S : Addr → Prop), ReS K S H a (ns.map V.int) → (∀ b, S b → H b ≠ none) → HOk P w H s1.heap → (∀ b u, H b = some u → (b = a ∧ K.lookup a = none ∧ ∃ o xs, u = .frz o (.lst xs)) ∨ (u = .tbl #[] ∧ K.lookup b = none ∧ ∃ c, s1.heap.TableAt c b #[])) → LTb H →
      codeAny (model P w) callerA (.call (.ref fa) ⟨[.ref a], []⟩) (fun r s' => r = .ok (.ret (.bool true)) ∧ OldK s1.heap s'.heap ∧ s'.os = s1.os ∧ AllBare s'.gens) s1 := by
    intro H S hS dom hok only tb
    have free : ∀ {b : Addr} {o : Obj}, s1.heap.get? b = some o → ((∃ es ep, o.data = .dict es ep) ∨ K.lookup b = some o) → H b = none := by
      intro b o e hd
      cases q : H b with
      | none => rfl
      | some u =>
        rcases only b u q with ⟨e1, e2, _⟩ | ⟨_, e2, c, ht⟩
        · rw [← e1] at e2
          rcases hd with ⟨es, ep, z⟩ | z
          · rw [e1, ha] at e; cases e; cases z
          · rw [e2] at z; cases z
        · rcases hd with ⟨es, ep, z⟩ | z
          · have := ht.2.symm.trans e
            cases this
            cases z
          · rw [e2] at z; cases z
    have lay : ∀ {b : Addr} {m : Str → Option Value}, s1.heap.Ns b m → (hidT s1.heap H).Ns b m := by
      rintro b m ⟨o, es, ep, e, z, r⟩
      exact ⟨o, es, ep, hidT_get e (free e (.inl ⟨es, ep, z⟩)), z, r⟩
    have kin2 : K.In (hidT s1.heap H) := by
      intro b o e
      exact hidT_get (kin b o e) (free (kin b o e) (.inr e))
    have md : Mod K mg (hidT s1.heap H) := by
      refine ⟨kin2, lay hns, ⟨mb, lay hb, hbb⟩, ?_⟩
      obtain ⟨mc, h1, h2⟩ := nol
      exact ⟨mc, lay h1, h2⟩
    have blt : BltAt mg (hidT s1.heap H) := by
      intro p hp
      obtain ⟨_, c, ht⟩ := tabs p hp
      obtain ⟨bm, ob, b1, b2, b3, b4, b5, b6⟩ := hbm
      have nG : bm ≠ mainGlobals := fun q => by
        obtain ⟨o, es, ep, e, hd, _⟩ := hns
        rw [q, e] at b3
        cases b3
        rw [hd] at b6
        cases b6
      have nP : bm ≠ p.1 := fun q => by
        rw [q, ht.2] at b3
        cases b3
        cases b6
      have hN : H bm = none := by
        cases q : H bm with
        | none => rfl
        | some u =>
          rcases only bm u q with ⟨e1, _⟩ | ⟨_, _, c2, ht2⟩
          · rw [e1, ha] at b3; cases b3; cases b6
          · rw [ht2.2] at b3; cases b3; cases b6
      refine ⟨⟨bm, ob, b1, b2, nG, nP, hidT_get b3 hN, b4, b5, b6⟩, fun z => ?_⟩
      obtain ⟨o, es, ep, e, hd, _⟩ := hns
      rw [z, ht.2] at e
      cases e
      cases hd
    have env0 : Env0 P w K mg (hidT s1.heap H) callerA [] s1 H := ⟨rfl, md, fun b o e => of_hidT e, Nat.le_of_eq (hidT_size _ _), trivial, (fun b z => nomatch z), hok, .of_eq gn⟩
    have sp : spD K (callN T k) fi [.ref a] H (fun v _ => v = .bl true) fun _ _ _ => False := by
      refine ⟨S, [.fz (.scr (ns.map D.int))], _, as', ⟨rfl, fun i s ov e1 e2 => ?_, fun i j l m xs ys b e1 => ?_, dom, tb⟩, hm, fun i l xs e => ?_, fun S' v H' _ _ rn => by cases rn; rfl⟩
      · cases i with
        | zero =>
          cases e1
          cases e2
          exact ⟨_, rfl, .scr hS (rps_ints ns)⟩
        | succ i => cases e1
      · cases i <;> cases e1
      · cases i <;> cases e
    refine codeAny_mono ((F _ kin2 (lay hns) blt).run callerA [] s1 H ⟨[.ref a], []⟩ [.ref a] [.ref a] _ _ room LTabs.gk0 env0 (bt s1 (.ref a)) (.cons rfl .nil) sp) fun r s' h => ?_
    cases r with
    | error e => exact False.elim h
    | ok fl => cases fl with
      | next => exact False.elim h
      | brk => exact False.elim h
      | cont => exact False.elim h
      | ret u =>
        obtain ⟨v, H', os, bare, un, hok2, rv, q⟩ := h
        have q : v = .bl true := q
        rw [q] at rv
        have rv : u = Value.bool true := rv
        refine ⟨by rw [rv], ⟨fun b o e => ?_, fun b o e => un.there b o e (by intro y; cases y)⟩, os, bare⟩
        cases z : H b with
        | none => exact .inl (un.keep b o e z (by intro y; cases y) (by intro y; cases y))
        | some u2 =>
          rcases only b u2 z with ⟨_, _, o1, xs, eu⟩ | ⟨eu, _, c, ht⟩
          · rw [eu] at z
            have h1 := (hok b _ z).1
            rw [e] at h1
            cases h1
            exact .inl (hok2 b _ (un.frzs b _ _ z)).1
          · rw [eu] at z
            obtain ⟨more, z2⟩ := un.tbls b _ z
            have h1 : s'.heap.get? b = some { cls := .none, data := .fields (#[] ++ more) } := hok2 b _ z2
            have h2 := e.symm.trans ht.2
            cases h2
            exact .inr (.inl ⟨ht.isCodeTable, rfl, #[], more, rfl, h1⟩)
  let Ht : Hp := fun b => if b ∈ LTabs.T.map (·.1) then some (.tbl #[]) else none
  have ht1 : ∀ b u, Ht b = some u → u = .tbl #[] ∧ b ∈ LTabs.T.map (·.1) := fun b u z => by
    by_cases e : b ∈ LTabs.T.map (·.1)
    · rw [show Ht b = some (.tbl #[]) from if_pos e] at z; exact ⟨(Option.some.inj z).symm, e⟩
    · rw [show Ht b = none from if_neg e] at z; cases z
  have tab : ∀ b, b ∈ LTabs.T.map (·.1) → K.lookup b = none ∧ ∃ c, s1.heap.TableAt c b #[] := fun b hb => by
    obtain ⟨p, hp, e⟩ := List.mem_map.mp hb
    subst e
    exact tabs p hp
  have notA : a ∉ LTabs.T.map (·.1) := fun z => by
    obtain ⟨_, c, ht⟩ := tab a z
    have := ht.2.symm.trans ha
    cases this
  cases hk : K.lookup a with
  | some o =>
    have e := kin a o hk
    rw [ha] at e
    cases e
    refine core Ht (fun _ => False) (.inr ⟨_, vs.toArray, _, hk, rfl, fun _ => rfl, rfl, by rw [List.size_toArray, hi.length]; exact hl, by simpa using vi⟩) (fun b z => z.elim) (fun b u z => ?_) (fun b u z => ?_) fun p hp => ?_
    · obtain ⟨e1, e2⟩ := ht1 b u z
      subst e1
      obtain ⟨_, c, ht⟩ := tab b e2
      exact ht.2
    · obtain ⟨e1, e2⟩ := ht1 b u z
      exact .inr ⟨e1, tab b e2⟩
    · exact LamX.TabS.nil (if_pos (List.mem_map_of_mem hp))
  | none =>
    let u0 : HO := HO.frz { cls := .type "list", data := .seq vs.toArray } (.lst (ns.map V.int))
    let H0 : Hp := fun b => if b = a then some u0 else Ht b
    have here : H0 a = some u0 := if_pos rfl
    have who : ∀ b u, H0 b = some u → (b = a ∧ u0 = u) ∨ (b ≠ a ∧ Ht b = some u) := fun b u z => by
      by_cases e : b = a
      · rw [show H0 b = some u0 from if_pos e] at z; exact .inl ⟨e, Option.some.inj z⟩
      · rw [show H0 b = Ht b from if_neg e] at z; exact .inr ⟨e, z⟩
    refine core H0 (fun b => b = a) (.inl ⟨rfl, .inr ⟨_, here⟩⟩) (fun b e z => ?_) (fun b u z => ?_) (fun b u z => ?_) fun p hp => ?_
    · rw [e, here] at z
      cases z
    · rcases who b u z with ⟨e1, e2⟩ | ⟨e1, e2⟩
      · subst e1 e2
        exact ⟨ha, by rw [List.length_map]; exact hl, vs, _, vi, ha⟩
      · obtain ⟨e3, e4⟩ := ht1 b u e2
        subst e3
        obtain ⟨_, c, ht⟩ := tab b e4
        exact ht.2
    · rcases who b u z with ⟨e1, e2⟩ | ⟨e1, e2⟩
      · subst e2
        exact .inl ⟨e1, hk, _, _, rfl⟩
      · obtain ⟨e3, e4⟩ := ht1 b u e2
        exact .inr ⟨e3, tab b e4⟩
    · have hm1 : p.1 ∈ LTabs.T.map (·.1) := List.mem_map_of_mem hp
      have : p.1 ≠ a := fun z => notA (z ▸ hm1)
      exact LamX.TabS.nil ((if_neg this).trans (if_pos hm1))
end
end DL
end
section
set_option autoImplicit false
namespace DL
open PySem L2
variable [LTabs]
/-- an expression that has no meaning here -/
def stkE : E := .idx (.cst .non) (.cst .non)
section
variable {X : Cx} {Φ : Calls}
theorem ds_stk {st : Stmt} : PS X st (tS X.K (exec Φ (.ex stkE))) := ⟨fun pins s σ H Q I q => by
  obtain ⟨S, ρ, r, ρ', rel, e, q⟩ := q
  cases e⟩
theorem fnG_out {P : Program} {w : World} {K : PySem.W.Frag} {mg : Str → Option Value} {base : Heap} {m : Nat} {fa : Addr} {fd : FuncData} {ps : List Str} : FnG P w K mg base L2.CX0 m fa fd ps (fun _ _ _ _ => False) := by
  constructor
  · intro vs H Q E h
    exact False.elim h
  · intro A out s H args us vs Q E _ _ _ _ _ h
    exact False.elim h
end
theorem bt_len : bootBuiltins "len" = some (.builtin "len") := by decide +kernel
theorem bt_abs : bootBuiltins "abs" = some (.builtin "abs") := by decide +kernel
theorem bt_max : bootBuiltins "max" = some (.builtin "max") := by decide +kernel
theorem bt_min : bootBuiltins "min" = some (.builtin "min") := by decide +kernel
theorem bt_sum : bootBuiltins "sum" = some (.builtin "sum") := by decide +kernel
theorem bt_all : bootBuiltins "all" = some (.builtin "all") := by decide +kernel
theorem bt_repr : bootBuiltins "repr" = some (.builtin "repr") := by decide +kernel
theorem bt_divmod : bootBuiltins "divmod" = some (.builtin "divmod") := by decide +kernel
theorem bt_int : bootBuiltins "int" = some (.type "int") := by decide +kernel
theorem bt_bool : bootBuiltins "bool" = some (.type "bool") := by decide +kernel
theorem bt_str : bootBuiltins "str" = some (.type "str") := by decide +kernel
theorem bt_tuple : bootBuiltins "tuple" = some (.type "tuple") := by decide +kernel
theorem de_bt {X : Cx} {x : Str} {t : String} {pos : Pos} (hg : Gl X x) (hm : X.mg x = none) (hv : bootBuiltins x = some (.type t)) (hn : x ≠ "__name__" := by decide) (hd : (x == ("__debug__" : Str)) = false := by decide) : PE X (.Name x pos) (tC (.ty t)) := pe_bltn hg hm hv rfl hn hd
theorem rm_units {k : Nat} {A : Around} (r : Room k A) : A.units + 64 < cLine := r.units
theorem rm_units70 {k : Nat} {A : Around} (r : Room k A) : A.units + 70 < cLine := by have := r.un; omega
end DL
end
section
set_option autoImplicit false
namespace DL
open PySem L2
/-- a loop without a return: I by the place -/
theorem forL_inv {step : D → M Fl} (I : Nat → Ev → Prop) : ∀ (xs : List D) (i : Nat) (ρ : Ev), I i ρ → (∀ j ρ d, xs[j]? = some d → I (i + j) ρ → ∃ ρ', (step d ρ = .ok .nx ρ' ∨ step d ρ = .ok .ct ρ') ∧ I (i + j + 1) ρ') → ∃ ρ', forL step xs ρ = .ok .nx ρ' ∧ I (i + xs.length) ρ'
  | [], i, ρ, h, _ => ⟨ρ, rfl, h⟩
  | x :: xs, i, ρ, h, hs => by
    obtain ⟨ρ1, e, h1⟩ := hs 0 ρ x rfl h
    obtain ⟨ρ2, e2, h2⟩ := forL_inv I xs (i + 1) ρ1 h1 fun j ρ d hj hI => by
      have := hs (j + 1) ρ d hj (by rw [← Nat.add_assoc, Nat.add_right_comm]; exact hI)
      rw [← Nat.add_assoc, Nat.add_right_comm i j 1] at this
      exact this
    refine ⟨ρ2, ?_, by rw [List.length_cons, Nat.add_comm xs.length, ← Nat.add_assoc]; exact h2⟩
    show (step x ρ).then _ = _
    rcases e with e | e <;> (rw [e]; exact e2)
theorem call_eq {T : List Df} {k f : Nat} {as : List Sl} {d : Df} {r r' : R} {ρ' : Ev} (hd : T[f]? = some d) (hl : as.length = d.np) (he : execs (callN T k) d.body (as ++ List.replicate (d.ns - d.np) .un) = .ok (.rt r) ρ') (hr : leave ρ' r = some r') : callN T (k + 1) f as = some (r', behind as ρ') := by
  unfold callN
  rw [hd]
  show (if _ then _ else _) = _
  rw [if_pos hl, he]
  show (leave ρ' r).map _ = _
  rw [hr]
  rfl
theorem call_fz {T : List Df} {k f : Nat} {as ss : List Sl} (d : Df) {x : D} {ρ' : Ev} (he : execs (callN T k) d.body (as ++ List.replicate (d.ns - d.np) .un) = .ok (.rt (.fz x)) ρ') (hd : T[f]? = some d := by rfl) (hl : as.length = d.np := by rfl) (hb : behind as ρ' = ss := by rfl) :
    callN T (k + 1) f as = some (.fz x, ss) := hb ▸ call_eq hd hl he rfl
theorem call_fr {T : List Df} {k f : Nat} {as ss : List Sl} (d : Df) {x : List D} {ρ' : Ev} (he : execs (callN T k) d.body (as ++ List.replicate (d.ns - d.np) .un) = .ok (.rt (.fr x)) ρ') (hd : T[f]? = some d := by rfl) (hl : as.length = d.np := by rfl) (hb : behind as ρ' = ss := by rfl) :
    callN T (k + 1) f as = some (.fr x, ss) := hb ▸ call_eq hd hl he rfl
structure Sm (w h : Nat) (d : D) : Prop where
  pur : pureD d = true
  show_ : (toPy d).showable = true
  nod : (toPy d).hasDict = false
  short : (toPy d).leavesShort 13 = true
  lay : (toPy d).canLay0 = true
  ht : (toPy d).depth ≤ h
  wt : (toPy d).weight ≤ w
structure Sms (w h : Nat) (ds : List D) : Prop where
  pur : puresD ds = true
  show_ : PyData.showableAll (toPy.toPys ds) = true
  nod : PyData.hasDictAll (toPy.toPys ds) = false
  short : PyData.leavesShortAll 13 (toPy.toPys ds) = true
  lay : PyData.canLayAll0 (toPy.toPys ds) = true
  ht : PyData.depthAll (toPy.toPys ds) ≤ h
  wt : PyData.weightAll (toPy.toPys ds) ≤ w
theorem Sm.mono {w h w' h' : Nat} {d : D} (s : Sm w h d) (h1 : w ≤ w') (h2 : h ≤ h') : Sm w' h' d := ⟨s.pur, s.show_, s.nod, s.short, s.lay, Nat.le_trans s.ht h2, Nat.le_trans s.wt h1⟩
theorem Sm.non : Sm 0 0 .non := ⟨rfl, rfl, rfl, rfl, rfl, Nat.le_refl _, Nat.le_refl _⟩
theorem Sm.bl (b : Bool) : Sm 0 0 (.bl b) := ⟨rfl, rfl, rfl, rfl, rfl, Nat.le_refl _, Nat.le_refl _⟩
theorem log2_small {n : Nat} (h : n < 10 ^ 12) : n.log2 < 40 := by
  by_cases z : n = 0
  · subst z; decide
  · exact (Nat.log2_lt z).mpr (Nat.lt_of_lt_of_le h (by decide))
theorem Sm.int {i : Int} (h1 : -(10 ^ 12) < i) (h2 : i < 10 ^ 12) : Sm 40 0 (.int i) := by
  have h : i.natAbs < 10 ^ 12 := by omega
  have l := log2_small h
  refine ⟨rfl, decide_eq_true (by omega), rfl, decide_eq_true ?_, rfl, Nat.le_refl _, ?_⟩
  · show (Str.ofString (toString i)).length ≤ 13
    rw [ofString_length]
    exact int_text_length_le10 (by decide) h
  · show (if (i == 0) = true then 0 else i.natAbs.log2 + 1) ≤ 40
    split <;> omega
theorem Sm.str {x : Str} (h : x.cps.toList.all (fun c => decide (c < 0x110000)) = true) : Sm x.length 0 (.str x) := by
  refine ⟨rfl, rfl, rfl, ?_, ?_, Nat.le_refl _, Nat.le_refl _⟩
  · show (x.cps.toList.all fun c => decide (c < 16 ^ 8)) = true
    rw [List.all_eq_true] at h ⊢
    intro c hc
    have := of_decide_eq_true (h c hc)
    exact decide_eq_true (by omega)
  · show x.cps.all (· < 0x110000) = true
    rw [← Array.all_toList]
    exact h
theorem Sms.of {w h : Nat} : ∀ {ds : List D}, (∀ d ∈ ds, Sm w h d) → Sms (ds.length * (w + 1)) h ds
  | [], _ => ⟨rfl, rfl, rfl, rfl, rfl, Nat.zero_le _, Nat.zero_le _⟩
  | d :: ds, hs => by
    have a := hs d (List.mem_cons_self ..)
    have b := Sms.of (ds := ds) fun x hx => hs x (List.mem_cons_of_mem _ hx)
    refine ⟨?_, ?_, ?_, ?_, ?_, ?_, ?_⟩
    · show (pureD d && puresD ds) = true
      rw [a.pur, b.pur]; rfl
    · show ((toPy d).showable && PyData.showableAll (toPy.toPys ds)) = true
      rw [a.show_, b.show_]; rfl
    · show ((toPy d).hasDict || PyData.hasDictAll (toPy.toPys ds)) = false
      rw [a.nod, b.nod]; rfl
    · show ((toPy d).leavesShort 13 && PyData.leavesShortAll 13 (toPy.toPys ds)) = true
      rw [a.short, b.short]; rfl
    · show ((toPy d).canLay0 && PyData.canLayAll0 (toPy.toPys ds)) = true
      rw [a.lay, b.lay]; rfl
    · exact Nat.max_le.mpr ⟨a.ht, b.ht⟩
    · show (toPy d).weight + 1 + PyData.weightAll (toPy.toPys ds) ≤ (ds.length + 1) * (w + 1)
      have := a.wt
      have := b.wt
      rw [Nat.succ_mul]
      omega
theorem Sm.tup {w h n : Nat} {ds : List D} (hn : ds.length ≤ n) (hs : ∀ d ∈ ds, Sm w h d) : Sm (n * (w + 1)) (h + 1) (.tup ds) := by
  have b := Sms.of hs
  exact ⟨b.pur, b.show_, b.nod, b.short, b.lay, Nat.succ_le_succ b.ht, Nat.le_trans b.wt (Nat.mul_le_mul_right _ hn)⟩
theorem Sm.lst {w h n : Nat} {ds : List D} (hn : ds.length ≤ n) (hs : ∀ d ∈ ds, Sm w h d) : Sm (n * (w + 1)) (h + 1) (.lst ds) := by
  have b := Sms.of hs
  exact ⟨b.pur, b.show_, b.nod, b.short, b.lay, Nat.succ_le_succ b.ht, Nat.le_trans b.wt (Nat.mul_le_mul_right _ hn)⟩
end DL
end
section
set_option autoImplicit false
namespace DL
open PySem L2
section
variable {Φ : Calls} {ρ : Ev} {α β : Type} {i j : Int} {xs ys : List D} {a b c e : E} {d d1 d2 : D} {x y : R} {n m : Nat}
@[simp] theorem r_ret {a : α} : DL.ret a ρ = .ok a ρ := rfl
@[simp] theorem r_stuck : (DL.stuck : M α) ρ = .stk := rfl
@[simp] theorem r_bnd {m : M α} {f : α → M β} : bnd m f ρ = (m ρ).then f := rfl
@[simp] theorem r_ofO {a : α} : ofO (some a) ρ = .ok a ρ := rfl
@[simp] theorem r_vwf : vw (.fz d) ρ = .ok d ρ := rfl
@[simp] theorem r_vwr : vw (.fr xs) ρ = .ok (.lst xs) ρ := rfl
@[simp] theorem r_vwi : vw (.rf n) ρ = (match ρ[n]? with | some (.ls k xs) => (match k.see xs with | some d => .ok d ρ | none => .stk) | _ => .stk) := by
  show (match (match ρ[n]? with | some (.ls k xs) => k.see xs | _ => none) with | some d => Out.ok d ρ | none => .stk) = _
  cases ρ[n]? with
  | none => rfl
  | some s =>
    cases s with
    | un => rfl
    | fz d => rfl
    | ls k xs => cases k <;> rfl
@[simp] theorem r_view1 : view ρ (.fz d) = some d := rfl
@[simp] theorem r_view2 : view ρ (.fr xs) = some (.lst xs) := rfl
@[simp] theorem r_view3 : view ρ (.rf n) = (match ρ[n]? with | some (.ls k xs) => k.see xs | _ => none) := rfl
@[simp] theorem r_shf : DL.share (.fz d) ρ = .ok d ρ := rfl
@[simp] theorem r_shr : DL.share (.fr xs) ρ = .ok (.lst xs) ρ := rfl
@[simp] theorem r_shi : DL.share (.rf n) ρ = (match ρ[n]? with | some (.ls .own xs) => .ok (.lst xs) (ρ.set n (.fz (.lst xs))) | _ => .stk) := rfl
@[simp] theorem r_var : ev Φ (.var n) ρ = (match ρ[n]? with | some (.fz d) => .ok (.fz d) ρ | some (.ls .dic _) => .stk | some (.ls .dit _) => .stk | some (.ls (.ins _) _) => .stk | some (.ls (.inb _) _) => .stk | some (.ls _ _) => .ok (.rf n) ρ | _ => .stk) := rfl
@[simp] theorem r_vin : ev Φ (.vin n) ρ = (match ρ[n]? with | some (.fz d) => .ok (.fz d) ρ | some (.ls k _) => (match k.cls with | some _ => .ok (.rf n) ρ | none => .stk) | _ => .stk) := rfl
@[simp] theorem r_shrE : ev Φ (.shr a) ρ = (ev Φ a ρ).then fun x => bnd (DL.share x) fun d => DL.ret (.fz d) := rfl
@[simp] theorem r_cst : ev Φ (.cst d) ρ = .ok (.fz d) ρ := rfl
@[simp] theorem r_bin {o : Bop} : ev Φ (.bin o a b) ρ = (ev Φ a ρ).then fun x => bnd (ev Φ b) fun y => bnd (vw x) fun d => bnd (vw y) fun e => ofO (binD o d e) := rfl
@[simp] theorem r_neg : ev Φ (.neg a) ρ = (ev Φ a ρ).then fun x => bnd (vw x) fun d => match d with | .int i => DL.ret (.fz (.int (-i))) | _ => stuck := rfl
@[simp] theorem r_cmp {o : Cop} : ev Φ (.cmp o a b) ρ = (ev Φ a ρ).then fun x => bnd (ev Φ b) fun y => bnd (vw x) fun d => bnd (vw y) fun e => bnd (ofO (cmpD o d e)) fun c => DL.ret (.fz (.bl c)) := rfl
@[simp] theorem r_chn {o p : Cop} : ev Φ (.chn o p a b c) ρ = (ev Φ a ρ).then fun x => bnd (ev Φ b) fun y => bnd (vw x) fun d => bnd (vw y) fun e => bnd (ofO (cmpD o d e)) fun k =>
      if k then bnd (ev Φ c) fun z => bnd (vw y) fun e => bnd (vw z) fun f => bnd (ofO (cmpD p e f)) fun c => DL.ret (.fz (.bl c)) else DL.ret (.fz (.bl false)) := rfl
@[simp] theorem r_and : ev Φ (.and a b) ρ = (ev Φ a ρ).then fun x => bnd (vw x) fun d => bnd (ofO (truthD d)) fun k => if k then ev Φ b else DL.ret x := rfl
@[simp] theorem r_or : ev Φ (.or a b) ρ = (ev Φ a ρ).then fun x => bnd (vw x) fun d => bnd (ofO (truthD d)) fun k => if k then DL.ret x else ev Φ b := rfl
@[simp] theorem r_not : ev Φ (.not a) ρ = (ev Φ a ρ).then fun x => bnd (vw x) fun d => bnd (ofO (truthD d)) fun k => DL.ret (.fz (.bl (!k))) := rfl
@[simp] theorem r_ite : ev Φ (.ite e a b) ρ = (ev Φ e ρ).then fun x => bnd (vw x) fun d => bnd (ofO (truthD d)) fun k => if k then ev Φ a else ev Φ b := rfl
@[simp] theorem r_tup {es : Es} : ev Φ (.tup es) ρ = (evs Φ es ρ).then fun ds => if ds.length ≤ sizeLine then DL.ret (.fz (.tup ds)) else stuck := rfl
@[simp] theorem r_lst {es : Es} : ev Φ (.lst es) ρ = (evs Φ es ρ).then fun ds => if ds.length ≤ sizeLine then DL.ret (.fr ds) else stuck := rfl
@[simp] theorem r_idx : ev Φ (.idx a b) ρ = (ev Φ a ρ).then fun x => bnd (ev Φ b) fun y => bnd (vw x) fun d => bnd (vw y) fun e => bnd (ofO (idxD d e)) fun f => DL.ret (.fz f) := rfl
@[simp] theorem r_slc {lo hi : Eo} : ev Φ (.slc a lo hi) ρ = (ev Φ a ρ).then fun x => bnd (evo Φ lo) fun l => bnd (evo Φ hi) fun h => bnd (vw x) fun d => ofO (slcD d l h) := rfl
@[simp] theorem r_call {f : Nat} {p : List Nat} {as ks : As} : ev Φ (.call f p as ks) ρ = (evas Φ as ρ).then fun as => bnd (evas Φ ks) fun ks => callM Φ f p (as ++ ks) := rfl
@[simp] theorem r_bi {o : Bi} {es : Es} : ev Φ (.bi o es) ρ = (evrs Φ es ρ).then fun rs => fun ρ => match rs.mapM (view ρ) with | some ds => ofO (biD o ds) ρ | none => .stk := rfl
@[simp] theorem r_app : ev Φ (.app n e) ρ = (getL n ρ).then fun _ => bnd (ev Φ e) fun y => bnd (DL.share y) fun d => bnd (getL n) fun xs => if xs.length < sizeLine then bnd (putL n (xs ++ [d])) fun _ => DL.ret (.fz .non) else stuck := rfl
@[simp] theorem r_ext : ev Φ (.ext n e) ρ = (getL n ρ).then fun _ => bnd (ev Φ e) fun y => bnd (vw y) fun d => match d with | .lst ys => bnd (getL n) fun xs => if xs.length + ys.length ≤ sizeLine then bnd (putL n (xs ++ ys)) fun _ => DL.ret (.fz .non) else stuck | _ => stuck := rfl
@[simp] theorem r_evo0 : evo Φ .none ρ = .ok none ρ := rfl
@[simp] theorem r_evo1 : evo Φ (.some e) ρ = (ev Φ e ρ).then fun x => bnd (vw x) fun d => match d with | .int i => DL.ret (some i) | _ => stuck := rfl
@[simp] theorem r_evc0 : evc Φ .none ρ = .ok true ρ := rfl
@[simp] theorem r_evc1 : evc Φ (.some e) ρ = (ev Φ e ρ).then fun x => bnd (vw x) fun d => ofO (truthD d) := rfl
@[simp] theorem r_evs0 : evs Φ .nil ρ = .ok [] ρ := rfl
@[simp] theorem r_evs1 {es : Es} : evs Φ (.cons e es) ρ = (ev Φ e ρ).then fun x => bnd (DL.share x) fun d => bnd (evs Φ es) fun ds => DL.ret (d :: ds) := rfl
@[simp] theorem r_evrs0 : evrs Φ .nil ρ = .ok [] ρ := rfl
@[simp] theorem r_evrs1 {es : Es} : evrs Φ (.cons e es) ρ = (ev Φ e ρ).then fun x => bnd (evrs Φ es) fun ds => DL.ret (x :: ds) := rfl
@[simp] theorem r_evas0 : evas Φ .nil ρ = .ok [] ρ := rfl
@[simp] theorem r_evas1 {es : As} : evas Φ (.val e es) ρ = (ev Φ e ρ).then fun x => bnd (DL.share x) fun d => bnd (evas Φ es) fun ds => DL.ret (.val d :: ds) := rfl
@[simp] theorem r_evas2 {es : As} : evas Φ (.ref e es) ρ = (ev Φ e ρ).then fun x => bnd (ofO (asRef x)) fun a => bnd (evas Φ es) fun ds => DL.ret (a :: ds) := rfl
@[simp] theorem r_ar1 : asRef (.fr xs) = some (.fr xs) := rfl
@[simp] theorem r_ar2 : asRef (.rf n) = some (.rf n) := rfl
@[simp] theorem r_mapM0 : List.mapM (view ρ) [] = some [] := rfl
@[simp] theorem r_mapM1 {r : R} {rs : List R} : List.mapM (view ρ) (r :: rs) = (view ρ r).bind fun d => (List.mapM (view ρ) rs).map fun ds => d :: ds := by
  rw [List.mapM_cons]
  cases view ρ r with
  | none => rfl
  | some d => cases List.mapM (view ρ) rs <;> rfl
@[simp] theorem r_comp {own : List Nat} {t : Tg} {it : DL.It} {co : Eo} : ev Φ (.comp own t it co e) ρ = (evit Φ it ρ).then fun (l, xs) => fun ρ => (bnd (wipeM own) (fun _ => withLock l (cmpL (compStep Φ own t co e) xs [])) ρ).then fun ys ρ' => .ok (.fr ys) (backS ρ ρ' own) := rfl
@[simp] theorem w_some {k : Lk} {m : M α} : withLock (some (n, k)) m ρ = (match ρ[n]? with
    | some (.ls _ xs) => (m (ρ.set n (.ls .lck xs))).then fun a ρ' => match ρ'[n]? with
      | some (.ls _ ys) => .ok a (ρ'.set n (.ls k ys))
      | _ => .stk
    | _ => .stk) := rfl
@[simp] theorem v_wipe {own : List Nat} : wipeM own ρ = if ownOk ρ own then .ok () (wipeS ρ own) else .stk := rfl
@[simp] theorem v_own {own : List Nat} : ownOk ρ own = own.all fun i => match ρ[i]? with | some .un => true | some (.fz _) => true | _ => false := rfl
@[simp] theorem v_w0 : wipeS ρ [] = ρ := rfl
@[simp] theorem v_w1 {own : List Nat} : wipeS ρ (n :: own) = (wipeS ρ own).set n .un := rfl
@[simp] theorem v_b0 {ρ' : Ev} : backS ρ ρ' [] = ρ' := rfl
@[simp] theorem v_b1 {ρ' : Ev} {own : List Nat} : backS ρ ρ' (n :: own) = (backS ρ ρ' own).set n (ρ.getD n .un) := rfl
@[simp] theorem d_add : binD .add (.int i) (.int j) = some (.fz (.int (i + j))) := rfl
@[simp] theorem d_addT : binD .add (.tup xs) (.tup ys) = if xs.length + ys.length ≤ sizeLine then some (.fz (.tup (xs ++ ys))) else none := rfl
@[simp] theorem d_addL : binD .add (.lst xs) (.lst ys) = if xs.length + ys.length ≤ sizeLine then some (.fr (xs ++ ys)) else none := rfl
@[simp] theorem d_sub : binD .sub (.int i) (.int j) = some (.fz (.int (i - j))) := rfl
@[simp] theorem d_mul : binD .mul (.int i) (.int j) = if DL.small64 i || DL.small64 j || (DL.wide i && DL.wide j) then some (.fz (.int (i * j))) else none := rfl
@[simp] theorem d_mulL : binD .mul (.lst xs) (.int i) = if -(2 ^ 63) ≤ i ∧ i < 2 ^ 63 ∧ xs.length * i.toNat ≤ sizeLine then some (.fr (repl xs i.toNat)) else none := rfl
@[simp] theorem d_mulT : binD .mul (.tup xs) (.int i) = if 2 ≤ i ∧ i ≤ 1000 ∧ 1 ≤ xs.length ∧ xs.length ≤ 1000 then some (.fz (.tup (repl xs i.toNat))) else if (i ≤ 1 ∨ xs.isEmpty = true) ∧ -(2 ^ 63) ≤ i ∧ i < 2 ^ 63 then some (.fz (.tup (repl xs i.toNat))) else none := rfl
@[simp] theorem d_fdiv : binD .fdiv (.int i) (.int j) = if j ≠ 0 ∧ j.natAbs < 1073741824 then some (.fz (.int (i.fdiv j))) else none := rfl
@[simp] theorem d_mod : binD .mod (.int i) (.int j) = if j ≠ 0 then some (.fz (.int (i.fmod j))) else none := rfl
@[simp] theorem d_pow : binD .pow (.int i) (.int j) = if 0 ≤ j ∧ j ≤ 1000000 ∧ i.natAbs < 2 ^ 64 then some (.fz (.int (i ^ j.toNat))) else none := rfl
@[simp] theorem d_lt : cmpD .lt (.int i) (.int j) = some (decide (i < j)) := rfl
@[simp] theorem d_le : cmpD .le (.int i) (.int j) = some (decide (i ≤ j)) := rfl
@[simp] theorem d_gt : cmpD .gt (.int i) (.int j) = some (decide (j < i)) := rfl
@[simp] theorem d_ge : cmpD .ge (.int i) (.int j) = some (decide (j ≤ i)) := rfl
@[simp] theorem d_eq : cmpD .eq (.int i) (.int j) = some (decide (i = j)) := rfl
@[simp] theorem d_ne : cmpD .ne (.int i) (.int j) = some (!decide (i = j)) := rfl
@[simp] theorem d_eqs {s t : Str} : cmpD .eq (.str s) (.str t) = some (decide (s = t)) := rfl
@[simp] theorem d_nes {s t : Str} : cmpD .ne (.str s) (.str t) = some (!decide (s = t)) := rfl
@[simp] theorem d_isn : cmpD .isN .non .non = some true := rfl
@[simp] theorem d_ist : cmpD .isN (.tup xs) .non = some false := rfl
@[simp] theorem d_isi : cmpD .isN (.int i) .non = some false := rfl
@[simp] theorem d_isl : cmpD .isN (.lst xs) .non = some false := rfl
@[simp] theorem d_nsn : cmpD .notN .non .non = some false := rfl
@[simp] theorem d_nst : cmpD .notN (.tup xs) .non = some true := rfl
@[simp] theorem d_nsi : cmpD .notN (.int i) .non = some true := rfl
@[simp] theorem d_nsl : cmpD .notN (.lst xs) .non = some true := rfl
@[simp] theorem t_bl {k : Bool} : truthD (.bl k) = some k := rfl
@[simp] theorem t_int : truthD (.int i) = some (i != 0) := rfl
@[simp] theorem t_non : truthD .non = some false := rfl
@[simp] theorem t_tup : truthD (.tup xs) = some (!xs.isEmpty) := rfl
@[simp] theorem t_lst : truthD (.lst xs) = some (!xs.isEmpty) := rfl
@[simp] theorem x_tup : idxD (.tup xs) (.int i) = L2.atI xs i := rfl
@[simp] theorem x_lst : idxD (.lst xs) (.int i) = L2.atI xs i := rfl
@[simp] theorem x_scr : idxD (.scr xs) (.int i) = L2.atI xs i := rfl
@[simp] theorem l_tup {lo hi : Option Int} : slcD (.tup xs) lo hi = some (.fz (.tup (cut xs lo hi))) := rfl
@[simp] theorem l_lst {lo hi : Option Int} : slcD (.lst xs) lo hi = some (.fr (cut xs lo hi)) := rfl
@[simp] theorem l_scr {lo hi : Option Int} : slcD (.scr xs) lo hi = some (.fr (cut xs lo hi)) := rfl
@[simp] theorem b_lent : biD .len [.tup xs] = some (.fz (.int xs.length)) := rfl
@[simp] theorem b_lenl : biD .len [.lst xs] = some (.fz (.int xs.length)) := rfl
@[simp] theorem b_lens : biD .len [.scr xs] = some (.fz (.int xs.length)) := rfl
@[simp] theorem b_abs : biD .abs [.int i] = some (.fz (.int (if i < 0 then -i else i))) := rfl
@[simp] theorem b_int : biD .int1 [.int i] = some (.fz (.int i)) := rfl
@[simp] theorem b_tupt : biD .tuple [.tup xs] = some (.fz (.tup xs)) := rfl
@[simp] theorem b_tupl : biD .tuple [.lst xs] = some (.fz (.tup xs)) := rfl
@[simp] theorem b_lstt : biD .list [.tup xs] = some (.fr xs) := rfl
@[simp] theorem b_lstl : biD .list [.lst xs] = some (.fr xs) := rfl
@[simp] theorem b_max1 : biD .max1 [.lst xs] = ((intsD xs).bind maxL).map fun m => .fz (.int m) := rfl
@[simp] theorem b_min1 : biD .min1 [.lst xs] = ((intsD xs).bind minL).map fun m => .fz (.int m) := rfl
@[simp] theorem b_max2 : biD .max2 [.int i, .int j] = some (.fz (.int (if j > i then j else i))) := rfl
@[simp] theorem b_min2 : biD .min2 [.int i, .int j] = some (.fz (.int (if j < i then j else i))) := rfl
@[simp] theorem b_sum : biD .sum [.lst xs] = (intsD xs).map fun ns => .fz (.int ns.sum) := rfl
@[simp] theorem b_sumT : biD .sum [.tup xs] = (intsD xs).map fun ns => .fz (.int ns.sum) := rfl
@[simp] theorem b_all : biD .all [.lst xs] = (boolsD xs).map fun bs => .fz (.bl (bs.all id)) := rfl
@[simp] theorem b_any : biD .any [.lst xs] = (boolsD xs).map fun bs => .fz (.bl (bs.any id)) := rfl
@[simp] theorem b_sorted : biD .sorted [.lst xs] = (intsD xs).map fun ns => .fr ((sortI ns).map .int) := rfl
@[simp] theorem b_divmod : biD .divmod [.int i, .int j] = if 0 < j ∧ j < 1000000000000000000000000000000000000000000000000000000000000 then some (.fz (.tup [.int (i / j), .int (i % j)])) else none := rfl
@[simp] theorem b_isi1 {t : Ty} : biD (.isi t) [.int i] = some (.fz (.bl (isD (.int i) t))) := rfl
@[simp] theorem b_isi2 {t : Ty} : biD (.isi t) [.tup xs] = some (.fz (.bl (isD (.tup xs) t))) := rfl
@[simp] theorem b_isi3 {t : Ty} : biD (.isi t) [.lst xs] = some (.fz (.bl (isD (.lst xs) t))) := rfl
@[simp] theorem b_isi4 {t : Ty} : biD (.isi t) [.non] = some (.fz (.bl (isD .non t))) := rfl
@[simp] theorem b_isi5 {t : Ty} {k : Bool} : biD (.isi t) [.bl k] = some (.fz (.bl (isD (.bl k) t))) := rfl
@[simp] theorem b_isi6 {t : Ty} {s : Str} : biD (.isi t) [.str s] = some (.fz (.bl (isD (.str s) t))) := rfl
@[simp] theorem b_iso {c : Nat} : biD (.iso c) [.obj c xs] = some (.fz (.bl true)) := if_pos rfl
@[simp] theorem b_isn {c : Nat} : biD (.isn c) [.obj c xs] = some (.fz (.bl true)) := if_pos rfl
@[simp] theorem b_ssetT : biD .sset [.tup xs] = (intsD xs).bind fun ns => if ns.length ≤ 4000 ∧ (setI ns).length < 64 then some (.fr ((setI ns).map .int)) else none := rfl
@[simp] theorem b_sset : biD .sset [.lst xs] = (intsD xs).bind fun ns => if ns.length ≤ 4000 ∧ (setI ns).length < 64 then some (.fr ((setI ns).map .int)) else none := rfl
@[simp] theorem r_fld {ks : List (Nat × Nat)} : ev Φ (.fld a ks) ρ = (ev Φ a ρ).then fun x => bnd (vw x) fun d => match d with
    | .obj c xs => bnd (ofO ((ks.lookup c).bind fun i => xs[i]?)) fun f => DL.ret (.fz f)
    | _ => stuck := rfl
@[simp] theorem r_make {c f : Nat} {p : List Nat} {as ks : As} : ev Φ (.make c f p as ks) ρ = (evas Φ as ρ).then fun as => bnd (evas Φ ks) fun ks => makeM Φ c f p (as ++ ks) := rfl
@[simp] theorem r_meth {ms : List (Nat × Nat)} {p : List Nat} {as ks : As} : ev Φ (.meth a ms p as ks) ρ = (ev Φ a ρ).then fun x => bnd (vwA x) fun q => bnd (ofO (ms.lookup q.1)) fun f => bnd (evas Φ as) fun as => bnd (evas Φ ks) fun ks => callS Φ f p q (as ++ ks) := rfl
@[simp] theorem r_callS1 {f c : Nat} {p : List Nat} {as : List A} : callS Φ f p (c, .val d) as ρ = callM Φ f p (.val d :: as) ρ := rfl
@[simp] theorem r_callS2 {f c : Nat} {p : List Nat} {as : List A} : callS Φ f p (c, .rf n) as ρ = (match ρ[n]? with | some (.ls k _) => if k.cls = some c then callM Φ f p (.rf n :: as) ρ else .stk | _ => .stk) := rfl
@[simp] theorem r_vwA1 {c : Nat} : vwA (.fz (.obj c xs)) ρ = .ok (c, .val (.obj c xs)) ρ := rfl
@[simp] theorem r_vwA2 : vwA (.rf n) ρ = (match ρ[n]? with | some (.ls k _) => (match k.cls with | some c => .ok (c, .rf n) ρ | none => .stk) | _ => .stk) := rfl
@[simp] theorem c_make {c f : Nat} {p : List Nat} {as : List A} : makeM Φ c f p as ρ = (match (pick p as).bind valsOf with
  | none => .stk
  | some ds => match Φ f (.un :: ds.map .fz) with
    | some (.fz (.tup xs), _) => if xs.length = (cFlds c).length then .ok (.fz (.obj c xs)) ρ else .stk
    | _ => .stk) := rfl
@[simp] theorem vo_0 : valsOf [] = some [] := rfl
@[simp] theorem vo_1 {as : List A} : valsOf (.val d :: as) = (valsOf as).map (d :: ·) := rfl
@[simp] theorem cf_0 : (cFlds 0).length = 2 := rfl
@[simp] theorem cf_1 : (cFlds 1).length = 2 := rfl
@[simp] theorem o_enumZ : evit Φ (.enumZ a b) ρ = (ev Φ a ρ).then fun x => bnd (DL.share x) fun d => bnd (ev Φ b) fun y => bnd (DL.share y) fun e => match d, e with
    | .tup xs, .tup ys => DL.ret (none, enumFrom 0 (zipD xs ys))
    | _, _ => stuck := rfl
@[simp] theorem s_par3 {l : Nat} : exec Φ (.par3 n m l a b c) ρ = (ev Φ a ρ).then fun x => bnd (ev Φ b) fun y => bnd (ev Φ c) fun z => bnd (unref x) fun x => bnd (unref y) fun y => bnd (unref z) fun z => match y, z with
    | .fz d, .fz e => bnd (setR n x) fun _ => bnd (DL.setD m d) fun _ => bnd (DL.setD l e) fun _ => DL.ret .nx
    | _, _ => stuck := rfl
@[simp] theorem b_tr1 : biD .tupRng1 [.int j] = if DL.small62 j && decide (j.toNat ≤ 16777216) then some (.fz (.tup (rngL 0 j))) else none := rfl
@[simp] theorem b_tr2 : biD .tupRng2 [.int i, .int j] = if DL.small62 i && DL.small62 j && decide ((j - i).toNat ≤ 16777216) then some (.fz (.tup (rngL i j))) else none := rfl
@[simp] theorem i_int : isD (.int i) .int = true := rfl
@[simp] theorem i_intb : isD (.int i) .bool = false := rfl
@[simp] theorem i_tup : isD (.tup xs) .tuple = true := rfl
@[simp] theorem i_tupl : isD (.tup xs) .list = false := rfl
@[simp] theorem i_intt : isD (.int i) .tuple = false := rfl
@[simp] theorem i_intl : isD (.int i) .list = false := rfl
@[simp] theorem i_lstl : isD (.lst xs) .list = true := rfl
@[simp] theorem i_lstt : isD (.lst xs) .tuple = false := rfl
@[simp] theorem m_tup : itemsD (.tup xs) = some xs := rfl
@[simp] theorem m_lst : itemsD (.lst xs) = some xs := rfl
@[simp] theorem m_scr : itemsD (.scr xs) = some xs := rfl
@[simp] theorem k_fz : lockOf ρ (.fz d) = none := rfl
@[simp] theorem k_fr : lockOf ρ (.fr xs) = none := rfl
@[simp] theorem k_rf : lockOf ρ (.rf n) = (match ρ[n]? with | some (.ls .dic _) => none | some (.ls .dit _) => none | some (.ls (.ins _) _) => none | some (.ls (.inb _) _) => none | some (.ls k _) => some (n, k) | _ => none) := rfl
@[simp] theorem w_none {m : M α} : withLock none m ρ = m ρ := rfl
@[simp] theorem s_nil : execs Φ .nil ρ = .ok .nx ρ := rfl
@[simp] theorem s_cons {s : S} {ss : Ss} : execs Φ (.cons s ss) ρ = (exec Φ s ρ).then fun | .nx => execs Φ ss | f => DL.ret f := rfl
@[simp] theorem s_asg {t : Tg} : exec Φ (.asg t e) ρ = (ev Φ e ρ).then fun r => bnd (asgR Φ t r) fun _ => DL.ret .nx := rfl
@[simp] theorem s_par : exec Φ (.par n m a b) ρ = (ev Φ a ρ).then fun x => bnd (ev Φ b) fun y => bnd (unref x) fun x => bnd (unref y) fun y => bnd (setR n x) fun _ => bnd (setR m y) fun _ => DL.ret .nx := rfl
@[simp] theorem s_aug {o : Bop} : exec Φ (.aug n o e) ρ = (ev Φ (.var n) ρ).then fun x => bnd (ev Φ e) fun y => bnd (vw x) fun d => bnd (vw y) fun e => match d, e with
    | .int _, .int _ => bnd (ofO (binD o d e)) fun r => bnd (setR n r) fun _ => DL.ret .nx
    | _, _ => stuck := rfl
@[simp] theorem s_ex : exec Φ (.ex e) ρ = (ev Φ e ρ).then fun _ => DL.ret .nx := rfl
@[simp] theorem s_ifs {ss ts : Ss} : exec Φ (.ifs e ss ts) ρ = (ev Φ e ρ).then fun x => bnd (vw x) fun d => bnd (ofO (truthD d)) fun k => if k then execs Φ ss else execs Φ ts := rfl
@[simp] theorem s_ret : exec Φ (.ret e) ρ = (ev Φ e ρ).then fun r => DL.ret (.rt r) := rfl
@[simp] theorem s_retN : exec Φ .retN ρ = .ok (.rt (.fz .non)) ρ := rfl
@[simp] theorem s_pass : exec Φ .pass ρ = .ok .nx ρ := rfl
@[simp] theorem s_brk : exec Φ .brk ρ = .ok .bk ρ := rfl
@[simp] theorem s_wip {ws : List Nat} : exec Φ (.wip ws) ρ = (if dropOk ρ ws then .ok .nx (wipeS ρ ws) else .stk) := by
  show ((if dropOk ρ ws then Out.ok () (wipeS ρ ws) else .stk).then _) = _
  split <;> rfl
@[simp] theorem v_drop {ws : List Nat} : dropOk ρ ws = ws.all fun i => match ρ[i]? with | some .un => true | some (.fz _) => true | some (.ls .own _) => true | some (.ls .dit _) => true | _ => false := rfl
@[simp] theorem s_cnt : exec Φ .cnt ρ = .ok .ct ρ := rfl
@[simp] theorem s_for {t : Tg} {it : DL.It} {ss : Ss} : exec Φ (.for_ t it ss) ρ = (evit Φ it ρ).then fun (l, xs) => withLock l (forL (fun x => bnd (asgn Φ t x) fun _ => execs Φ ss) xs) := rfl
@[simp] theorem u_fz : unref (.fz d) ρ = .ok (.fz d) ρ := rfl
@[simp] theorem u_fr : unref (.fr xs) ρ = .ok (.fr xs) ρ := rfl
@[simp] theorem u_rf : unref (.rf n) ρ = (DL.share (.rf n) ρ).then fun d => DL.ret (.fz d) := rfl
@[simp] theorem g_nm {r : R} : asgR Φ (.nm n) r ρ = DL.setR n r ρ := rfl
@[simp] theorem g_sub {r : R} : asgR Φ (.sub n e) r ρ = (DL.share r ρ).then fun d => asgn Φ (.sub n e) d := rfl
@[simp] theorem g_tp {r : R} {ts : Tgs} : asgR Φ (.tp ts) r ρ = (DL.share r ρ).then fun d => asgn Φ (.tp ts) d := rfl
@[simp] theorem g_fld {r : R} {ks : List (Nat × Nat)} : asgR Φ (.fld n ks) r ρ = (DL.share r ρ).then fun d => asgn Φ (.fld n ks) d := rfl
@[simp] theorem a_fld {ks : List (Nat × Nat)} : asgn Φ (.fld n ks) d ρ = stF n ks d ρ := rfl
@[simp] theorem e_stF {ks : List (Nat × Nat)} : stF n ks d ρ = (match ρ[n]? with
  | some (.ls k xs) => match (k.cls.bind fun c => ks.lookup c) with
    | some j => if j < xs.length then .ok () (ρ.set n (.ls k (xs.set j d))) else .stk
    | none => .stk
  | _ => .stk) := rfl
@[simp] theorem a_nm : asgn Φ (.nm n) d ρ = DL.setD n d ρ := rfl
@[simp] theorem a_sub : asgn Φ (.sub n e) d ρ = (getL n ρ).then fun _ => bnd (ev Φ e) fun y => bnd (vw y) fun e => match e with
    | .int k => bnd (getL n) fun xs => match ixN xs.length k with | some j => putL n (xs.set j d) | none => stuck
    | _ => stuck := rfl
@[simp] theorem a_tp {ts : Tgs} {ds : List D} : asgn Φ (.tp ts) (.tup ds) ρ = asgns Φ ts ds ρ := rfl
@[simp] theorem a_s0 : asgns Φ .nil [] ρ = .ok () ρ := rfl
@[simp] theorem a_s1 {t : Tg} {ts : Tgs} {ds : List D} : asgns Φ (.cons t ts) (d :: ds) ρ = (asgn Φ t d ρ).then fun _ => asgns Φ ts ds := rfl
@[simp] theorem e_setD : DL.setD n d ρ = (match ρ[n]? with | some .un => .ok () (ρ.set n (.fz d)) | some (.fz _) => .ok () (ρ.set n (.fz d)) | some (.ls .own _) => .ok () (ρ.set n (.fz d)) | some (.ls .dit _) => .ok () (ρ.set n (.fz d)) | _ => .stk) := rfl
@[simp] theorem e_setL : DL.setL n xs ρ = (match ρ[n]? with | some .un => .ok () (ρ.set n (.ls .own xs)) | some (.fz _) => .ok () (ρ.set n (.ls .own xs)) | some (.ls .own _) => .ok () (ρ.set n (.ls .own xs)) | some (.ls .dit _) => .ok () (ρ.set n (.ls .own xs)) | _ => .stk) := rfl
@[simp] theorem e_setR1 : DL.setR n (.fz d) ρ = DL.setD n d ρ := rfl
@[simp] theorem e_setR2 : DL.setR n (.fr xs) ρ = DL.setL n xs ρ := rfl
@[simp] theorem e_setR3 : DL.setR n (.rf m) ρ = (DL.share (.rf m) ρ).then (DL.setD n) := rfl
@[simp] theorem e_putL : putL n xs ρ = (match ρ[n]? with | some (.ls .own _) => .ok () (ρ.set n (.ls .own xs)) | some (.ls .bor _) => .ok () (ρ.set n (.ls .bor xs)) | _ => .stk) := rfl
@[simp] theorem e_getL : getL n ρ = (match ρ[n]? with | some (.ls .dic _) => .stk | some (.ls .dit _) => .stk | some (.ls (.ins _) _) => .stk | some (.ls (.inb _) _) => .stk | some (.ls _ xs) => .ok xs ρ | _ => .stk) := rfl
@[simp] theorem o_val : evit Φ (.val e) ρ = (ev Φ e ρ).then fun x => bnd (vw x) fun d => fun ρ => bnd (ofO (itemsD d)) (fun xs => DL.ret (lockOf ρ x, xs)) ρ := rfl
@[simp] theorem o_rng1 : evit Φ (.rng1 e) ρ = (ev Φ e ρ).then fun x => bnd (vw x) fun d => match d with
    | .int j => if DL.small62 j then DL.ret (none, rngL 0 j) else stuck
    | _ => stuck := rfl
@[simp] theorem o_rng2 : evit Φ (.rng2 a b) ρ = (ev Φ a ρ).then fun x => bnd (ev Φ b) fun y => bnd (vw x) fun d => bnd (vw y) fun e => match d, e with
    | .int i, .int j => if DL.small62 i && DL.small62 j then DL.ret (none, rngL i j) else stuck
    | _, _ => stuck := rfl
@[simp] theorem o_enum : evit Φ (.enum e) ρ = (ev Φ e ρ).then fun x => bnd (vw x) fun d => fun ρ => bnd (ofO (itemsD d)) (fun xs => DL.ret (lockOf ρ x, enumFrom 0 xs)) ρ := rfl
@[simp] theorem o_zip : evit Φ (.zip a b) ρ = (ev Φ a ρ).then fun x => bnd (DL.share x) fun d => bnd (ev Φ b) fun y => bnd (DL.share y) fun e => bnd (ofO (zipI d e)) fun xs => DL.ret (none, xs) := rfl
@[simp] theorem o_rev : evit Φ (.rev e) ρ = (ev Φ e ρ).then fun x => bnd (vw x) fun d => fun ρ => bnd (ofO (itemsD d)) (fun xs => DL.ret (lockOf ρ x, xs.reverse)) ρ := rfl
@[simp] theorem z_ll : zipI (.lst xs) (.lst ys) = some (zipD xs ys) := rfl
@[simp] theorem z_tt : zipI (.tup xs) (.tup ys) = some (zipD xs ys) := rfl
@[simp] theorem c_call {f : Nat} {p : List Nat} {as : List A} : callM Φ f p as ρ = (match pick p as with
  | none => .stk
  | some as => if (refs as).Nodup ∧ frs as ≤ 1 then match slotsOf ρ as with
      | none => .stk
      | some ss => match Φ f ss with
        | none => .stk
        | some (r, ss') => .ok r (putBack as ss' ρ)
    else .stk) := rfl
@[simp] theorem p_nil {l : List α} : pick [] l = some [] := rfl
@[simp] theorem p_cons {l : List α} {p : List Nat} : pick (n :: p) l = (l[n]?).bind fun z => (pick p l).map fun r => z :: r := by
  unfold pick
  rw [List.mapM_cons]
  cases l[n]? with
  | none => rfl
  | some z => cases (List.mapM (fun j => l[j]?) p) <;> rfl
@[simp] theorem f_0 : refs [] = [] := rfl
@[simp] theorem f_1 {as : List A} : refs (.val d :: as) = refs as := rfl
@[simp] theorem f_2 {as : List A} : refs (.fr xs :: as) = refs as := rfl
@[simp] theorem f_3 {as : List A} : refs (.rf n :: as) = n :: refs as := rfl
@[simp] theorem f_4 : frs [] = 0 := rfl
@[simp] theorem f_5 {as : List A} : frs (.val d :: as) = frs as := rfl
@[simp] theorem f_6 {as : List A} : frs (.fr xs :: as) = frs as + 1 := rfl
@[simp] theorem f_7 {as : List A} : frs (.rf n :: as) = frs as := rfl
@[simp] theorem so_0 : slotsOf ρ [] = some [] := rfl
@[simp] theorem so_1 {a : A} {as : List A} : slotsOf ρ (a :: as) = (match slotOf ρ a, slotsOf ρ as with | some s, some ss => some (s :: ss) | _, _ => none) := rfl
@[simp] theorem so_2 : slotOf ρ (.val d) = some (.fz d) := rfl
@[simp] theorem so_3 : slotOf ρ (.fr xs) = some (.ls .bor xs) := rfl
@[simp] theorem so_4 : slotOf ρ (.rf n) = (match ρ[n]? with | some (.ls .own xs) => some (.ls .bor xs) | some (.ls .bor xs) => some (.ls .bor xs) | some (.ls (.ins c) xs) => some (.ls (.inb c) xs) | some (.ls (.inb c) xs) => some (.ls (.inb c) xs) | _ => none) := rfl
@[simp] theorem pb_0 {ss : List Sl} : putBack [] ss ρ = ρ := rfl
@[simp] theorem pb_1 {a : List A} {s : Sl} {ss : List Sl} : putBack (.val d :: a) (s :: ss) ρ = putBack a ss ρ := rfl
@[simp] theorem pb_2 {a : List A} {s : Sl} {ss : List Sl} : putBack (.fr xs :: a) (s :: ss) ρ = putBack a ss ρ := rfl
@[simp] theorem pb_3 {a : List A} {k : Lk} {ss : List Sl} : putBack (.rf n :: a) (.ls k xs :: ss) ρ = putBack a ss (match ρ[n]? with | some (.ls k _) => ρ.set n (.ls k xs) | _ => ρ) := rfl
@[simp] theorem sz_le : (n ≤ sizeLine) = (n ≤ 16777216) := rfl
@[simp] theorem sz_lt : (n < sizeLine) = (n < 16777216) := rfl
theorem s64 (h1 : -18446744073709551616 < i) (h2 : i < 18446744073709551616) : DL.small64 i = true := by
  unfold DL.small64
  rw [decide_eq_true (by omega), decide_eq_true (by omega)]
  rfl
theorem s62 (h1 : -4611686018427387904 ≤ i) (h2 : i < 4611686018427387904) : DL.small62 i = true := by
  unfold DL.small62
  rw [decide_eq_true (by omega), decide_eq_true (by omega)]
  rfl
theorem fmodE (h : 0 ≤ j) : i.fmod j = i % j := Int.fmod_eq_emod_of_nonneg i h
theorem fdivE (h : 0 ≤ j) : i.fdiv j = i / j := Int.fdiv_eq_ediv_of_nonneg i h
@[simp 100] theorem x_atI {xs : List α} {i : Int} : L2.atI xs i = (L2.ixN xs.length i).bind fun j => xs[j]? := rfl
@[simp 100] theorem x_ixN : L2.ixN n i = if 0 ≤ i then (if i < n then some i.toNat else none) else if -(n : Int) ≤ i then some (i + n).toNat else none := rfl
end
end DL
end
section
set_option autoImplicit false
namespace DL
open PySem L2
variable [LTabs]
section
variable {K : PySem.W.Frag} {S S' : Addr → Prop} {ρ ρ' : Ev} {σ σ' : St} {H H' : Hp} {a b : Addr} {xs ys : List D}
theorem Wk.enumZ : Wk K (IteZ K a b) (Two K (.ref a) (.ref b) (.tup xs) (.tup ys)) (enumFrom 0 (zipD xs ys)) where
  stop := fun S ρ σ H rel h i hi => by
    obtain ⟨p, vs, ep, h1, h2⟩ := (Vd.fz h.1).t
    obtain ⟨q, us, eq, h3, h4⟩ := (Vd.fz h.2).t
    cases ep
    cases eq
    rw [enum_len, zip_len] at hi
    exact ⟨vs, us, h1, h3, by rw [h2.length, h4.length]; omega⟩
  go := fun S ρ σ H rel h i hi => by
    obtain ⟨p, vs, ep, h1, h2⟩ := (Vd.fz h.1).t
    obtain ⟨q, us, eq, h3, h4⟩ := (Vd.fz h.2).t
    cases ep
    cases eq
    rw [enum_len, zip_len] at hi
    have i1 : i < vs.length := by rw [h2.length]; omega
    have i2 : i < us.length := by rw [h4.length]; omega
    exact ⟨vs, us, vs[i], us[i], h1, h3, List.getElem?_eq_getElem i1, List.getElem?_eq_getElem i2⟩
  yld := fun S ρ σ H i d' x H' rel h ei y => by
    obtain ⟨p, vs, ep, h1, h2⟩ := (Vd.fz h.1).t
    obtain ⟨q, us, eq, h3, h4⟩ := (Vd.fz h.2).t
    cases ep
    cases eq
    obtain ⟨P, T, z1, z2, rfl, nPT, nP, nT, rfl, y1, y2⟩ := y
    obtain ⟨d2, e0, rfl⟩ := enum_getZ (k := 0) ei
    obtain ⟨x1, x2, e1, e2, rfl⟩ := zip_get e0
    obtain ⟨w1, f1, r1⟩ := h2.get e1
    obtain ⟨w2, f2, r2⟩ := h4.get e2
    rw [y1 vs h1] at f1
    rw [y2 us h3] at f2
    cases f1
    cases f2
    have g1 := Gn.tup (S := S) (vs := [z1, z2]) nP
    have nT2 : upd H P (.tup [z1, z2]) T = none := by rw [upd_ne (Ne.symm nPT)]; exact nT
    have g2 := Gn.tup (S := fun a => S a ∨ a = P) (H := upd H P (.tup [z1, z2])) (vs := [.int ((i : Nat) : Int), .ref P]) nT2
    exact ⟨_, g1.trans g2, Rp.mkTup nT2 (.cons (.int _) (.cons (Rp.mkTup nP (.cons r1 (.cons r2 .nil))) .nil))⟩
  stay := fun S ρ σ H S' ρ' σ' H' rel h g _ => h.stay rel g
  wip := fun own S ρ σ H no h => h
end
section
variable {X : Cx} {Φ : Calls} {a b c : Expr} {es : List Expr} {pos : Pos} {ia ib ic : E}
/-- what the written part has of the class c -/
structure ClsF (K : PySem.W.Frag) (c : Nat) (C : Addr) : Prop where
  ns : PySem.W.nsIn K mainGlobals (cName c) = some (some (.ref C))
  cl : Cls K C
  na : ∀ f ∈ cFlds c, NoAttr K C f
def AllF (K : PySem.W.Frag) (f : Str) : List (Nat × Nat) → Prop
  | [] => True
  | (c, i) :: r => (∃ C, ClsF K c C ∧ (cFlds c)[i]? = some f) ∧ AllF K f r
theorem AllF.at {K : PySem.W.Frag} {f : Str} {c i : Nat} : ∀ {ks : List (Nat × Nat)}, AllF K f ks → ks.lookup c = some i → ∃ C, ClsF K c C ∧ (cFlds c)[i]? = some f
  | [], _, h => by cases h
  | (c', i') :: r, h, e => by
    unfold List.lookup at e
    cases q : c == c' with
    | true =>
      rw [q] at e
      cases e
      have := beq_iff_eq.mp q
      subst this
      exact h.1
    | false => rw [q] at e; exact AllF.at h.2 e
theorem cf_nodup (c : Nat) : (cFlds c).Nodup := cFlds_nd c
theorem zip_lookup {f : Str} : ∀ {ns : List Str} {vs : List V} {i : Nat} {v : V}, ns.Nodup → ns[i]? = some f → vs[i]? = some v → (ns.zip vs).lookup f = some v
  | [], _, _, _, _, h, _ => by cases h
  | _ :: _, [], _, _, _, _, h => by cases h
  | n :: ns, u :: vs, 0, v, _, h1, h2 => by
    cases h1
    cases h2
    show (match f == f with | true => some u | false => _) = _
    rw [beq_self_eq_true]
  | n :: ns, u :: vs, i + 1, v, nd, h1, h2 => by
    obtain ⟨n1, n2⟩ := List.nodup_cons.mp nd
    have h1 : ns[i]? = some f := h1
    have hm := List.mem_of_getElem? h1
    show (match f == n with | true => some u | false => (ns.zip vs).lookup f) = _
    have : (f == n) = false := by
      cases q : f == n with
      | false => rfl
      | true => exact absurd (beq_iff_eq.mp q ▸ hm) n1
    rw [this]
    exact zip_lookup n2 h1 h2
theorem Vd.o {K : PySem.W.Frag} {S : Addr → Prop} {H : Hp} {v : V} {c : Nat} {xs : List D} (h : Vd K S H v (.obj c xs)) : ∃ a C dx vs, v = .ref a ∧ PySem.W.nsIn K mainGlobals (cName c) = some (some (.ref C)) ∧ True ∧ H a = some (.ins C dx ((cFlds c).zip vs)) ∧ vs.length = (cFlds c).length ∧ Rps K S H vs xs := by
  obtain ⟨a, C, dx, vs, e, n, h, l, r⟩ := h.oN
  exact ⟨a, C, dx, vs, e, n, trivial, h, l, r⟩
theorem cls_inj {K : PySem.W.Frag} {c : Nat} {C C' : Addr} (h1 : PySem.W.nsIn K mainGlobals (cName c) = some (some (.ref C))) (h2 : PySem.W.nsIn K mainGlobals (cName c) = some (some (.ref C'))) : C = C' := by
  rw [h1] at h2
  cases h2
  rfl
theorem AllF.w {K : PySem.W.Frag} {f : Str} {ks : List (Nat × Nat)} (h : AllF K f ks) : FldW K f ks := ⟨fun c j e => by
  obtain ⟨C, F, hf⟩ := h.at e
  exact ⟨hf, fun C' hn => by rw [cls_inj hn F.ns]; exact ⟨F.cl, F.na f (List.mem_of_getElem? hf)⟩⟩⟩
theorem de_fld {f : Str} {ks : List (Nat × Nat)} (ha : PE X a (tD X.K (ev Φ ia))) (hk : AllF X.K f ks) (hb : attributeBase a f X.env (eval a X.env) = eval a X.env := by rfl) : PE X (.Attribute a f pos) (tD X.K (ev Φ (.fld ia ks))) :=
  peImp (pe_fld ha hb) fun σ H Q q => by
    obtain ⟨S, ρ, r, ρ', rel, e, q⟩ := q
    simp only [ev] at e
    obtain ⟨x, ρ1, e1, h1⟩ := bnd_eq e
    obtain ⟨d, v1, h2⟩ := vw1_split h1
    cases d <;> (try (cases h2; done))
    rename_i c xs
    obtain ⟨y, e2, h3⟩ := ofO_split h2
    obtain ⟨q1, q2⟩ := ret_eq h3
    subst q1 q2
    cases hl : ks.lookup c with
    | none => rw [hl] at e2; cases e2
    | some i =>
      rw [hl] at e2
      have e2 : xs[i]? = some y := e2
      obtain ⟨C, F, hf⟩ := hk.at hl
      exact ⟨S, ρ, x, _, rel, e1, fun S1 v H1 g1 rel1 r1 => by
        obtain ⟨p, C', dx, vs, ev, hn, hs, hh, hlen, rp⟩ := (r1.view rel1 v1).o
        have := cls_inj hn F.ns
        subst this
        obtain ⟨u, eu, ru⟩ := rp.get e2
        exact ⟨p, C', dx, _, u, ev, hh, F.cl, F.na f (List.mem_of_getElem? hf), zip_lookup (cf_nodup c) hf eu, q S1 u H1 g1 rel1 ru⟩⟩
/-- what isinstance asks of the class -/
structure IsiF (K : PySem.W.Frag) (C : Addr) : Prop where
  ha : PySem.W.findIn K (.ref C) "__class__" = some (some (.builtin "object.__class__"))
  hn : PySem.W.specialIn K (.builtin "object.__class__") "__get__" = some (some (.builtin "getset_descriptor.__get__"))
  htk : PySem.W.takesIn K (.builtin "object.__class__") = some true
  hm : PySem.W.mroIn K C (.type "object") = some true
  self : PySem.W.kitOne K (.ref C) (.ref C) = some true
  no : ∀ t ∈ ["NoneType", "bool", "int", "str", "tuple", "list", "dict", "function", "bytes"], PySem.W.kitOne K (.type t) (.ref C) = some false
theorem de_isn {c : Nat} {C : Addr} {p : Pos} (F : ClsF X.K c C) (G : IsiF X.K C) (hg : Gl X "isinstance") (hm : X.mg "isinstance" = none) (hT : PE X b (tC (.ref C))) (ha : PE X a (tD X.K (ev Φ ia)))
    (he : starEach [a, b] X.env = (false, eval a X.env) :: starEach [b] X.env := by rfl) (he2 : starEach [b] X.env = (false, eval b X.env) :: starEach [] X.env := by rfl) (hpl : (PySem.backTo pos (starEach [b] X.env)).any (·.1) = false := by rfl) :
    PE X (.Call (.Name "isinstance" p) [a, b] [] pos) (tD X.K (ev Φ (.bi (.isn c) (.cons ia .nil)))) :=
  peImp (pe_callB call_isiY hg hm (by decide +kernel) (pa_cons ha (pa_cons hT pa_nil he2) he) (by decide) (by decide) he hpl) fun σ H Q q => by
    obtain ⟨S, ρ, r, ρ', rel, e, q⟩ := q
    obtain ⟨rs, ds, e1, e2, e3⟩ := bi_split e
    simp only [evrs] at e1
    obtain ⟨y, ρ1, e4, h1⟩ := bnd_eq e1
    obtain ⟨zs, ρ3, e5, h3⟩ := bnd_eq h1
    obtain ⟨q1, q2⟩ := ret_eq e5
    subst q1 q2
    obtain ⟨q1, q2⟩ := ret_eq h3
    subst q1 q2
    obtain ⟨d, v1, e6⟩ : ∃ d, view ρ' y = some d ∧ ds = [d] := by
      rw [List.mapM_cons, List.mapM_nil] at e2
      cases q : view ρ' y with
      | none => rw [q] at e2; cases e2
      | some d => rw [q] at e2; exact ⟨d, rfl, (Option.some.inj e2).symm⟩
    subst e6
    by_cases hno : noOb2 d = true
    · have e4' : r = .fz (.bl false) := isn_no hno e3
      subst e4'
      exact ⟨S, ρ, y, ρ', rel, e4, fun S1 v H1 g1 rel1 r1 => by
        exact ⟨_, _, .type (tyN2 d), .ref C, false, rfl, .own C, ty_d2 (r1.view rel1 v1) hno, G.no (tyN2 d) (tyN2_mem hno), q S1 _ H1 g1 rel1 (.bl _)⟩⟩
    cases d <;> (try (exact absurd rfl hno))
    case box =>
      have e3 : (if _ then some (R.fz (.bl false)) else none) = some r := e3
      rw [if_neg (box_no hno)] at e3
      cases e3
    rename_i c' xs
    have e3 : (if c' = c then some (R.fz (.bl true)) else none) = some r := e3
    by_cases hc : c' = c
    · rw [if_pos hc] at e3
      cases e3
      subst hc
      exact ⟨S, ρ, y, ρ', rel, e4, fun S1 v H1 g1 rel1 r1 => by
        obtain ⟨p, C', dx, vs, ev, hn, hs, hh, hlen, rp⟩ := (r1.view rel1 v1).o
        have := cls_inj hn F.ns
        subst this
        subst ev
        exact ⟨_, _, .ref C', .ref C', true, rfl, .own C', .x (.base (.ins hh F.cl G.ha G.hn G.htk G.hm)), G.self, q S1 _ H1 g1 rel1 (.bl _)⟩⟩
    · rw [if_neg hc] at e3
      cases e3
end
end DL
end
section
set_option autoImplicit false
namespace DL
open PySem L2
variable [LTabs]
def As.app : As → As → As
  | .nil, b => b
  | .val e r, b => .val e (r.app b)
  | .ref e r, b => .ref e (r.app b)
/-- constants as arguments -/
def csts : List D → As
  | [] => .nil
  | d :: r => .val (.cst d) (csts r)
/-- a value that is frozen everywhere -/
def Cst (K : PySem.W.Frag) (v : V) (d : D) : Prop := ∀ S H, Rp K S H v d
inductive Csts (K : PySem.W.Frag) : List V → List D → Prop
  | nil : Csts K [] []
  | cons {v : V} {vs : List V} {d : D} {ds : List D} : Cst K v d → Csts K vs ds → Csts K (v :: vs) (d :: ds)
theorem Cst.int {K : PySem.W.Frag} {i : Int} : Cst K (.int i) (.int i) := fun _ _ => .int i
theorem Cst.non {K : PySem.W.Frag} : Cst K .non .non := fun _ _ => .non
theorem Cst.bl {K : PySem.W.Frag} {b : Bool} : Cst K (.bl b) (.bl b) := fun _ _ => .bl b
theorem Cst.unit {K : PySem.W.Frag} {a : Addr} {o : Obj} {n : Nat} (h : K.lookup a = some o) (hc : o.cls = .type "tuple") (hd : o.data = .seq #[] n) : Cst K (.ref a) (.tup []) := fun S H =>
  .tup (.inr ⟨o, #[], n, h, hc, fun z => (nomatch z), hd, Nat.zero_le _, .nil⟩) .nil
theorem csts_ev {Φ : Calls} : ∀ (ds : List D) (ρ : Ev), evas Φ (csts ds) ρ = .ok (ds.map .val) ρ
  | [], ρ => rfl
  | d :: r, ρ => by
    have ih := csts_ev (Φ := Φ) r ρ
    show evas Φ (.val (.cst d) (csts r)) ρ = _
    simp only [evas, ev]
    show (evas Φ (csts r) ρ).then _ = _
    rw [ih]
    rfl
theorem Csts.ras {K : PySem.W.Frag} {S : Addr → Prop} {H₀ H : Hp} {ρ : Ev} {σ : St} : ∀ {vs : List V} {ds : List D}, Csts K vs ds → Ras K S H₀ ρ σ H vs (ds.map .val)
  | _, _, .nil => .nil
  | _, _, .cons h r => .cons (h S H) r.ras
/-- how a call binds where defaults dws fill up -/
def BindPd (K : PySem.W.Frag) (fd : FuncData) (ps : List Str) (n : Nat) (ks : List Str) (dws : List Value) (perm : List Nat) : Prop :=
  ∀ (s : Shared) (us ws zs : List Value), K.In s.heap → us.length = n → ws.length = ks.length → pick perm (us ++ ws ++ dws) = some zs → BindsTo s fd ⟨us, ks.zip ws⟩ (ps.zip zs)
theorem BindP.d {K : PySem.W.Frag} {fd : FuncData} {ps : List Str} {n : Nat} {ks : List Str} {perm : List Nat} (b : BindP K fd ps n ks perm) : BindPd K fd ps n ks [] perm := fun s us ws zs k h1 h2 h3 => b s us ws zs k h1 h2 (by rw [List.append_nil] at h3; exact h3)
section
variable {X : Cx} {CX : CXT} {Φ : Calls} {k : Nat} {f : Addr} {fd : FuncData} {ps ks : List Str} {sp : Sp} {x m : Str} {p pos apos : Pos} {e o : Expr} {es : List Expr} {kws : List Keyword} {t tk : TA} {te ta : TE} {perm : List Nat} {n : Nat} {dws : List Value} {dvs : List V}
theorem run_fnGd {pins : List (Addr × Obj)} {σ : St} {H : Hp} {s : Shared} {Q : VK} {us ws : List Value} {vs ys zs : List V} (F : FnG X.prog X.w X.K X.mg X.base CX k f fd ps sp) (hr : Room k X.A) (hgd : Gok X.A) (hb : BindPd X.K fd ps n ks dws perm) (hd : Vals dvs dws) (hx : Passes CX X E0)
    (I : L2.Inv X pins σ H s) (r : Vals vs us) (rz : Vals ys ws) (h1 : us.length = n) (h2 : ws.length = ks.length) (hp : pick perm (vs ++ ys ++ dvs) = some zs) (h : sp zs H Q E0) : wpAny (model X.prog X.w) X.A (call (.ref f) us (ks.zip ws)) (EP X pins σ Q) X.xe s := by
  obtain ⟨qs, eq, rq⟩ := pick_vals ((r.append rz).append hd) hp
  refine wpAny_call (codeAny_mono (F.run X.A X.stack s H ⟨us, ks.zip ws⟩ qs zs Q E0 hr hgd I.env0 (hb s us ws qs I.kIn h1 h2 eq) rq h) fun r s' hq => ?_)
  cases r with
  | error e => exact hx pins σ H s e s' I hq
  | ok fl => cases fl with
    | ret u => exact I.after hq
    | next => exact False.elim hq
    | brk => exact False.elim hq
    | cont => exact False.elim hq
variable {ies iks : As} {dds : List D}
variable {fi : Nat}
/-- what the class's method asks: its def in the table, how the call binds -/
structure MethF (X : Cx) (Φ : Calls) (m : Str) (n : Nat) (perm : List Nat) (dds : List D) (c fi : Nat) : Prop where
  ex : ∃ (C f : Addr) (fd : FuncData) (ps : List Str) (k : Nat) (dws : List Value) (dvs : List V), ClsF X.K c C ∧ Meth X.K C m f ∧ FnG X.prog X.w X.K X.mg X.base L2.CX0 k f fd ps (spD X.K Φ fi) ∧ Room k X.A ∧ BindPd X.K fd ps (n + 1) [] dws perm ∧ Vals dvs dws ∧ Csts X.K dvs dds
  no : (cFlds c).contains m = false
def AllM (X : Cx) (Φ : Calls) (m : Str) (n : Nat) (perm : List Nat) (dds : List D) : List (Nat × Nat) → Prop
  | [] => True
  | (c, fi) :: r => MethF X Φ m n perm dds c fi ∧ AllM X Φ m n perm dds r
theorem AllM.at {m : Str} {n : Nat} {perm : List Nat} {dds : List D} {c fi : Nat} : ∀ {ms : List (Nat × Nat)}, AllM X Φ m n perm dds ms → ms.lookup c = some fi → MethF X Φ m n perm dds c fi
  | [], _, h => by cases h
  | (c', i') :: r, h, e => by
    unfold List.lookup at e
    cases q : c == c' with
    | true =>
      rw [q] at e
      cases e
      have := beq_iff_eq.mp q
      subst this
      exact h.1
    | false => rw [q] at e; exact AllM.at h.2 e
/-- the instance whose method is called: frozen, or of a slot -/
def SelfOf (ρ : Ev) (x : R) (c : Nat) (a : A) : Prop := (∃ xs, x = .fz (.obj c xs) ∧ a = .val (.obj c xs)) ∨ ∃ i k xs, x = .rf i ∧ ρ[i]? = some (.ls k xs) ∧ k.cls = some c ∧ a = .rf i
theorem vwA_eq {x : R} {p : Nat × A} {ρ ρ' : Ev} (h : vwA x ρ = .ok p ρ') : ρ' = ρ ∧ SelfOf ρ x p.1 p.2 := by
  unfold vwA at h
  split at h
  · obtain ⟨q1, q2⟩ := ret_eq h
    subst q1 q2
    exact ⟨rfl, .inl ⟨_, rfl, rfl⟩⟩
  · rename_i i
    have h : (match ρ[i]? with | some (.ls k _) => (match k.cls with | some c => Out.ok (c, A.rf i) ρ | none => .stk) | _ => .stk) = .ok p ρ' := h
    split at h
    · rename_i k xs e
      split at h
      · rename_i c ec
        cases h
        exact ⟨rfl, .inr ⟨i, k, xs, rfl, e, ec, rfl⟩⟩
      · cases h
    · cases h
  · cases h
theorem callS_eq {Φ : Calls} {f c : Nat} {perm : List Nat} {a : A} {as : List A} {ρ ρ' : Ev} {r : R} (h : callS Φ f perm (c, a) as ρ = .ok r ρ') : callM Φ f perm (a :: as) ρ = .ok r ρ' ∧ ∀ i, a = .rf i → ∃ k xs, ρ[i]? = some (.ls k xs) ∧ k.cls = some c := by
  cases a with
  | val d => exact ⟨h, fun i z => nomatch z⟩
  | fr d => exact ⟨h, fun i z => nomatch z⟩
  | rf i =>
    have h : (match ρ[i]? with | some (.ls k _) => if k.cls = some c then callM Φ f perm (.rf i :: as) ρ else .stk | _ => .stk) = .ok r ρ' := h
    split at h
    · rename_i k xs e
      split at h
      · rename_i hk
        exact ⟨h, fun j z => by cases z; exact ⟨k, xs, e, hk⟩⟩
      · cases h
    · cases h
theorem SelfOf.ins {K : PySem.W.Frag} {S : Addr → Prop} {ρ : Ev} {σ : St} {H₀ H : Hp} {v : V} {x : R} {c : Nat} {A : A} (h : SelfOf ρ x c A) (rel : Rel K S ρ σ H) (r : Rv K S H₀ ρ σ H v x) :
    (∃ a C dx vs, v = .ref a ∧ PySem.W.nsIn K mainGlobals (cName c) = some (some (.ref C)) ∧ H a = some (.ins C dx ((cFlds c).zip vs)) ∧ vs.length = (cFlds c).length) ∧ Ra K S H₀ ρ σ H v A := by
  rcases h with ⟨xs, rfl, rfl⟩ | ⟨i, k, xs, rfl, e, ec, rfl⟩
  · obtain ⟨a, C, dx, vs, ev, hn, _, hh, hl, _⟩ := (Vd.fz (show Rp K S H v (.obj c xs) from r)).o
    exact ⟨⟨a, C, dx, vs, ev, hn, hh, hl⟩, r⟩
  · obtain ⟨a, ea, _, C, dx, vs, hn, hh, hl, _⟩ := rel.atI e ec
    have r' : σ[i]? = some (some v) := r
    rw [r'] at ea
    cases ea
    exact ⟨⟨a, C, dx, vs, rfl, hn, hh, hl⟩, r'⟩
end
end DL
end
section
set_option autoImplicit false
namespace DL
open PySem L2
variable [LTabs]
/-- what __init__ of class c, the table's def f, promises -/
def spI (K : PySem.W.Frag) (Φ : Calls) (f c : Nat) : Sp := fun vs H Q _ => ∃ S ds us xs as' x dx C, vs = V.ref x :: us ∧ PySem.W.nsIn K mainGlobals (cName c) = some (some (.ref C)) ∧ H x = some (.ins C dx []) ∧ ¬ S x ∧ Dm S H ∧ Rps K S H us ds ∧
  Φ f (Sl.un :: ds.map Sl.fz) = some (R.fz (.tup xs), as') ∧ xs.length = (cFlds c).length ∧ ∀ S' H' vs', Gn S H S' H' → Rps K S' H' vs' xs → Q .non (upd H' x (.ins C dx ((cFlds c).zip vs')))
def tSI (K : PySem.W.Frag) (c : Nat) (m : M Fl) : TS := fun D σ H => ∃ S ρ ρ' xs x dx C, σ[0]? = some (some (V.ref x)) ∧ PySem.W.nsIn K mainGlobals (cName c) = some (some (.ref C)) ∧ H x = some (.ins C dx []) ∧ ¬ S x ∧ ¬ Own ρ σ x ∧ Rel K S ρ σ H ∧ m ρ = .ok (.rt (.fz (.tup xs))) ρ' ∧
  xs.length = (cFlds c).length ∧ ∀ S' σ' H' vs', Ac K S ρ σ H S' ρ' σ' H' → Rps K S' H' vs' xs → D.nx σ' (upd H' x (.ins C dx ((cFlds c).zip vs')))
theorem upd_upd {H : Hp} {a : Addr} {o u : HO} : upd (upd H a o) a u = upd H a u := by
  funext b
  by_cases e : b = a
  · subst e; rw [upd_same, upd_same]
  · rw [upd_ne e, upd_ne e, upd_ne e]
section
variable {X : Cx} {Φ : Calls} {a b cnd t : Expr} {pos : Pos} {ia ic : E} {is js : Ss} {sts rest : List Stmt} {c : Nat}
theorem dsi_if (hc : PT X cnd (tT X.K (evt Φ ic))) (h1 : PSs X sts (tS X.K (execs Φ is))) (no : ∀ ρ fl ρ', execs Φ is ρ ≠ .ok fl ρ') (h2 : PSs X rest (tSI X.K c (execs Φ js))) : PSs X (.If cnd sts [] pos :: rest) (tSI X.K c (execs Φ (.cons (.ifs ic is .nil) js))) :=
  pssImp (pss_cons (ps_if hc h1 pss_nil) h2) fun D σ H q => by
    obtain ⟨S, ρ, ρ', xs, x, dx, C, h0, hns, hx, nS, nO, rel, e, hl, q⟩ := q
    simp only [execs] at e
    obtain ⟨f, ρ1, e1, k1⟩ := bnd_eq e
    simp only [exec] at e1
    obtain ⟨y, ρ2, e2, k2⟩ := bnd_eq e1
    obtain ⟨d, v1, k3⟩ := vw1_split k2
    obtain ⟨k, e5, k4⟩ := ofO_split k3
    cases k with
    | true => exact absurd k4 (no _ _ _)
    | false =>
      simp only [execs] at k4
      obtain ⟨q1, q2⟩ := ret_eq (show DL.ret Fl.nx ρ2 = .ok f ρ1 from k4)
      subst q1 q2
      refine ⟨S, ρ, false, ρ1, rel, evt_mk e2 v1 e5, fun S1 b H1 g1 rel1 r1 => ?_⟩
      subst r1
      have a1 : Ac X.K S ρ σ H S1 ρ1 σ H1 := ⟨g1, rel1⟩
      refine iteF ⟨S1, ρ1, ρ', xs, x, dx, C, h0, hns, g1.keep x _ hx nO, fun z => ?_, fun z => ?_, rel1, k1, hl, fun S' σ' H' vs' ac rp => q S' σ' H' vs' (a1.trans ac) rp⟩
      · rcases g1.new x z with w | w | w
        · exact nS w
        · rw [hx] at w; cases w
        · exact nO w
      · rcases g1.own x z with w | w
        · rw [hx] at w; cases w
        · exact nO w
theorem dsi_nm {i : Nat} (hi : i ≠ 0) (ht : PG X t (gName i)) (ha : PE X a (tD X.K (ev Φ ia))) (h4 : PSs X rest (tSI X.K c (execs Φ js))) (h1 : swapsWithSole [t] a pos.line X.env = pure false := by rfl) (h2 : swappedStores [t] a X.env = pure none := by rfl)
    (h3 : (assignEach [t] X.env).map (fun x => x.2) = [assign t X.env] := by rfl) : PSs X (.Assign [t] a pos :: rest) (tSI X.K c (execs Φ (.cons (.asg (.nm i) ia) js))) :=
  pssImp (pss_cons (ps_asg ha ht h1 h2 h3) h4) fun D σ H q => by
    obtain ⟨S, ρ, ρ', xs, x, dx, C, h0, hns, hx, nS, nO, rel, e, hl, q⟩ := q
    simp only [execs] at e
    obtain ⟨f, ρ1, e1, k1⟩ := bnd_eq e
    simp only [exec] at e1
    obtain ⟨r, ρ2, e2, k2⟩ := bnd_eq e1
    obtain ⟨u, ρ3, e3, k3⟩ := bnd_eq k2
    obtain ⟨q1, q2⟩ := ret_eq k3
    subst q1 q2
    refine ⟨S, ρ, r, ρ2, rel, e2, fun S1 v H1 g1 rel1 r1 => ?_⟩
    obtain ⟨S2, a2, ke⟩ := Ac.setR ⟨g1, rel1⟩ r1 (show DL.setR i r ρ2 = .ok u _ from e3)
    refine ⟨S2, _, ρ', xs, x, dx, C, by rw [List.getElem?_set_ne hi]; exact h0, hns, g1.keep x _ hx nO, fun z => ?_, fun z => ?_, a2.rel, k1, hl, fun S' σ' H' vs' ac rp => q S' σ' H' vs' (a2.trans ac) rp⟩
    · rcases a2.go.new x z with w | w | w
      · exact nS w
      · rw [hx] at w; cases w
      · exact nO w
    · rcases a2.go.own x z with w | w
      · rw [hx] at w; cases w
      · exact nO w
theorem var_share {K : PySem.W.Frag} {S : Addr → Prop} {ρ ρ1 ρ2 : Ev} {σ : St} {H : Hp} {j : Nat} {r : R} {d : D} (rel : Rel K S ρ σ H) (e1 : ev Φ (.var j) ρ = .ok r ρ1) (e2 : DL.share r ρ1 = .ok d ρ2) : ∃ v S2, σ[j]? = some (some v) ∧ At K S ρ σ H S2 ρ2 H ∧ Rp K S2 H v d := by
  simp only [ev] at e1
  split at e1
  · rename_i d' q
    cases e1
    obtain ⟨v, e3, h⟩ := rel.atF q
    obtain ⟨S2, at2, rp, _⟩ := At.share (At.start rel) (x := .fz d') (v := v) h e2
    exact ⟨v, S2, e3, at2, rp⟩
  · cases e1
  · cases e1
  · cases e1
  · cases e1
  · rename_i k xs _ _ _ _ q
    cases e1
    obtain ⟨a, vs, e3, _⟩ := rel.atN q
    obtain ⟨S2, at2, rp, _⟩ := At.share (At.start rel) (x := .rf j) (v := .ref a) e3 e2
    exact ⟨_, S2, e3, at2, rp⟩
  · cases e1
theorem put2 {f1 f2 : Str} {u v : V} (h : f1 ≠ f2) : putF f2 v (putF f1 u []) = [(f1, u), (f2, v)] := by
  show (if f1 = f2 then _ else (f1, u) :: putF f2 v []) = _
  rw [if_neg h]
  rfl
/-- self.f = x; self.g = y -/
theorem dsi_end {f1 f2 : Str} {j1 j2 : Nat} {so1 so2 e1 e2 : Expr} {ap1 ap2 p1 p2 : Pos} (hf : cFlds c = [f1, f2]) (hne : f1 ≠ f2) (hF : ∃ C, ClsF X.K c C) (hs1 : PE X so1 (tVar 0)) (hv1 : PE X e1 (tVar j1)) (hs2 : PE X so2 (tVar 0)) (hv2 : PE X e2 (tVar j2))
    (w1 : swapsWith e1 (some (.Attribute so1 f1 ap1)) p1.line X.env = pure false := by rfl) (w2 : swapsWith e2 (some (.Attribute so2 f2 ap2)) p2.line X.env = pure false := by rfl) :
    PSs X [.Assign [.Attribute so1 f1 ap1] e1 p1, .Assign [.Attribute so2 f2 ap2] e2 p2] (tSI X.K c (execs Φ (.cons (.ret (.tup (.cons (.var j1) (.cons (.var j2) .nil)))) .nil))) :=
  pssImp (pss_cons (ps_fld hs1 hv1 w1) (pss_one (ps_fld hs2 hv2 w2))) fun D σ H q => by
    obtain ⟨S, ρ, ρ', xs, x, dx, C, h0, hns, hx, nS, nO, rel, e, hl, q⟩ := q
    obtain ⟨C', F⟩ := hF
    have := cls_inj hns F.ns
    subst this
    simp only [execs, exec, evs] at e
    obtain ⟨fl, ρ1, k1, k2⟩ := bnd_eq e
    obtain ⟨r, ρ2, k3, k4⟩ := bnd_eq k1
    obtain ⟨q1, q2⟩ := ret_eq k4
    subst q1 q2
    obtain ⟨q1, q2⟩ := ret_eq (show DL.ret (Fl.rt r) ρ1 = .ok (.rt (.fz (.tup xs))) ρ' from k2)
    cases q1
    subst q2
    have k3 : ev Φ (.tup (.cons (.var j1) (.cons (.var j2) .nil))) ρ = .ok (.fz (.tup xs)) ρ' := k3
    rw [show ev Φ (.tup (.cons (.var j1) (.cons (.var j2) .nil))) = (bnd (evs Φ (.cons (.var j1) (.cons (.var j2) .nil))) fun ds => if ds.length ≤ sizeLine then DL.ret (.fz (.tup ds)) else stuck) from by simp only [ev]] at k3
    obtain ⟨ds, ρ3, k5, k6⟩ := bnd_eq k3
    simp only [evs] at k5
    obtain ⟨y1, ρ4, m1, m2⟩ := bnd_eq k5
    obtain ⟨d1, ρ5, m3, m4⟩ := bnd_eq m2
    obtain ⟨ds2, ρ6, m5, m6⟩ := bnd_eq m4
    obtain ⟨y2, ρ7, m7, m8⟩ := bnd_eq m5
    obtain ⟨d2, ρ8, m9, m10⟩ := bnd_eq m8
    obtain ⟨ds3, ρ9, m11, m12⟩ := bnd_eq m10
    obtain ⟨q1, q2⟩ := ret_eq m11
    subst q1 q2
    obtain ⟨q1, q2⟩ := ret_eq m12
    subst q1 q2
    obtain ⟨q1, q2⟩ := ret_eq m6
    subst q1 q2
    split at k6
    · obtain ⟨q1, q2⟩ := ret_eq k6
      cases q1
      subst q2
      obtain ⟨v1, S1, z1, at1, rp1⟩ := var_share rel m1 m3
      obtain ⟨v2, S2, z2, at2, rp2⟩ := var_share at1.rel m7 m9
      have rp1 := rp1.mono (at2.go.ke at1.rel)
      refine ⟨v1, z1, V.ref x, h0, x, C, dx, [], rfl, hx, F.cl, F.na f1 (by rw [hf]; exact List.mem_cons_self ..), (by show 0 < 1000; decide), ?_⟩
      refine ⟨v2, z2, V.ref x, h0, x, C, dx, _, rfl, upd_same, F.cl, F.na f2 (by rw [hf]; exact List.mem_cons_of_mem _ (List.mem_cons_self ..)), (by show 1 < 1000; decide), ?_⟩
      rw [upd_upd, put2 hne]
      have := q S2 σ H [v1, v2] (at1.trans at2).ac (.cons rp1 (.cons rp2 .nil))
      rw [hf] at this
      exact this
    · cases k6
end
section
variable {P : Program} {w : World} {K : PySem.W.Frag} {mg : Str → Option Value} {base : Heap}
theorem rel_init {S : Addr → Prop} {H : Hp} {us : List V} {ds : List D} {x : Addr} (dom : Dm S H) (r : Rps K S H us ds) : Rel K S (Sl.un :: ds.map Sl.fz) ((V.ref x :: us).map some) H := by
  refine ⟨by simp [r.length], fun i s ov e1 e2 => ?_, fun i j k l xs ys a e1 => ?_, dom.1, dom.2⟩
  · cases i with
    | zero => cases e1; trivial
    | succ i =>
      have e1 : (ds.map Sl.fz)[i]? = some s := e1
      have e2 : (us.map some)[i]? = some ov := e2
      rw [List.getElem?_map] at e1 e2
      cases q : ds[i]? with
      | none => rw [q] at e1; cases e1
      | some d =>
        rw [q] at e1
        cases e1
        obtain ⟨v, ev, rv⟩ := r.get q
        rw [ev] at e2
        cases e2
        exact ⟨v, rfl, rv⟩
  · cases i with
    | zero => cases e1
    | succ i =>
      have e1 : (ds.map Sl.fz)[i]? = some (.ls k xs) := e1
      rw [List.getElem?_map] at e1
      cases q : ds[i]? with
      | none => rw [q] at e1; cases e1
      | some d => rw [q] at e1; cases e1
theorem no_own {ds : List D} {σ : St} {n : Nat} {a : Addr} : ¬ Own ((Sl.un :: ds.map Sl.fz) ++ List.replicate n .un) σ a := by
  rintro ⟨i, k, xs, e, _⟩
  have e := un_at e
  cases i with
  | zero => cases e
  | succ i =>
    have e : (ds.map Sl.fz)[i]? = some (.ls k xs) := e
    rw [List.getElem?_map] at e
    cases q : ds[i]? with
    | none => rw [q] at e; cases e
    | some d => rw [q] at e; cases e
theorem leave_tup {ρ : Ev} {r : R} {xs : List D} (h : leave ρ r = some (.fz (.tup xs))) : r = .fz (.tup xs) := by
  cases r with
  | fz d => cases h; rfl
  | fr _ => cases h
  | rf i =>
    unfold leave at h
    simp only at h
    split at h <;> cases h
theorem read_init {T : List Df} {k f c : Nat} {d : Df} {N : List Str} {vs : List V} {H : Hp} {Q : VK} {E : XK} {D : Ends} (hd : T[f]? = some d) (hN : N.length = d.ns) (hD : ∀ σ H, Q .non H → D.nx σ H) (h : spI K (callN T (k + 1)) f c vs H Q E) : tSI K c (execs (callN T k) d.body) D (start N vs) H := by
  obtain ⟨S, ds, us, xs, as', x, dx, C, rfl, hns, hx, nS, dom, rp, e, hl, q⟩ := h
  obtain ⟨d2, fl, ρ', e1, hlen, e2, e4, e3⟩ := callN_split hd e
  rw [hd] at e1
  cases e1
  have rel := rel_init (x := x) dom rp
  have hv : (V.ref x :: us).length = d.np := by rw [← hlen]; simp [rp.length]
  have eN : N.length - (V.ref x :: us).length = d.ns - d.np := by rw [hN, hv]
  have rel0 := rel.begin (n := d.ns - d.np) (m := N.length - (V.ref x :: us).length) eN.symm
  rcases e3 with ⟨r0, rfl, e5⟩ | ⟨rfl, z⟩
  · have e6 := leave_tup e5
    subst e6
    refine ⟨S, _, ρ', xs, x, dx, C, rfl, hns, hx, nS, no_own, rel0, e2, hl, fun S' σ' H' vs' ac rp' => hD _ _ (q S' H' vs' ⟨ac.go.sub, fun a h => ?_, fun a o h nt => ac.go.keep a o h no_own nt, fun _ => ac.rel.dom, ac.go.stay, fun _ => ac.rel.tb⟩ rp')⟩
    rcases ac.go.new a h with w | w | w
    · exact .inl w
    · exact .inr w
    · exact absurd w no_own
  · cases z
open PySem.Spec PyProof.Rows in
theorem fnI_tab {T : List Df} {k j c : Nat} {d : Df} {N ps : List Str} {x qual : Str} {st : Stmt} {fa : Addr} {fd : FuncData} {dV : Value} (F : FunW K x qual st fa fd dV) (sc : FnScope N ps (defScope st)) (hd : T[j]? = some d) (hN : N.length = d.ns) (hp : ps.length = d.np)
    (body : ∀ (cd : Value) (A : Around) (out : List Env) (s : Shared) (H : Hp) (E : XK), Room (2 * k + 1) (A.deeper (envOfC qual (defScope st) s.heap.objs.size fa cd)) → Gok A →
      PSs (cxOf L2.CX0 P w K mg base N qual (defScope st) fa cd A out s H E).nox (defBody st) (tSI K c (execs (callN T k) d.body))) :
    FnG P w K mg base L2.CX0 (2 * (k + 1)) fa fd ps (spI K (callN T (k + 1)) j c) :=
  fnG_of (k := 2 * k + 1) F sc (fun vs H Q E h => by
    obtain ⟨S, ds, us, xs, as', x, dx, C, rfl, hns, hx, nS, dom, rp, e, hl, q⟩ := h
    obtain ⟨d2, fl, ρ', e1, hlen, _⟩ := callN_split hd e
    rw [hd] at e1
    cases e1
    rw [hp, ← hlen]
    simp [rp.length]) fun cd A out s H vs Q E room gd h => ⟨_, body cd A out s H E room gd, read_init hd hN (fun _ _ z => z) h⟩
theorem fnI_zero {T : List Df} {j c m : Nat} {fa : Addr} {fd : FuncData} {ps : List Str} : FnG P w K mg base L2.CX0 m fa fd ps (spI K (callN T 0) j c) := by
  constructor
  · intro vs H Q E h
    obtain ⟨S, ds, us, xs, as', x, dx, C, _, hns, hx, nS, dom, rp, e, hl, q⟩ := h
    cases e
  · intro A out s H args us vs Q E _ _ _ _ _ h
    obtain ⟨S, ds, us, xs, as', x, dx, C, _, hns, hx, nS, dom, rp, e, hl, q⟩ := h
    cases e
end
section
variable {X : Cx} {CX : CXT} {Φ : Calls} {k : Nat} {f C : Addr} {fd : FuncData} {ps : List Str} {sp : Sp} {x : Str} {p pos : Pos} {e : Expr} {es : List Expr} {t : TA} {perm : List Nat} {n c fi : Nat} {dws : List Value} {dvs : List V} {ies : As} {dds : List D}
theorem run_makeG {pins : List (Addr × Obj)} {σ : St} {H : Hp} {s : Shared} {Q : VK} {us : List Value} {vs zs : List V} (M : Mk X.K C f) (F : FnG X.prog X.w X.K X.mg X.base CX k f fd ps sp) (hr : Room (k + 1) X.A) (hgd : Gok X.A) (hb : BindPd X.K fd ps (n + 1) [] dws (0 :: perm.map (· + 1))) (hd : Vals dvs dws) (hx : Passes CX X E0)
    (I : L2.Inv X pins σ H s) (r : Vals vs us) (h1 : vs.length = n) (hp : pick perm (vs ++ dvs) = some zs)
    (h : ∀ x dx, H x = none → H dx = none → dx ≠ x → sp (.ref x :: zs) (upd (upd H dx (.own x)) x (.ins C dx [])) (fun v H2 => v = .non ∧ Q (.ref x) H2) E0) :
    wpAny (model X.prog X.w) X.A (call (.ref C) us) (EP X pins σ Q) X.xe s := by
  have hq := h (s.heap.objs.size + 1) s.heap.objs.size (I.hok.fresh (Nat.le_succ _)) (I.hok.fresh (Nat.le_refl _)) (Nat.ne_of_lt (Nat.lt_succ_self _))
  have I2 := Inv.made (C := C) I
  have r2 : Vals (V.ref (s.heap.objs.size + 1) :: vs) (Value.ref (s.heap.objs.size + 1) :: us) := .cons rfl r
  have hp2 : pick (0 :: perm.map (· + 1)) ((V.ref (s.heap.objs.size + 1) :: vs) ++ [] ++ dvs) = some (V.ref (s.heap.objs.size + 1) :: zs) := by
    rw [List.append_nil]
    have : ∀ (q : List Nat) (l : List V) (z : V), DL.pick (q.map (· + 1)) (z :: l) = DL.pick q l := fun q l z => by
      unfold DL.pick
      rw [List.mapM_map]
      rfl
    rw [p_cons, show (V.ref (s.heap.objs.size + 1) :: vs ++ dvs) = V.ref (s.heap.objs.size + 1) :: (vs ++ dvs) from rfl, this, hp]
    rfl
  obtain ⟨qs, eq, rq⟩ := pick_vals ((r2.append .nil).append hd) hp2
  refine wpAny_call (make_map (f := f) I.kIn M.makes M.init (beq_iff_eq.mp M.fn) (codeAny_mono (F.run _ X.stack _ _ ⟨Value.ref (s.heap.objs.size + 1) :: us, []⟩ qs _ _ E0 (hr.make C us []) hgd
    (I2.env0.make C us []) (hb _ (Value.ref (s.heap.objs.size + 1) :: us) [] qs I2.kIn (by rw [List.length_cons, ← r.length, h1]) rfl eq) rq hq) fun r s' hq' => ?_))
  cases r with
  | error e => exact hx pins σ _ _ e s' I2 hq'
  | ok fl =>
    cases fl with
    | ret u =>
      obtain ⟨v, H', I3, rv, ev, q3⟩ := I2.after hq'
      subst ev
      exact ⟨rv, ⟨V.ref (s.heap.objs.size + 1), H', I3, rfl, q3⟩⟩
    | next => exact False.elim hq'
    | brk => exact False.elim hq'
    | cont => exact False.elim hq'
def tMakeG (C : Addr) (sp : Sp) (n : Nat) (perm : List Nat) (dvs : List V) (t : TA) : TE := fun σ H Q => t σ H fun vs H1 => vs.length = n ∧ ∃ zs, pick perm (vs ++ dvs) = some zs ∧ ∀ x dx, H1 x = none → H1 dx = none → dx ≠ x → sp (.ref x :: zs) (upd (upd H1 dx (.own x)) x (.ins C dx [])) (fun v H2 => v = .non ∧ Q (.ref x) H2) E0
theorem pe_makeG (M : Mk X.K C f) (F : FnG X.prog X.w X.K X.mg X.base CX k f fd ps sp) (hr : Room (k + 1) X.A) (hgd : Gok X.A) (hg : Gl X x) (hm : X.mg x = some (.ref C)) (hb : BindPd X.K fd ps (n + 1) [] dws (0 :: perm.map (· + 1))) (hd : Vals dvs dws) (hx : Passes CX X E0)
    (ha : PA X (e :: es) t) (hdb : (x == ("__debug__" : Str)) = false := by decide) (he : starEach (e :: es) X.env = (false, eval e X.env) :: starEach es X.env := by rfl) (hpl : (PySem.backTo pos (starEach es X.env)).any (·.1) = false := by rfl) :
    PE X (.Call (.Name x p) (e :: es) [] pos) (tMakeG C sp n perm dvs t) := by
  refine ⟨fun pins s σ H Q I h => ?_⟩
  refine wpAny_Call_Name_kw (ld_glob I hg hm ?_ hdb)
  refine PySem.W.callWith_K (h₀ := X.base) I.ok.mod.kin M.kp (thn (ha.run pos pins s σ H _ I h) fun us s1 ⟨vs, H1, I1, r, hl, zs, hp, q⟩ => ⟨I1.kIn, ?_⟩) he hpl
  exact run_makeG M F hr hgd hb hd hx I1 r hl hp q
theorem vals_rps {K : PySem.W.Frag} {S : Addr → Prop} {H₀ H : Hp} {ρ : Ev} {σ : St} : ∀ {vs : List V} {as : List A} {ds : List D}, Ras K S H₀ ρ σ H vs as → valsOf as = some ds → Rps K S H vs ds
  | _, _, _, .nil, e => by cases e; exact .nil
  | _, _, _, .cons (r := .val d) (rs := rs) h r, e => by
    rw [show valsOf (.val d :: rs) = (valsOf rs).map (d :: ·) from rfl] at e
    cases q : valsOf rs with
    | none => rw [q] at e; cases e
    | some es => rw [q] at e; cases e; exact .cons h (vals_rps r q)
  | _, _, _, .cons (r := .rf i) (rs := rs) h r, e => by cases e
  | _, _, _, .cons (r := .fr i) (rs := rs) h r, e => by cases e
theorem de_make (hF : ClsF X.K c C) (M : Mk X.K C f) (F : FnG X.prog X.w X.K X.mg X.base CX k f fd ps (spI X.K Φ fi c)) (hr : Room (k + 1) X.A) (hgd : Gok X.A) (hg : Gl X x) (hm : X.mg x = some (.ref C)) (hb : BindPd X.K fd ps (n + 1) [] dws (0 :: perm.map (· + 1))) (hd : Vals dvs dws) (hc : Csts X.K dvs dds) (hx : Passes CX X E0)
    (ha : PA X (e :: es) (tAs X.K (evas Φ ies))) (hn : ies.len = n := by rfl) (hdb : (x == ("__debug__" : Str)) = false := by decide) (he : starEach (e :: es) X.env = (false, eval e X.env) :: starEach es X.env := by rfl) (hpl : (PySem.backTo pos (starEach es X.env)).any (·.1) = false := by rfl) :
    PE X (.Call (.Name x p) (e :: es) [] pos) (tD X.K (ev Φ (.make c fi perm ies (csts dds)))) :=
  peImp (pe_makeG (n := n) (perm := perm) M F hr hgd hg hm hb hd hx ha hdb he hpl) fun σ H Q q => by
    obtain ⟨S, ρ, r, ρ', rel, e, q⟩ := q
    simp only [ev] at e
    obtain ⟨as, ρ1, e1, h1⟩ := bnd_eq e
    obtain ⟨ks, ρ2, e2, h2⟩ := bnd_eq h1
    rw [csts_ev] at e2
    cases e2
    refine ⟨S, ρ, as, ρ1, rel, e1, fun S1 vs H1 g1 rel1 r1 => ⟨by rw [r1.length, evas_len e1]; exact hn, ?_⟩⟩
    have ra : Ras X.K S1 H ρ1 σ H1 (vs ++ dvs) (as ++ dds.map .val) := r1.append hc.ras
    unfold makeM at h2
    cases ep : pick perm (as ++ dds.map .val) with
    | none => simp only [ep, Option.bind_none] at h2; cases h2
    | some bs =>
      simp only [ep, Option.bind_some] at h2
      cases eb : valsOf bs with
      | none => simp only [eb] at h2; cases h2
      | some ds =>
        simp only [eb] at h2
        obtain ⟨zs, ez, rz⟩ := ra.pick ep
        have rp := vals_rps rz eb
        refine ⟨zs, ez, fun x dx nx ndx ne => ?_⟩
        split at h2
        · rename_i xs as' eΦ
          split at h2
          · rename_i hl
            cases h2
            have nSx : ¬ S1 x := fun z => rel1.dom x z nx
            have nSdx : ¬ S1 dx := fun z => rel1.dom dx z ndx
            have keep0 : ∀ a o, H1 a = some o → upd (upd H1 dx (.own x)) x (.ins C dx []) a = some o := fun a o h => by rw [upd_ne (ne_of_none h nx), upd_ne (ne_of_none h ndx)]; exact h
            have tb2 : LTb (upd (upd H1 dx (.own x)) x (.ins C dx [])) := (rel1.tb.new ndx).new (by rw [upd_ne (by first | exact ne | exact Ne.symm ne)]; exact nx)
            refine ⟨S1, ds, zs, xs, as', x, dx, C, rfl, hF.ns, upd_same, nSx, ⟨fun a h z => ?_, tb2⟩, rp.mono ⟨fun _ h => h, fun a o _ h _ => keep0 a o h⟩, eΦ, hl, fun S' H' vs' g rp' => ⟨rfl, ?_⟩⟩
            · cases w : H1 a with
              | none => exact rel1.dom a h w
              | some o => rw [keep0 a o w] at z; cases z
            · have nS' : ¬ S' x := fun z => by
                rcases g.new x z with w | w
                · exact nSx w
                · rw [upd_same] at w; cases w
              have gn : Gn S1 H1 (fun a => S' a ∨ a = x) (upd H' x (.ins C dx ((cFlds c).zip vs'))) := by
                refine ⟨fun a h => .inl (g.sub a h), fun a h => ?_, fun a o h nt => ?_, fun _ a h => ?_, fun a h => ?_, fun t => ?_⟩
                · rcases h with h | h
                  · rcases g.new a h with w | w
                    · exact .inl w
                    · refine .inr ?_
                      cases z : H1 a with
                      | none => rfl
                      | some o => rw [keep0 a o z] at w; cases w
                  · exact .inr (by rw [h]; exact nx)
                · rw [upd_ne (ne_of_none h nx)]
                  exact g.keep a o (keep0 a o h) nt
                · by_cases e : a = x
                  · rw [e, upd_same]; simp
                  · rw [upd_ne e]
                    refine g.dom (fun b hb => ?_) a (h.resolve_right e)
                    intro z
                    cases w : H1 b with
                    | none => exact rel1.dom b hb w
                    | some o => rw [keep0 b o w] at z; cases z
                · have ax : a ≠ x := fun e => by rw [e, upd_same] at h; cases h
                  rw [upd_ne ax] at h
                  have h2 := g.stay a h
                  cases z : H1 a with
                  | none => rfl
                  | some o => rw [keep0 a o z] at h2; cases h2
                · exact (g.tb tb2).set (g.keep x _ upd_same)
              have at2 := At.gn ⟨g1, rel1⟩ gn
              refine q _ _ _ at2.go at2.rel (show Rp X.K _ _ (.ref x) (.obj c xs) from .obj hF.ns (.inr rfl) upd_same (by rw [rp'.length, hl]) (rp'.mono ⟨fun _ h => .inl h, fun a o h1 h2 _ => ?_⟩))
              have : a ≠ x := fun e => nS' (e ▸ h1)
              rw [upd_ne this]
              exact h2
          · cases h2
        · cases h2
end
end DL
end
section
set_option autoImplicit false
namespace DL
open PySem L2
variable [LTabs]
/-- the defaults of a def, as data -/
structure DfW (K : PySem.W.Frag) (dV : Value) (dds : List D) : Prop where
  ex : ∃ (T : Addr) (o : Obj) (its : List Value) (n : Nat) (dvs : List V), dV = .ref T ∧ K.lookup T = some o ∧ o.data = .seq its.toArray n ∧ Vals dvs its ∧ Csts K dvs dds
/-- a default -/
structure DfV (K : PySem.W.Frag) (u : Value) (d : D) : Prop where
  ex : ∃ v : V, RelV v u ∧ Cst K v d
theorem DfV.int {K : PySem.W.Frag} {i : Int} {t : Tok} : DfV K (.int i t) (.int i) := ⟨.int i, ⟨t, rfl⟩, .int⟩
theorem DfV.non {K : PySem.W.Frag} : DfV K .none .non := ⟨.non, rfl, .non⟩
theorem DfV.unit {K : PySem.W.Frag} {a : Addr} {od : Option Addr} {n : Nat} {sl : Array (Option Value)} (h : K.lookup a = some ⟨.type "tuple", od, .seq #[] n, sl⟩) : DfV K (.ref a) (.tup []) := ⟨.ref a, rfl, .unit h rfl rfl⟩
/-- how a call binds that uses the defaults -/
def BindDf (K : PySem.W.Frag) (fd : FuncData) (ps : List Str) (n : Nat) (ks : List Str) (dds : List D) (perm : List Nat) : Prop :=
  ∃ (dws : List Value) (dvs : List V), BindPd K fd ps n ks dws perm ∧ Vals dvs dws ∧ Csts K dvs dds
end DL
namespace DL
open PySem L2
variable [LTabs]
section
variable {X : Cx} {CX : CXT} {Φ : Calls} {k : Nat} {f C : Addr} {fd : FuncData} {ps ks : List Str} {x m : Str} {p pos apos : Pos} {e o : Expr} {es : List Expr} {kws : List Keyword} {perm : List Nat} {n fi c : Nat} {ies iks : As} {dds : List D}
theorem BindP.toDf {K : PySem.W.Frag} {fd : FuncData} {ps : List Str} {n : Nat} {ks : List Str} {perm : List Nat} (b : BindP K fd ps n ks perm) : BindDf K fd ps n ks [] perm := ⟨[], [], b.d, .nil, .nil⟩
theorem methF {ms : Str} (hF : ClsF X.K c C) (hm : Meth X.K C ms f) (G : FnG X.prog X.w X.K X.mg X.base L2.CX0 k f fd ps (spD X.K Φ fi)) (hr : Room k X.A) (B : BindDf X.K fd ps (n + 1) [] dds perm) (no : (cFlds c).contains ms = false := by decide) : MethF X Φ ms n perm dds c fi := by
  obtain ⟨dws, dvs, hb, hd, hc⟩ := B
  exact ⟨⟨C, f, fd, ps, k, dws, dvs, hF, hm, G, hr, hb, hd, hc⟩, no⟩
theorem de_makeB (hF : ClsF X.K c C) (M : Mk X.K C f) (hm : X.mg x = some (.ref C)) (F : FnG X.prog X.w X.K X.mg X.base CX k f fd ps (spI X.K Φ fi c)) (hr : Room (k + 1) X.A) (hgd : Gok X.A) (B : BindDf X.K fd ps (n + 1) [] dds (0 :: perm.map (· + 1))) (hx : Passes CX X E0) (hg : Gl X x)
    (ha : PA X (e :: es) (tAs X.K (evas Φ ies))) (hn : ies.len = n := by rfl) (hdb : (x == ("__debug__" : Str)) = false := by decide) (he : starEach (e :: es) X.env = (false, eval e X.env) :: starEach es X.env := by rfl) (hpl : (PySem.backTo pos (starEach es X.env)).any (·.1) = false := by rfl) :
    PE X (.Call (.Name x p) (e :: es) [] pos) (tD X.K (ev Φ (.make c fi perm ies (csts dds)))) := by
  obtain ⟨dws, dvs, hb, hd, hc⟩ := B
  exact de_make hF M F hr hgd hg hm hb hd hc hx ha hn hdb he hpl
end
theorem Csts.len {K : PySem.W.Frag} : ∀ {vs : List V} {ds : List D}, Csts K vs ds → vs.length = ds.length
  | _, _, .nil => rfl
  | _, _, .cons _ r => congrArg (· + 1) r.len
/-- a call's binding by what the defaults' tuple holds -/
theorem bindDf_of {K : PySem.W.Frag} {x qual : Str} {st : Stmt} {f : Addr} {fd : FuncData} {dV : Value} {ps ks : List Str} {n : Nat} {dds : List D} {perm : List Nat} (F : FunW K x qual st f fd dV) (W : DfW K dV dds)
    (h : ∀ (T : Addr) (kV doc pm : Value) (an : Option Addr) (cdv ct : Value) (us ws its zs : List Value), us.length = n → ws.length = ks.length → its.length = dds.length → pick perm (us ++ ws ++ its) = some zs →
      ∃ k, bindArgs (PySem.W.fnOf x qual (defArgs st) (defBody st) (defScope st) (.ref T) kV doc pm an cdv ct) ⟨us, ks.zip ws⟩ = seqItems? (.ref T) >>= k ∧ k (some its.toArray) = pure (ps.zip zs)) : BindDf K fd ps n ks dds perm := by
  obtain ⟨T, o, its, m, dvs, rfl, hT, hd, hv, hc⟩ := W.ex
  obtain ⟨oc, od, kV, doc, pm, an, cdv, ct, osl, rfl, _, _⟩ := F.ex
  have hl : its.length = dds.length := by rw [← hv.length]; exact hc.len
  refine ⟨its, dvs, fun s us ws zs kin h1 h2 h3 => ?_, hv, hc⟩
  obtain ⟨k, e1, e2⟩ := h T kV doc pm an cdv ct us ws its zs h1 h2 hl h3
  refine BindsTo.of_looks fun M => ?_
  rw [e1]
  exact looks_items kin hT hd (.of_pure e2)
end DL
namespace DL
open PySem L2
variable [LTabs]
theorem allM_nil {X : Cx} {Φ : Calls} {m : Str} {n : Nat} {perm : List Nat} {dds : List D} : AllM X Φ m n perm dds [] := trivial
theorem allM_cons {X : Cx} {Φ : Calls} {m : Str} {n : Nat} {perm : List Nat} {dds : List D} {c fi : Nat} {r : List (Nat × Nat)} (h : MethF X Φ m n perm dds c fi) (t : AllM X Φ m n perm dds r) : AllM X Φ m n perm dds ((c, fi) :: r) := ⟨h, t⟩
theorem allF_nil {K : PySem.W.Frag} {f : Str} : AllF K f [] := trivial
theorem allF_cons {K : PySem.W.Frag} {f : Str} {c i : Nat} {r : List (Nat × Nat)} {C : Addr} (h : ClsF K c C) (e : (cFlds c)[i]? = some f) (t : AllF K f r) : AllF K f ((c, i) :: r) := ⟨⟨C, h, e⟩, t⟩
end DL
end
section
set_option autoImplicit false
namespace DL
open PySem L2
variable [LTabs]
section
variable {Φ : Calls} {ρ : Ev} {a b : E} {i j : Int} {xs : List D} {x y : Bool}
@[simp] theorem o_rngD : evit Φ (.rngD a b) ρ = (ev Φ a ρ).then fun x => bnd (ev Φ b) fun y => bnd (vw x) fun d => bnd (vw y) fun e => match d, e with
    | .int i, .int j => if small62 i && small62 j then DL.ret (none, rngDL i j) else stuck
    | _, _ => stuck := rfl
@[simp] theorem b_rvsL : biD .rvs [.lst xs] = some (.fr xs.reverse) := rfl
@[simp] theorem b_rvsT : biD .rvs [.tup xs] = some (.fz (.tup xs.reverse)) := rfl
@[simp] theorem d_shr : binD .shr (.int i) (.int j) = if 0 ≤ j ∧ j ≤ 1000 then some (.fz (.int (i / 2 ^ j.toNat))) else none := rfl
@[simp] theorem d_band : binD .band (.int i) (.int j) = some (.fz (.int (Builtin.bitAnd i j))) := rfl
@[simp] theorem d_isb : cmpD .isN (.bl x) (.bl y) = some (decide (x = y)) := rfl
@[simp] theorem d_nsb : cmpD .notN (.bl x) (.bl y) = some (!decide (x = y)) := rfl
@[simp] theorem a_tpL {ts : Tgs} : asgn Φ (.tp ts) (.lst xs) = asgns Φ ts xs := rfl
end
end DL
end
section
set_option autoImplicit false
namespace DL
open PySem L2
variable [LTabs]
theorem inst_of {P : Program} {w : World} {H : Hp} {h : Heap} (ok : HOk P w H h) {a C dx : Addr} {fs : List (Str × V)} (e : H a = some (.ins C dx fs)) : ∃ ox od, PySem.W.InstAt h a ox C (some od) := by
  have o := ok a _ e
  unfold ObjOk at o
  obtain ⟨_, _, ne, g, mA, n1, _⟩ := o
  obtain ⟨od, i, _⟩ := ObjM.look (mA := mA) ⟨g, n1, ne⟩
  exact ⟨_, od, i⟩
/-- the own __eq__ reads only two of one class -/
def Grd (Φ : Calls) (c fi : Nat) : Prop := ∀ s e r, Φ fi [s, .fz e] = some r → ∃ ys, e = .obj c ys
def GrdM (Φ : Calls) : List (Nat × Nat) → Prop
  | [] => True
  | (c, fi) :: r => Grd Φ c fi ∧ GrdM Φ r
theorem GrdM.at {Φ : Calls} {c fi : Nat} : ∀ {ms : List (Nat × Nat)}, GrdM Φ ms → ms.lookup c = some fi → Grd Φ c fi
  | [], _, h => by cases h
  | (c', i') :: r, h, e => by
    unfold List.lookup at e
    cases q : c == c' with
    | true =>
      rw [q] at e
      cases e
      have := beq_iff_eq.mp q
      subst this
      exact h.1
    | false => rw [q] at e; exact GrdM.at h.2 e
end DL
end
section
set_option autoImplicit false
namespace DL
open PySem L2
variable [LTabs]
/-- the class has object's own __ne__ -/
structure NeF (K : PySem.W.Frag) (C : Addr) : Prop where
  ne : PySem.W.findIn K (.ref C) "__ne__" = some (some (.builtin "object.__ne__"))
  hm : PySem.W.mroIn K C (.type "object") = some true
section
variable {prog : Program} {w : World} {A : Around} {E : Value → Shared → Prop} {s : Shared} {K : PySem.W.Frag} {x y C f : Addr} {ox : Obj} {od : Option Obj} {oy : Obj} {od' : Option Obj} {name : Str}
theorem ifBound_KB {M : Model} {id : String} {args : List Value} {Q : Option Value → Shared → Prop} (X : K.In s.heap) (I : PySem.W.InstAt s.heap x ox C od) (hs : PySem.W.findIn K (.ref C) name = some (some (.builtin id))) (S : ∀ self, bindSpecial (.builtin id) self = pure (.builtin id, [self]))
    (h : wpAny M A (call (.builtin id) (.ref x :: args)) (fun v => Q (some v)) E s) : wpAny M A (callSpecialIfBound? (.ref x) name args) Q E s := by
  simp only [callSpecialIfBound?, bindSpecialIfBound?]
  refine wpAny_holding (wpAny_bind (wpAny_bind (wpAny_bind (I.type.here ((PySem.W.looks_findIn X hs).here ?_)))))
  simp only [S]
  refine wpAny_bind (wpAny_askSetting (wpAny_ite ?_))
  have fin : wpAny M A (call (.builtin id) ([.ref x] ++ args) >>= fun v => pure (some v)) Q E s := wpAny_bind (wpAny_mono h (fun v s' h' => wpAny_pure h') fun _ _ h' => h')
  split
  · exact wpAny_bind (wpAny_pure (wpAny_pure fin))
  · exact wpAny_tryCatch (wpAny_bind (wpAny_pure (wpAny_pure fin)))
end
/-- the class's own __eq__, with room for one call around it -/
structure MethN (X : Cx) (Φ : Calls) (c fi : Nat) : Prop where
  ex : ∃ (C f : Addr) (fd : FuncData) (ps : List Str) (k : Nat), ClsF X.K c C ∧ Meth X.K C "__eq__" f ∧ FnG X.prog X.w X.K X.mg X.base L2.CX0 k f fd ps (spD X.K Φ fi) ∧ Room (k + 1) X.A ∧ BindP X.K fd ps 2 [] [0, 1] ∧ NeF X.K C
  no : (cFlds c).contains ("__eq__" : Str) = false
def AllN (X : Cx) (Φ : Calls) : List (Nat × Nat) → Prop
  | [] => True
  | (c, fi) :: r => MethN X Φ c fi ∧ AllN X Φ r
theorem allN_nil {X : Cx} {Φ : Calls} : AllN X Φ [] := trivial
theorem allN_cons {X : Cx} {Φ : Calls} {c fi : Nat} {r : List (Nat × Nat)} {C f : Addr} {fd : FuncData} {ps : List Str} {k : Nat} (hF : ClsF X.K c C) (hm : Meth X.K C "__eq__" f) (G : FnG X.prog X.w X.K X.mg X.base L2.CX0 k f fd ps (spD X.K Φ fi)) (hr : Room (k + 1) X.A) (B : BindP X.K fd ps 2 [] [0, 1]) (N : NeF X.K C) (t : AllN X Φ r) (no : (cFlds c).contains ("__eq__" : Str) = false := by decide) : AllN X Φ ((c, fi) :: r) :=
  ⟨⟨⟨C, f, fd, ps, k, hF, hm, G, hr, B, N⟩, no⟩, t⟩
theorem AllN.at {X : Cx} {Φ : Calls} {c fi : Nat} : ∀ {ms : List (Nat × Nat)}, AllN X Φ ms → ms.lookup c = some fi → MethN X Φ c fi
  | [], _, h => by cases h
  | (c', i') :: r, h, e => by
    unfold List.lookup at e
    cases q : c == c' with
    | true =>
      rw [q] at e
      cases e
      have := beq_iff_eq.mp q
      subst this
      exact h.1
    | false => rw [q] at e; exact AllN.at h.2 e
/-- the own __eq__ reads only two of one class and answers a truth -/
def GrdB (Φ : Calls) (c fi : Nat) : Prop := ∀ s e r, Φ fi [s, .fz e] = some r → (∃ ys, e = .obj c ys) ∧ ∃ b, r.1 = .fz (.bl b)
def GrdBM (Φ : Calls) : List (Nat × Nat) → Prop
  | [] => True
  | (c, fi) :: r => GrdB Φ c fi ∧ GrdBM Φ r
theorem GrdBM.at {Φ : Calls} {c fi : Nat} : ∀ {ms : List (Nat × Nat)}, GrdBM Φ ms → ms.lookup c = some fi → GrdB Φ c fi
  | [], _, h => by cases h
  | (c', i') :: r, h, e => by
    unfold List.lookup at e
    cases q : c == c' with
    | true =>
      rw [q] at e
      cases e
      have := beq_iff_eq.mp q
      subst this
      exact h.1
    | false => rw [q] at e; exact GrdBM.at h.2 e
section
variable {Φ : Calls}
def IsBl (Φ : Calls) (e : E) : Prop := ∀ ρ r ρ', ev Φ e ρ = .ok r ρ' → ∃ k, r = .fz (.bl k)
theorem isBl_cmp {o : Cop} {a b : E} : IsBl Φ (.cmp o a b) := fun ρ r ρ' h => by
  obtain ⟨x, ρ1, y, d, f, k, e1, e2, v1, v2, e5, er⟩ := cmp_split h
  exact ⟨k, er⟩
theorem isBl_and {a b : E} (ha : IsBl Φ a) (hb : IsBl Φ b) : IsBl Φ (.and a b) := fun ρ r ρ' h => by
  simp only [ev] at h
  obtain ⟨x, ρ1, d, k, e1, v1, t1, h1⟩ := tru_split h
  cases k with
  | true => exact hb _ _ _ h1
  | false =>
    obtain ⟨q1, q2⟩ := ret_eq (show ret _ ρ1 = _ from h1)
    subst q1
    exact ha _ _ _ e1
end
end DL
end
section
set_option autoImplicit false
namespace DL
open PySem L2 PySem.Calls PySem.Spec PyProof.Rows
end DL
end
section
set_option autoImplicit false
namespace DL
open PySem L2
end DL
end
section
set_option autoImplicit false
namespace DL
open PySem L2
end DL
end
section
set_option autoImplicit false
namespace DL
open PySem L2
variable [LTabs]
section
variable {X : Cx} {Φ : Calls} {a b : Expr} {pos apos cpos : Pos} {ia ib : E}
theorem bi2_split {b : Bi} {ρ ρ' : Ev} {r : R} (h : ev Φ (.bi b (.cons ia (.cons ib .nil))) ρ = .ok r ρ') : ∃ y z ρ1 d f, ev Φ ia ρ = .ok y ρ1 ∧ ev Φ ib ρ1 = .ok z ρ' ∧ view ρ' y = some d ∧ view ρ' z = some f ∧ biD b [d, f] = some r := by
  obtain ⟨rs, ds, e1, e2, e3⟩ := bi_split h
  simp only [evrs] at e1
  obtain ⟨y, ρ1, e4, h1⟩ := bnd_eq e1
  obtain ⟨ys, ρ2, e5, h2⟩ := bnd_eq h1
  obtain ⟨z, ρ3, e6, h3⟩ := bnd_eq e5
  obtain ⟨zs, ρ4, e7, h4⟩ := bnd_eq h3
  obtain ⟨q1, q2⟩ := ret_eq e7
  subst q1 q2
  obtain ⟨q1, q2⟩ := ret_eq h4
  subst q1 q2
  obtain ⟨q1, q2⟩ := ret_eq h2
  subst q1 q2
  rw [List.mapM_cons, List.mapM_cons, List.mapM_nil] at e2
  cases q : view ρ' y with
  | none => rw [q] at e2; cases e2
  | some d =>
    rw [q] at e2
    cases q3 : view ρ' z with
    | none => rw [q3] at e2; cases e2
    | some f =>
      rw [q3] at e2
      have e2 : some [d, f] = some ds := e2
      cases e2
      exact ⟨y, z, ρ1, d, f, e4, e6, q, q3, e3⟩
end
end DL
namespace L2
open PySem PySem.Spec PyProof.Rows
end L2
namespace DL
open PySem L2
variable [LTabs]
section
variable {xs : List D} {k : Int}
@[simp] theorem b_cntI : biD .cntI [.lst xs, .int k] = (intsD xs).map fun ns => .fz (.int (ns.count k : Nat)) := rfl
@[simp] theorem b_idxI : biD .idxI [.lst xs, .int k] = (intsD xs).bind fun ns => (ns.findIdx? fun i => decide (i = k)).map fun j => .fz (.int (j : Nat)) := rfl
@[simp] theorem b_stp : biD .stp [.lst xs, .int k] = if 1 ≤ k ∧ k ≤ 1000 ∧ xs.length ≤ sizeLine then some (.fr ((sliceRange 0 xs.length k).filterMap fun i => xs[i]?)) else none := rfl
end
end DL
end
section
set_option autoImplicit false
namespace DL
open PySem L2
variable [LTabs]
section
variable {K : PySem.W.Frag} {S : Addr → Prop} {H : Hp}
theorem Rps.strsD : ∀ {vs : List V} {ds : List D} {ns : List Str}, Rps K S H vs ds → DL.strsD ds = some ns → vs = ns.map V.str
  | _, _, ns, .nil, e => by cases e; rfl
  | _, _, ns, .cons (.str i) r, e => by
    rename_i vs ds
    have e : (DL.strsD ds).map (i :: ·) = some ns := e
    cases q : DL.strsD ds with
    | none => rw [q] at e; cases e
    | some ms => rw [q] at e; cases e; rw [Rps.strsD r q]; rfl
  | _, _, ns, .cons .non r, e => by cases e
  | _, _, ns, .cons (.bl _) r, e => by cases e
  | _, _, ns, .cons (.int _) r, e => by cases e
  | _, _, ns, .cons (.tup _ _) r, e => by cases e
  | _, _, ns, .cons (.lst _ _) r, e => by cases e
  | _, _, ns, .cons (.scr _ _) r, e => by cases e
  | _, _, ns, .cons (.obj _ _ _ _ _) r, e => by cases e
  | _, _, ns, .cons (.box _ _) r, e => by cases e
  | _, _, ns, .cons (.emp _ _) r, e => by cases e
end
theorem view_str {x : R} {ρ : Ev} {a : Str} (h : view ρ x = some (.str a)) : x = .fz (.str a) := by
  cases x with
  | fz d => cases h; rfl
  | fr xs => cases h
  | rf i =>
    have h : (match ρ[i]? with | some (.ls k xs) => k.see xs | _ => none) = some (D.str a) := h
    split at h
    · rename_i k xs _
      cases k <;> cases h
    · cases h
section
variable {X : Cx} {Φ : Calls} {a b : Expr} {pos apos cpos : Pos} {ia ib : E}
theorem cr_str1D : CallR X (.type "str") (rK X.K .str1) := by
  intro pins s σ H vs us Q I r h
  obtain ⟨S, ds, x, dom, hv, hb, q⟩ := h
  match ds, hv, hb with
  | [.int i], hv, hb =>
    have hb : (if i.natAbs.log2 < 1920 then some (R.fz (.str (toString i))) else none) = some x := hb
    split at hb
    · rename_i hz
      cases hb
      obtain ⟨v, rfl, w⟩ := vds1 hv
      have e := w.i
      subst e
      exact call_str_int pins s σ H _ us Q I r ⟨i, rfl, hz, q S _ H .refl (.str _)⟩
    · cases hb
  | [.str z], hv, hb =>
    cases hb
    obtain ⟨v, rfl, w⟩ := vds1 hv
    have e := w.s
    subst e
    exact SkE.call_str_str pins s σ H _ us Q I r ⟨z, rfl, q S _ H .refl (.str _)⟩
theorem de_join (ha : PE X a (tD X.K (ev Φ ia))) (hb : PE X b (tD X.K (ev Φ ib))) (hs : starEach [b] X.env = [(false, eval b X.env)] := by rfl) (hbase : attributeBase a "join" X.env (eval a X.env) = eval a X.env := by rfl) (hline : (apos.endLine == pos.line) = true := by rfl) :
    PE X (.Call (.Attribute a "join" apos) [b] [] pos) (tD X.K (ev Φ (.bi .join (.cons ia (.cons ib .nil))))) :=
  peImp (pe_join ha hb hs hbase hline) fun σ H Q q => by
    obtain ⟨S, ρ, r, ρ', rel, e, q⟩ := q
    obtain ⟨y, z, ρ1, d, f, e1, e2, v1, v2, e3⟩ := bi2_split e
    cases d <;> (try (cases e3; done))
    cases f <;> (try (cases e3; done))
    rename_i w xs
    have e3 : ((strsD xs).bind fun ys => if (ys.map (·.length)).sum + ys.length * w.length ≤ 16777216 then some (R.fz (.str (Txt.join w ys))) else none) = some r := e3
    cases q3 : strsD xs with
    | none => rw [q3] at e3; cases e3
    | some ys =>
      rw [q3] at e3
      have e3 : (if (ys.map (·.length)).sum + ys.length * w.length ≤ 16777216 then some (R.fz (.str (Txt.join w ys))) else none) = some r := e3
      split at e3
      · rename_i hz
        cases e3
        have ey := view_str v1
        subst ey
        refine ⟨S, ρ, _, ρ1, rel, e1, fun S1 v H1 g1 rel1 r1 => ?_⟩
        have ev := (r1.view rel1 (d := .str w) rfl).s
        subst ev
        refine ⟨⟨w, rfl⟩, S1, ρ1, z, ρ', rel1, e2, fun S2 u H2 g2 rel2 r2 => ?_⟩
        obtain ⟨p, ws, rfl, hl, rp⟩ := (r2.view rel2 v2).l
        have := rp.strsD q3
        subst this
        exact ⟨w, p, ys, rfl, rfl, .inl (.inl (.inl hl)), hz, q S2 _ H2 (g1.trans g2) rel2 (.str _)⟩
      · cases e3
theorem de_globS {x i : Str} {t : Tok} (hg : Gl X x) (hm : X.mg x = some (.str i t)) (hd : (x == ("__debug__" : Str)) = false := by decide) : PE X (.Name x pos) (tD X.K (ev Φ (.cst (.str i)))) := de_cst (pe_glob (v := .str i) hg hm ⟨t, rfl⟩ hd) fun _ _ => .str i
end
end DL
end
section
set_option autoImplicit false
namespace DL
open PySem L2
variable [LTabs]
section
variable {K : PySem.W.Frag} {S S1 : Addr → Prop} {H H1 : Hp} {ρ ρ1 ρ2 : Ev} {σ σ1 : St}
theorem RdK.any {kvs : List (Key × V)} {xs : List D} (h : RdK K S H kvs xs) (k : Int) : (kvs.any fun kv => decide (kv.1 = .inl k)) = xs.any fun e => dkey e k := by
  induction h with
  | nil => rfl
  | cons a _ ih =>
    rw [List.any_cons, List.any_cons, ih]
    congr 1
    show decide _ = decide _
    exact decide_eq_decide.mpr ⟨fun z => by cases z; rfl, fun z => by rw [z]⟩
theorem RdK.get {kvs : List (Key × V)} {xs : List D} (h : RdK K S H kvs xs) {k : Int} {d : D} (e : dval xs k = some d) : ∃ v, valV kvs (.inl k) = some v ∧ Rp K S H v d := by
  induction h with
  | nil => cases e
  | @cons i v d' kvs xs a _ ih =>
    by_cases q : i = k
    · subst q
      have e2 : dval (.tup [.int i, d'] :: xs) i = some d' := by
        unfold dval
        rw [List.find?_cons_of_pos (by show decide (i = i) = true; simp)]
        rfl
      rw [e2] at e
      cases e
      exact ⟨v, valV_pos rfl, a⟩
    · have e2 : dval (.tup [.int i, d'] :: xs) k = dval xs k := by
        unfold dval
        rw [List.find?_cons_of_neg (by show ¬ decide (i = k) = true; simpa using q)]
      rw [e2] at e
      obtain ⟨w, h1, h2⟩ := ih e
      exact ⟨w, by rw [valV_neg (by intro z; cases z; exact q rfl)]; exact h1, h2⟩
theorem RdK.isSome {kvs : List (Key × V)} {xs : List D} (h : RdK K S H kvs xs) (k : Int) : (valV kvs (.inl k)).isSome = (dval xs k).isSome := by
  induction h with
  | nil => rfl
  | @cons i v d' kvs xs a _ ih =>
    by_cases q : i = k
    · subst q
      rw [valV_pos rfl]
      unfold dval
      rw [List.find?_cons_of_pos (by show decide (i = i) = true; simp)]
      rfl
    · rw [valV_neg (by intro z; cases z; exact q rfl), ih]
      unfold dval
      rw [List.find?_cons_of_neg (by show ¬ decide (i = k) = true; simpa using q)]
theorem RdK.length {kvs : List (Key × V)} {xs : List D} (h : RdK K S H kvs xs) : kvs.length = xs.length := by
  induction h with
  | nil => rfl
  | cons _ _ ih => rw [List.length_cons, List.length_cons, ih]
theorem RdK.repl {kvs : List (Key × V)} {xs : List D} (h : RdK K S H kvs xs) (k : Int) {v : V} {d : D} (r : Rp K S H v d) :
    RdK K S H (kvs.map fun kv => if kv.1 = .inl k then (kv.1, v) else kv) (xs.map fun e => if dkey e k = true then .tup [.int k, d] else e) := by
  induction h with
  | nil => exact .nil
  | @cons i w d' kvs xs a _ ih =>
    rw [List.map_cons, List.map_cons]
    by_cases q : i = k
    · subst q
      rw [if_pos rfl, if_pos (show dkey (D.tup [D.int i, d']) i = true from decide_eq_true rfl)]
      exact .cons r ih
    · rw [if_neg (by intro z; cases z; exact q rfl), if_neg (show ¬ dkey (D.tup [D.int i, d']) k = true from fun z => q (of_decide_eq_true z))]
      exact .cons a ih
theorem RdK.app {kvs : List (Key × V)} {xs : List D} (h : RdK K S H kvs xs) (k : Int) {v : V} {d : D} (r : Rp K S H v d) : RdK K S H (kvs ++ [(.inl k, v)]) (xs ++ [.tup [.int k, d]]) := by
  induction h with
  | nil => exact .cons r .nil
  | cons a _ ih => exact .cons a ih
theorem RdK.put {kvs : List (Key × V)} {xs : List D} (h : RdK K S H kvs xs) (k : Int) {v : V} {d : D} (r : Rp K S H v d) : RdK K S H (L2.putK kvs (.inl k) v) (dputD xs k d) := by
  unfold L2.putK dputD
  rw [h.any k]
  split
  · exact h.repl k r
  · exact h.app k r
/-- the dict of slot i gets the entries xs -/
theorem At.dput {i : Nat} {ys xs : List D} {a : Addr} {kvs : List (Key × V)} (at1 : At K S ρ σ H S1 ρ1 H1) (e : ρ1[i]? = some (.ls .dic ys)) (ea : σ[i]? = some (some (V.ref a))) (hv : RdK K S1 H1 kvs xs) :
    At K S ρ σ H S1 (ρ1.set i (.ls .dic xs)) (upd H1 a (.dK kvs)) := by
  have hi : i < ρ1.length := (List.getElem?_eq_some_iff.mp e).1
  obtain ⟨b, us, eb, h1, h2, h4⟩ := at1.rel.atK e
  rw [ea] at eb; cases eb
  have na : ∀ b, S1 b → b ≠ a := fun b h z => h2 (z ▸ h)
  have ke : Ke S1 H1 S1 (upd H1 a (.dK kvs)) := ⟨fun _ h => h, fun b o h e _ => by rw [upd_ne (na b h)]; exact e⟩
  have inv : ∀ (j : Nat) (l : Lk) (zs : List D), (ρ1.set i (.ls .dic xs))[j]? = some (.ls l zs) → ∃ zs', ρ1[j]? = some (.ls l zs') := fun j l zs e1 => by
    by_cases hj : i = j
    · subst hj
      rw [List.getElem?_set_self hi] at e1
      cases e1
      exact ⟨ys, e⟩
    · rw [List.getElem?_set_ne hj] at e1
      exact ⟨zs, e1⟩
  have own : ∀ b, Own (ρ1.set i (.ls .dic xs)) σ b → Own ρ1 σ b := fun b ⟨j, l, zs, e1, e2⟩ => let ⟨zs', e3⟩ := inv j l zs e1; ⟨j, l, zs', e3, e2⟩
  have oa : Own ρ1 σ a := ⟨i, .dic, ys, e, ea⟩
  refine ⟨⟨at1.go.sub, at1.go.new, fun b h => at1.go.own b (own b h), fun b o h n nt => ?_, fun b h => ?_, fun j l zs e1 n => ?_⟩, ⟨by rw [List.length_set]; exact at1.rel.len, fun j s ov e1 e2 => ?_, fun j j' l l' zs zs' b e1 e2 e3 e4 => ?_, fun b h => ?_, at1.rel.tb.set h1⟩⟩
  · have hb : b ≠ a := fun z => by
      subst z
      exact (at1.go.own b oa).elim (fun z => by rw [z] at h; cases h) n
    rw [upd_ne hb]
    exact at1.go.keep b o h n nt
  · by_cases hb : b = a
    · rw [hb, upd_same] at h; cases h
    · rw [upd_ne hb] at h; exact at1.go.stay b h
  · obtain ⟨ws, q1, q2, q3⟩ := at1.go.fix j l zs e1 n
    by_cases hj : i = j
    · subst hj
      rw [e] at q1
      cases q1
      exact ⟨xs, by rw [List.getElem?_set_self hi], q2, fun z => nomatch z⟩
    · exact ⟨ws, by rw [List.getElem?_set_ne hj]; exact q1, q2, q3⟩
  · by_cases hj : i = j
    · subst hj
      rw [List.getElem?_set_self hi] at e1
      cases e1
      rw [ea] at e2
      cases e2
      exact ⟨a, rfl, h2, .inr (.inl ⟨rfl, kvs, upd_same, hv.mono ke⟩)⟩
    · rw [List.getElem?_set_ne hj] at e1
      have w := at1.rel.ok j s ov e1 e2
      cases s with
      | un => trivial
      | fz d => obtain ⟨z, ez, hz⟩ := w; exact ⟨z, ez, hz.mono ke⟩
      | ls l zs =>
        obtain ⟨b, eb, q2, q1⟩ := w
        subst eb
        have hb : b ≠ a := fun z => hj (at1.rel.inj i j .dic l ys zs a e e1 ea (z ▸ e2))
        exact ⟨b, rfl, q2, hold_mono q1 (fun o h _ => by rw [upd_ne hb]; exact h) ke⟩
  · obtain ⟨z1, q1⟩ := inv j l zs e1
    obtain ⟨z2, q2⟩ := inv j' l' zs' e2
    exact at1.rel.inj j j' l l' _ _ b q1 q2 e3 e4
  · by_cases hb : b = a
    · rw [hb, upd_same]; simp
    · rw [upd_ne hb]; exact at1.rel.dom b h
end
end DL
end
section
set_option autoImplicit false
namespace DL
open PySem L2
variable [LTabs]
section
variable {K : PySem.W.Frag} {S S' : Addr → Prop} {ρ ρ' : Ev} {σ σ' : St} {H H' : Hp} {a b c : Addr} {xs ys zs : List D}
theorem zip3_get : ∀ {xs ys zs : List D} {i : Nat} {d : D}, (zip3D xs ys zs)[i]? = some d → ∃ x y z, xs[i]? = some x ∧ ys[i]? = some y ∧ zs[i]? = some z ∧ d = .tup [x, y, z]
  | [], _, _, _, _, h => by unfold zip3D at h; cases h
  | _ :: _, [], _, _, _, h => by unfold zip3D at h; cases h
  | _ :: _, _ :: _, [], _, _, h => by unfold zip3D at h; cases h
  | x :: xs, y :: ys, z :: zs, 0, d, h => by cases h; exact ⟨x, y, z, rfl, rfl, rfl, rfl⟩
  | x :: xs, y :: ys, z :: zs, i + 1, d, h => zip3_get (xs := xs) (ys := ys) (zs := zs) h
theorem zip3_len : ∀ (xs ys zs : List D), (zip3D xs ys zs).length = min (min xs.length ys.length) zs.length
  | [], ys, zs => by simp [zip3D]
  | _ :: _, [], zs => by simp [zip3D]
  | _ :: _, _ :: _, [] => by simp [zip3D]
  | _ :: xs, _ :: ys, _ :: zs => by
    show (zip3D xs ys zs).length + 1 = _
    rw [zip3_len xs ys zs, List.length_cons, List.length_cons, List.length_cons]
    omega
def Three (K : PySem.W.Frag) (u v w : V) (d e f : D) : SrcT := fun S _ _ H => Rp K S H u d ∧ Rp K S H v e ∧ Rp K S H w f
theorem Wk.zip3 : Wk K (Itz3 K a b c) (Three K (.ref a) (.ref b) (.ref c) (.lst xs) (.lst ys) (.lst zs)) (zip3D xs ys zs) where
  stop := fun S ρ σ H rel h i hi => by
    obtain ⟨p, vs, ep, h1, h2⟩ := (Vd.fz h.1).sq rfl (fun _ z => nomatch z)
    obtain ⟨q, us, eq, h3, h4⟩ := (Vd.fz h.2.1).sq rfl (fun _ z => nomatch z)
    obtain ⟨r, ws, er, h5, h6⟩ := (Vd.fz h.2.2).sq rfl (fun _ z => nomatch z)
    cases ep
    cases eq
    cases er
    rw [zip3_len] at hi
    exact ⟨vs, us, ws, h1, h3, h5, by rw [h2.length, h4.length, h6.length]; omega⟩
  go := fun S ρ σ H rel h i hi => by
    obtain ⟨p, vs, ep, h1, h2⟩ := (Vd.fz h.1).sq rfl (fun _ z => nomatch z)
    obtain ⟨q, us, eq, h3, h4⟩ := (Vd.fz h.2.1).sq rfl (fun _ z => nomatch z)
    obtain ⟨r, ws, er, h5, h6⟩ := (Vd.fz h.2.2).sq rfl (fun _ z => nomatch z)
    cases ep
    cases eq
    cases er
    rw [zip3_len] at hi
    have i1 : i < vs.length := by rw [h2.length]; omega
    have i2 : i < us.length := by rw [h4.length]; omega
    have i3 : i < ws.length := by rw [h6.length]; omega
    exact ⟨vs, us, ws, vs[i], us[i], ws[i], h1, h3, h5, List.getElem?_eq_getElem i1, List.getElem?_eq_getElem i2, List.getElem?_eq_getElem i3⟩
  yld := fun S ρ σ H i d' x H' rel h ei y => by
    obtain ⟨p, vs, ep, h1, h2⟩ := (Vd.fz h.1).sq rfl (fun _ z => nomatch z)
    obtain ⟨q, us, eq, h3, h4⟩ := (Vd.fz h.2.1).sq rfl (fun _ z => nomatch z)
    obtain ⟨r, ws, er, h5, h6⟩ := (Vd.fz h.2.2).sq rfl (fun _ z => nomatch z)
    cases ep
    cases eq
    cases er
    obtain ⟨T, z1, z2, z3, rfl, nT, rfl, y1, y2, y3⟩ := y
    obtain ⟨x1, x2, x3, e1, e2, e3, rfl⟩ := zip3_get ei
    obtain ⟨w1, f1, r1⟩ := h2.get e1
    obtain ⟨w2, f2, r2⟩ := h4.get e2
    obtain ⟨w3, f3, r3⟩ := h6.get e3
    rw [y1 vs h1] at f1
    rw [y2 us h3] at f2
    rw [y3 ws h5] at f3
    cases f1
    cases f2
    cases f3
    exact ⟨_, .tup nT, Rp.mkTup nT (.cons r1 (.cons r2 (.cons r3 .nil)))⟩
  stay := fun S ρ σ H S' ρ' σ' H' rel h g _ => ⟨h.1.mono (g.ke rel), h.2.1.mono (g.ke rel), h.2.2.mono (g.ke rel)⟩
  wip := fun own S ρ σ H no h => h
end
end DL
end
section
set_option autoImplicit false
namespace DL
open PySem L2 PyProof.Rows
end DL
end
section
set_option autoImplicit false
namespace DL
open PySem L2
variable [LTabs]
section
variable {X : Cx} {CX : CXT} {Φ : Calls} {k : Nat} {f C : Addr} {fd : FuncData} {ps ks : List Str} {sp : Sp} {x m : Str} {p pos apos : Pos} {e o : Expr} {es : List Expr} {kws : List Keyword} {t tk : TA} {te ta : TE} {perm : List Nat} {n c fi : Nat} {dws : List Value} {dvs : List V} {ies iks : As} {dds : List D}
structure MethFk (X : Cx) (Φ : Calls) (m : Str) (n : Nat) (ks : List Str) (perm : List Nat) (dds : List D) (c fi : Nat) : Prop where
  ex : ∃ (C f : Addr) (fd : FuncData) (ps : List Str) (k : Nat) (dws : List Value) (dvs : List V), ClsF X.K c C ∧ Meth X.K C m f ∧ FnG X.prog X.w X.K X.mg X.base L2.CX0 k f fd ps (spD X.K Φ fi) ∧ Room k X.A ∧ BindPd X.K fd ps (n + 1) ks dws perm ∧ Vals dvs dws ∧ Csts X.K dvs dds
  no : (cFlds c).contains m = false
def AllMk (X : Cx) (Φ : Calls) (m : Str) (n : Nat) (ks : List Str) (perm : List Nat) (dds : List D) : List (Nat × Nat) → Prop
  | [] => True
  | (c, fi) :: r => MethFk X Φ m n ks perm dds c fi ∧ AllMk X Φ m n ks perm dds r
theorem AllMk.at {ms : List (Nat × Nat)} : AllMk X Φ m n ks perm dds ms → ms.lookup c = some fi → MethFk X Φ m n ks perm dds c fi := by
  induction ms with
  | nil => intro _ h; cases h
  | cons a r ih =>
    obtain ⟨c', i'⟩ := a
    intro h e
    unfold List.lookup at e
    cases q : c == c' with
    | true =>
      rw [q] at e
      cases e
      have := beq_iff_eq.mp q
      subst this
      exact h.1
    | false => rw [q] at e; exact ih h.2 e
end
end DL
end
section
set_option autoImplicit false
namespace DL
section
open PySem PySem.Spec PyProof.Rows Builtin Builtin.Str
variable {prog : Program} {w : World} {A : Around} {E : Value → Shared → Prop} {s : Shared} {K : PySem.W.Frag} {x C f : Addr} {ox : Obj} {odd : Option Obj}
theorem str_from {Q : Value → Shared → Prop} (hu : A.units < cLine) (X : K.In s.heap) (I : PySem.W.InstAt s.heap x ox C odd) (hs : PySem.W.findIn K (.ref C) "__str__" = some (some (.ref f))) (hf : PySem.W.isFn K (.ref f) = true)
    (h : wpAny (model prog w) A (call (.ref f) [.ref x]) (fun r s₁ => ∃ n u, r = Value.str n u ∧ Q r s₁) E s) : wpAny (model prog w) A (PySem.Builtin.Str.strOf (.ref x)) Q E s := by
  unfold PySem.Builtin.Str.strOf
  rw [show isExactStr (.ref x) = false from rfl]
  show wpAny (model prog w) A (do cRoomFor "str" [.ref x]; _) Q E s
  refine wpAny_bind (wpAny_cRoomFor hu ?_)
  refine wpAny_bind (m := callSpecial? (.ref x) (Str.ofString "__str__")) (PySem.W.special_fn X I hs (beq_iff_eq.mp hf) (wpAny_mono h (fun r s' hr => ?_) fun _ _ y => y))
  obtain ⟨n, u, rfl, hq⟩ := hr
  exact wpAny_pure hq
theorem str_own {Q : Value → Shared → Prop} (hu : A.in1.in1.units < cLine) (X : K.In s.heap) (I : PySem.W.InstAt s.heap x ox C odd) (hs : PySem.W.findIn K (.ref C) "__str__" = some (some (.ref f))) (hf : PySem.W.isFn K (.ref f) = true)
    (h : wpAny (model prog w) A.in1.in1 (call (.ref f) [.ref x]) (fun r s₁ => ∃ n u, r = Value.str n u ∧ Q r s₁) E s) : wpAny (model prog w) A (call (.type "str") [.ref x]) Q E s := by
  refine callType_codes (T := "str") (Bi := Builtin.«object.__init__») (Q₁ := fun r s₁ => ∃ n u, r = Value.str n u ∧ Q r s₁) PySem.F.called_str (PySem.F.typeCall_str_1 _) PySem.F.entry_object_init ?_ ?_
  · refine codeAny_of_tree ?_
    show wpAny _ A.in1.in1 (do checkBuiltinCall "str.__new__" ⟨[.type "str", .ref x], []⟩; again (.builtin "str.__new__" ⟨[.type "str", .ref x], []⟩)) _ _ s
    refine wpAny_bind (wpAny_of_eq (PySem.F.newCall_str_1 _) (wpAny_pure ⟨plainId_quiet (by decide +kernel) _, codeAny_builtin PySem.F.entry_str_new ?_⟩))
    rw [Around.under_plainId (by decide +kernel) _]
    rw [str_new_tree]
    refine wpAny_bind (wpAny_pure ?_)
    refine wpAny_bind (wpAny_of_eq isSubtype_str_str ?_)
    refine wpAny_bind (str_from hu X I hs hf (wpAny_mono h (fun r s₁ hr => ?_) fun _ _ y => y))
    obtain ⟨n, u, rfl, hq⟩ := hr
    exact ⟨n, u, rfl, wpAny_pure ⟨n, u, rfl, hq⟩⟩
  · rintro obj s₁ ⟨n, u, rfl, hq⟩
    exact ⟨typeIs_str _ _ _, PySem.F.args_object_init_2 _ _, object_init_meets PySem.F.called_str.init.lookup PySem.F.called_str.made (by decide) prog w A.in1 _ s₁ ⟨typeIs_str _ _ _, rfl, hq⟩⟩
end
open PySem L2
variable [LTabs]
section
variable {X : Cx} {Φ : Calls} {a : Expr} {ia : E} {p pos : Pos} {c fi : Nat} {f : Addr} {fd : FuncData} {ps : List Str} {k : Nat}
theorem in2_room {A : Around} (r : Room (k + 1) A) : Room k A.in1.in1 :=
  ⟨r.hd, by have := r.dp; show A.depth + 3 * k + 5 < _; omega, by have := r.un; show A.units + 1 + 1 + 16 * k + 200 < _; omega⟩
/-- the class's own __str__ -/
structure StrF (X : Cx) (Φ : Calls) (c fi : Nat) : Prop where
  ex : ∃ (C f : Addr) (fd : FuncData) (ps : List Str) (k : Nat) (dws : List Value) (dvs : List V), ClsF X.K c C ∧ Meth X.K C "__str__" f ∧ FnG X.prog X.w X.K X.mg X.base L2.CX0 k f fd ps (spD X.K Φ fi) ∧ Room (k + 1) X.A ∧ BindPd X.K fd ps 1 [] dws [0] ∧ Vals dvs dws ∧ Csts X.K dvs []
theorem strF {C : Addr} (hF : ClsF X.K c C) (hm : Meth X.K C "__str__" f) (G : FnG X.prog X.w X.K X.mg X.base L2.CX0 k f fd ps (spD X.K Φ fi)) (hr : Room (k + 1) X.A) (B : BindDf X.K fd ps 1 [] [] [0]) : StrF X Φ c fi := by
  obtain ⟨dws, dvs, hb, hd, hc⟩ := B
  exact ⟨⟨C, f, fd, ps, k, dws, dvs, hF, hm, G, hr, hb, hd, hc⟩⟩
def rStrO (X : Cx) (Φ : Calls) : List V → Hp → VK → Prop := fun vs H Q => ∃ a C dx fs c fi, vs = [.ref a] ∧ H a = some (.ins C dx fs) ∧ PySem.W.nsIn X.K mainGlobals (cName c) = some (some (.ref C)) ∧ StrF X Φ c fi ∧ spD X.K Φ fi [.ref a] H (fun v H' => (∃ z, v = .str z) ∧ Q v H') E0
theorem call_strO (hgd : Gok X.A) (hx : Passes L2.CX0 X E0) : CallR X (.type "str") (rStrO X Φ) := by
  intro pins s σ H vs us Q I r ⟨a, C, dx, fs, c, fi, ex, ha, hn, M, q⟩
  subst ex
  obtain ⟨u, rfl, ru⟩ := vals1 r
  obtain rfl : u = Value.ref a := ru
  obtain ⟨C', f, fd, ps, k, dws, dvs, F, hm, G, hr, hb, hd, hc⟩ := M.ex
  have := cls_inj hn F.ns
  subst this
  obtain ⟨ox, od, ia⟩ := inst_of I.hok ha
  have hv : dvs = [] := by cases hc; rfl
  subst hv
  have hr2 := in2_room hr
  refine str_own hr2.units0 I.kIn ia hm.at_ hm.fn ?_
  have r0 : Vals [V.ref a] [Value.ref a] := .cons rfl .nil
  have r1 : Vals [] [] := .nil
  obtain ⟨qs, eq, rq⟩ := pick_vals ((r0.append r1).append hd) (show pick [0] ([V.ref a] ++ [] ++ []) = some [V.ref a] from rfl)
  refine wpAny_call (codeAny_mono (G.run X.A.in1.in1 X.stack s H ⟨[.ref a], []⟩ qs [.ref a] (fun v H' => (∃ z, v = .str z) ∧ Q v H') E0 hr2 hgd I.env0.in1.in1 (hb s [.ref a] [] qs I.kIn rfl rfl eq) rq q) fun r s' hq => ?_)
  cases r with
  | error e => exact hx pins σ H s e s' I hq
  | ok fl => cases fl with
    | ret u =>
      obtain ⟨v, H', I', rv, ⟨z, ez⟩, q3⟩ := I.after hq
      subst ez
      obtain ⟨t, e⟩ := rv
      subst e
      exact ⟨z, t, rfl, .str z, H', I', ⟨t, rfl⟩, q3⟩
    | next => exact False.elim hq
    | brk => exact False.elim hq
    | cont => exact False.elim hq
/-- the own __str__ answers texts -/
def GrdS (Φ : Calls) (fi : Nat) : Prop := ∀ as r, Φ fi as = some r → ∃ z, r.1 = .fz (.str z)
theorem grdS_of {T : List Df} {fi : Nat} {es : Es} (h : T[fi]? = some ⟨1, 1, .cons (.ret (.bi .str1 es)) .nil⟩) : ∀ k, GrdS (callN T k) fi
  | 0, as, r, q => by cases q
  | k + 1, as, r, q => by
    obtain ⟨d', fl, ρ', hd, hl, he, h4, h3⟩ := callN_split h (r := r.1) (as' := r.2) q
    rw [h] at hd
    cases hd
    simp only [execs, exec] at he
    obtain ⟨f1, ρ1, e1, k1⟩ := bnd_eq he
    obtain ⟨r1, ρ2, e2, k2⟩ := bnd_eq e1
    obtain ⟨q1, q2⟩ := ret_eq k2
    subst q1 q2
    obtain ⟨q1, q2⟩ := ret_eq (show DL.ret (Fl.rt r1) ρ1 = .ok fl ρ' from k1)
    subst q1 q2
    obtain ⟨rs, ds, e3, e4, e5⟩ := bi_split e2
    have hz : ∃ z, r1 = .fz (.str z) := by
      match ds, e5 with
      | [.int i], e5 =>
        have e5 : (if i.natAbs.log2 < 1920 then some (R.fz (.str (toString i))) else none) = some r1 := e5
        split at e5
        · cases e5; exact ⟨_, rfl⟩
        · cases e5
      | [.str z], e5 => cases e5; exact ⟨z, rfl⟩
    obtain ⟨z, rfl⟩ := hz
    rcases h3 with ⟨r0, h5, h6⟩ | ⟨h5, _⟩
    · cases h5
      have h6 : some (R.fz (.str z)) = some r.1 := h6
      exact ⟨z, (Option.some.inj h6).symm⟩
    · cases h5
def AllS (X : Cx) (Φ : Calls) : List (Nat × Nat) → Prop
  | [] => True
  | (c, fi) :: r => (StrF X Φ c fi ∧ GrdS Φ fi) ∧ AllS X Φ r
theorem allS_nil : AllS X Φ [] := trivial
theorem allS_cons {r : List (Nat × Nat)} (h : StrF X Φ c fi) (g : GrdS Φ fi) (t : AllS X Φ r) : AllS X Φ ((c, fi) :: r) := ⟨⟨h, g⟩, t⟩
theorem AllS.at : ∀ {ms : List (Nat × Nat)}, AllS X Φ ms → ms.lookup c = some fi → StrF X Φ c fi ∧ GrdS Φ fi
  | [], _, h => by cases h
  | (c', i') :: r, h, e => by
    unfold List.lookup at e
    cases q : c == c' with
    | true =>
      rw [q] at e
      cases e
      have := beq_iff_eq.mp q
      subst this
      exact h.1
    | false => rw [q] at e; exact AllS.at h.2 e
theorem callM_fz {f : Nat} {perm : List Nat} {as : List A} {r : R} {ρ ρ' : Ev} (h : callM Φ f perm as ρ = .ok r ρ') : ∃ ss r', Φ f ss = some r' ∧ r'.1 = r := by
  unfold callM at h
  split at h
  · cases h
  · split at h
    · split at h
      · cases h
      · split at h
        · cases h
        · rename_i e; cases h; exact ⟨_, _, e, rfl⟩
    · cases h
theorem de_strO {ms : List (Nat × Nat)} (hM : AllS X Φ ms) (hgd : Gok X.A) (hx : Passes L2.CX0 X E0) (hg : Gl X "str") (hm : X.mg "str" = none) (ha : PE X a (tD X.K (ev Φ ia)))
    (he : starEach [a] X.env = (false, eval a X.env) :: starEach [] X.env := by rfl) (hpl : (PySem.backTo pos (starEach [] X.env)).any (·.1) = false := by rfl) :
    PE X (.Call (.Name "str" p) [a] [] pos) (tD X.K (ev Φ (.meth ia ms [0] .nil .nil))) :=
  peImp (pe_callTy (call_strO (Φ := Φ) hgd hx) hg hm bt_str (pa_cons ha pa_nil he) (by decide) (by decide) he hpl) fun σ H Q q => by
    obtain ⟨S, ρ, r, ρ', rel, e, q⟩ := q
    simp only [ev] at e
    obtain ⟨x, ρ1, e1, h1⟩ := bnd_eq e
    obtain ⟨⟨c, sf⟩, ρ0, e0, h2⟩ := bnd_eq h1
    obtain ⟨q0, so⟩ := vwA_eq e0
    subst q0
    obtain ⟨fi, e2, h3⟩ := ofO_split h2
    have h5 : callM Φ fi [0] [sf] ρ0 = .ok r ρ' := (callS_eq (as := []) h3).1
    obtain ⟨M, G⟩ := hM.at e2
    refine ⟨S, ρ, x, ρ0, rel, e1, fun S1 v H1 g1 rel1 r1 => ?_⟩
    obtain ⟨⟨a, C, dx, vs, ev1, hns, hh, hlen⟩, w2⟩ := so.ins rel1 r1
    subst ev1
    obtain ⟨ss, r', hΦ, hr'⟩ := callM_fz h5
    obtain ⟨z, hz⟩ := G _ _ hΦ
    rw [hr'] at hz
    subst hz
    obtain ⟨zs, hp, sp⟩ := At.call (Q := fun v H' => (∃ z, v = .str z) ∧ Q v H') (as := [sf]) (vs := [.ref a]) ⟨g1, rel1⟩ (.cons w2 .nil) h5 fun S' v H' g rel' rv => ⟨⟨z, (rv.view rel' (d := .str z) rfl).s⟩, q S' v H' g rel' rv⟩
    cases hp
    exact ⟨a, C, dx, _, c, fi, rfl, hh, hns, M, sp⟩
end
end DL
end
section
set_option autoImplicit false
namespace DL
section
open PySem PySem.Spec PyProof.Rows Builtin PySem.W
variable {prog : Program} {w : World} {A : Around} {E : Value → Shared → Prop} {s : Shared} {K : PySem.W.Frag} {x C f : Addr} {ox : Obj} {odd : Option Obj}
theorem repr_own {Q : Value → Shared → Prop} (hu : A.in1.units < cLine) (X : K.In s.heap) (I : InstAt s.heap x ox C odd) (hs : findIn K (.ref C) "__repr__" = some (some (.ref f))) (hf : isFn K (.ref f) = true)
    (h : wpAny (model prog w) A.in1 (call (.ref f) [.ref x]) (fun r s₁ => ∃ n u, r = Value.str n u ∧ Q r s₁) E s) : wpAny (model prog w) A (call (.builtin "repr") [.ref x]) Q E s := by
  refine Calls.call_function_entry PySem.F.kind_repr PySem.F.plain_repr PySem.F.entry_repr (PySem.F.args_repr1 _) ?_
  unfold Builtin.«repr»
  refine wpAny_bind (m := oneArg "repr" _) (wpAny_pure ?_)
  refine wpAny_bind (wpAny_cRoomFor hu ?_)
  refine wpAny_bind (wpAny_bind (I.type.here ((looks_findIn X hs).here ?_)))
  show wpAny _ _ (if (some (Value.ref f)).isNone = true then _ else _) _ _ _
  rw [if_neg (by simp)]
  refine wpAny_bind (m := callSpecialIfBound? (.ref x) (Str.ofString "__repr__") _) (ifBound_K X I hs hf (wpAny_mono h (fun r s' hr => ?_) fun _ _ y => y))
  obtain ⟨n, u, rfl, hr⟩ := hr
  refine wpAny_bind (wpAny_isInstance (typeIs_str _ _ _) isSubtype_str_str ?_)
  first
    | exact wpAny_pure ⟨_, rfl, hr⟩
    | (rw [if_pos rfl]; exact wpAny_pure ⟨_, rfl, hr⟩)
    | (simp only [if_true]; exact wpAny_pure ⟨_, rfl, hr⟩)
end
section
open PySem
theorem view_int {x : R} {ρ : Ev} {i : Int} (h : view ρ x = some (.int i)) : x = .fz (.int i) := by
  cases x with
  | fz d => cases h; rfl
  | fr xs => cases h
  | rf j =>
    have h : (match ρ[j]? with | some (.ls k xs) => k.see xs | _ => none) = some (D.int i) := h
    split at h
    · rename_i k xs _
      cases k <;> cases h
    · cases h
theorem fsD_out : ∀ (ds : List D) (acc : Str) {r : R}, fsD acc ds = some r → ∃ z, r = .fz (.str z)
  | [], acc, r, h => by cases h; exact ⟨_, rfl⟩
  | .str y :: ds, acc, r, h => by
    unfold fsD at h
    split at h
    · exact fsD_out ds _ h
    · cases h
  | .int i :: ds, acc, r, h => by
    unfold fsD at h
    split at h
    · exact fsD_out ds _ h
    · cases h
  | .non :: _, _, _, h => by cases h
  | .bl _ :: _, _, _, h => by cases h
  | .tup _ :: _, _, _, h => by cases h
  | .lst _ :: _, _, _, h => by cases h
  | .scr _ :: _, _, _, h => by cases h
  | .obj _ _ :: _, _, _, h => by cases h
  | .box _ _ _ :: _, _, _, h => by cases h
  | .emp _ :: _, _, _, h => by cases h
end
open PySem L2
variable [LTabs]
section
variable {X : Cx} {Φ : Calls} {e : Expr} {es : List Expr} {ie : E} {ies : Es} {pos : Pos}
/-- a part of an f-string: a text, an int -/
def tFs (K : PySem.W.Frag) (m : M R) : TE := fun σ H Q => ∃ S ρ r ρ', Rel K S ρ σ H ∧ m ρ = .ok r ρ' ∧ ((∃ y : Str, r = .fz (.str y) ∧ y.length ≤ sizeLine ∧ ∀ S' H', At K S ρ σ H S' ρ' H' → Q (.str y) H') ∨ (∃ i : Int, r = .fz (.int i) ∧ i.natAbs.log2 < 1920 ∧ ∀ S' H', At K S ρ σ H S' ρ' H' → Q (.str (toString i)) H'))
theorem fs_val (h : PE X e (tD X.K (ev Φ ie))) : PE X (.FormattedValue e (-1) none pos) (tFs X.K (ev Φ ie)) :=
  peImp (pe_fmt h) fun σ H Q q => by
    obtain ⟨S, ρ, r, ρ', rel, e1, q⟩ := q
    refine ⟨S, ρ, r, ρ', rel, e1, fun S1 v H1 g1 rel1 r1 => ?_⟩
    rcases q with ⟨y, rfl, hz, q⟩ | ⟨i, rfl, hz, q⟩
    · have ev := (r1.view rel1 (d := .str y) rfl).s
      subst ev
      exact .inl ⟨y, rfl, hz, q S1 H1 ⟨g1, rel1⟩⟩
    · have ev := (r1.view rel1 (d := .int i) rfl).i
      subst ev
      exact .inr ⟨i, rfl, hz, q S1 H1 ⟨g1, rel1⟩⟩
theorem fs_cst {y0 : Str} (h : PE X e (tD X.K (ev Φ (.cst (.str y0))))) : PE X e (tFs X.K (ev Φ (.cst (.str y0)))) :=
  peImp h fun σ H Q q => by
    obtain ⟨S, ρ, r, ρ', rel, e1, q⟩ := q
    refine ⟨S, ρ, r, ρ', rel, e1, fun S1 v H1 g1 rel1 r1 => ?_⟩
    have e2 : (DL.ret (R.fz (.str y0))) ρ = .ok r ρ' := by simpa only [ev] using e1
    obtain ⟨q1, q2⟩ := ret_eq e2
    rcases q with ⟨y, hr, hz, q⟩ | ⟨i, hr, hz, q⟩
    · subst hr
      have ev := (r1.view rel1 (d := .str y) rfl).s
      subst ev
      exact q S1 H1 ⟨g1, rel1⟩
    · rw [hr] at q1; cases q1
inductive FsA (X : Cx) (Φ : Calls) : List Expr → Es → List TE → Prop where
  | nil : FsA X Φ [] .nil []
  | cons {e : Expr} {ie : E} {es : List Expr} {ies : Es} {ts : List TE} (h : PE X e (tFs X.K (ev Φ ie))) (r : FsA X Φ es ies ts) : FsA X Φ (e :: es) (.cons ie ies) (tFs X.K (ev Φ ie) :: ts)
theorem FsA.pj {ts : List TE} (h : FsA X Φ es ies ts) : PJ X es ts := by
  induction h with
  | nil => exact .nil
  | cons h r ih => exact .cons h ih
theorem FsA.js {ts : List TE} (h : FsA X Φ es ies ts) : ∀ (acc : Str) (σ : St) (H : Hp) (Q : Str → Hp → Prop) (S : Addr → Prop) (ρ : Ev) (rs : List R) (ρ' : Ev) (ds : List D) (out : Str), Rel X.K S ρ σ H → evrs Φ ies ρ = .ok rs ρ' → rs.mapM (view ρ') = some ds → fsD acc ds = some (.fz (.str out)) → (∀ S' H', At X.K S ρ σ H S' ρ' H' → Q out H') → tJs ts acc σ H Q := by
  induction h with
  | nil =>
    intro acc σ H Q S ρ rs ρ' ds out rel e1 e2 e3 q
    simp only [evrs] at e1
    obtain ⟨q1, q2⟩ := ret_eq e1
    subst q1 q2
    rw [List.mapM_nil] at e2
    cases e2
    cases e3
    exact q S H (.start rel)
  | @cons e ie es ies ts he r ih =>
    intro acc σ H Q S ρ rs ρ' ds out rel e1 e2 e3 q
    simp only [evrs] at e1
    obtain ⟨x, ρ1, e4, h1⟩ := bnd_eq e1
    obtain ⟨xs, ρ2, e5, h2⟩ := bnd_eq h1
    obtain ⟨q1, q2⟩ := ret_eq h2
    subst q1 q2
    rw [List.mapM_cons] at e2
    cases q1 : view ρ' x with
    | none => rw [q1] at e2; cases e2
    | some d =>
      rw [q1] at e2
      cases q2 : xs.mapM (view ρ') with
      | none => rw [q2] at e2; cases e2
      | some ds' =>
        rw [q2] at e2
        cases e2
        cases d <;> (try (cases e3; done))
        · rename_i i
          have hx := view_int q1
          subst hx
          have e3 : (if i.natAbs.log2 < 1920 ∧ (acc ++ (toString i : Str)).length ≤ 16777216 then fsD (acc ++ (toString i : Str)) ds' else none) = some (.fz (.str out)) := e3
          split at e3
          · rename_i hz
            exact ⟨S, ρ, _, ρ1, rel, e4, .inr ⟨i, rfl, hz.1, fun S1 H1 a1 => ⟨_, rfl, hz.2, ih _ σ H1 Q S1 ρ1 xs ρ' ds' out a1.rel e5 q2 e3 fun S' H' a2 => q S' H' (a1.trans a2)⟩⟩⟩
          · cases e3
        · rename_i y
          have hx := view_str q1
          subst hx
          have e3 : (if y.length ≤ 16777216 ∧ (acc ++ y).length ≤ 16777216 then fsD (acc ++ y) ds' else none) = some (.fz (.str out)) := e3
          split at e3
          · rename_i hz
            exact ⟨S, ρ, _, ρ1, rel, e4, .inl ⟨y, rfl, hz.1, fun S1 H1 a1 => ⟨_, rfl, hz.2, ih _ σ H1 Q S1 ρ1 xs ρ' ds' out a1.rel e5 q2 e3 fun S' H' a2 => q S' H' (a1.trans a2)⟩⟩⟩
          · cases e3
theorem de_fs {v1 v2 : Expr} {rest : List Expr} {ts : List TE} (h : FsA X Φ (v1 :: v2 :: rest) ies ts) : PE X (.JoinedStr (v1 :: v2 :: rest) pos) (tD X.K (ev Φ (.bi .fs ies))) :=
  peImp (pe_joined h.pj) fun σ H Q q => by
    obtain ⟨S, ρ, r, ρ', rel, e, q⟩ := q
    obtain ⟨rs, ds, e1, e2, e3⟩ := bi_split e
    obtain ⟨out, rfl⟩ := fsD_out _ _ e3
    exact h.js Str.empty σ H _ S ρ rs ρ' ds out rel e1 e2 e3 fun S' H' a => q S' _ H' a.go a.rel (.str _)
end
section
variable {X : Cx} {Φ : Calls} {a : Expr} {ia : E} {p pos : Pos} {c fi : Nat} {f : Addr} {fd : FuncData} {ps : List Str} {k : Nat}
theorem in1_room {A : Around} (r : Room (k + 1) A) : Room k A.in1 :=
  ⟨r.hd, by have := r.dp; show A.depth + 3 * k + 5 < _; omega, by have := r.un; show A.units + 1 + 16 * k + 200 < _; omega⟩
/-- the class's own __repr__ -/
structure RepF (X : Cx) (Φ : Calls) (c fi : Nat) : Prop where
  ex : ∃ (C f : Addr) (fd : FuncData) (ps : List Str) (k : Nat) (dws : List Value) (dvs : List V), ClsF X.K c C ∧ Meth X.K C "__repr__" f ∧ FnG X.prog X.w X.K X.mg X.base L2.CX0 k f fd ps (spD X.K Φ fi) ∧ Room (k + 1) X.A ∧ BindPd X.K fd ps 1 [] dws [0] ∧ Vals dvs dws ∧ Csts X.K dvs []
theorem repF {C : Addr} (hF : ClsF X.K c C) (hm : Meth X.K C "__repr__" f) (G : FnG X.prog X.w X.K X.mg X.base L2.CX0 k f fd ps (spD X.K Φ fi)) (hr : Room (k + 1) X.A) (B : BindDf X.K fd ps 1 [] [] [0]) : RepF X Φ c fi := by
  obtain ⟨dws, dvs, hb, hd, hc⟩ := B
  exact ⟨⟨C, f, fd, ps, k, dws, dvs, hF, hm, G, hr, hb, hd, hc⟩⟩
def rRepO (X : Cx) (Φ : Calls) : List V → Hp → VK → Prop := fun vs H Q => ∃ a C dx fs c fi, vs = [.ref a] ∧ H a = some (.ins C dx fs) ∧ PySem.W.nsIn X.K mainGlobals (cName c) = some (some (.ref C)) ∧ RepF X Φ c fi ∧ spD X.K Φ fi [.ref a] H (fun v H' => (∃ z, v = .str z) ∧ Q v H') E0
theorem call_repO (hgd : Gok X.A) (hx : Passes L2.CX0 X E0) : CallR X (.builtin "repr") (rRepO X Φ) := by
  intro pins s σ H vs us Q I r ⟨a, C, dx, fs, c, fi, ex, ha, hn, M, q⟩
  subst ex
  obtain ⟨u, rfl, ru⟩ := vals1 r
  obtain rfl : u = Value.ref a := ru
  obtain ⟨C', f, fd, ps, k, dws, dvs, F, hm, G, hr, hb, hd, hc⟩ := M.ex
  have := cls_inj hn F.ns
  subst this
  obtain ⟨ox, od, ia⟩ := inst_of I.hok ha
  have hv : dvs = [] := by cases hc; rfl
  subst hv
  have hr2 := in1_room hr
  refine repr_own hr2.units0 I.kIn ia hm.at_ hm.fn ?_
  have r0 : Vals [V.ref a] [Value.ref a] := .cons rfl .nil
  have r1 : Vals [] [] := .nil
  obtain ⟨qs, eq, rq⟩ := pick_vals ((r0.append r1).append hd) (show pick [0] ([V.ref a] ++ [] ++ []) = some [V.ref a] from rfl)
  refine wpAny_call (codeAny_mono (G.run X.A.in1 X.stack s H ⟨[.ref a], []⟩ qs [.ref a] (fun v H' => (∃ z, v = .str z) ∧ Q v H') E0 hr2 hgd I.env0.in1 (hb s [.ref a] [] qs I.kIn rfl rfl eq) rq q) fun r s' hq => ?_)
  cases r with
  | error e => exact hx pins σ H s e s' I hq
  | ok fl => cases fl with
    | ret u =>
      obtain ⟨v, H', I', rv, ⟨z, ez⟩, q3⟩ := I.after hq
      subst ez
      obtain ⟨t, e⟩ := rv
      subst e
      exact ⟨z, t, rfl, .str z, H', I', ⟨t, rfl⟩, q3⟩
    | next => exact False.elim hq
    | brk => exact False.elim hq
    | cont => exact False.elim hq
/-- the own __repr__ answers texts -/
def GrdR (Φ : Calls) (fi : Nat) : Prop := ∀ as r, Φ fi as = some r → ∃ z, r.1 = .fz (.str z)
theorem grdR_of {T : List Df} {fi : Nat} {es : Es} (h : T[fi]? = some ⟨1, 1, .cons (.ret (.bi .fs es)) .nil⟩) : ∀ k, GrdR (callN T k) fi
  | 0, as, r, q => by cases q
  | k + 1, as, r, q => by
    obtain ⟨d', fl, ρ', hd, hl, he, h4, h3⟩ := callN_split h (r := r.1) (as' := r.2) q
    rw [h] at hd
    cases hd
    simp only [execs, exec] at he
    obtain ⟨f1, ρ1, e1, k1⟩ := bnd_eq he
    obtain ⟨r1, ρ2, e2, k2⟩ := bnd_eq e1
    obtain ⟨q1, q2⟩ := ret_eq k2
    subst q1 q2
    obtain ⟨q1, q2⟩ := ret_eq (show DL.ret (Fl.rt r1) ρ1 = .ok fl ρ' from k1)
    subst q1 q2
    obtain ⟨rs, ds, e3, e4, e5⟩ := bi_split e2
    obtain ⟨z, rfl⟩ := fsD_out _ _ e5
    rcases h3 with ⟨r0, h5, h6⟩ | ⟨h5, _⟩
    · cases h5
      have h6 : some (R.fz (.str z)) = some r.1 := h6
      exact ⟨z, (Option.some.inj h6).symm⟩
    · cases h5
def AllR (X : Cx) (Φ : Calls) : List (Nat × Nat) → Prop
  | [] => True
  | (c, fi) :: r => (RepF X Φ c fi ∧ GrdR Φ fi) ∧ AllR X Φ r
theorem allR_nil : AllR X Φ [] := trivial
theorem allR_cons {r : List (Nat × Nat)} (h : RepF X Φ c fi) (g : GrdR Φ fi) (t : AllR X Φ r) : AllR X Φ ((c, fi) :: r) := ⟨⟨h, g⟩, t⟩
theorem AllR.at : ∀ {ms : List (Nat × Nat)}, AllR X Φ ms → ms.lookup c = some fi → RepF X Φ c fi ∧ GrdR Φ fi
  | [], _, h => by cases h
  | (c', i') :: r, h, e => by
    unfold List.lookup at e
    cases q : c == c' with
    | true =>
      rw [q] at e
      cases e
      have := beq_iff_eq.mp q
      subst this
      exact h.1
    | false => rw [q] at e; exact AllR.at h.2 e
theorem de_repO {ms : List (Nat × Nat)} (hM : AllR X Φ ms) (hgd : Gok X.A) (hx : Passes L2.CX0 X E0) (hg : Gl X "repr") (hm : X.mg "repr" = none) (ha : PE X a (tD X.K (ev Φ ia)))
    (he : starEach [a] X.env = (false, eval a X.env) :: starEach [] X.env := by rfl) (hpl : (PySem.backTo pos (starEach [] X.env)).any (·.1) = false := by rfl) :
    PE X (.Call (.Name "repr" p) [a] [] pos) (tD X.K (ev Φ (.meth ia ms [0] .nil .nil))) :=
  peImp (pe_callB (call_repO (Φ := Φ) hgd hx) hg hm bt_repr (pa_cons ha pa_nil he) (by decide) (by decide) he hpl) fun σ H Q q => by
    obtain ⟨S, ρ, r, ρ', rel, e, q⟩ := q
    simp only [ev] at e
    obtain ⟨x, ρ1, e1, h1⟩ := bnd_eq e
    obtain ⟨⟨c, sf⟩, ρ0, e0, h2⟩ := bnd_eq h1
    obtain ⟨q0, so⟩ := vwA_eq e0
    subst q0
    obtain ⟨fi, e2, h3⟩ := ofO_split h2
    have h5 : callM Φ fi [0] [sf] ρ0 = .ok r ρ' := (callS_eq (as := []) h3).1
    obtain ⟨M, G⟩ := hM.at e2
    refine ⟨S, ρ, x, ρ0, rel, e1, fun S1 v H1 g1 rel1 r1 => ?_⟩
    obtain ⟨⟨a, C, dx, vs, ev1, hns, hh, hlen⟩, w2⟩ := so.ins rel1 r1
    subst ev1
    obtain ⟨ss, r', hΦ, hr'⟩ := callM_fz h5
    obtain ⟨z, hz⟩ := G _ _ hΦ
    rw [hr'] at hz
    subst hz
    obtain ⟨zs, hp, sp⟩ := At.call (Q := fun v H' => (∃ z, v = .str z) ∧ Q v H') (as := [sf]) (vs := [.ref a]) ⟨g1, rel1⟩ (.cons w2 .nil) h5 fun S' v H' g rel' rv => ⟨⟨z, (rv.view rel' (d := .str z) rfl).s⟩, q S' v H' g rel' rv⟩
    cases hp
    exact ⟨a, C, dx, _, c, fi, rfl, hh, hns, M, sp⟩
end
end DL
end
section
set_option autoImplicit false
namespace PySem
namespace HandSPX
open Builtin Builtin.ObjectAttr
/-- own classes, then the base's order -/
def Mro (T bm : List Value) : Prop := ∃ rs : List Addr, bm = rs.map Value.ref ++ T
theorem Mro.pass {T bm : List Value} (h : Mro T bm) (p : ∀ self, refuseLoop self "__setattr__" T = pure ()) (self : Value) : refuseLoop self "__setattr__" bm = pure () := by
  obtain ⟨rs, rfl⟩ := h
  induction rs with
  | nil => exact p self
  | cons c r ih => rw [List.map_cons, List.cons_append, refuseLoop_ref]; exact ih
theorem Mro.contains {T bm : List Value} (h : Mro T bm) (X : String) : bm.contains (.type X) = T.contains (.type X) := by
  obtain ⟨rs, rfl⟩ := h
  induction rs with
  | nil => rfl
  | cons c r ih => rw [List.map_cons, List.cons_append, List.contains_cons, ih]; rfl
theorem Mro.cons {T bm : List Value} (h : Mro T bm) (c : Addr) : Mro T (.ref c :: bm) := by
  obtain ⟨rs, rfl⟩ := h
  exact ⟨c :: rs, rfl⟩
end HandSPX
end PySem
namespace L2
open PySem PySem.Spec PyProof.Rows
end L2
end
section
set_option autoImplicit false
namespace DL
open PySem L2
variable [LTabs]
/-- where a raise leads: the error's class, a new dict of its fields -/
def XTo (K : PySem.W.Frag) (S : Addr → Prop) (H : Hp) (c : Nat) (fs : List D) (W : Value → Option Addr → Hp → Prop) : Prop :=
  ∃ C, PySem.W.nsIn K mainGlobals (xName c) = some (some (.ref C)) ∧ (∀ us d, Rps K S H us fs → H d = none → xFlds c ≠ [] → W (.ref C) (some d) (upd H d (.xd ((xFlds c).zip us)))) ∧ (xFlds c = [] → W (.ref C) none H)
/-- what a call of the table's def f promises where it raises -/
def spX (K : PySem.W.Frag) (Φ : Calls) (f : Nat) : Sp := fun vs H _ E => ∃ S as c fs as', Rel K S as (vs.map some) H ∧ Φ (f + XO) as = some (.fz (.tup [.int c, .tup fs]), as') ∧ (∀ (i : Nat) (k : Lk) (xs : List D), as[i]? = some (Sl.ls k xs) → k.isB = true) ∧
  ∀ S' H', Go S as (vs.map some) H S' as' (vs.map some) H' → Rel K S' as' (vs.map some) H' → XTo K S' H' c.toNat fs fun cls d h => E cls d h
end DL
end
section
set_option autoImplicit false
namespace DL
open PySem L2
end DL
end
section
set_option autoImplicit false
namespace DL
open PySem L2
end DL
end
section
set_option autoImplicit false
namespace PySem.W
open PySem PySem.Spec PySem.Calls PyProof.Rows
end PySem.W
namespace L2
open PySem PySem.Spec PyProof.Rows
end L2
namespace DL
open PySem L2
end DL
end
section
set_option autoImplicit false
namespace DL
open PySem L2
end DL
end
section
set_option autoImplicit false
namespace DL
open PySem L2
variable [LTabs]
theorem PSs.of {X : Cx} {b : List Stmt} {ts : TS} (h : ∀ D σ H, ts D σ H → ∃ t, PSs X b t ∧ t D σ H) : PSs X b ts := ⟨fun pins s σ H D I q => by
  obtain ⟨t, h1, h2⟩ := h D σ H q
  exact h1.run pins s σ H D I h2⟩
end DL
end
section
set_option autoImplicit false
namespace L2
open PySem PySem.Spec PyProof.Rows
end L2
end
section
set_option autoImplicit false
namespace L2
open PySem PySem.Spec PyProof.Rows
end L2
end
section
set_option autoImplicit false
namespace L2
open PySem PySem.Spec PyProof.Rows
variable [DL.LTabs]
/-- the exception's dict, if it has one, tells fs -/
def DictAt (dd : Option Addr) (H : Hp) (fs : List (Str × V)) : Prop := ∀ x, dd = some x → H x = some (.xd fs)
theorem DictAt.keep {dd : Option Addr} {H H' : Hp} {fs : List (Str × V)} (d : DictAt dd H fs) (k : DL.Kp H H') : DictAt dd H' fs := fun x e => k.keep _ _ (d x e) fun _ z => by cases z
end L2
end
section
set_option autoImplicit false
namespace L2
open PySem PySem.Spec PyProof.Rows
variable [DL.LTabs]
/-- slot 0 holds the exception, its fields are us -/
def Fs (a : Addr) (dd : Option Addr) (c : Nat) (us : List V) (σ : St) (H : Hp) : Prop := σ[0]? = some (some (V.ref a)) ∧ DictAt dd H ((DL.xFlds c).zip us) ∧ us.length = (DL.xFlds c).length ∧ (dd = none → DL.xFlds c = [])
/-- the list of the fields is handed out -/
def Gives (us : List V) (R : V → Hp → Prop) (H : Hp) : Prop := ∀ (l : Addr) (H' : Hp), DL.Kp H H' → H l = none → H' l = some (.lst us) → R (.ref l) H'
theorem Gives.mono {us : List V} {R : V → Hp → Prop} {H H' : Hp} (g : Gives us R H) (k : DL.Kp H H') : Gives us R H' := fun l H2 k2 h h2 => g l H2 (k.trans k2) (k.stay l h) h2
theorem Fs.mono {a : Addr} {dd : Option Addr} {c : Nat} {us : List V} {σ : St} {H H' : Hp} (f : Fs a dd c us σ H) (k : DL.Kp H H') : Fs a dd c us σ H' := ⟨f.1, f.2.1.keep k, f.2.2⟩
/-- a block that gives the fields -/
def tFs (a : Addr) (dd : Option Addr) (c : Nat) : TS := fun D σ H => ∃ us, Fs a dd c us σ H ∧ Gives us D.rt H
end L2
end
section
set_option autoImplicit false
namespace L2
open PySem PySem.Spec PyProof.Rows
variable [DL.LTabs]
section
variable {X : Cx} {a : Addr} {dd : Option Addr} {b : Bool} {bs bs0 : List Bool} {e : Expr} {es : List Expr} {i : Nat} {o : Str}
theorem kp_xd {H H' : Hp} {dd : Option Addr} {fs : List (Str × V)} (k : DL.Kp H H') (h : DictAt dd H fs) : DictAt dd H' fs := h.keep k
theorem kp_ls {H H' : Hp} {l : Addr} {xs : List V} (k : DL.Kp H H') (h : H l = some (.lst xs)) : H' l = some (.lst xs) := k.keep _ _ h fun _ z => by cases z
/-- slot 0 holds the exception; the slots of ls hold lists of truths, each its own -/
structure Kd (a : Addr) (dd : Option Addr) (n : Nat) (H0 : Hp) (ls : List (Nat × List Bool)) (σ : St) (H : Hp) : Prop where
  kp0 : DL.Kp H0 H
  fr : ∀ p ∈ ls, ∀ l, σ[p.1]? = some (some (V.ref l)) → H0 l = none
  len : σ.length = n
  e : σ[0]? = some (some (V.ref a))
  xd : ∃ fs, DictAt dd H fs
  at_ : ∀ p ∈ ls, ∃ l, σ[p.1]? = some (some (V.ref l)) ∧ H l = some (.lst (p.2.map V.bl))
  inj : ∀ p ∈ ls, ∀ q ∈ ls, ∀ l, σ[p.1]? = some (some (V.ref l)) → σ[q.1]? = some (some (V.ref l)) → p.1 = q.1
theorem Kd.put {n : Nat} {H0 : Hp} {ls : List (Nat × List Bool)} {σ : St} {H H' : Hp} {p : Addr} (k : Kd a dd n H0 ls σ H) (kp : DL.Kp H H') (hp : H p = none) (h2 : H' p = some (.lst (bs.map V.bl))) (hi : i < n) (h0 : i ≠ 0) : Kd a dd n H0 ((i, bs) :: ls.filter fun q => q.1 != i) (σ.set i (some (V.ref p))) H' := by
  have old : ∀ q ∈ ls.filter (fun q => q.1 != i), q ∈ ls ∧ i ≠ q.1 := fun q hq => by
    obtain ⟨h, z⟩ := List.mem_filter.mp hq
    exact ⟨h, fun e => by rw [e] at z; simp at z⟩
  have me : (σ.set i (some (V.ref p)))[i]? = some (some (V.ref p)) := List.getElem?_set_self (by rw [k.len]; exact hi)
  have fresh : ∀ q ∈ ls, ∀ l, σ[q.1]? = some (some (V.ref l)) → l ≠ p := fun q hq l e z => by
    obtain ⟨l', e1, e2⟩ := k.at_ q hq
    rw [e] at e1
    cases e1
    rw [z, hp] at e2
    cases e2
  refine ⟨k.kp0.trans kp, fun q hq l e1 => ?_, by rw [List.length_set]; exact k.len, by rw [List.getElem?_set_ne h0]; exact k.e, let ⟨fs, h⟩ := k.xd; ⟨fs, kp_xd kp h⟩, fun q hq => ?_, fun q hq r hr l e1 e2 => ?_⟩
  · rcases List.mem_cons.mp hq with e | hq
    · subst e
      rw [me] at e1
      cases e1
      exact k.kp0.stay p hp
    · obtain ⟨hq, hne⟩ := old q hq
      rw [List.getElem?_set_ne hne] at e1
      exact k.fr q hq l e1
  · rcases List.mem_cons.mp hq with e | hq
    · subst e; exact ⟨p, me, h2⟩
    · obtain ⟨hq, hne⟩ := old q hq
      obtain ⟨l, e1, e2⟩ := k.at_ q hq
      exact ⟨l, by rw [List.getElem?_set_ne hne]; exact e1, kp_ls kp e2⟩
  · rcases List.mem_cons.mp hq with eq | hq <;> rcases List.mem_cons.mp hr with er | hr
    · rw [eq, er]
    · obtain ⟨hr, hne⟩ := old r hr
      rw [eq, me] at e1
      cases e1
      rw [List.getElem?_set_ne hne] at e2
      exact absurd rfl (fresh r hr _ e2)
    · obtain ⟨hq, hne⟩ := old q hq
      rw [er, me] at e2
      cases e2
      rw [List.getElem?_set_ne hne] at e1
      exact absurd rfl (fresh q hq _ e1)
    · obtain ⟨hq, hne⟩ := old q hq
      obtain ⟨hr, hne2⟩ := old r hr
      rw [List.getElem?_set_ne hne] at e1
      rw [List.getElem?_set_ne hne2] at e2
      exact k.inj q hq r hr l e1 e2
end
end L2
end
section
set_option autoImplicit false
namespace DL
open PySem L2
end DL
end
section
set_option autoImplicit false
namespace DL
open PySem L2
end DL
end
section
set_option autoImplicit false
namespace DL
open PySem L2
end DL
end
section
set_option autoImplicit false
namespace DL
open PySem L2
variable [LTabs]
theorem Kp.gn {S : Addr → Prop} {H H' : Hp} (k : Kp H H') : Gn S H S H' := ⟨fun _ h => h, fun _ h => .inl h, k.keep, fun d a h z => d a h (k.stay a z), k.stay, k.tb⟩
end DL
end
section
set_option autoImplicit false
namespace DL
open PySem L2
variable [LTabs]
/-- the def at f has the code object cd -/
def CodeOf (K : PySem.W.Frag) (f : Addr) (cd : Value) : Prop := ∃ (oc : Value) (od : Option Addr) (x q : Str) (a : Arguments) (b : List Stmt) (sc : Scope) (dV kV doc pm : Value) (an : Option Addr) (ct : Value) (osl : Array (Option Value)), K.lookup f = some ⟨oc, od, .func (PySem.W.fnOf x q a b sc dV kV doc pm an cd ct), osl⟩
theorem CodeOf.inj {K : PySem.W.Frag} {f : Addr} {c d : Value} (h : CodeOf K f c) (g : CodeOf K f d) : c = d := by
  obtain ⟨_, _, _, _, _, _, _, _, _, _, _, _, _, _, e1⟩ := h
  obtain ⟨_, _, _, _, _, _, _, _, _, _, _, _, _, _, e2⟩ := g
  have e := e1.symm.trans e2
  unfold PySem.W.fnOf at e
  cases e
  rfl
end DL
end
section
set_option autoImplicit false
namespace DL
open PySem PySem.Spec PyProof.Rows L2
variable [LTabs]
section
variable {fa : List He.Fa} {fb : List Fb} {fn : List He.DefD} {K : PySem.W.Frag}
theorem SaysX.d (c : SaysX fa fb fn K) : He.SaysD fa fn K := by
  have c1 := (He.ba (show ((fb.all fun f => f.ok K) && ((fa.all fun f => f.ok K) && fn.all fun d => d.ok K)) = true from congrArg (fun z : He.AlD => z.1) c)).2
  have e : fn.map (fun d => He.fnW K d.at_) = fn.map He.DefD.val := congrArg (fun z : He.AlD => z.2) c
  exact Prod.ext c1 e
theorem SaysX.b (c : SaysX fa fb fn K) (i : Nat) {f : Fb} (h : fb[i]? = some f := by rfl) : f.ok K = true := by
  have c1 := (He.ba (show ((fb.all fun f => f.ok K) && ((fa.all fun f => f.ok K) && fn.all fun d => d.ok K)) = true from congrArg (fun z : He.AlD => z.1) c)).1
  exact List.all_eq_true.mp c1 f (List.mem_of_getElem? h)
theorem SaysX.f (c : SaysX fa fb fn K) (i : Nat) {f : He.Fa} (h : fa[i]? = some f := by rfl) : f.ok K = true := c.d.fact i h
end
theorem fnt_ok {K : PySem.W.Frag} {f : Str × Option Str} (h : (Fb.fnt f).ok K = true) : PySem.W.typeIn K (.ref (He.fAd K f)) = some (.type "function") := of_decide_eq_true h
theorem unitB_ok {K : PySem.W.Frag} {a : Addr} (h : unitB K a = true) : Cst K (.ref a) (.tup []) := by
  unfold unitB at h
  cases q : K.lookup a with
  | none => rw [q] at h; cases h
  | some o =>
    obtain ⟨oc, od, dt, osl⟩ := o
    rw [q] at h
    cases oc with
    | type c =>
      cases dt with
      | seq its n =>
        obtain ⟨h1, h2⟩ := He.ba (show (decide (c = "tuple") && decide (its.size = 0)) = true from h)
        have e1 : c = "tuple" := of_decide_eq_true h1
        have e2 : its = #[] := Array.eq_empty_of_size_eq_zero (of_decide_eq_true h2)
        subst e1 e2
        exact .unit q rfl rfl
      | _ => cases h
    | _ => cases dt <;> cases h
section
variable {K : PySem.W.Frag} {h : Heap} {mg : Str → Option Value} {x q : Str} {st : Stmt} {f : Addr} {dvs : List V} {dds : List D}
/-- a def without defaults -/
theorem funW0 (F : ∃ fd, FunD K x q (defArgs st) (defBody st) (defScope st) [] [] f fd) : ∃ fd, FunW K x q st f fd .none := by
  obtain ⟨fd, F⟩ := F
  obtain ⟨oc, od, dV, kV, doc, pm, an, cdv, ct, osl, e, lk, hcd, D, _⟩ := F.ex
  rcases D with ⟨_, e2⟩ | ⟨n, _⟩
  · subst e2
    exact ⟨fd, ⟨oc, od, kV, doc, pm, an, cdv, ct, osl, e, lk, hcd⟩, F.kp⟩
  · exact absurd rfl n
/-- a def with defaults -/
theorem funWd (F : ∃ fd, FunD K x q (defArgs st) (defBody st) (defScope st) dvs [] f fd) (hn : dvs ≠ []) (hc : Csts K dvs dds) : ∃ fd dV, FunW K x q st f fd dV ∧ DfW K dV dds := by
  obtain ⟨fd, F⟩ := F
  obtain ⟨oc, od, dV, kV, doc, pm, an, cdv, ct, osl, e, lk, hcd, D, _⟩ := F.ex
  rcases D with ⟨e2, _⟩ | ⟨_, T, o, its, n, e1, l1, d1, v1⟩
  · exact absurd e2 hn
  · exact ⟨fd, dV, ⟨⟨oc, od, kV, doc, pm, an, cdv, ct, osl, e, lk, hcd⟩, F.kp⟩, T, o, its, n, dvs, e1, l1, d1, v1, hc⟩
theorem clsF_ok {c : Nat} (h1 : (He.Fa.glo (cName c)).ok K = true) (h2 : (He.Fa.cls (cName c)).ok K = true) (h3 : ∀ f ∈ cFlds c, (He.Fa.noat (cName c) f).ok K = true) : ClsF K c (He.ga K (cName c)) :=
  ⟨He.eqO_ok h1, He.cls_ok h2, fun f hf => He.noat_ok (h3 f hf)⟩
theorem isiF_ok (b : (Fb.isi x).ok K = true) : IsiF K (He.ga K x) := by
  obtain ⟨c1, b⟩ := He.ba b
  obtain ⟨c2, b⟩ := He.ba b
  obtain ⟨c3, b⟩ := He.ba b
  obtain ⟨c4, c5⟩ := He.ba b
  exact ⟨He.eqO_ok c1, of_decide_eq_true c2, of_decide_eq_true c3, of_decide_eq_true c4, if_pos (beq_self_eq_true _), fun t ht => of_decide_eq_true (List.all_eq_true.mp c5 t ht)⟩
theorem neF_ok (b : (Fb.ne x).ok K = true) : NeF K (He.ga K x) := by
  obtain ⟨c1, c2⟩ := He.ba b
  exact ⟨He.eqO_ok c1, of_decide_eq_true c2⟩
end
/-- the law's end over a head by facts -/
theorem end_walkE {l : PySem.W.OpenLaw} {n m k fi : Nat} {T : List Df} {q : Program} {loose : List Str} {XP : (Str → Option Value) → Heap → Prop} {YP : World → Heap → Prop} {d : DefRec} {x : Str}
    (hn : l.most = some n) (hn2 : n ≤ sizeLine) (hdf : d.params.defaults = []) (hr : Room m callerA)
    (F : ∀ (w : World) (mg : Str → Option Value) (fa : Addr) (h : Heap), YP w h → h.Ns mainGlobals mg → mg d.name = some (.ref fa) →
      ∃ (K : PySem.W.Frag) (fd : FuncData), K.In h ∧ TabsAt K h ∧ (∀ (s : Shared) (u : Value), BindsTo s fd ⟨[u], []⟩ [(x, u)]) ∧ ∀ base : Heap, K.In base → base.Ns mainGlobals mg → BltAt mg base → FnG l.prog w K mg base L2.CX0 m fa fd [x] (spD K (callN T k) fi))
    (hm : ∀ ns : List Int, ns.length ≤ n → ∃ as', callN T k fi [.fz (.scr (ns.map D.int))] = some (.fz (.bl true), as')) :
    PySem.W.WalkO q loose XP YP l.row.toRowW d [] (fun f vs => PySem.call f vs) :=
  Att.attach_call hn hdf fun w s0 s1 mg mb fa o pm cd doc a vs ns G Y ho hd hcd hmg hobj hints hlen hg => by
    obtain ⟨K, fd, kin, tabs, bt, hF⟩ := F w mg fa _ Y G.T.g hmg
    obtain ⟨as', e⟩ := hm ns hlen
    exact end_call kin G.T.g G.T.b G.T.builtins G.T.nolimit hg hobj hints (Nat.le_trans hlen hn2) hr hF bt e tabs G.T.bmain
end DL
end
section
set_option autoImplicit false
namespace PySem
end PySem
namespace L2
open PySem PySem.Spec PyProof.Rows
end L2
namespace DL
open PySem L2
end DL
end
section
set_option autoImplicit false
namespace DL
open PySem L2
end DL
end
section
set_option autoImplicit false
namespace DL
open PySem L2
variable [LTabs]
section
variable {X : Cx} {Φ : Calls} {a : Expr} {ia : E} {p pos : Pos} {c fi : Nat} {f : Addr} {fd : FuncData} {ps : List Str} {k : Nat}
/-- the class's own __len__ -/
structure LenF (X : Cx) (Φ : Calls) (c fi : Nat) : Prop where
  ex : ∃ (C f : Addr) (fd : FuncData) (ps : List Str) (k : Nat) (dws : List Value) (dvs : List V), ClsF X.K c C ∧ Meth X.K C "__len__" f ∧ FnG X.prog X.w X.K X.mg X.base L2.CX0 k f fd ps (spD X.K Φ fi) ∧ Room (k + 1) X.A ∧ BindPd X.K fd ps 1 [] dws [0] ∧ Vals dvs dws ∧ Csts X.K dvs []
def AllL (X : Cx) (Φ : Calls) : List (Nat × Nat) → Prop
  | [] => True
  | (c, fi) :: r => LenF X Φ c fi ∧ AllL X Φ r
theorem AllL.at : ∀ {ms : List (Nat × Nat)}, AllL X Φ ms → ms.lookup c = some fi → LenF X Φ c fi
  | [], _, h => by cases h
  | (c', i') :: r, h, e => by
    unfold List.lookup at e
    cases q : c == c' with
    | true =>
      rw [q] at e
      cases e
      have := beq_iff_eq.mp q
      subst this
      exact h.1
    | false => rw [q] at e; exact AllL.at h.2 e
end
end DL
end
section
set_option autoImplicit false
namespace DL
open PySem L2
section
open PySem.W
variable {prog : Program} {w : World} {A : Around} {E : Value → Shared → Prop} {s : Shared} {K : PySem.W.Frag} {x C f : Addr} {ox : Obj} {od : Option Obj} {y tb : Value}
theorem objNe_A {Q : Fin → Shared → Prop} (X : K.In s.heap) (I : PySem.W.InstAt s.heap x ox C od) (he : PySem.W.findIn K (.ref C) "__eq__" = some (some (.ref f))) (hf : PySem.W.isFn K (.ref f) = true) (hu : A.units < cLine)
    (hcall : wpAny (model prog w) A (call (.ref f) [.ref x, y]) (fun v s' => ∃ b, v = .bool b ∧ Q (.done (.ret (.bool (!b)))) s') E s) :
    wpAny (model prog w) A (Builtin.«object.__ne__» ⟨[.ref x, y], []⟩) Q E s := by
  unfold Builtin.«object.__ne__»
  repeat (first
    | with_reducible refine wpAny_cRoomFor hu ?_
    | (refine wpAny_bind (m := callSpecialIfBound? (.ref x) (Str.ofString "__eq__") [y])
        (PySem.W.ifBound_K X I he hf (wpAny_mono hcall (fun v s' hv => by
          obtain ⟨b, rfl, hq⟩ := hv
          repeat (first | exact hq | exact wpAny_pure hq | exact wpAny_truthy_bool hq | (refine wpAny_bind (m := truthy (.bool _)) (wpAny_truthy_bool ?_)) | wp_step)) fun _ _ e => e)))
    | wp_step)
theorem cmpNe_A {Q : Value → Shared → Prop} (X : K.In s.heap) (I : PySem.W.InstAt s.heap x ox C od) (hb : Looks (model prog w) s.heap (typeOf y) tb) (hn : notFirst K C tb = true) (N : NeF K C) (he : PySem.W.findIn K (.ref C) "__eq__" = some (some (.ref f))) (hf : PySem.W.isFn K (.ref f) = true) (hu : A.units + 1 < cLine)
    (hcall : wpAny (model prog w) A.in1 (call (.ref f) [.ref x, y]) (fun v s' => ∃ b, v = .bool b ∧ Q (.bool (!b)) s') E s) :
    wpAny (model prog w) A (compareOp .NotEq (.ref x) y) Q E s := by
  have sub : PySem.W.Looks (model prog w) s.heap (isInstance (.ref x) (.type "object")) true := I.type.andThen (PySem.W.looks_mroIn X N.hm)
  have tc : wpAny (model prog w) A (tryCompare (.ref x) "__ne__" y) (fun r s' => ∃ b, r = some (.bool b) ∧ Q (.bool b) s') E s := by
    simp only [tryCompare]
    refine wpAny_bind (ifBound_KB X I N.ne F.cmp_object.ne.bind (wpAny_call (codeAny_call_builtin F.cmp_object.ne.plain F.cmpEntry_ne (PySem.W.check_slot F.cmpKind_ne F.cmpSplit_ne sub (F.cmpArgs_ne _ _) (objNe_A (A := A.in1) X I he hf hu (wpAny_mono hcall (fun v s' hv => ?_) fun _ _ e => e))))))
    obtain ⟨b, rfl, hq⟩ := hv
    first | exact ⟨b, rfl, wpAny_pure ⟨_, rfl, hq⟩⟩ | exact ⟨b, rfl, wpAny_pure (wpAny_pure ⟨_, rfl, hq⟩)⟩ | exact ⟨b, rfl, _, rfl, hq⟩
  show wpAny _ A (richCompare .NotEq (.ref x) y) Q E s
  unfold richCompare
  simp only [oneThing_ref]
  refine wpAny_holding ?_
  refine wpAny_bind (wpAny_cRoomFor (Nat.lt_of_succ_lt hu) ?_)
  rw [cmpInfo_NotEq]
  dsimp only
  refine wpAny_bind (I.type.here (wpAny_bind (hb.here ?_)))
  split
  · rename_i q
    have e : subIn K tb (.ref C) = some false := by
      rcases Bool.or_eq_true_iff.mp hn with e | e
      · rw [beq_iff_eq.mp e] at q; simp at q
      · exact beq_iff_eq.mp e
    refine wpAny_bind ((looks_subIn X e).here ?_)
    simp only [Bool.false_eq_true, if_false]
    refine wpAny_bind (wpAny_mono tc (fun v s' hv => ?_) fun _ _ e => e)
    obtain ⟨b, rfl, hq⟩ := hv
    first | exact wpAny_pure hq | exact wpAny_pure (wpAny_pure hq)
  · refine wpAny_bind (wpAny_pure ?_)
    simp only [Bool.false_eq_true, if_false]
    refine wpAny_bind (wpAny_mono tc (fun v s' hv => ?_) fun _ _ e => e)
    obtain ⟨b, rfl, hq⟩ := hv
    first | exact wpAny_pure hq | exact wpAny_pure (wpAny_pure hq)
end
variable [LTabs]
/-- what a comparison asks of the other one's class -/
def OthT (K : PySem.W.Frag) (H : Hp) (C : Addr) (y : V) : Prop := ∃ t, TyY K H y t ∧ PySem.W.notFirst K C t = true
theorem notFirst_kit {K : PySem.W.Frag} {C : Addr} {t : Value} {b : Bool} (h : PySem.W.kitOne K t (.ref C) = some b) (hb : b = true → t = .ref C) : PySem.W.notFirst K C t = true := by
  unfold PySem.W.notFirst
  by_cases e : t = .ref C
  · rw [e, beq_self_eq_true]; rfl
  · have hf : b = false := by
      cases b with
      | false => rfl
      | true => exact absurd (hb rfl) e
    subst hf
    unfold PySem.W.kitOne at h
    rw [if_neg (by simpa using e)] at h
    have h : (if ((PySem.W.clsIn K C).isSome && PySem.W.typeIn K (.ref C) == some (.type "type")) = true then PySem.W.subIn K t (.ref C) else none) = some false := h
    split at h
    · rw [h]; simp
    · cases h
/-- another class of the program is no kin -/
structure FarF (K : PySem.W.Frag) (C C2 : Addr) : Prop where
  cl : Cls K C2
  i2 : IsiF K C2
  no : PySem.W.kitOne K (.ref C2) (.ref C) = some false
def rEqA (X : Cx) (Φ : Calls) : R2 := fun x y H Q => ∃ a C dx fs c fi, x = .ref a ∧ H a = some (.ins C dx fs) ∧ PySem.W.nsIn X.K mainGlobals (cName c) = some (some (.ref C)) ∧ OthT X.K H C y ∧ MethF X Φ "__eq__" 1 [0, 1] [] c fi ∧ spD X.K Φ fi [.ref a, y] H Q E0
theorem op_eqA {X : Cx} {Φ : Calls} (hgd : Gok X.A) (hx : Passes L2.CX0 X E0) : OpR X (compareOp .Eq) (rEqA X Φ) := by
  intro pins s σ H x y v u Q I rx ry ⟨a, C, dx, fs, c, fi, ex, ha, hn, ⟨t, ty, nf⟩, M, q⟩
  subst ex
  obtain rfl : v = Value.ref a := rx
  obtain ⟨C', f, fd, ps, k, dws, dvs, F, hm, G, hr, hbd, hd, hc⟩ := M.ex
  have := cls_inj hn F.ns
  subst this
  obtain ⟨m, fr⟩ := I.fr
  obtain ⟨ox, od, ia⟩ := inst_of I.hok ha
  obtain ⟨P, Z, hp, _⟩ := kit_ofY I ry ty
  refine PySem.W.cmp_ofEq (PySem.W.cmp_K (by have := hr.un; omega) fr I.ok.mod.kin ia (Z.ty _ _ I.kIn hp) nf hm.at_ hm.fn ?_)
  have hv : dvs = [] := by cases hc; rfl
  subst hv
  refine wpAny_mono (run_fnGd (us := [.ref a, u]) (vs := [.ref a, y]) (ks := []) (ws := []) (ys := []) (n := 2) G hr hgd hbd hd hx I (.cons rfl (.cons ry .nil)) .nil rfl rfl rfl q) (fun r s' h => ?_) fun _ _ h => h
  obtain ⟨v, H', I', rv, qv⟩ := h
  cases r with
  | notImplemented => cases v <;> (first | (cases rv; done) | (obtain ⟨t, ht⟩ := rv; cases ht))
  | _ => exact ⟨v, H', I', rv, qv⟩
def rNeA (X : Cx) (Φ : Calls) : R2 := fun x y H Q => ∃ a C dx fs c fi, x = .ref a ∧ H a = some (.ins C dx fs) ∧ PySem.W.nsIn X.K mainGlobals (cName c) = some (some (.ref C)) ∧ OthT X.K H C y ∧ MethN X Φ c fi ∧ spD X.K Φ fi [.ref a, y] H (fun v H' => ∃ k, v = .bl k ∧ Q (.bl (!k)) H') E0
theorem op_neA {X : Cx} {Φ : Calls} (hgd : Gok X.A) (hx : Passes L2.CX0 X E0) : OpR X (compareOp .NotEq) (rNeA X Φ) := by
  intro pins s σ H x y v u Q I rx ry ⟨a, C, dx, fs, c, fi, ex, ha, hn, ⟨t, ty, nf⟩, M, q⟩
  subst ex
  obtain rfl : v = Value.ref a := rx
  obtain ⟨C', f, fd, ps, k, F, hm, G, hr, hbd, N⟩ := M.ex
  have := cls_inj hn F.ns
  subst this
  obtain ⟨ox, od, ia⟩ := inst_of I.hok ha
  obtain ⟨P, Z, hp, _⟩ := kit_ofY I ry ty
  refine cmpNe_A I.kIn ia (Z.ty _ _ I.kIn hp) nf N hm.at_ hm.fn (by have := hr.un; omega) (wpAny_call ?_)
  refine codeAny_mono (G.run X.A.in1 X.stack s H ⟨[.ref a, u], []⟩ [.ref a, u] [.ref a, y] _ E0 hr.in1 hgd I.env0.in1 (hbd s [.ref a, u] [] _ I.kIn rfl rfl rfl) (.cons rfl (.cons ry .nil)) q) fun r s' hq => ?_
  cases r with
  | error e => exact hx pins σ H s e s' I hq
  | ok fl => cases fl with
    | ret u =>
      obtain ⟨v, H', I', rv, k, e, qv⟩ := I.after hq
      subst e
      obtain rfl : u = Value.bool k := rv
      exact ⟨k, rfl, .bl (!k), H', I', rfl, qv⟩
    | next => exact False.elim hq
    | brk => exact False.elim hq
    | cont => exact False.elim hq
/-- the own __eq__ takes any value but instances of strangers, and answers a truth -/
def GrdA (K : PySem.W.Frag) (Φ : Calls) (c fi : Nat) : Prop := ∀ d e r, Φ fi [d, .fz e] = some r → (noOb2 e = true ∨ (∃ ys, e = .obj c ys) ∨ (∃ c2 ys, e = .obj c2 ys ∧ ∃ C C2, ClsF K c C ∧ ClsF K c2 C2 ∧ FarF K C C2)) ∧ ∃ b, r.1 = .fz (.bl b)
structure RowA (K : PySem.W.Frag) (Φ : Calls) (c fi : Nat) : Prop where
  g : GrdA K Φ c fi
  i : ∃ C, ClsF K c C ∧ IsiF K C
def RowsA (K : PySem.W.Frag) (Φ : Calls) : List (Nat × Nat) → Prop
  | [] => True
  | (c, fi) :: r => RowA K Φ c fi ∧ RowsA K Φ r
theorem rowsA_nil {K : PySem.W.Frag} {Φ : Calls} : RowsA K Φ [] := trivial
theorem rowsA_cons {K : PySem.W.Frag} {Φ : Calls} {c fi : Nat} {C : Addr} {r : List (Nat × Nat)} (g : GrdA K Φ c fi) (F : ClsF K c C) (i : IsiF K C) (t : RowsA K Φ r) : RowsA K Φ ((c, fi) :: r) := ⟨⟨g, C, F, i⟩, t⟩
theorem RowsA.at {K : PySem.W.Frag} {Φ : Calls} {c fi : Nat} : ∀ {ms : List (Nat × Nat)}, RowsA K Φ ms → ms.lookup c = some fi → RowA K Φ c fi
  | [], _, h => by cases h
  | (c', i') :: r, h, e => by
    unfold List.lookup at e
    cases q : c == c' with
    | true =>
      rw [q] at e
      cases e
      have := beq_iff_eq.mp q
      subst this
      exact h.1
    | false => rw [q] at e; exact RowsA.at h.2 e
theorem eqA_split {K : PySem.W.Frag} {Φ : Calls} {ms : List (Nat × Nat)} {ia ib : E} {ρ ρ' : Ev} {r : R} (hG : RowsA K Φ ms) (e : ev Φ (.meth ia ms [0, 1] (.val ib .nil) .nil) ρ = .ok r ρ') :
    ∃ ρ1 ρ2 ρ3 c fi x sf y d2 b, ev Φ ia ρ = .ok x ρ1 ∧ SelfOf ρ3 x c sf ∧ ev Φ ib ρ1 = .ok y ρ2 ∧ share y ρ2 = .ok d2 ρ3 ∧ ms.lookup c = some fi ∧ callM Φ fi [0, 1] [sf, .val d2] ρ3 = .ok r ρ' ∧
      (noOb2 d2 = true ∨ (∃ ys, d2 = .obj c ys) ∨ (∃ c2 ys, d2 = .obj c2 ys ∧ ∃ C C2, ClsF K c C ∧ ClsF K c2 C2 ∧ FarF K C C2)) ∧ r = .fz (.bl b) := by
  simp only [ev] at e
  obtain ⟨x, ρ1, e1, h1⟩ := bnd_eq e
  obtain ⟨⟨c, sf⟩, ρ0, e0, h2⟩ := bnd_eq h1
  obtain ⟨q0, so⟩ := vwA_eq e0
  subst q0
  obtain ⟨fi, e2, h3⟩ := ofO_split h2
  obtain ⟨as, ρ2, e3, h4⟩ := bnd_eq h3
  obtain ⟨ks, ρ3, e4, h5⟩ := bnd_eq h4
  obtain ⟨rfl, rfl⟩ := ret_eq e4
  simp only [evas] at e3
  obtain ⟨y, ρ4, ey, h6⟩ := bnd_eq e3
  obtain ⟨d2, ρ5, es, h7⟩ := bnd_eq h6
  obtain ⟨ds, ρ6, e8, h9⟩ := bnd_eq h7
  obtain ⟨rfl, rfl⟩ := ret_eq e8
  obtain ⟨rfl, rfl⟩ := ret_eq h9
  obtain ⟨h5, hcl⟩ := callS_eq h5
  have hg : (noOb2 d2 = true ∨ (∃ ys, d2 = .obj c ys) ∨ (∃ c2 ys, d2 = .obj c2 ys ∧ ∃ C C2, ClsF K c C ∧ ClsF K c2 C2 ∧ FarF K C C2)) ∧ ∃ b, r = .fz (.bl b) := by
    have h5 := h5
    rw [c_call] at h5
    rw [show pick [0, 1] (sf :: ([A.val d2] ++ [])) = some [sf, .val d2] from rfl] at h5
    dsimp only at h5
    split at h5
    · cases hs : slotOf ρ3 sf with
      | none =>
        rw [show slotsOf ρ3 [sf, .val d2] = none from by unfold slotsOf; rw [hs]] at h5
        cases h5
      | some s =>
        rw [show slotsOf ρ3 [sf, .val d2] = some [s, .fz d2] from by unfold slotsOf; rw [hs]; rfl] at h5
        dsimp only at h5
        cases hΦ : Φ fi [s, .fz d2] with
        | none => rw [hΦ] at h5; cases h5
        | some p =>
          obtain ⟨q1, b, q2⟩ := (hG.at e2).g _ _ _ hΦ
          rw [hΦ] at h5
          obtain ⟨p1, p2⟩ := p
          have q2 : p1 = .fz (.bl b) := q2
          subst q2
          cases h5
          exact ⟨q1, b, rfl⟩
    · cases h5
  obtain ⟨hq, b, rfl⟩ := hg
  have so2 : SelfOf ρ3 x c sf := by
    rcases so with ⟨xs, w1, w2⟩ | ⟨i, k, xs, w1, _, _, w2⟩
    · exact .inl ⟨xs, w1, w2⟩
    · obtain ⟨k', xs', w3, w4⟩ := hcl i w2
      exact .inr ⟨i, k', xs', w1, w3, w4, w2⟩
  exact ⟨_, _, _, c, fi, x, sf, y, d2, b, e1, so2, ey, es, e2, h5, hq, rfl⟩
theorem SelfOf.rv {K : PySem.W.Frag} {S S' : Addr → Prop} {ρ ρ' : Ev} {σ : St} {H₀ H H' : Hp} {v : V} {x : R} {c : Nat} {A : A} {ρ0 : Ev} (h : SelfOf ρ0 x c A) (r : Rv K S H₀ ρ σ H v x) (ke : Ke S H S' H') : Rv K S' H₀ ρ' σ H' v x := by
  rcases h with ⟨xs, rfl, _⟩ | ⟨i, k, xs, rfl, _⟩
  · exact Rp.mono ke r
  · exact r
theorem oth_of {K : PySem.W.Frag} {S : Addr → Prop} {H : Hp} {u : V} {d : D} {c : Nat} {C : Addr} (z : Rp K S H u d) (F : ClsF K c C) (i : IsiF K C) (hq : noOb2 d = true ∨ (∃ ys, d = .obj c ys) ∨ (∃ c2 ys, d = .obj c2 ys ∧ ∃ C C2, ClsF K c C ∧ ClsF K c2 C2 ∧ FarF K C C2)) : OthT K H C u := by
  rcases hq with hn | ⟨ys, rfl⟩ | ⟨c2, ys, rfl, C1, C2, F1, F2, far⟩
  · refine ⟨.type (tyN2 d), ty_d2 (.fz z) hn, notFirst_kit (i.no (tyN2 d) (tyN2_mem hn)) fun h => nomatch h⟩
  · cases z with
    | obj n s h l r =>
      have := cls_inj n F.ns
      subst this
      exact ⟨_, .x (.base (.ins h F.cl i.ha i.hn i.htk i.hm)), notFirst_kit i.self fun _ => rfl⟩
  · cases z with
    | obj n s h l r =>
      have := cls_inj n F2.ns
      subst this
      have := cls_inj F1.ns F.ns
      subst this
      exact ⟨_, .x (.base (.ins h F2.cl far.i2.ha far.i2.hn far.i2.htk far.i2.hm)), notFirst_kit far.no fun h => nomatch h⟩
section
variable {X : Cx} {Φ : Calls} {a b : Expr} {pos : Pos} {ia ib : E} {ms : List (Nat × Nat)}
theorem eqA_read {σ : St} {H : Hp} {Q : VK} (hM : AllM X Φ "__eq__" 1 [0, 1] [] ms) (hG : RowsA X.K Φ ms) (q : tD X.K (ev Φ (.meth ia ms [0, 1] (.val ib .nil) .nil)) σ H Q) : tOp (rEqA X Φ) (tD X.K (ev Φ ia)) (tD X.K (ev Φ ib)) σ H Q := by
  obtain ⟨S, ρ, r, ρ', rel, e, q⟩ := q
  obtain ⟨ρ1, ρ2, ρ3, c, fi, x, sf, y, d2, b, e1, so, ey, es, l, h5, hq, rfl⟩ := eqA_split hG e
  refine seq2 rel e1 ey fun S2 H2 v u at2 r1 r2 => ?_
  obtain ⟨S3, at3, z, ke⟩ := at2.share r2 es
  obtain ⟨⟨a, C, dx, vs, ev1, hns, hh, hlen⟩, w3⟩ := so.ins at3.rel (so.rv r1 ke)
  subst ev1
  obtain ⟨C', F, i⟩ := (hG.at l).i
  have := cls_inj hns F.ns
  subst this
  obtain ⟨zs, hp, sp⟩ := At.call (as := [sf, .val d2]) (vs := [.ref a, u]) at3 (.cons w3 (.cons (show Ra X.K S3 H _ σ H2 u (.val d2) from z) .nil)) h5 q
  cases hp
  exact ⟨a, _, dx, _, c, fi, rfl, hh, hns, oth_of z F i hq, hM.at l, sp⟩
theorem eqA_test {σ : St} {H : Hp} {Q : Bool → Hp → Prop} (hM : AllM X Φ "__eq__" 1 [0, 1] [] ms) (hG : RowsA X.K Φ ms) (q : tT X.K (evt Φ (.meth ia ms [0, 1] (.val ib .nil) .nil)) σ H Q) : tTest (tOp (rEqA X Φ) (tD X.K (ev Φ ia)) (tD X.K (ev Φ ib))) σ H Q := by
  obtain ⟨S, ρ, r, ρ', rel, e, q⟩ := q
  obtain ⟨z, d0, e0, v0, t0⟩ := evt_split e
  obtain ⟨ρ1, ρ2, ρ3, c, fi, x, sf, y, d2, b, e1, so, ey, es, l, h5, hq, rfl⟩ := eqA_split hG e0
  cases v0
  cases t0
  exact eqA_read (Q := fun x H' => ∃ k, x = .bl k ∧ Q k H') hM hG ⟨S, ρ, _, ρ', rel, e0, fun S' v H' g' rel' r' => ⟨r, (r'.view rel' (d := .bl r) rfl).b, q S' _ H' g' rel' rfl⟩⟩
theorem de_eqA (hM : AllM X Φ "__eq__" 1 [0, 1] [] ms) (hG : RowsA X.K Φ ms) (hgd : Gok X.A) (hx : Passes L2.CX0 X E0) (ha : PE X a (tD X.K (ev Φ ia))) (hb : PE X b (tD X.K (ev Φ ib))) (hm : behindInMarks .Eq b = false := by rfl) : PE X (.Compare a [.Eq] [b] pos) (tD X.K (ev Φ (.meth ia ms [0, 1] (.val ib .nil) .nil))) :=
  peImp (pe_cmpR (op_eqA hgd hx) ha hb hm) fun _ _ _ q => eqA_read hM hG q
theorem dt_eqA (hM : AllM X Φ "__eq__" 1 [0, 1] [] ms) (hG : RowsA X.K Φ ms) (hgd : Gok X.A) (hx : Passes L2.CX0 X E0) (ha : PE X a (tD X.K (ev Φ ia))) (hb : PE X b (tD X.K (ev Φ ib))) (hm : behindInMarks .Eq b = false := by rfl) : PT X (.Compare a [.Eq] [b] pos) (tT X.K (evt Φ (.meth ia ms [0, 1] (.val ib .nil) .nil))) :=
  ptImp (pt_cmpR (op_eqA hgd hx) ha hb hm) fun _ _ _ q => eqA_test hM hG q
theorem neA_read {σ : St} {H : Hp} {Q : VK} (hM : AllN X Φ ms) (hG : RowsA X.K Φ ms) (q : tD X.K (ev Φ (.not (.meth ia ms [0, 1] (.val ib .nil) .nil))) σ H Q) : tOp (rNeA X Φ) (tD X.K (ev Φ ia)) (tD X.K (ev Φ ib)) σ H Q := by
  obtain ⟨S, ρ, r, ρ', rel, e, q⟩ := q
  simp only [ev] at e
  obtain ⟨z, ρ0, d0, k0, e0, v0, t0, h1⟩ := tru_split e
  obtain ⟨q1, q2⟩ := ret_eq h1
  subst q1 q2
  obtain ⟨ρ1, ρ2, ρ3, c, fi, x, sf, y, d2, b, e1, so, ey, es, l, h5, hq, rfl⟩ := eqA_split hG e0
  cases v0
  cases t0
  refine seq2 rel e1 ey fun S2 H2 v u at2 r1 r2 => ?_
  obtain ⟨S3, at3, z, ke⟩ := at2.share r2 es
  obtain ⟨⟨a, C, dx, vs, ev1, hns, hh, hlen⟩, w3⟩ := so.ins at3.rel (so.rv r1 ke)
  subst ev1
  obtain ⟨C', F, i⟩ := (hG.at l).i
  have := cls_inj hns F.ns
  subst this
  obtain ⟨zs, hp, sp⟩ := At.call (as := [sf, .val d2]) (vs := [.ref a, u]) (Q := fun v H' => ∃ k, v = .bl k ∧ Q (.bl (!k)) H') at3 (.cons w3 (.cons (show Ra X.K S3 H _ σ H2 u (.val d2) from z) .nil)) h5 (fun S' v H' g' rel' r' => ⟨k0, (r'.view rel' (d := .bl k0) rfl).b, q S' _ H' g' rel' (.bl _)⟩)
  cases hp
  exact ⟨a, _, dx, _, c, fi, rfl, hh, hns, oth_of z F i hq, hM.at l, sp⟩
theorem de_neA (hM : AllN X Φ ms) (hG : RowsA X.K Φ ms) (hgd : Gok X.A) (hx : Passes L2.CX0 X E0) (ha : PE X a (tD X.K (ev Φ ia))) (hb : PE X b (tD X.K (ev Φ ib))) (hm : behindInMarks .NotEq b = false := by rfl) : PE X (.Compare a [.NotEq] [b] pos) (tD X.K (ev Φ (.not (.meth ia ms [0, 1] (.val ib .nil) .nil)))) :=
  peImp (pe_cmpR (op_neA hgd hx) ha hb hm) fun _ _ _ q => neA_read hM hG q
theorem dt_neA (hM : AllN X Φ ms) (hG : RowsA X.K Φ ms) (hgd : Gok X.A) (hx : Passes L2.CX0 X E0) (ha : PE X a (tD X.K (ev Φ ia))) (hb : PE X b (tD X.K (ev Φ ib))) (hm : behindInMarks .NotEq b = false := by rfl) : PT X (.Compare a [.NotEq] [b] pos) (tT X.K (evt Φ (.not (.meth ia ms [0, 1] (.val ib .nil) .nil)))) :=
  ptImp (pt_cmpR (op_neA hgd hx) ha hb hm) fun σ H Q q => by
    obtain ⟨S, ρ, r, ρ', rel, e, q⟩ := q
    obtain ⟨z, d0, e0, v0, t0⟩ := evt_split e
    refine neA_read (Q := fun x H' => ∃ k, x = .bl k ∧ Q k H') hM hG ⟨S, ρ, z, ρ', rel, e0, fun S' v H' g' rel' r' => ?_⟩
    simp only [ev] at e0
    obtain ⟨z1, ρ0, d1, k0, e1, v1, t1, h1⟩ := tru_split e0
    obtain ⟨q1, q2⟩ := ret_eq h1
    subst q1 q2
    cases v0
    cases t0
    exact ⟨_, (r'.view rel' (d := .bl (!k0)) rfl).b, q S' _ H' g' rel' rfl⟩
end
section
variable {Φ : Calls}
theorem isn_dom {c : Nat} {d : Sl} {e : D} {r : R} {ρ' : Ev} (h : ev Φ (.bi (.isn c) (.cons (.var 1) .nil)) [d, .fz e] = .ok r ρ') : (noOb2 e = true ∨ ∃ ys, e = .obj c ys) ∧ ∃ b, r = .fz (.bl b) := by
  cases he2 : biD (.isn c) [e] with
  | none =>
    simp [he2] at h
    cases h
  | some v =>
    have hv : v = r := by
      simp [he2] at h
      exact h.1
    subst hv
    cases e with
    | obj c' ys =>
      have he3 : (if c' = c then some (R.fz (.bl true)) else none) = some v := he2
      clear he2
      split at he3
      · rename_i hc
        subst hc
        exact ⟨.inr ⟨ys, rfl⟩, true, (Option.some.inj he3).symm⟩
      · cases he3
    | box n m xs =>
      have he3 : (if n = 2 ∨ n = 3 then some (R.fz (.bl false)) else none) = some v := he2
      clear he2
      split at he3
      · rename_i hc
        exact ⟨.inl (box_ok hc), false, (Option.some.inj he3).symm⟩
      · cases he3
    | _ => exact ⟨.inl rfl, false, (Option.some.inj he2).symm⟩
/-- the first of an and decides where the whole has an answer -/
theorem and_first {a b : E} {ρ : Ev} {r : R} {ρ' : Ev} (h : ev Φ (.and a b) ρ = .ok r ρ') : ∃ x ρ1, ev Φ a ρ = .ok x ρ1 ∧ (r = x ∨ ev Φ b ρ1 = .ok r ρ') := by
  simp only [ev] at h
  obtain ⟨x, ρ1, d, k, e1, v1, t1, h1⟩ := tru_split h
  cases k with
  | true => exact ⟨x, ρ1, e1, .inr h1⟩
  | false =>
    obtain ⟨q1, q2⟩ := ret_eq (show ret _ ρ1 = _ from h1)
    subst q1
    exact ⟨_, ρ1, e1, .inl rfl⟩
theorem ret1_split {T : List Df} {fi k : Nat} {body : E} {d : Sl} {e : D} {r : R × List Sl} (h : T[fi]? = some ⟨2, 2, .cons (.ret body) .nil⟩) (q : callN T (k + 1) fi [d, .fz e] = some r) : ∃ x ρ1, ev (callN T k) body [d, .fz e] = .ok x ρ1 ∧ (∀ b, x = .fz (.bl b) → r.1 = .fz (.bl b)) := by
  obtain ⟨d', fl, ρ', hd, hl, he, _, hv⟩ := callN_split h (r := r.1) (as' := r.2) q
  rw [h] at hd
  cases hd
  have he : (exec (callN T k) (.ret body) [d, .fz e]).then (fun f => match f with | .nx => execs (callN T k) .nil | f => DL.ret f) = .ok fl ρ' := he
  obtain ⟨f, ρ1, e1, e2⟩ := then_eq he
  obtain ⟨v, ρ2, e3, e4⟩ := then_eq (show (ev (callN T k) _ [d, .fz e]).then _ = _ from e1)
  refine ⟨v, ρ2, e3, fun b hb => ?_⟩
  subst hb
  obtain ⟨q1, q2⟩ := ret_eq e4
  subst q1 q2
  obtain ⟨q1, q2⟩ := ret_eq (show DL.ret _ _ = _ from e2)
  subst q1 q2
  rcases hv with ⟨r0, e5, e6⟩ | ⟨e5, _⟩
  · cases e5
    exact (Option.some.inj e6).symm
  · cases e5
end
theorem grdA_of {K : PySem.W.Frag} {T : List Df} {c fi : Nat} {o o' : Cop} {a b a' b' : E} (h : T[fi]? = some ⟨2, 2, .cons (.ret (.and (.bi (.isn c) (.cons (.var 1) .nil)) (.and (.cmp o a b) (.cmp o' a' b')))) .nil⟩) : ∀ k, GrdA K (callN T k) c fi
  | 0, d, e, r, q => by cases q
  | k + 1, d, e, r, q => by
    obtain ⟨x, ρ1, e1, hx⟩ := ret1_split h q
    obtain ⟨y, ρ2, e2, hy⟩ := and_first e1
    obtain ⟨h1, b, hb⟩ := isn_dom e2
    refine ⟨h1.imp id .inl, ?_⟩
    rcases hy with rfl | hy
    · exact ⟨b, hx b hb⟩
    · obtain ⟨b2, hb2⟩ := isBl_and isBl_cmp isBl_cmp _ _ _ hy
      exact ⟨b2, hx b2 hb2⟩
end DL
end
section
set_option autoImplicit false
namespace DL
open PySem L2
variable [LTabs]
/-- somewhere below the running body, nothing being shown: room for a call, and j steps inside builtins -/
structure SubD (X : Cx) (k j : Nat) (A : Around) : Prop where
  hd : A.handled = none
  dp : A.depth + 3 * k + 5 < recursionLimit
  un : A.units + 16 * k + j + 200 < cLine
  fr : A.frames = X.A.frames
  gd : Gok A
section
variable {X : Cx} {k j m : Nat} {A : Around} {d e : D} {ds es : List D}
theorem SubD.in1 (s : SubD X k (j + 1) A) : SubD X k j A.in1 := ⟨s.hd, s.dp, by have := s.un; show A.units + 1 + 16 * k + j + 200 < _; omega, s.fr, s.gd⟩
theorem SubD.mono (s : SubD X k j A) (h : m ≤ j) : SubD X k m A := ⟨s.hd, s.dp, by have := s.un; omega, s.fr, s.gd⟩
def LpD (X : Cx) (pins : List (Addr × Obj)) (σ : St) (S : Addr → Prop) (H : Hp) (s' : Shared) : Prop := ∃ S' H', L2.Inv X pins σ H' s' ∧ Gn S H S' H'
/-- == gives True for two values that are d and e -/
def EqD (X : Cx) (k j : Nat) (d e : D) : Prop :=
  ∀ (A : Around) (pins : List (Addr × Obj)) (s : Shared) (σ : St) (S : Addr → Prop) (H : Hp) (x y : V) (u v : Value), SubD X k j A → L2.Inv X pins σ H s → Dm S H → RelV x u → RelV y v → Rp X.K S H x d → Rp X.K S H y e →
    wpAny (model X.prog X.w) A (eqBool u v) (fun r s' => r = true ∧ LpD X pins σ S H s') X.xe s
def EqsD (X : Cx) (k j : Nat) (ds es : List D) : Prop := ds.length = es.length ∧ ∀ (i : Nat) (d e : D), ds[i]? = some d → es[i]? = some e → EqD X k j d e
theorem EqD.mono (h : EqD X k j d e) (hn : j ≤ m) : EqD X k m d e := fun A pins s σ S H x y u v sb => h A pins s σ S H x y u v (sb.mono hn)
theorem EqsD.nil : EqsD X k j [] [] := ⟨rfl, fun i d e h _ => by simp at h⟩
theorem EqsD.cons (h : EqD X k j d e) (t : EqsD X k j ds es) : EqsD X k j (d :: ds) (e :: es) := by
  refine ⟨by rw [List.length_cons, List.length_cons, t.1], fun i a b h1 h2 => ?_⟩
  cases i with
  | zero =>
    simp at h1 h2
    subst h1; subst h2
    exact h
  | succ i =>
    simp at h1 h2
    exact t.2 i a b h1 h2
end
section
variable {X : Cx} {Φ : Calls} {k f0 : Nat} {a b : Expr} {pos : Pos} {ia ib : E} {o : D}
theorem Vd.lst {K : PySem.W.Frag} {S : Addr → Prop} {H : Hp} {v : V} {xs : List D} (h : Vd K S H v (.lst xs)) : ∃ a vs, v = .ref a ∧ H a = some (.lst vs) ∧ Rps K S H vs xs := by
  cases h with
  | fz h =>
    cases h with
    | lst h r => exact ⟨_, _, rfl, h.2, r⟩
  | ls e h r => exact ⟨_, _, e, h, r⟩
end
end DL
end
section
set_option autoImplicit false
namespace DL
open PySem L2
variable [LTabs]
section
variable {X : Cx} {Φ : Calls} {a : Expr} {ia : E} {p pos : Pos} {c fi : Nat}
/-- the class's own __len__, and no __bool__ -/
structure BooF (X : Cx) (Φ : Calls) (c fi : Nat) : Prop where
  ex : ∃ (C f : Addr) (fd : FuncData) (ps : List Str) (k : Nat), ClsF X.K c C ∧ Meth X.K C "__len__" f ∧ FnG X.prog X.w X.K X.mg X.base L2.CX0 k f fd ps (spD X.K Φ fi) ∧ Room (k + 1) X.A ∧ BindP X.K fd ps 1 [] [0] ∧ PySem.W.findIn X.K (.ref C) "__bool__" = some none
def AllB (X : Cx) (Φ : Calls) : List (Nat × Nat) → Prop
  | [] => True
  | (c, fi) :: r => BooF X Φ c fi ∧ AllB X Φ r
theorem AllB.at : ∀ {ms : List (Nat × Nat)}, AllB X Φ ms → ms.lookup c = some fi → BooF X Φ c fi
  | [], _, h => by cases h
  | (c', i') :: r, h, e => by
    unfold List.lookup at e
    cases q : c == c' with
    | true =>
      rw [q] at e
      cases e
      have := beq_iff_eq.mp q
      subst this
      exact h.1
    | false => rw [q] at e; exact AllB.at h.2 e
end
end DL
end
section
set_option autoImplicit false
namespace DL
open PySem L2
variable [LTabs]
section
variable {X : Cx} {Φ : Calls} {a b tg : Expr} {pos apos p : Pos} {ia ib : E} {K : PySem.W.Frag}
def chD1 (c : Nat) : D := .str ⟨#[c]⟩
theorem Wk.chs {z : Str} : Wk K (Its z) (fun _ _ _ _ => True) (z.cps.toList.map chD1) where
  stop := fun S ρ σ H rel _ i h => by
    show z.cps.size ≤ i
    rw [List.length_map, Array.length_toList] at h
    exact h
  go := fun S ρ σ H rel _ i h => by
    show i < z.cps.size
    rw [List.length_map, Array.length_toList] at h
    exact h
  yld := fun S ρ σ H i d x H' rel _ hd hy => by
    obtain ⟨e1, c, e2, e3⟩ := hy
    subst e1 e3
    refine ⟨S, .refl, ?_⟩
    rw [List.getElem?_map, Array.getElem?_toList, e2] at hd
    cases hd
    exact .str _
  stay := fun _ _ _ _ _ _ _ _ _ _ _ _ => trivial
  wip := fun _ _ _ _ _ _ _ => trivial
end
end DL
end
section
set_option autoImplicit false
namespace DL
open PySem L2
end DL
end
section
set_option autoImplicit false
namespace DL
open PySem L2
variable [LTabs]
section
variable {X : Cx} {pins : List (Addr × Obj)} {σ : St} {H : Hp} {s : Shared}
structure RawA (X : Cx) (pins : List (Addr × Obj)) (P : Addr) : Prop where
  s0 : X.s_0.heap.objs.size ≤ P
  lo : P ≠ X.env.locals
  fs : P ∉ X.fs
  ce : ∀ x c, X.env.cells.lookup x = some c → c ≠ P
  pn : ∀ p ∈ X.pn ++ pins, p.1 ≠ P
theorem RawA.of (I : L2.Inv X pins σ H s) : RawA X pins s.heap.objs.size :=
  ⟨I.sz, Nat.ne_of_gt I.lt, I.nofs (Nat.le_refl _), fun x c e z => by
    obtain ⟨v, o, ho, hd⟩ := I.cell x c e
    have := Heap.lt_size ho
    rw [z] at this
    exact Nat.lt_irrefl _ this, fun p hp z => by
    have := Heap.lt_size (I.pin p hp).1
    rw [z] at this
    exact Nat.lt_irrefl _ this⟩
end
/-- c stands in the list or tuple b -/
def InH (h : Heap) (c b : Addr) : Prop := ∃ o its n, h.get? b = some o ∧ (o.cls = .type "list" ∨ o.cls = .type "tuple") ∧ o.data = .seq its n ∧ Value.ref c ∈ its.toList
inductive Nr (K : PySem.W.Frag) (H : Hp) : Addr → Prop
  | ins {a C dx : Addr} {fs : List (Str × V)} : H a = some (.ins C dx fs) → Nr K H a
  | seq {a b : Addr} {vs : List V} : SqL K H a vs ∨ SqT K H a vs → V.ref b ∈ vs → Nr K H b → Nr K H a
  | sqB {a : Addr} {b : Array UInt8} {vs : List V} : SqL K H a vs ∨ SqT K H a vs → V.byt b ∈ vs → Nr K H a
theorem byt_vals {vs : List V} {us : List Value} (h : Vals vs us) {c : Array UInt8} (hc : V.byt c ∈ vs) : ∃ t, Value.bytes c t ∈ us := by
  induction h with
  | nil => cases hc
  | cons r t ih =>
    rcases List.mem_cons.mp hc with e | hc
    · subst e
      obtain ⟨t, rfl⟩ := r
      exact ⟨t, List.mem_cons_self ..⟩
    · obtain ⟨t, h⟩ := ih hc
      exact ⟨t, List.mem_cons_of_mem _ h⟩
theorem reads_mem {h : Heap} {vs : List Value} {ds : List PyData} {as : List Addr} (r : ReadsAll h vs ds as) {u : Value} (hu : u ∈ vs) : ∃ d bs, Reads h u d bs := by
  induction vs generalizing ds as with
  | nil => cases hu
  | cons v vs ih =>
    cases r with
    | cons r1 r2 =>
      rcases List.mem_cons.mp hu with e | hu
      · rw [e]; exact ⟨_, _, r1⟩
      · exact ih r2 hu
theorem ref_vals {vs : List V} {us : List Value} (h : Vals vs us) {c : Addr} (hc : V.ref c ∈ vs) : Value.ref c ∈ us := by
  induction h with
  | nil => cases hc
  | cons r t ih =>
    rcases List.mem_cons.mp hc with e | hc
    · subst e
      cases r
      exact List.mem_cons_self ..
    · exact List.mem_cons_of_mem _ (ih hc)
section
variable {X : Cx} {pins : List (Addr × Obj)} {σ : St} {H H1 : Hp} {s : Shared} {S S1 : Addr → Prop}
theorem rd_gn {a : Addr} {u : HO} (h : Rd H a u) (g : Gn S H S1 H1) (nt : NT u := by intro _ z; cases z) : Rd H1 a u :=
  h.elim (fun e => .inl (g.keep _ _ e (nt := nt))) fun ⟨o, e⟩ => .inr ⟨o, g.keep _ _ e⟩
theorem sqL_gn {K : PySem.W.Frag} {a : Addr} {vs : List V} (h : SqL K H a vs) (g : Gn S H S1 H1) : SqL K H1 a vs := h.imp (fun h => rd_gn h g) id
theorem sqT_gn {K : PySem.W.Frag} {a : Addr} {vs : List V} (h : SqT K H a vs) (g : Gn S H S1 H1) : SqT K H1 a vs := h.imp (fun h => rd_gn h g) id
theorem Nr.gn {K : PySem.W.Frag} {a : Addr} (n : Nr K H a) (g : Gn S H S1 H1) : Nr K H1 a := by
  induction n with
  | ins h => exact .ins (g.keep _ _ h)
  | seq h hb _ ih => exact .seq (h.imp (fun h => sqL_gn h g) (fun h => sqT_gn h g)) hb ih
  | sqB h hb => exact .sqB (h.imp (fun h => sqL_gn h g) (fun h => sqT_gn h g)) hb
theorem Nr.no (I : L2.Inv X pins σ H s) {a : Addr} (n : Nr X.K H a) : ∀ d as, ¬ Reads s.heap (.ref a) d as := by
  induction n with
  | ins h =>
    intro d as r
    obtain ⟨ox, od, ia⟩ := inst_of I.hok h
    cases r with
    | list h1 h2 h3 h4 => rw [ia.at_] at h1; cases h1; rw [ia.cls] at h2; cases h2
    | tuple h1 h2 h3 h4 => rw [ia.at_] at h1; cases h1; rw [ia.cls] at h2; cases h2
    | dict h1 h2 h3 h4 h5 => rw [ia.at_] at h1; cases h1; rw [ia.cls] at h2; cases h2
  | seq h hb _ ih =>
    intro d as r
    rcases h with h | h
    · obtain ⟨its, rv, ⟨o, n, ho, hc, _, hd⟩, _⟩ := I.list h
      cases r with
      | list h1 h2 h3 h4 =>
        rw [ho] at h1; cases h1
        rw [hd] at h3; cases h3
        obtain ⟨d', bs, r'⟩ := reads_mem h4 (ref_vals rv hb)
        exact ih d' bs r'
      | tuple h1 h2 h3 h4 => rw [ho] at h1; cases h1; rw [hc] at h2; exact absurd h2 (by decide)
      | dict h1 h2 h3 h4 h5 => rw [ho] at h1; cases h1; rw [hd] at h3; cases h3
    · obtain ⟨its, rv, ⟨o, ho, hc, n, hd⟩, _⟩ := I.tuple h
      cases r with
      | list h1 h2 h3 h4 => rw [ho] at h1; cases h1; rw [hc] at h2; exact absurd h2 (by decide)
      | tuple h1 h2 h3 h4 =>
        rw [ho] at h1; cases h1
        rw [hd] at h3; cases h3
        obtain ⟨d', bs, r'⟩ := reads_mem h4 (ref_vals rv hb)
        exact ih d' bs r'
      | dict h1 h2 h3 h4 h5 => rw [ho] at h1; cases h1; rw [hd] at h3; cases h3
  | sqB h hb =>
    intro d as r
    rcases h with h | h
    · obtain ⟨its, rv, ⟨o, n, ho, hc, _, hd⟩, _⟩ := I.list h
      cases r with
      | list h1 h2 h3 h4 =>
        rw [ho] at h1; cases h1
        rw [hd] at h3; cases h3
        obtain ⟨tk, ht⟩ := byt_vals rv hb
        obtain ⟨d', bs, r'⟩ := reads_mem h4 ht
        cases r'
      | tuple h1 h2 h3 h4 => rw [ho] at h1; cases h1; rw [hc] at h2; exact absurd h2 (by decide)
      | dict h1 h2 h3 h4 h5 => rw [ho] at h1; cases h1; rw [hd] at h3; cases h3
    · obtain ⟨its, rv, ⟨o, ho, hc, n, hd⟩, _⟩ := I.tuple h
      cases r with
      | list h1 h2 h3 h4 => rw [ho] at h1; cases h1; rw [hc] at h2; exact absurd h2 (by decide)
      | tuple h1 h2 h3 h4 =>
        rw [ho] at h1; cases h1
        rw [hd] at h3; cases h3
        obtain ⟨tk, ht⟩ := byt_vals rv hb
        obtain ⟨d', bs, r'⟩ := reads_mem h4 ht
        cases r'
      | dict h1 h2 h3 h4 h5 => rw [ho] at h1; cases h1; rw [hd] at h3; cases h3
end
end DL
end
section
set_option autoImplicit false
namespace DL
open PySem L2
open PySem.Builtin PySem.Builtin.List
variable [LTabs]
/-- somewhere below the running body, while the lists and tuples of L are being shown -/
structure SubR (X : Cx) (k j : Nat) (A : Around) (g : List Code) (L : List Addr) : Prop where
  hd : A.handled = none
  dp : A.depth + 3 * k + j + 4 < recursionLimit
  un : A.units + 16 * k + 2 * j + 200 < cLine
  fr : A.frames = X.A.frames
  gd : A.guards = some g
  cl : ∀ b, b ∉ L → Clear g b
section
variable {X : Cx} {k j : Nat} {A : Around} {g : List Code} {L : List Addr}
theorem SubR.in1 (r : SubR X k (j + 1) A g L) : SubR X k j A.in1 g L := ⟨r.hd, by have := r.dp; show A.depth + 3 * k + j + 4 < _; omega, by have := r.un; show A.units + 1 + 16 * k + 2 * j + 200 < _; omega, r.fr, r.gd, r.cl⟩
theorem SubR.mono {m : Nat} (r : SubR X k j A g L) (h : m ≤ j) : SubR X k m A g L := ⟨r.hd, by have := r.dp; omega, by have := r.un; omega, r.fr, r.gd, r.cl⟩
theorem wt_tup (args : Args) : (Code.builtin "tuple.__repr__.under" args).weight = 1 := by
  show _ + _ + _ + _ = 1
  rw [isGuard_tuple_repr_under]; rfl
theorem SubR.tup (r : SubR X k (j + 1) A g L) (a : Addr) (rest : List Value) : SubR X k j (A.under (.builtin "tuple.__repr__.under" ⟨.ref a :: rest, []⟩)) (.builtin "tuple.__repr__.under" ⟨.ref a :: rest, []⟩ :: g) (a :: L) where
  hd := r.hd
  dp := by
    show A.depth + (Code.builtin "tuple.__repr__.under" ⟨.ref a :: rest, []⟩).weight + 3 * k + j + 4 < _
    rw [wt_tup]; have := r.dp; omega
  un := by rw [units_under_tuple_repr_under]; have := r.un; omega
  fr := r.fr
  gd := guards_under_guard (isGuard_tuple_repr_under _) r.gd
  cl := fun b hb => (r.cl b (fun z => hb (List.mem_cons_of_mem _ z))).cons (a := a) (fun e => hb (e ▸ List.mem_cons_self ..))
end
/-- v, shown inside of a list or tuple, gives t -/
def RepV (X : Cx) (k j : Nat) (h0 : Heap) (S : Addr → Prop) (H : Hp) (v : V) (t : Str) : Prop :=
  ∀ (A : Around) (g : List Code) (L : List Addr) (base : Nat) (pins : List (Addr × Obj)) (s : Shared) (σ : St) (S1 : Addr → Prop) (H1 : Hp) (u : Value), SubR X k j A g L → (∀ a ∈ L, ∀ b, v = .ref b → Relation.TransGen (InH h0) b a) → (∀ a ∈ L, Nr X.K H a) →
    base + t.length ≤ sizeLine → L2.Inv X pins σ H1 s → Gn S H S1 H1 → RelV v u → wpAny (model X.prog X.w) A (pyReprUnder base u) (fun r s' => r = t ∧ LpD X pins σ S H s') X.xe s
section
variable {X : Cx} {k j : Nat} {h0 : Heap} {S : Addr → Prop} {H : Hp}
theorem RepV.mono {v : V} {t : Str} {m : Nat} (h : RepV X k j h0 S H v t) (hm : j ≤ m) : RepV X k m h0 S H v t := fun A g L base pins s σ S1 H1 u r => h A g L base pins s σ S1 H1 u (r.mono hm)
end
end DL
end
section
set_option autoImplicit false
namespace DL
open PySem L2
open PySem.Builtin PySem.Builtin.List PySem.Builtin.Tuple
end DL
end
section
set_option autoImplicit false
namespace DL
open PySem L2
end DL
end
section
set_option autoImplicit false
namespace DL
open PySem L2
open PySem.Builtin
end DL
end
section
set_option autoImplicit false
namespace DL
open PySem L2
open PySem.Builtin
end DL
end
section
set_option autoImplicit false
namespace DL
open PySem L2
end DL
end
section
set_option autoImplicit false
namespace DL
open PySem L2
end DL
end
section
set_option autoImplicit false
namespace DL
open PySem L2
variable [LTabs]
section
variable {X : Cx} {W : WX} {Φ : Calls} {k : Nat} {f C : Addr} {fd : FuncData} {ps ks : List Str} {sp : Sp} {x m : Str} {p pos apos : Pos} {e o : Expr} {es : List Expr} {kws : List Keyword} {t tk : TA} {te ta : TE} {perm : List Nat} {n c fi : Nat} {dws : List Value} {dvs : List V} {ies iks : As} {dds : List D}
structure MethXk (X : Cx) (Φ : Calls) (m : Str) (n : Nat) (ks : List Str) (perm : List Nat) (dds : List D) (c fi : Nat) : Prop where
  ex : ∃ (C f : Addr) (fd : FuncData) (ps : List Str) (k : Nat) (dws : List Value) (dvs : List V), ClsF X.K c C ∧ Meth X.K C m f ∧ FnG X.prog X.w X.K X.mg X.base (L2.CX X.prog X.w) k f fd ps (spX X.K Φ fi) ∧ Room k X.A ∧ BindPd X.K fd ps (n + 1) ks dws perm ∧ Vals dvs dws ∧ Csts X.K dvs dds
  no : (cFlds c).contains m = false
def AllXk (X : Cx) (Φ : Calls) (m : Str) (n : Nat) (ks : List Str) (perm : List Nat) (dds : List D) : List (Nat × Nat) → Prop
  | [] => True
  | (c, fi) :: r => MethXk X Φ m n ks perm dds c fi ∧ AllXk X Φ m n ks perm dds r
theorem AllXk.at {ms : List (Nat × Nat)} : AllXk X Φ m n ks perm dds ms → ms.lookup c = some fi → MethXk X Φ m n ks perm dds c fi := by
  induction ms with
  | nil => intro _ h; cases h
  | cons a r ih =>
    obtain ⟨c', i'⟩ := a
    intro h e
    unfold List.lookup at e
    cases q : c == c' with
    | true =>
      rw [q] at e
      cases e
      have := beq_iff_eq.mp q
      subst this
      exact h.1
    | false => rw [q] at e; exact ih h.2 e
end
end DL
end
section
set_option autoImplicit false
namespace DL
open PySem L2
variable [LTabs]
section
variable {X : Cx} {Φ : Calls} {a b d : Expr} {pos : Pos} {ib id : E} {c fi : Nat} {perm : List Nat} {ias iks : As}
/-- a fresh instance, further on -/
theorem HoldI.mono {K : PySem.W.Frag} {S S' : Addr → Prop} {H H' : Hp} {x : Addr} {xs : List D} (h : HoldI K S H x c xs) (k : ∀ o, H x = some o → NT o → H' x = some o) (ke : Ke S H S' H') : HoldI K S' H' x c xs := by
  obtain ⟨C, dx, vs, n, h, l, r⟩ := h
  exact ⟨C, dx, vs, n, k _ h (by intro _ z; cases z), l, r.mono ke⟩
theorem HoldI.some {K : PySem.W.Frag} {S : Addr → Prop} {H : Hp} {x : Addr} {xs : List D} (h : HoldI K S H x c xs) : H x ≠ none := by
  obtain ⟨C, dx, vs, n, h, l, r⟩ := h
  rw [h]; simp
end
end DL
end
section
set_option autoImplicit false
namespace DL
open PySem L2
end DL
end
section
set_option autoImplicit false
namespace DL
open PySem L2
variable [LTabs]
/-- the program's dict at d: its table -/
structure DicF (K : PySem.W.Frag) (w : World) (d : Addr) (tb : List (Str × Int)) : Prop where
  kd : ∃ es n, KDict K w d es n
  at_ : ∀ z, ∃ r, PySem.W.nsIn K d z = some r ∧ r.isSome = (tb.lookup z).isSome ∧ ∀ i, tb.lookup z = some i → ∃ u, r = some u ∧ RelV (.int i) u
theorem lookup_mem {z : Str} {i : Int} : ∀ {tb : List (Str × Int)}, tb.lookup z = some i → (z, i) ∈ tb
  | [], h => by cases h
  | (y, j) :: r, h => by
    unfold List.lookup at h
    cases q : z == y with
    | true => rw [q] at h; cases h; rw [beq_iff_eq.mp q]; exact List.mem_cons_self
    | false => rw [q] at h; exact List.mem_cons_of_mem _ (lookup_mem h)
theorem lookup_some {z : Str} : ∀ {tb : List (Str × Int)}, (tb.lookup z).isSome = (tb.map (·.1)).contains z
  | [] => rfl
  | (y, j) :: r => by
    unfold List.lookup
    rw [List.map_cons, List.contains_cons]
    cases q : z == y with
    | true => rfl
    | false => rw [Bool.false_or]; exact lookup_some
theorem ns_keys {P : Params} {z : Str} : ∀ {l : List DictEntry} {ks : List Str}, l.map He.keyOf = He.keysIn P ks → (l.find? (·.key.isStr z)).isSome = ks.contains z ∧ l.any (·.refKey) = false
  | [], [], _ => ⟨rfl, rfl⟩
  | [], _ :: _, h => by cases h
  | _ :: _, [], h => by cases h
  | e :: r, k :: ks, h => by
    have h1 : He.keyOf e :: r.map He.keyOf = some (k, PyData.keyHash P k) :: He.keysIn P ks := h
    injection h1 with h2 h3
    obtain ⟨i1, i2⟩ := ns_keys (z := z) h3
    have hk : ∃ t, e.key = .str k t := by
      unfold He.keyOf at h2
      split at h2
      · rename_i x t q
        obtain ⟨h5, _⟩ := Prod.mk.inj (Option.some.inj h2)
        exact ⟨t, by rw [q, h5]⟩
      · cases h2
    obtain ⟨t, hk⟩ := hk
    have hs : e.key.isStr z = (z == k) := by
      rw [hk]
      show (k == z) = (z == k)
      rw [Bool.eq_iff_iff, beq_iff_eq, beq_iff_eq]
      exact eq_comm
    constructor
    · rw [List.find?_cons, hs, List.contains_cons]
      cases z == k with
      | true => rfl
      | false => rw [Bool.false_or]; exact i1
    · rw [List.any_cons, i2, Bool.or_false]
      unfold DictEntry.refKey
      rw [hk]
theorem dicF_of {K : PySem.W.Frag} {w : World} {d : Addr} {tb : List (Str × Int)} (h : He.dicW K d = some (He.keysIn w.params (tb.map (·.1)))) (hv : He.valsB K d (tb.map fun p => (p.1, He.Dv.int p.2)) = true) : DicF K w d tb := by
  refine ⟨He.dicW_ok h, fun z => ?_⟩
  have hn : ∃ r, PySem.W.nsIn K d z = some r ∧ r.isSome = (tb.lookup z).isSome := by
    unfold He.dicW at h
    split at h
    · rename_i c es n sl q
      split at h
      · obtain ⟨i1, i2⟩ := ns_keys (z := z) (Option.some.inj h)
        unfold PySem.W.nsIn
        rw [q]
        dsimp only
        rw [lookup_some, ← i1]
        cases qf : es.toList.find? (·.key.isStr z) with
        | some e => exact ⟨some e.val, rfl, rfl⟩
        | none => rw [i2]; exact ⟨none, rfl, rfl⟩
      · cases h
    · cases h
  obtain ⟨r, e1, e2⟩ := hn
  refine ⟨r, e1, e2, fun i hi => ?_⟩
  obtain ⟨u, e3, ru⟩ := He.valsB_ok hv (q := (z, .int i)) (List.mem_map.mpr ⟨(z, i), lookup_mem hi, rfl⟩)
  rw [e1] at e3
  cases e3
  exact ⟨u, rfl, ru⟩
/-- where the keyword-only default x of the def f stands -/
def kwAt (f : Str × Option Str) (x : Str) (K : PySem.W.Frag) : Addr := match K.lookup (He.fAd K f) with
  | some ⟨_, _, .func fd, _⟩ => (match fd.kwdefaults with
    | .ref D => (match PySem.W.nsIn K D x with
      | some (some (.ref a)) => a
      | _ => 0)
    | _ => 0)
  | _ => 0
abbrev Us : Type := List ((Str × Option Str) × Str)
def tabsB (ds : List (Str × List (Str × He.Dv))) (us : Us) (K : PySem.W.Frag) : Bool := (ds.all fun t => He.valsB K (He.ga K t.1) t.2) && us.all fun u => unitB K (kwAt u.1 u.2 K)
def dicsW (ds : List (Str × List (Str × He.Dv))) (K : PySem.W.Frag) : List (Option (List (Option (Str × Int)))) := ds.map fun t => He.dicW K (He.ga K t.1)
def SaysY (ds : List (Str × List (Str × He.Dv))) (us : Us) (w : World) (K : PySem.W.Frag) : Prop := tabsB ds us K = true ∧ dicsW ds K = ds.map fun t => some (He.keysIn w.params (t.2.map (·.1)))
theorem SaysY.dic {ds : List (Str × List (Str × He.Dv))} {us : Us} {w : World} {K : PySem.W.Frag} (c : SaysY ds us w K) (i : Nat) {x : Str} (tb : List (Str × Int)) (h : ds[i]? = some (x, tb.map fun p => (p.1, He.Dv.int p.2)) := by rfl) : DicF K w (He.ga K x) tb := by
  have e2 : (dicsW ds K)[i]? = (ds.map fun t => some (He.keysIn w.params (t.2.map (·.1))))[i]? := by rw [c.2]
  unfold dicsW at e2
  rw [List.getElem?_map, List.getElem?_map, h] at e2
  have e3 : He.dicW K (He.ga K x) = some (He.keysIn w.params ((tb.map fun p => (p.1, He.Dv.int p.2)).map (·.1))) := Option.some.inj e2
  have e4 : ((tb.map fun p => (p.1, He.Dv.int p.2)).map (·.1)) = tb.map (·.1) := by rw [List.map_map]; rfl
  rw [e4] at e3
  exact dicF_of e3 (List.all_eq_true.mp (He.ba c.1).1 _ (List.mem_of_getElem? h))
theorem SaysY.unit {ds : List (Str × List (Str × He.Dv))} {us : Us} {w : World} {K : PySem.W.Frag} (c : SaysY ds us w K) (i : Nat) {u : (Str × Option Str) × Str} (h : us[i]? = some u := by rfl) : Cst K (.ref (kwAt u.1 u.2 K)) (.tup []) :=
  unitB_ok (List.all_eq_true.mp (He.ba c.1).2 u (List.mem_of_getElem? h))
end DL
end
section
set_option autoImplicit false
namespace DL
open PySem L2
end DL
end
section
set_option autoImplicit false
namespace DL
open PySem L2
end DL
end
section
set_option autoImplicit false
namespace DL
open PySem L2 PyProof.Rows
end DL
end
section
set_option autoImplicit false
namespace DL
open PySem L2 PyProof.Rows
end DL
end
section
set_option autoImplicit false
namespace DL
open PySem L2 PyProof.Rows
end DL
end
section
set_option autoImplicit false
namespace DL
open PySem L2 PyProof.Rows
end DL
end
section
set_option autoImplicit false
namespace DL
open PySem L2
variable [LTabs]
/-- a name that is read, in short -/
theorem pvr {X : Cx} {x : Str} {p : Pos} (i : Nat) (h : X.N[i]? = some x := by rfl) (v : Vis X.env.scope x := by first | exact .inl rfl | exact .inr (.inl rfl) | exact .inr (.inr rfl)) (hd : (x == ("__debug__" : Str)) = false := by decide) (hcd : (x == ("__classdict__" : Str)) = false := by decide) : PE X (.Name x p) (tVar i) := pe_var h v hd hcd
end DL
end
section
set_option autoImplicit false
namespace L2
open PySem PyProof.Rows
end L2
namespace DL
open PySem L2 PyProof.Rows
end DL
end
section
set_option autoImplicit false
namespace L2
open PySem PySem.Calls PyProof.Rows
end L2
end
section
set_option autoImplicit false
namespace DL
open PySem L2
variable [LTabs]
/-- the heap without some addresses -/
def dropL (H : Hp) (L : List Addr) : Hp := fun b => if b ∈ L then none else H b
theorem dropL_off {H : Hp} {L : List Addr} {a : Addr} (h : a ∉ L) : dropL H L a = H a := if_neg h
theorem dropL_in {H : Hp} {L : List Addr} {a : Addr} (h : a ∈ L) : dropL H L a = none := if_pos h
theorem dropL_some {H : Hp} {L : List Addr} {a : Addr} {o : HO} (h : dropL H L a = some o) : a ∉ L ∧ H a = some o := by
  by_cases z : a ∈ L
  · rw [dropL_in z] at h; cases h
  · rw [dropL_off z] at h; exact ⟨z, h⟩
theorem dropL_none {H : Hp} {L : List Addr} {a : Addr} (h : dropL H L a = none) : a ∈ L ∨ H a = none := by
  by_cases z : a ∈ L
  · exact .inl z
  · rw [dropL_off z] at h; exact .inr h
/-- lists at L that no slot and no frozen datum knows -/
structure Off (L : List Addr) (S : Addr → Prop) (ρ : Ev) (σ : St) (H : Hp) : Prop where
  s : ∀ a ∈ L, ¬ S a
  o : ∀ a ∈ L, ¬ Own ρ σ a
  h : ∀ a ∈ L, ∃ xs, H a = some (.lst xs)
section
variable {K : PySem.W.Frag} {S S' : Addr → Prop} {H H' : Hp} {ρ ρ' : Ev} {σ σ' : St} {L : List Addr}
theorem LTb.drop (t : LTb H) (h : ∀ a ∈ L, ∃ xs, H a = some (.lst xs)) : LTb (dropL H L) := fun p hp => by
  obtain ⟨ps, h1, h2, h3⟩ := t p hp
  refine ⟨ps, ?_, h2, fun pos cv hc => ?_⟩
  · rw [dropL_off (fun z => by obtain ⟨xs, q⟩ := h _ z; rw [q] at h1; cases h1)]
    exact h1
  · obtain ⟨c, e1, e2⟩ := h3 pos cv hc
    refine ⟨c, e1, ?_⟩
    rw [dropL_off (fun z => by obtain ⟨xs, q⟩ := h _ z; rw [q] at e2; unfold LamX.CodeO at e2; cases e2)]
    exact e2
theorem Rel.drop (r : Rel K S ρ σ H) (f : Off L S ρ σ H) : Rel K S ρ σ (dropL H L) := by
  have ke : Ke S H S (dropL H L) := ⟨fun _ h => h, fun a o hs h _ => by rw [dropL_off (fun z => f.s a z hs)]; exact h⟩
  refine ⟨r.len, fun i s ov e1 e2 => ?_, r.inj, fun a hs => by rw [dropL_off (fun z => f.s a z hs)]; exact r.dom a hs, LTb.drop r.tb f.h⟩
  have ok := r.ok i s ov e1 e2
  cases s with
  | un => trivial
  | fz d => obtain ⟨v, e, h⟩ := ok; exact ⟨v, e, h.mono ke⟩
  | ls k xs =>
    obtain ⟨a, e, n, h⟩ := ok
    subst e
    exact ⟨a, rfl, n, hold_mono h (fun o h _ => by rw [dropL_off (fun z => f.o a z ⟨i, k, xs, e1, e2⟩)]; exact h) ke⟩
theorem Rel.back (r : Rel K S ρ σ (dropL H L)) : Rel K S ρ σ H := by
  have ke : Ke S (dropL H L) S H := ⟨fun _ h => h, fun a o hs h _ => (dropL_some h).2⟩
  refine ⟨r.len, fun i s ov e1 e2 => ?_, r.inj, fun a hs z => r.dom a hs ?_, LamX.Tabs.ext r.tb fun b u e => (dropL_some e).2⟩
  · have ok := r.ok i s ov e1 e2
    cases s with
    | un => trivial
    | fz d => obtain ⟨v, e, h⟩ := ok; exact ⟨v, e, h.mono ke⟩
    | ls k xs =>
      obtain ⟨a, e, n, h⟩ := ok
      subst e
      exact ⟨a, rfl, n, hold_mono h (fun o h _ => (dropL_some h).2) ke⟩
  · by_cases q : a ∈ L
    · exact dropL_in q
    · rw [dropL_off q]; exact z
theorem Go.drop (g : Go S ρ σ H S' ρ' σ' H') (f : Off L S ρ σ H) : Go S ρ σ (dropL H L) S' ρ' σ' (dropL H' L) where
  sub := g.sub
  new := fun a h => by
    rcases g.new a h with h | h | h
    · exact .inl h
    · refine .inr (.inl ?_)
      by_cases q : a ∈ L
      · exact dropL_in q
      · rw [dropL_off q]; exact h
    · exact .inr (.inr h)
  own := fun a h => by
    rcases g.own a h with h | h
    · refine .inl ?_
      by_cases q : a ∈ L
      · exact dropL_in q
      · rw [dropL_off q]; exact h
    · exact .inr h
  keep := fun a o e n nt => by
    obtain ⟨q, e⟩ := dropL_some e
    rw [dropL_off q]
    exact g.keep a o e n nt
  stay := fun a h => by
    rcases dropL_none h with h | h
    · exact dropL_in h
    · by_cases q : a ∈ L
      · exact dropL_in q
      · rw [dropL_off q]; exact g.stay a h
  fix := g.fix
end
end DL
end
section
set_option autoImplicit false
namespace DL
open PySem L2 PyProof.Rows
variable [LTabs]
mutual
theorem nk_hash (w w' : World) : ∀ (d : D) (k : NestedKey), nk d = some k → k.hash w = k.hash w'
  | .non, _, h => by cases h; rfl
  | .int i, _, h => by cases h; rfl
  | .tup ds, k, h => by
    cases q : nks ds with
    | none => simp [nk, q] at h
    | some ks =>
      simp only [nk, q, Option.map_some, Option.some.injEq] at h
      subst h
      show reduceHash _ = reduceHash _
      rw [nks_hash w w' ds ks q]
  | .bl _, _, h => by simp [nk] at h
  | .str _, _, h => by simp [nk] at h
  | .lst _, _, h => by simp [nk] at h
  | .scr _, _, h => by simp [nk] at h
  | .obj _ _, _, h => by simp [nk] at h
  | .box _ _ _, _, h => by simp [nk] at h
  | .emp _, _, h => by simp [nk] at h
theorem nks_hash (w w' : World) : ∀ (ds : List D) (ks : List NestedKey), nks ds = some ks → NestedKey.hashes w ks = NestedKey.hashes w' ks
  | [], _, h => by simp only [nks, Option.some.injEq] at h; subst h; rfl
  | d :: ds, ks, h => by
    cases q1 : nk d with
    | none => simp [nks, q1] at h
    | some k =>
      cases q2 : nks ds with
      | none => simp [nks, q1, q2] at h
      | some ks' =>
        simp only [nks, q1, q2, Option.some.injEq] at h
        subst h
        show NestedKey.hash w k :: NestedKey.hashes w ks' = _
        rw [nk_hash w w' d k q1, nks_hash w w' ds ks' q2]
        rfl
end
section
variable {X : Cx} {pins : List (Addr × Obj)} {σ : L2.St} {H : Hp} {s : Shared} {S : Addr → Prop}
mutual
theorem nk_is (I : Inv X pins σ H s) : ∀ (d : D) (v : V) (u : Value) (k : NestedKey), Rp X.K S H v d → RelV v u → nk d = some k → NestedIs s.heap k u
  | .non, _, u, _, r, ru, h => by
    cases h; cases r
    obtain rfl : u = Value.none := ru
    exact .none
  | .int i, _, u, _, r, ru, h => by
    cases h; cases r
    obtain ⟨t, rfl⟩ : ∃ t, u = Value.int i t := ru
    exact .int i t
  | .tup ds, _, u, k, r, ru, h => by
    cases q : nks ds with
    | none => simp [nk, q] at h
    | some ks =>
      simp only [nk, q, Option.map_some, Option.some.injEq] at h
      subst h
      cases r with
      | @tup a vs _ ht rs =>
        obtain rfl : u = Value.ref a := ru
        obtain ⟨its, rv, ⟨o, ho, hc, n, hd⟩, _⟩ := I.tuple ht.sq
        exact .tup ho hc hd (by simpa using nks_is I ds vs its ks rs rv q)
  | .bl _, _, _, _, _, _, h => by simp [nk] at h
  | .str _, _, _, _, _, _, h => by simp [nk] at h
  | .lst _, _, _, _, _, _, h => by simp [nk] at h
  | .scr _, _, _, _, _, _, h => by simp [nk] at h
  | .obj _ _, _, _, _, _, _, h => by simp [nk] at h
  | .box _ _ _, _, _, _, _, _, h => by simp [nk] at h
  | .emp _, _, _, _, _, _, h => by simp [nk] at h
theorem nks_is (I : Inv X pins σ H s) : ∀ (ds : List D) (vs : List V) (us : List Value) (ks : List NestedKey), Rps X.K S H vs ds → Vals vs us → nks ds = some ks → NestedAll s.heap ks us
  | [], _, us, _, r, ru, h => by
    simp only [nks, Option.some.injEq] at h
    subst h
    cases r
    cases ru
    exact .nil
  | d :: ds, _, us, ks, r, ru, h => by
    cases q1 : nk d with
    | none => simp [nks, q1] at h
    | some k =>
      cases q2 : nks ds with
      | none => simp [nks, q1, q2] at h
      | some ks' =>
        simp only [nks, q1, q2, Option.some.injEq] at h
        subst h
        cases r with
        | cons r1 r2 =>
          cases ru with
          | cons u1 u2 => exact .cons (nk_is I d _ _ k r1 u1 q1) (nks_is I ds _ _ ks' r2 u2 q2)
end
end
section
variable {X : Cx} {pins : List (Addr × Obj)} {σ : L2.St} {H : Hp} {s : Shared} {S : Addr → Prop} {a : Addr} {xs : List NKv} {ys : List D}
theorem RdN.is (h : RdN X.K S H xs ys) (I : Inv X pins σ H s) : ∀ x ∈ xs, (nestedKind X.prog X.w).is s.heap x.1 x.2.1 := by
  induction h with
  | nil => exact fun x hx => nomatch hx
  | cons a1 a2 a3 a4 a5 _ ih =>
    intro x hx
    rcases List.mem_cons.mp hx with e | hx
    · subst e
      exact ⟨nk_is I _ _ _ _ a3 rfl a1, a2⟩
    · exact ih x hx
theorem RdN.ent (h : RdN X.K S H xs ys) (P : Program) (w : World) : xs.map (entryOfKey (nestedKind P w)) = xs.map (entryOfKey (nestedKind X.prog X.w)) := by
  induction h with
  | nil => rfl
  | cons a1 a2 a3 a4 a5 _ ih =>
    rw [List.map_cons, List.map_cons, ih]
    congr 1
    unfold entryOfKey
    show DictEntry.mk (NestedKey.hash w _) _ _ = DictEntry.mk (NestedKey.hash X.w _) _ _
    rw [nk_hash w X.w _ _ a1]
/-- the dict of the model -/
theorem dic_of (I : Inv X pins σ H s) (e : Rd H a (dicO a xs)) (r : RdN X.K S H xs ys) : s.heap.DictOfH (nestedKind X.prog X.w) a xs ∧ xs.length ≤ sizeLine ∧ (a == sysModules) = false := by
  obtain ⟨⟨P, w, o, es, ep, h1, h2, h3, h4, h5, h6, h7⟩, _, _⟩ := (show ObjOk X.prog X.w H s.heap a (dicO a xs) from e.ok I.hok)
  exact ⟨⟨o, es, ep, h1, h2, h3, h4.trans (r.ent P w), r.is I, h5⟩, h6, h7⟩
end
end DL
end
section
set_option autoImplicit false
namespace DL
open PySem L2
variable [LTabs]
/-- the key y of the dict at a: what stands there -/
structure KeyN (K : PySem.W.Frag) (H : Hp) (a b : Addr) (xs : List NKv) (k : NestedKey) : Prop where
  at_ : Rd H a (dicO a xs)
  all : ∃ S ys, RdN K S H xs ys
  key : ∃ S vs ds, SqT K H b vs ∧ Rps K S H vs ds ∧ nk (.tup ds) = some k
  dp : k.depth ≤ 8
section
variable {X : Cx} {pins : List (Addr × Obj)} {σ : L2.St} {H : Hp} {s : Shared} {a b : Addr} {xs : List NKv} {k : NestedKey}
theorem KeyN.dic (c : KeyN X.K H a b xs k) (I : Inv X pins σ H s) : s.heap.DictOfH (nestedKind X.prog X.w) a xs ∧ xs.length ≤ sizeLine ∧ (a == sysModules) = false := by
  obtain ⟨S, ys, r⟩ := c.all
  exact dic_of I c.at_ r
theorem nk_tup {ds : List D} {k : NestedKey} (h : nk (.tup ds) = some k) : ∃ ks, nks ds = some ks ∧ k = .tup ks := by
  cases q : nks ds with
  | none => simp [nk, q] at h
  | some ks =>
    simp only [nk, q, Option.map_some, Option.some.injEq] at h
    exact ⟨ks, rfl, h.symm⟩
theorem KeyN.is (c : KeyN X.K H a b xs k) (I : Inv X pins σ H s) : (nestedKind X.prog X.w).is s.heap k b := by
  obtain ⟨S, vs, ds, hq, r, e⟩ := c.key
  obtain ⟨ks, e1, rfl⟩ := nk_tup e
  obtain ⟨its, rv, ⟨o, ho, hc, n, hd⟩, _⟩ := I.tuple hq
  exact ⟨.tup ho hc hd (by simpa using nks_is I ds vs its ks r rv e1), c.dp⟩
end
end DL
end
section
set_option autoImplicit false
namespace DL
open PySem L2
end DL
end
section
set_option autoImplicit false
namespace DL
open PySem L2
end DL
end
section
set_option autoImplicit false
namespace DL
open PySem L2
variable [LTabs]
section
variable {K : PySem.W.Frag} {S : Addr → Prop} {H : Hp}
theorem RdN.at_ {xs : List NKv} {ys : List D} (h : RdN K S H xs ys) (k : NestedKey) : (atKey xs k).isSome = (dvalN ys k).isSome ∧ ∀ d, dvalN ys k = some d → ∃ p v, atKey xs k = some p ∧ RelV v p.2 ∧ Rp K S H v d := by
  induction h with
  | nil => exact ⟨rfl, fun d e => by cases e⟩
  | @cons k' b u v kd d' xs ys a1 a2 a3 a4 a5 _ ih =>
    by_cases q : k' = k
    · subst q
      have e1 : atKey ((k', b, u) :: xs) k' = some (b, u) := by
        unfold atKey
        rw [List.find?_cons_of_pos (by simp)]; rfl
      have e2 : dvalN (.tup [kd, d'] :: ys) k' = some d' := by
        unfold dvalN
        rw [List.find?_cons_of_pos (by show decide (nk kd = some k') = true; rw [a1]; simp)]; rfl
      refine ⟨by rw [e1, e2]; rfl, fun d e => ?_⟩
      rw [e2] at e; cases e
      exact ⟨(b, u), v, e1, a4, a5⟩
    · have e1 : atKey ((k', b, u) :: xs) k = atKey xs k := by
        unfold atKey
        rw [List.find?_cons_of_neg (by simpa using q)]
      have e2 : dvalN (.tup [kd, d'] :: ys) k = dvalN ys k := by
        unfold dvalN
        rw [List.find?_cons_of_neg (by show ¬ decide (nk kd = some k) = true; rw [a1]; simpa using q)]
      rw [e1, e2]; exact ih
theorem RdN.any {xs : List NKv} {ys : List D} (h : RdN K S H xs ys) (k : NestedKey) : (atKey xs k).isSome = ys.any fun e => dkN e k := by
  induction h with
  | nil => rfl
  | @cons k' b u v kd d' xs ys a1 a2 a3 a4 a5 _ ih =>
    rw [List.any_cons]
    by_cases q : k' = k
    · subst q
      rw [show dkN (.tup [kd, d']) k' = true from by show decide (nk kd = some k') = true; rw [a1]; simp]
      unfold atKey
      rw [List.find?_cons_of_pos (by simp)]; rfl
    · rw [show dkN (.tup [kd, d']) k = false from by show decide (nk kd = some k) = false; rw [a1]; simpa using q]
      rw [show atKey ((k', b, u) :: xs) k = atKey xs k from by unfold atKey; rw [List.find?_cons_of_neg (by simpa using q)], ih]; rfl
theorem RdN.repl {xs : List NKv} {ys : List D} (h : RdN K S H xs ys) (k : NestedKey) {v : V} {u : Value} {d : D} (ru : RelV v u) (r : Rp K S H v d) :
    RdN K S H (xs.map (putAt k u)) (ys.map fun e => if dkN e k = true then dsetV e d else e) := by
  induction h with
  | nil => exact .nil
  | @cons k' b u' v' kd d' xs ys a1 a2 a3 a4 a5 _ ih =>
    rw [List.map_cons, List.map_cons]
    by_cases q : k' = k
    · rw [if_pos (by show decide (nk kd = some k) = true; rw [a1, q]; simp)]
      have e : putAt k u (k', b, u') = (k', b, u) := if_pos q
      rw [e]
      exact .cons a1 a2 a3 ru r ih
    · rw [if_neg (by show ¬ decide (nk kd = some k) = true; rw [a1]; simpa using q)]
      have e : putAt k u (k', b, u') = (k', b, u') := if_neg q
      rw [e]
      exact .cons a1 a2 a3 a4 a5 ih
theorem RdN.app {xs : List NKv} {ys : List D} (h : RdN K S H xs ys) {k : NestedKey} {b : Addr} {v : V} {u : Value} {kd d : D} (h1 : nk kd = some k) (h2 : k.depth ≤ 8) (h3 : Rp K S H (.ref b) kd) (ru : RelV v u) (r : Rp K S H v d) :
    RdN K S H (xs ++ [(k, b, u)]) (ys ++ [.tup [kd, d]]) := by
  induction h with
  | nil => exact .cons h1 h2 h3 ru r .nil
  | cons a1 a2 a3 a4 a5 _ ih => exact .cons a1 a2 a3 a4 a5 ih
theorem RdN.put {xs : List NKv} {ys : List D} (h : RdN K S H xs ys) {k : NestedKey} {b : Addr} {v : V} {u : Value} {kd d : D} (h1 : nk kd = some k) (h2 : k.depth ≤ 8) (h3 : Rp K S H (.ref b) kd) (ru : RelV v u) (r : Rp K S H v d) :
    RdN K S H (storedH xs k b u) (dputN ys kd k d) := by
  unfold storedH dputN
  rw [← h.any k]
  split
  · exact h.repl k ru r
  · exact h.app h1 h2 h3 ru r
end
section
variable {ρ ρ1 : Ev}
theorem RdN.flt {K : PySem.W.Frag} {S : Addr → Prop} {H : Hp} {zs : List NKv} {ys : List D} (h : RdN K S H zs ys) : ∃ vs, Flt zs vs (fl ys) ∧ Rps K S H vs (fl ys) := by
  induction h with
  | nil => exact ⟨[], .nil, .nil⟩
  | cons a1 a2 a3 a4 a5 _ ih =>
    obtain ⟨vs, f, r⟩ := ih
    exact ⟨_, .cons a1 a2 a4 f, .cons a3 (.cons a5 r)⟩
theorem Flt.rd {K : PySem.W.Frag} {S : Addr → Prop} {H : Hp} {zs : List NKv} {vs : List V} {ds : List D} (h : Flt zs vs ds) : Rps K S H vs ds → RdN K S H zs (unfl ds) := by
  induction h with
  | nil => exact fun _ => .nil
  | cons a1 a2 a4 _ ih =>
    intro r
    cases r with
    | cons r1 r =>
      cases r with
      | cons r2 r => exact .cons a1 a2 r1 a4 r2 (ih r)
end
end DL
end
section
set_option autoImplicit false
namespace DL
open PySem L2
variable [LTabs]
/-- a dict's thing is no table, no code -/
theorem nt_dic {a : Addr} {zs : List NKv} : NT (dicO a zs) := by intro _ z; cases z
theorem nc_dic {a : Addr} {zs : List NKv} : ∀ c q, dicO a zs ≠ LamX.CodeO c q := by
  intro c q e
  unfold dicO LamX.CodeO at e
  have e := HO.ext.inj e
  let oc : Obj := { cls := .type "x", data := .fields #[.none, .str q 0] }
  let h : Heap := ⟨Array.replicate (c + 1) oc, {}⟩
  have h2 : (fun h : Heap => ∃ (oc : Obj) (vs : Array Value) (t : Tok), h.get? c = some oc ∧ oc.data = .fields vs ∧ vs[1]? = some (.str q t)) h := by
    refine ⟨oc, _, 0, ?_, rfl, rfl⟩
    show (match (Array.replicate (c + 1) oc)[c]? with | some ⟨_, _, .freed, _⟩ => none | o => o) = some oc
    rw [Array.getElem?_replicate, if_pos (Nat.lt_succ_self c)]
  rw [← e] at h2
  obtain ⟨P, w, o, es, ep, h1, _, h3, _⟩ := h2
  have h1 : (match (Array.replicate (c + 1) oc)[a]? with | some ⟨_, _, .freed, _⟩ => none | o => o) = some o := h1
  rw [Array.getElem?_replicate] at h1
  by_cases ha : a < c + 1
  · rw [if_pos ha] at h1
    have : some oc = some o := h1
    cases this
    cases h3
  · rw [if_neg ha] at h1
    cases h1
/-- the dict at x has the entries xs -/
def HoldN (K : PySem.W.Frag) (S : Addr → Prop) (H : Hp) (x : Addr) (xs : List D) : Prop := ∃ zs, H x = some (dicO x zs) ∧ RdN K S H zs xs
section
variable {K : PySem.W.Frag} {S S1 S2 : Addr → Prop} {ρ ρ1 ρ2 : Ev} {σ σ1 : L2.St} {H H1 H2 : Hp} {x : Addr} {xs : List D}
theorem HoldN.mono (h : HoldN K S H x xs) (k : ∀ o, H x = some o → NT o → H1 x = some o) (ke : Ke S H S1 H1) : HoldN K S1 H1 x xs := by
  obtain ⟨zs, h1, h2⟩ := h
  exact ⟨zs, k _ h1 (by intro _ z; cases z), h2.mono ke⟩
theorem HoldN.some (h : HoldN K S H x xs) : H x ≠ none := by
  obtain ⟨zs, h1, h2⟩ := h
  rw [h1]; simp
end
end DL
end
section
set_option autoImplicit false
namespace DL
open PySem L2
variable [LTabs]
section
variable {K : PySem.W.Frag} {S S1 S2 : Addr → Prop} {ρ ρ1 ρ2 : Ev} {σ σ1 : L2.St} {H H1 H2 : Hp} {x : Addr} {xs : List D}
theorem RdN.length {zs : List NKv} {ys : List D} (h : RdN K S H zs ys) : zs.length = ys.length := by
  induction h with
  | nil => rfl
  | cons _ _ _ _ _ _ ih => rw [List.length_cons, List.length_cons, ih]
theorem boxN_rp {od : Obj} {zs : List NKv} (hs : S x) (hz : H x = some (.frz od (dicO x zs))) (r : RdN K S H zs xs) : Rp K S H (.ref x) (boxN xs) := by
  obtain ⟨vs, f, rp⟩ := r.flt
  exact .box (.dic hs hz f) rp
/-- a slot's dict is frozen -/
theorem At.frz {i : Nat} {od : Obj} {zs : List NKv} (rel : Rel K S ρ σ H) (e : ρ[i]? = some (.ls .dit xs)) (ep : σ[i]? = some (some (V.ref x))) (hx : H x = some (dicO x zs)) (nS : ¬ S x) (r : RdN K S H zs xs) :
    At K S ρ σ H (fun z => S z ∨ z = x) (ρ.set i (.fz (boxN xs))) (upd H x (.frz od (dicO x zs))) ∧ Rp K (fun z => S z ∨ z = x) (upd H x (.frz od (dicO x zs))) (.ref x) (boxN xs) := by
  have hi : i < ρ.length := (List.getElem?_eq_some_iff.mp e).1
  have na : ∀ b, S b → b ≠ x := fun b h z => nS (z ▸ h)
  have ke : Ke S H (fun z => S z ∨ z = x) (upd H x (.frz od (dicO x zs))) := ⟨fun _ h => .inl h, fun b o h e _ => by rw [upd_ne (na b h)]; exact e⟩
  have rp : Rp K (fun z => S z ∨ z = x) (upd H x (.frz od (dicO x zs))) (.ref x) (boxN xs) := boxN_rp (.inr rfl) upd_same (r.mono ke)
  have oa : Own ρ σ x := ⟨i, .dit, xs, e, ep⟩
  have own : ∀ z, Own (ρ.set i (.fz (boxN xs))) σ z → Own ρ σ z ∧ z ≠ x := fun z ⟨j, k, ys, e1, e2⟩ => by
    by_cases hj : i = j
    · subst hj
      rw [List.getElem?_set_self hi] at e1
      cases e1
    · rw [List.getElem?_set_ne hj] at e1
      exact ⟨⟨j, k, ys, e1, e2⟩, fun z => hj (rel.inj i j .dit k xs ys x e e1 ep (z ▸ e2))⟩
  refine ⟨⟨⟨fun z h => .inl h, fun z h => ?_, fun z h => .inr (own z h).1, fun b o h n nt => ?_, upd_stay, fun j k ys e1 n => ?_⟩, ⟨by rw [List.length_set]; exact rel.len, fun j s ov e1 e2 => ?_, fun j l k k' ys zs b e1 e2 e3 e4 => ?_, fun z h => ?_, rel.tb.set hx nt_dic nc_dic⟩⟩, rp⟩
  · rcases h with h | h
    · exact .inl h
    · rw [h]; exact .inr (.inr oa)
  · have hb : b ≠ x := fun z => by subst z; exact n oa
    rw [upd_ne hb]; exact h
  · have hj : i ≠ j := fun z => by rw [← z, e] at e1; cases e1; cases n
    exact ⟨ys, by rw [List.getElem?_set_ne hj]; exact e1, fun _ => rfl, fun _ => rfl⟩
  · by_cases hj : i = j
    · subst hj
      rw [List.getElem?_set_self hi] at e1
      cases e1
      rw [ep] at e2
      cases e2
      exact ⟨_, rfl, rp⟩
    · rw [List.getElem?_set_ne hj] at e1
      have w := rel.ok j s ov e1 e2
      cases s with
      | un => trivial
      | fz d => obtain ⟨w, ew, hw⟩ := w; exact ⟨w, ew, hw.mono ke⟩
      | ls k ys =>
        obtain ⟨b, eb, nb, hb⟩ := w
        subst eb
        have hb' : b ≠ x := fun z => hj (rel.inj i j .dit k xs ys x e e1 ep (z ▸ e2))
        exact ⟨b, rfl, fun z => z.elim nb hb', hold_mono hb (fun o h _ => by rw [upd_ne hb']; exact h) ke⟩
  · by_cases hj : i = j
    · subst hj
      rw [List.getElem?_set_self hi] at e1
      cases e1
    · by_cases hl : i = l
      · subst hl
        rw [List.getElem?_set_self hi] at e2
        cases e2
      · rw [List.getElem?_set_ne hj] at e1
        rw [List.getElem?_set_ne hl] at e2
        exact rel.inj j l k k' ys zs b e1 e2 e3 e4
  · by_cases hz : z = x
    · rw [hz, upd_same]; simp
    · rw [upd_ne hz]; exact rel.dom z (h.resolve_right hz)
end
end DL
end
section
set_option autoImplicit false
namespace DL
open PySem L2
end DL
end
section
set_option autoImplicit false
namespace DL
open PySem L2
def Pool (xs : List D) : Prop := ∃ s g c : Int, xs = [.int s, .int g, .int c] ∧ 0 ≤ s ∧ s < 1000000007 ∧ 0 ≤ g ∧ 0 ≤ c
structure Mk (n : Int) (ms : List Int) : Prop where
  pw : ms.Pairwise (· < ·)
  bd : ∀ m ∈ ms, 1 ≤ m ∧ m ≤ n
def cnt (ms : List Int) (x : Int) : Int := ((ms.filter (fun m => decide (m ≤ x))).length : Int)
abbrev cellB : Ss := .cons (.asg (.nm 2) (.bin .mod (.bin .add (.bin .mul (.var 2) (.cst (.int 30011))) (.var 3)) (.cst (.int 1000000007)))) .nil
def Loose (s : Sl) : Prop := s = .un ∨ ∃ d, s = .fz d
theorem cut_to (xs : List D) (j : Nat) : cut xs none (some (j : Int)) = xs.take j := by
  unfold cut
  rw [show HT.sIx xs.length xs.length (some (j : Int)) = min j xs.length from HT.sIx_nat xs.length xs.length j, HT.sIx_none, Nat.sub_zero, List.drop_zero]
  rcases Nat.le_total j xs.length with h | h
  · rw [Nat.min_eq_left h]
  · rw [Nat.min_eq_right h, List.take_of_length_le (Nat.le_refl _), List.take_of_length_le h]
theorem cut_from (xs : List D) (j : Nat) : cut xs (some (j : Int)) none = xs.drop j := by
  unfold cut
  rw [show HT.sIx xs.length 0 (some (j : Int)) = min j xs.length from HT.sIx_nat xs.length 0 j, HT.sIx_none]
  rcases Nat.le_total j xs.length with h | h
  · rw [Nat.min_eq_left h]
    exact List.take_of_length_le (by rw [List.length_drop]; omega)
  · rw [Nat.min_eq_right h, Nat.sub_self, List.drop_of_length_le h]
    rfl
theorem ints_of : ∀ ms : List Int, intsD (ms.map D.int) = some ms
  | [] => rfl
  | m :: ms => by
    show (intsD (ms.map D.int)).map (m :: ·) = _
    rw [ints_of ms]; rfl
structure At2 (x : Int) (lo hi : List Int) : Prop where
  llo : ∀ m ∈ lo, m < x
  lhi : ∀ m ∈ hi, x ≤ m
  len : lo.length + hi.length ≤ 1000
variable {x : Int} {lo hi : List Int}
theorem At2.flt (h : At2 x lo hi) : (lo ++ hi).filter (fun m => decide (m < x)) = lo := by
  rw [List.filter_append, List.filter_eq_self.mpr fun m hm => decide_eq_true (h.llo m hm), List.filter_eq_nil_iff.mpr fun m hm => by have := h.lhi m hm; simp; omega, List.append_nil]
end DL
end
section
set_option autoImplicit false
namespace DL
open PySem L2
section
variable {P : Type} {g : P → D}
theorem forL_map {step : D → M Fl} (g : P → D) (I : List P → Ev → Prop) : ∀ (ps done : List P) (ρ : Ev), I done ρ → (∀ (d : List P) (p : P) (ρ : Ev), p ∈ ps → I d ρ → ∃ ρ', (step (g p) ρ = .ok .nx ρ' ∨ step (g p) ρ = .ok .ct ρ') ∧ I (d ++ [p]) ρ') →
    ∃ ρ', forL step (ps.map g) ρ = .ok .nx ρ' ∧ I (done ++ ps) ρ'
  | [], done, ρ, h, _ => ⟨ρ, rfl, by rw [List.append_nil]; exact h⟩
  | p :: ps, done, ρ, h, hs => by
    obtain ⟨ρ1, e, h1⟩ := hs done p ρ (List.mem_cons_self ..) h
    obtain ⟨ρ2, e2, h2⟩ := forL_map g I ps (done ++ [p]) ρ1 h1 fun d q ρ hq hI => hs d q ρ (List.mem_cons_of_mem _ hq) hI
    refine ⟨ρ2, ?_, by rw [List.append_assoc] at h2; exact h2⟩
    show (step (g p) ρ).then _ = _
    rcases e with e | e <;> (rw [e]; exact e2)
theorem cmpL_map {step : D → M (Option D)} {ρ : Ev} {f : P → Option D} : ∀ (ps : List P) (acc : List D), acc.length + ps.length ≤ sizeLine → (∀ p ∈ ps, step (g p) ρ = .ok (f p) ρ) → cmpL step (ps.map g) acc ρ = .ok (acc ++ ps.filterMap f) ρ
  | [], acc, _, _ => by rw [List.filterMap_nil, List.append_nil]; rfl
  | p :: ps, acc, hl, hs => by
    rw [List.length_cons] at hl
    have e := hs p (List.mem_cons_self ..)
    show (step (g p) ρ).then _ = _
    rw [e, List.filterMap_cons]
    cases q : f p with
    | none => exact cmpL_map ps acc (by omega) fun d h => hs d (List.mem_cons_of_mem _ h)
    | some y =>
      show (if acc.length < sizeLine then cmpL step (ps.map g) (acc ++ [y]) else stuck) ρ = _
      rw [if_pos (by omega)]
      refine (cmpL_map ps (acc ++ [y]) (by rw [List.length_append, List.length_singleton]; omega) fun d h => hs d (List.mem_cons_of_mem _ h)).trans ?_
      rw [List.append_assoc]
      rfl
end
inductive Pt where
  | lv (i : Int)
  | pr (ps : List Pt) (t : Int)
mutual
def dP : Pt → D
  | .lv i => .int i
  | .pr ps t => .tup [.tup (dPs ps), .int t]
def dPs : List Pt → List D
  | [] => []
  | p :: ps => dP p :: dPs ps
end
theorem dPs_map : ∀ ps : List Pt, dPs ps = ps.map dP
  | [] => by simp [dPs]
  | p :: ps => by rw [dPs, dPs_map ps]; rfl
theorem dPs_app (ps qs : List Pt) : dPs (ps ++ qs) = dPs ps ++ dPs qs := by rw [dPs_map, dPs_map, dPs_map, List.map_append]
theorem dPs_len (ps : List Pt) : (dPs ps).length = ps.length := by rw [dPs_map, List.length_map]
/-- the size -/
def szP : Pt → Nat
  | .lv _ => 1
  | .pr ps _ => 1 + (ps.map szP).sum
def szPs (ps : List Pt) : Nat := (ps.map szP).sum
theorem szP_lv (i : Int) : szP (.lv i) = 1 := by unfold szP; rfl
theorem szP_pr (ps : List Pt) (t : Int) : szP (.pr ps t) = 1 + szPs ps := by unfold szP szPs; rfl
theorem szPs_nil : szPs [] = 0 := rfl
theorem szPs_cons (p : Pt) (ps : List Pt) : szPs (p :: ps) = szP p + szPs ps := by unfold szPs; rw [List.map_cons, List.sum_cons]
theorem szPs_app (ps qs : List Pt) : szPs (ps ++ qs) = szPs ps + szPs qs := by unfold szPs; rw [List.map_append, List.sum_append]
theorem szP_pos (p : Pt) : 1 ≤ szP p := by
  cases p with
  | lv i => rw [szP_lv]; exact Nat.le_refl _
  | pr ps t => rw [szP_pr]; omega
theorem len_sz (ps : List Pt) : ps.length ≤ szPs ps := by
  induction ps with
  | nil => exact Nat.le_refl _
  | cons p ps ih => rw [szPs_cons, List.length_cons]; have := szP_pos p; omega
/-- the depth -/
def maxN : List Nat → Nat
  | [] => 1
  | x :: xs => max x (maxN xs)
def dpP : Pt → Nat
  | .lv _ => 1
  | .pr ps _ => maxN (ps.map dpP) + 1
def dpPs (ps : List Pt) : Nat := maxN (ps.map dpP)
theorem dpP_lv (i : Int) : dpP (.lv i) = 1 := by unfold dpP; rfl
theorem dpP_pr (ps : List Pt) (t : Int) : dpP (.pr ps t) = dpPs ps + 1 := by unfold dpP dpPs; rfl
theorem dpPs_nil : dpPs [] = 1 := rfl
theorem dpPs_cons (p : Pt) (ps : List Pt) : dpPs (p :: ps) = max (dpP p) (dpPs ps) := by unfold dpPs; rw [List.map_cons]; rfl
theorem dpPs_pos (ps : List Pt) : 1 ≤ dpPs ps := by
  induction ps with
  | nil => exact Nat.le_refl _
  | cons p ps ih => rw [dpPs_cons]; omega
theorem dp_mem {p : Pt} {ps : List Pt} (h : p ∈ ps) : dpP p ≤ dpPs ps := by
  induction ps with
  | nil => cases h
  | cons q ps ih =>
    rw [dpPs_cons]
    rcases List.mem_cons.mp h with e | h
    · subst e; omega
    · have := ih h; omega
theorem dp_le {ps : List Pt} {d : Nat} (h1 : 1 ≤ d) (h : ∀ p ∈ ps, dpP p ≤ d) : dpPs ps ≤ d := by
  induction ps with
  | nil => exact h1
  | cons q ps ih =>
    rw [dpPs_cons]
    have := h q (List.mem_cons_self ..)
    have := ih fun p hp => h p (List.mem_cons_of_mem _ hp)
    omega
/-- levels from 1 to n, times from 1 to m -/
inductive OkP (n m : Int) : Pt → Prop
  | lv {i : Int} : 1 ≤ i → i ≤ n → OkP n m (.lv i)
  | pr {ps : List Pt} {t : Int} : (∀ p ∈ ps, OkP n m p) → 1 ≤ t → t ≤ m → OkP n m (.pr ps t)
abbrev OkPs (n m : Int) (ps : List Pt) : Prop := ∀ p ∈ ps, OkP n m p
theorem OkPs.app {n m : Int} {ps qs : List Pt} (h1 : OkPs n m ps) (h2 : OkPs n m qs) : OkPs n m (ps ++ qs) := fun p hp => (List.mem_append.mp hp).elim (h1 p) (h2 p)
theorem OkPs.one {n m : Int} {p : Pt} (h : OkP n m p) : OkPs n m [p] := fun q hq => by rw [List.mem_singleton] at hq; subst hq; exact h
theorem ok_sub {n m : Int} {ps : List Pt} {t : Int} (h : OkP n m (.pr ps t)) : OkPs n m ps ∧ 1 ≤ t ∧ t ≤ m := by cases h with | pr a b c => exact ⟨a, b, c⟩
theorem ok_lv {n m i : Int} (h : OkP n m (.lv i)) : 1 ≤ i ∧ i ≤ n := by cases h with | lv a b => exact ⟨a, b⟩
/-- induction over trees -/
theorem Pt.ind {Q : List Pt → Prop} (h0 : Q []) (hl : ∀ i ps, Q ps → Q (.lv i :: ps)) (hp : ∀ qs t ps, Q qs → Q ps → Q (.pr qs t :: ps)) : ∀ ps, Q ps
  | [] => h0
  | .lv i :: ps => hl i ps (Pt.ind h0 hl hp ps)
  | .pr qs t :: ps => hp qs t ps (Pt.ind h0 hl hp qs) (Pt.ind h0 hl hp ps)
end DL
namespace DL
open PySem L2
theorem maxN_app (a b : List Nat) (ha : ∀ x ∈ a, 1 ≤ x) : maxN (a ++ b) = max (maxN a) (maxN b) := by
  have one : ∀ l : List Nat, 1 ≤ maxN l := fun l => by
    induction l with
    | nil => exact Nat.le_refl _
    | cons x l ih => show 1 ≤ max x (maxN l); omega
  induction a with
  | nil => show maxN b = max 1 (maxN b); have := one b; omega
  | cons x a ih =>
    show max x (maxN (a ++ b)) = max (max x (maxN a)) (maxN b)
    rw [ih fun y hy => ha y (List.mem_cons_of_mem _ hy)]
    omega
theorem dpP_pos (p : Pt) : 1 ≤ dpP p := by
  cases p with
  | lv i => rw [dpP_lv]; exact Nat.le_refl _
  | pr ps t => rw [dpP_pr]; omega
theorem dpPs_app (ps qs : List Pt) : dpPs (ps ++ qs) = max (dpPs ps) (dpPs qs) := by
  unfold dpPs
  rw [List.map_append, maxN_app]
  intro x hx
  obtain ⟨p, _, rfl⟩ := List.mem_map.mp hx
  exact dpP_pos p
theorem dpPs_one (p : Pt) : dpPs [p] = dpP p := by rw [dpPs_cons, dpPs_nil]; have := dpP_pos p; omega
theorem szPs_one (p : Pt) : szPs [p] = szP p := by rw [szPs_cons, szPs_nil]; rfl
theorem szI (done : List Pt) (p : Pt) : ((szPs (done ++ [p]) : Nat) : Int) = (szPs done : Int) + (szP p : Int) := by rw [szPs_app, szPs_one]; rfl
theorem dpI (done : List Pt) (p : Pt) : ((dpPs (done ++ [p]) : Nat) : Int) = if (dpP p : Int) > (dpPs done : Int) then (dpP p : Int) else (dpPs done : Int) := by
  rw [dpPs_app, dpPs_one]
  split <;> omega
end DL
namespace DL
@[simp] theorem i_tupI {xs : List D} : isD (.tup xs) .int = false := rfl
@[simp] theorem i_tupB {xs : List D} : isD (.tup xs) .bool = false := rfl
@[simp] theorem i_lstI {xs : List D} : isD (.lst xs) .int = false := rfl
@[simp] theorem i_nonT : isD .non .tuple = false := rfl
@[simp] theorem i_nonI : isD .non .int = false := rfl
end DL
namespace DL
theorem forL_cons {step : D → M Fl} {x : D} {xs : List D} {ρ ρ1 : Ev} {r : Out Fl} (e : step x ρ = .ok .nx ρ1) (e2 : forL step xs ρ1 = r) : forL step (x :: xs) ρ = r := by
  show (step x ρ).then _ = _
  rw [e]
  exact e2
end DL
namespace DL
open PySem L2
theorem sz_mem {p : Pt} {ps : List Pt} (h : p ∈ ps) : szP p ≤ szPs ps := by
  induction ps with
  | nil => cases h
  | cons q ps ih =>
    rw [szPs_cons]
    rcases List.mem_cons.mp h with e | h
    · subst e; omega
    · have := ih h; omega
/-- a loop over a mapped list, with what is left -/
theorem forL_mapR {P : Type} {step : D → M Fl} (g : P → D) (I : List P → Ev → Prop) : ∀ (ps done : List P) (ρ : Ev), I done ρ → (∀ (d : List P) (p : P) (r : List P) (ρ : Ev), done ++ ps = d ++ p :: r → I d ρ → ∃ ρ', (step (g p) ρ = .ok .nx ρ' ∨ step (g p) ρ = .ok .ct ρ') ∧ I (d ++ [p]) ρ') →
    ∃ ρ', forL step (ps.map g) ρ = .ok .nx ρ' ∧ I (done ++ ps) ρ'
  | [], done, ρ, h, _ => ⟨ρ, rfl, by rw [List.append_nil]; exact h⟩
  | p :: ps, done, ρ, h, hs => by
    obtain ⟨ρ1, e, h1⟩ := hs done p ps ρ rfl h
    obtain ⟨ρ2, e2, h2⟩ := forL_mapR g I ps (done ++ [p]) ρ1 h1 fun d q r ρ hq hI => hs d q r ρ (by rw [List.append_assoc] at hq; exact hq) hI
    refine ⟨ρ2, ?_, by rw [List.append_assoc] at h2; exact h2⟩
    show (step (g p) ρ).then _ = _
    rcases e with e | e <;> (rw [e]; exact e2)
theorem mem_split {P : Type} {a d r : List P} {p : P} (h : a = d ++ p :: r) : p ∈ a := by rw [h]; exact List.mem_append_right _ (List.mem_cons_self ..)
end DL
end
section
set_option autoImplicit false
namespace DL
open PySem L2
structure Shp (h : Nat) (d : D) : Prop where
  pur : pureD d = true
  lay : (toPy d).canLay0 = true
  ht : (toPy d).depth ≤ h
structure Shps (h : Nat) (ds : List D) : Prop where
  pur : puresD ds = true
  lay : PyData.canLayAll0 (toPy.toPys ds) = true
  ht : PyData.depthAll (toPy.toPys ds) ≤ h
theorem Shp.int (i : Int) : Shp 0 (.int i) := ⟨rfl, rfl, Nat.le_refl _⟩
theorem Shp.non : Shp 0 .non := ⟨rfl, rfl, Nat.le_refl _⟩
theorem Shp.bl (b : Bool) : Shp 0 (.bl b) := ⟨rfl, rfl, Nat.le_refl _⟩
theorem Shp.mono {h g : Nat} {d : D} (s : Shp h d) (l : h ≤ g) : Shp g d := ⟨s.pur, s.lay, Nat.le_trans s.ht l⟩
theorem Shps.of {h : Nat} : ∀ {ds : List D}, (∀ d ∈ ds, Shp h d) → Shps h ds
  | [], _ => ⟨rfl, rfl, Nat.zero_le _⟩
  | d :: ds, hs => by
    have a := hs d (List.mem_cons_self ..)
    have b := Shps.of (ds := ds) fun x hx => hs x (List.mem_cons_of_mem _ hx)
    refine ⟨?_, ?_, ?_⟩
    · show (pureD d && puresD ds) = true
      rw [a.pur, b.pur]; rfl
    · show ((toPy d).canLay0 && PyData.canLayAll0 (toPy.toPys ds)) = true
      rw [a.lay, b.lay]; rfl
    · exact Nat.max_le.mpr ⟨a.ht, b.ht⟩
theorem Shp.tup {h : Nat} {ds : List D} (hs : ∀ d ∈ ds, Shp h d) : Shp (h + 1) (.tup ds) := by
  have b := Shps.of hs
  exact ⟨b.pur, b.lay, Nat.succ_le_succ b.ht⟩
theorem Shp.lst {h : Nat} {ds : List D} (hs : ∀ d ∈ ds, Shp h d) : Shp (h + 1) (.lst ds) := by
  have b := Shps.of hs
  exact ⟨b.pur, b.lay, Nat.succ_le_succ b.ht⟩
theorem Shp.ok {h : Nat} {d : D} (s : Shp h d) (hh : h ≤ 64) : shapedD d = true := by
  show (pureD d && ((toPy d).canLay0 && decide ((toPy d).depth ≤ 64))) = true
  rw [s.pur, s.lay, decide_eq_true (Nat.le_trans s.ht hh)]
  rfl
def rt : List Int → List Int → List Int
  | _, [] => []
  | [], b :: bs => b :: rt [] bs
  | a :: as, b :: bs => if a = b then rt as bs else b :: rt as bs
def gn (n : Int) : List Int → List Int → Int
  | _, [] => 0
  | [], b :: bs => (n + 1 - b) + gn n [] bs
  | a :: as, b :: bs => (a - b) + gn n as bs
end DL
end
section
set_option autoImplicit false
namespace DL
open PySem L2
/-- the greatest of f j .. f (j + d) -/
def mxO (f : Nat → Int) (j : Nat) : Nat → Int
  | 0 => f j
  | d + 1 => max (mxO f j d) (f (j + d + 1))
/-- tables as operators -/
def act (T : Nat → Nat → Int) (c : Nat → Int) (k : Nat) : Int := mxO (fun j => c j + T j k) 0 k
def prT (A B : Nat → Nat → Int) (j k : Nat) : Int := if k < j then 0 else mxO (fun m => A j m + B m k) j (k - j)
def stp (x : Nat) (c : Nat → Int) (k : Nat) : Int := if k < x then c k else max (c k) (c (x - 1) + 1)
def stps (w : List Nat) (c : Nat → Int) : Nat → Int := w.foldl (fun c x => stp x c) c
/-- the different levels of w in (j, k] -/
def dif (w : List Nat) (j k : Nat) : Nat := ((List.range (k + 1)).filter fun y => decide (j < y ∧ y ∈ w)).length
/-- what is reached in the end -/
def fin (w : List Nat) (c : Nat → Int) : Nat → Int := act (fun j k => (dif w j k : Int)) c
end DL
end
section
set_option autoImplicit false
namespace DL
open PySem L2
section
variable {Φ : Calls} {ρ ρ1 ρ2 : Ev} {s : S} {ss : Ss} {r : Out Fl} {P : Type}
theorem sq (e : exec Φ s ρ = .ok .nx ρ1) (e2 : execs Φ ss ρ1 = r) : execs Φ (.cons s ss) ρ = r := by
  show (exec Φ s ρ).then _ = _
  rw [e]; exact e2
theorem sq_rt {v : R} (e : exec Φ s ρ = .ok (.rt v) ρ1) : execs Φ (.cons s ss) ρ = .ok (.rt v) ρ1 := by
  show (exec Φ s ρ).then _ = _
  rw [e]; rfl
theorem sq_end (e : exec Φ s ρ = .ok .nx ρ1) : execs Φ (.cons s .nil) ρ = .ok .nx ρ1 := sq e rfl
theorem x_ret {e : E} {v : R} (h : ev Φ e ρ = .ok v ρ1) : exec Φ (.ret e) ρ = .ok (.rt v) ρ1 := by
  show (ev Φ e ρ).then _ = _
  rw [h]; rfl
theorem x_if {c : E} {a b : Ss} {d : D} (k : Bool) (h : ev Φ c ρ = .ok (.fz d) ρ1) (ht : truthD d = some k) (e : execs Φ (if k then a else b) ρ1 = r) : exec Φ (.ifs c a b) ρ = r := by
  show (ev Φ c ρ).then _ = _
  rw [h]
  show ((ofO (truthD d) ρ1).then _) = _
  rw [ht]
  cases k <;> exact e
theorem x_ift {c : E} {a b : Ss} (h : ev Φ c ρ = .ok (.fz (.bl true)) ρ1) (e : execs Φ a ρ1 = r) : exec Φ (.ifs c a b) ρ = r := x_if true h rfl e
theorem x_iff {c : E} {a b : Ss} (h : ev Φ c ρ = .ok (.fz (.bl false)) ρ1) (e : execs Φ b ρ1 = r) : exec Φ (.ifs c a b) ρ = r := x_if false h rfl e
/-- a name gets frozen data -/
theorem x_asgD {i : Nat} {e : E} {d : D} (h : ev Φ e ρ = .ok (.fz d) ρ1) (hw : setD i d ρ1 = .ok () (ρ1.set i (.fz d)) := by rfl) : exec Φ (.asg (.nm i) e) ρ = .ok .nx (ρ1.set i (.fz d)) := by
  show (ev Φ e ρ).then _ = _
  rw [h]
  show ((setD i d ρ1).then _) = _
  rw [hw]; rfl
/-- a name gets a fresh list -/
theorem x_asgL {i : Nat} {e : E} {xs : List D} (h : ev Φ e ρ = .ok (.fr xs) ρ1) (hw : setL i xs ρ1 = .ok () (ρ1.set i (.ls .own xs)) := by rfl) : exec Φ (.asg (.nm i) e) ρ = .ok .nx (ρ1.set i (.ls .own xs)) := by
  show (ev Φ e ρ).then _ = _
  rw [h]
  show ((setL i xs ρ1).then _) = _
  rw [hw]; rfl
theorem getL_ok {ρ ρ2 : Ev} {i : Nat} {k : Lk} {xs ys : List D} {u : Unit} (h1 : ρ[i]? = some (.ls k xs)) (hk : putL i ys ρ = .ok u ρ2) : getL i ρ = .ok xs ρ := by
  obtain ⟨k', zs, e, nk, _⟩ := putL_eq hk
  rw [h1] at e
  cases e
  unfold getL
  rw [h1]
  cases k <;> first | rfl | exact absurd nk.2 (by simp)
theorem x_app {i : Nat} {e : E} {d : D} {xs : List D} {k : Lk} (h : ev Φ e ρ = .ok (.fz d) ρ) (hl : xs.length < sizeLine) (h1 : ρ[i]? = some (.ls k xs) := by rfl) (hk : putL i (xs ++ [d]) ρ = .ok () (ρ.set i (.ls k (xs ++ [d]))) := by rfl) : exec Φ (.ex (.app i e)) ρ = .ok .nx (ρ.set i (.ls k (xs ++ [d]))) := by
  have g : getL i ρ = .ok xs ρ := getL_ok h1 hk
  show ((getL i ρ).then _).then _ = _
  rw [g]
  show ((ev Φ e ρ).then _).then _ = _
  rw [h]
  show ((getL i ρ).then _).then _ = _
  rw [g]
  show (((if xs.length < sizeLine then bnd (putL i (xs ++ [d])) fun _ => DL.ret (R.fz .non) else stuck) ρ)).then _ = _
  rw [if_pos hl]
  show ((putL i (xs ++ [d]) ρ).then _).then _ = _
  rw [hk]; rfl
theorem for_ps {t : Tg} {it : DL.It} {b : Ss} (g : P → D) (ps : List P) (st : List P → Ev) (hi : evit Φ it ρ = .ok (none, ps.map g) ρ1) (h0 : st [] = ρ1)
    (hs : ∀ done p rest, ps = done ++ p :: rest → (bnd (asgn Φ t (g p)) fun _ => execs Φ b) (st done) = .ok .nx (st (done ++ [p])) ∨ (bnd (asgn Φ t (g p)) fun _ => execs Φ b) (st done) = .ok .ct (st (done ++ [p]))) : exec Φ (.for_ t it b) ρ = .ok .nx (st ps) := by
  have key : ∀ (qs done : List P), ps = done ++ qs → forL (fun x => bnd (asgn Φ t x) fun _ => execs Φ b) (qs.map g) (st done) = .ok .nx (st ps) := fun qs => by
    induction qs with
    | nil => intro done h; rw [List.append_nil] at h; subst h; rfl
    | cons q qs ih =>
      intro done h
      show ((bnd (asgn Φ t (g q)) fun _ => execs Φ b) (st done)).then _ = _
      rcases hs done q qs h with e | e <;> (rw [e]; exact ih (done ++ [q]) (by rw [h, List.append_assoc]; rfl))
  show (evit Φ it ρ).then _ = _
  rw [hi, ← h0]
  exact key ps [] rfl
/-- the usual case: no continue -/
theorem for_nx {t : Tg} {it : DL.It} {b : Ss} (g : P → D) (ps : List P) (st : List P → Ev) (hi : evit Φ it ρ = .ok (none, ps.map g) ρ1) (h0 : st [] = ρ1)
    (hs : ∀ done p rest, ps = done ++ p :: rest → (bnd (asgn Φ t (g p)) fun _ => execs Φ b) (st done) = .ok .nx (st (done ++ [p]))) : exec Φ (.for_ t it b) ρ = .ok .nx (st ps) :=
  for_ps g ps st hi h0 fun a b c d => .inl (hs a b c d)
theorem e_comp {own : List Nat} {tg : Tg} {it : DL.It} {co : Eo} {e : E} (g : P → D) (ps : List P) (f : P → D) (hi : evit Φ it ρ = .ok (none, ps.map g) ρ) (hl : ps.length ≤ sizeLine)
    (hs : ∀ p ∈ ps, compStep Φ own tg co e (g p) ρ = .ok (some (f p)) ρ) (ho : ownOk ρ own = true := by rfl) (hw : wipeS ρ own = ρ := by rfl) (hb : backS ρ ρ own = ρ := by rfl) : ev Φ (.comp own tg it co e) ρ = .ok (.fr (ps.map f)) ρ := by
  rw [r_comp, hi]
  show ((wipeM own ρ).then _).then _ = _
  rw [show wipeM own ρ = if ownOk ρ own then .ok () (wipeS ρ own) else .stk from rfl, if_pos ho, hw]
  show (cmpL (compStep Φ own tg co e) (ps.map g) [] ρ).then _ = _
  rw [cmpL_map (f := fun p => some (f p)) ps [] (by rw [List.length_nil, Nat.zero_add]; exact hl) hs, List.nil_append, show ps.filterMap (fun p => some (f p)) = ps.map f from congrFun List.filterMap_eq_map' ps]
  show Out.ok _ (backS ρ ρ own) = _
  rw [hb]
theorem e_bi1 {b : Bi} {a : E} {v v2 : R} {d : D} (h : ev Φ a ρ = .ok v ρ1) (hv : view ρ1 v = some d) (hb : biD b [d] = some v2) : ev Φ (.bi b (.cons a .nil)) ρ = .ok v2 ρ1 := by
  rw [r_bi, r_evrs1, h]
  show (match List.mapM (view ρ1) [v] with | some ds => ofO (biD b ds) ρ1 | none => .stk) = _
  rw [r_mapM1, r_mapM0, hv]
  show ofO (biD b [d]) ρ1 = _
  rw [hb]; rfl
theorem i_rng1Z {e : E} {z : Int} {X : List D} (h : ev Φ e ρ = .ok (.fz (.int z)) ρ1) (h6 : DL.small62 z = true) (this : rngL 0 z = X) : evit Φ (.rng1 e) ρ = .ok (none, X) ρ1 := by
  simp [h, h6, this]
theorem s62N {q : Nat} (hq : q ≤ 1000000) : DL.small62 (q : Int) = true := s62 (by omega) (by omega)
theorem rng1_map (q : Nat) : rngL 0 (q : Int) = (List.range q).map fun i : Nat => D.int (i : Int) := by
  unfold rngL
  rw [show ((q : Int) - 0).toNat = q from by omega]
  refine congrArg (fun f => List.map f (List.range q)) (funext fun i => ?_)
  show D.int (0 + (i : Int)) = _
  rw [Int.zero_add]
theorem i_rng1 {e : E} {q : Nat} (h : ev Φ e ρ = .ok (.fz (.int q)) ρ1) (hq : q ≤ 1000000) : evit Φ (.rng1 e) ρ = .ok (none, (List.range q).map fun i : Nat => D.int (i : Int)) ρ1 := i_rng1Z h (s62N hq) (rng1_map q)
theorem bd {t : Tg} {b : Ss} {x : D} (h : asgn Φ t x ρ = .ok () ρ1) (e : execs Φ b ρ1 = r) : (bnd (asgn Φ t x) fun _ => execs Φ b) ρ = r := by
  show (asgn Φ t x ρ).then _ = _
  rw [h]; exact e
theorem e_nil : ev Φ (.lst .nil) ρ = .ok (.fr []) ρ := rfl
theorem x_wip {ws : List Nat} (h : dropOk ρ ws = true := by rfl) : exec Φ (.wip ws) ρ = .ok .nx (wipeS ρ ws) := by
  rw [s_wip, if_pos h]
theorem e_bin {o : Bop} {a b : E} {d d2 : D} {x y v : R} (ha : ev Φ a ρ = .ok x ρ) (hb : ev Φ b ρ = .ok y ρ) (h1 : view ρ x = some d) (h2 : view ρ y = some d2) (h : binD o d d2 = some v) : ev Φ (.bin o a b) ρ = .ok v ρ := by
  rw [r_bin, ha]
  show ((ev Φ b ρ).then _) = _
  rw [hb]
  show (((match view ρ x with | some d => Out.ok d ρ | none => .stk) : Out D).then _) = _
  rw [h1]
  show (((match view ρ y with | some d => Out.ok d ρ | none => .stk) : Out D).then _) = _
  rw [h2]
  show ofO (binD o d d2) ρ = _
  rw [h]; rfl
theorem e_idx {a b : E} {d d2 d3 : D} {x y : R} (ha : ev Φ a ρ = .ok x ρ) (hb : ev Φ b ρ = .ok y ρ) (h1 : view ρ x = some d) (h2 : view ρ y = some d2) (h : idxD d d2 = some d3) : ev Φ (.idx a b) ρ = .ok (.fz d3) ρ := by
  rw [r_idx, ha]
  show ((ev Φ b ρ).then _) = _
  rw [hb]
  show (((match view ρ x with | some d => Out.ok d ρ | none => .stk) : Out D).then _) = _
  rw [h1]
  show (((match view ρ y with | some d => Out.ok d ρ | none => .stk) : Out D).then _) = _
  rw [h2]
  show (ofO (idxD d d2) ρ).then _ = _
  rw [h]; rfl
theorem e_slc {a : E} {lo hi : Eo} {d : D} {x v : R} {l h : Option Int} (ha : ev Φ a ρ = .ok x ρ) (hl : evo Φ lo ρ = .ok l ρ) (hh : evo Φ hi ρ = .ok h ρ) (h1 : view ρ x = some d) (h2 : slcD d l h = some v) : ev Φ (.slc a lo hi) ρ = .ok v ρ := by
  rw [r_slc, ha]
  show ((evo Φ lo ρ).then _) = _
  rw [hl]
  show ((evo Φ hi ρ).then _) = _
  rw [hh]
  show (((match view ρ x with | some d => Out.ok d ρ | none => .stk) : Out D).then _) = _
  rw [h1]
  show ofO (slcD d l h) ρ = _
  rw [h2]; rfl
theorem e_call1 {f : Nat} {a : E} {d : D} {x v : R} (ha : ev Φ a ρ = .ok x ρ) (h : Φ f [.fz d] = some (v, [.fz d])) (h1 : DL.share x ρ = .ok d ρ := by rfl) : ev Φ (.call f [0] (.val a .nil) .nil) ρ = .ok v ρ := by
  have e : evas Φ (.val a .nil) ρ = .ok [.val d] ρ := by
    rw [r_evas1, ha]
    show ((DL.share x ρ).then _) = _
    rw [h1]; rfl
  rw [r_call, e]
  show callM Φ f [0] [.val d] ρ = _
  rw [c_call]
  show (match Φ f [.fz d] with | none => Out.stk | some (r, ss') => Out.ok r (putBack [.val d] ss' ρ)) = _
  rw [h]; rfl
theorem e_cmp {o : Cop} {a b : E} {d d2 : D} {x y : R} {k : Bool} (ha : ev Φ a ρ = .ok x ρ) (hb : ev Φ b ρ = .ok y ρ) (h1 : view ρ x = some d) (h2 : view ρ y = some d2) (h : cmpD o d d2 = some k) : ev Φ (.cmp o a b) ρ = .ok (.fz (.bl k)) ρ := by
  rw [r_cmp, ha]
  show ((ev Φ b ρ).then _) = _
  rw [hb]
  show (((match view ρ x with | some d => Out.ok d ρ | none => .stk) : Out D).then _) = _
  rw [h1]
  show (((match view ρ y with | some d => Out.ok d ρ | none => .stk) : Out D).then _) = _
  rw [h2]
  show (ofO (cmpD o d d2) ρ).then _ = _
  rw [h]; rfl
theorem e_bi2 {b : Bi} {a c : E} {x y v : R} {d d2 : D} (ha : ev Φ a ρ = .ok x ρ) (hc : ev Φ c ρ = .ok y ρ) (h1 : view ρ x = some d) (h2 : view ρ y = some d2) (hb : biD b [d, d2] = some v) : ev Φ (.bi b (.cons a (.cons c .nil))) ρ = .ok v ρ := by
  rw [r_bi, r_evrs1, ha]
  show ((evrs Φ (.cons c .nil) ρ).then _).then _ = _
  rw [r_evrs1, hc]
  show (match List.mapM (view ρ) [x, y] with | some ds => ofO (biD b ds) ρ | none => .stk) = _
  rw [r_mapM1, r_mapM1, r_mapM0, h1, h2]
  show ofO (biD b [d, d2]) ρ = _
  rw [hb]; rfl
theorem e_and {a b : E} {k : Bool} {v : R} (ha : ev Φ a ρ = .ok (.fz (.bl k)) ρ) (hb : k = true → ev Φ b ρ = .ok v ρ) (hf : k = false → v = .fz (.bl false)) : ev Φ (.and a b) ρ = .ok v ρ := by
  rw [r_and, ha]
  cases k with
  | true => exact hb rfl
  | false => rw [hf rfl]; rfl
theorem e_or {a b : E} {k : Bool} {v : R} (ha : ev Φ a ρ = .ok (.fz (.bl k)) ρ) (hb : k = false → ev Φ b ρ = .ok v ρ) (hf : k = true → v = .fz (.bl true)) : ev Φ (.or a b) ρ = .ok v ρ := by
  rw [r_or, ha]
  cases k with
  | false => exact hb rfl
  | true => rw [hf rfl]; rfl
theorem e_not {a : E} {d : D} {x : R} {k : Bool} (ha : ev Φ a ρ = .ok x ρ) (h1 : view ρ x = some d) (ht : truthD d = some k) : ev Φ (.not a) ρ = .ok (.fz (.bl (!k))) ρ := by
  rw [r_not, ha]
  show (((match view ρ x with | some d => Out.ok d ρ | none => .stk) : Out D).then _) = _
  rw [h1]
  show (ofO (truthD d) ρ).then _ = _
  rw [ht]; rfl
theorem e_ite {t a b : E} {d : D} {x v : R} (k : Bool) (ha : ev Φ t ρ = .ok x ρ) (h1 : view ρ x = some d) (ht : truthD d = some k) (h : ev Φ (if k then a else b) ρ = .ok v ρ) : ev Φ (.ite t a b) ρ = .ok v ρ := by
  rw [r_ite, ha]
  show (((match view ρ x with | some d => Out.ok d ρ | none => .stk) : Out D).then _) = _
  rw [h1]
  show (ofO (truthD d) ρ).then _ = _
  rw [ht]
  cases k <;> exact h
/-- what is walked: frozen, or a fresh list -/
theorem i_val {e : E} {x : R} {d : D} {xs : List D} (h : ev Φ e ρ = .ok x ρ1) (h1 : view ρ1 x = some d) (h2 : itemsD d = some xs) (h3 : lockOf ρ1 x = none := by rfl) : evit Φ (.val e) ρ = .ok (none, xs) ρ1 := by
  show (ev Φ e ρ).then _ = _
  rw [h]
  show (((match view ρ1 x with | some d => Out.ok d ρ1 | none => .stk) : Out D).then _) = _
  rw [h1]
  show (ofO (itemsD d) ρ1).then _ = _
  rw [h2]
  show Out.ok (lockOf ρ1 x, xs) ρ1 = _
  rw [h3]
end
theorem at_getN {α : Type} {l : List α} {i : Nat} {x : α} (e : l[i]? = some x) : L2.atI l (i : Int) = some x := by
  obtain ⟨hl, _⟩ := List.getElem?_eq_some_iff.mp e
  unfold L2.atI L2.ixN
  rw [if_pos (by omega), if_pos (by omega)]
  show l[(i : Int).toNat]? = _
  rw [Int.toNat_natCast, e]
end DL
end
section
set_option autoImplicit false
namespace DL
open PySem L2
mutual
/-- no truths, no instances -/
def plain : D → Bool
  | .non => true
  | .int _ => true
  | .str _ => true
  | .tup xs => plains xs
  | .lst xs => plains xs
  | _ => false
def plains : List D → Bool
  | [] => true
  | x :: xs => plain x && plains xs
end
theorem plains_of : ∀ {xs : List D}, (∀ x ∈ xs, plain x = true) → plains xs = true
  | [], _ => rfl
  | x :: xs, h => by
    show (plain x && plains xs) = true
    rw [h x (List.mem_cons_self ..), plains_of fun y hy => h y (List.mem_cons_of_mem _ hy)]
    rfl
mutual
theorem eqv_iff : ∀ (x y : D), plain x = true → plain y = true → ((toPy x).eqv (toPy y) = true ↔ x = y)
  | .non, y, _, hy => by
    cases y with
    | non => exact ⟨fun _ => rfl, fun _ => rfl⟩
    | bl b => cases hy
    | scr b => cases hy
    | obj b _ => cases hy
    | box _ _ _ => cases hy
    | emp => cases hy
    | _ => exact ⟨(by intro h; cases h), (by intro h; cases h)⟩
  | .int i, y, _, hy => by
    cases y with
    | int j =>
      show (i == j) = true ↔ _
      rw [beq_iff_eq]
      exact ⟨fun h => (by rw [h]), fun h => (by cases h; rfl)⟩
    | bl b => cases hy
    | scr b => cases hy
    | obj b _ => cases hy
    | box _ _ _ => cases hy
    | emp => cases hy
    | _ => exact ⟨(by intro h; cases h), (by intro h; cases h)⟩
  | .str i, y, _, hy => by
    cases y with
    | str j =>
      show (i == j) = true ↔ _
      rw [beq_iff_eq]
      exact ⟨fun h => (by rw [h]), fun h => (by cases h; rfl)⟩
    | bl b => cases hy
    | scr b => cases hy
    | obj b _ => cases hy
    | box _ _ _ => cases hy
    | emp => cases hy
    | _ => exact ⟨(by intro h; cases h), (by intro h; cases h)⟩
  | .tup xs, y, hx, hy => by
    cases y with
    | tup ys =>
      show PyData.eqvAll (toPy.toPys xs) (toPy.toPys ys) = true ↔ _
      rw [eqvs_iff xs ys hx hy]
      exact ⟨fun h => (by rw [h]), fun h => (by cases h; rfl)⟩
    | bl b => cases hy
    | scr b => cases hy
    | obj b _ => cases hy
    | box _ _ _ => cases hy
    | emp => cases hy
    | _ => exact ⟨(by intro h; cases h), (by intro h; cases h)⟩
  | .lst xs, y, hx, hy => by
    cases y with
    | lst ys =>
      show PyData.eqvAll (toPy.toPys xs) (toPy.toPys ys) = true ↔ _
      rw [eqvs_iff xs ys hx hy]
      exact ⟨fun h => (by rw [h]), fun h => (by cases h; rfl)⟩
    | bl b => cases hy
    | scr b => cases hy
    | obj b _ => cases hy
    | box _ _ _ => cases hy
    | emp => cases hy
    | _ => exact ⟨(by intro h; cases h), (by intro h; cases h)⟩
  | .bl _, _, hx, _ => by cases hx
  | .scr _, _, hx, _ => by cases hx
  | .obj _ _, _, hx, _ => by cases hx
  | .box _ _ _, _, hx, _ => by cases hx
  | .emp _, _, hx, _ => by cases hx
theorem eqvs_iff : ∀ (xs ys : List D), plains xs = true → plains ys = true → (PyData.eqvAll (toPy.toPys xs) (toPy.toPys ys) = true ↔ xs = ys)
  | [], [], _, _ => ⟨fun _ => rfl, fun _ => rfl⟩
  | [], _ :: _, _, _ => ⟨(by intro h; cases h), (by intro h; cases h)⟩
  | _ :: _, [], _, _ => ⟨(by intro h; cases h), (by intro h; cases h)⟩
  | x :: xs, y :: ys, hx, hy => by
    obtain ⟨a, b⟩ := Bool.and_eq_true _ _ |>.mp (show (plain x && plains xs) = true from hx)
    obtain ⟨c, d⟩ := Bool.and_eq_true _ _ |>.mp (show (plain y && plains ys) = true from hy)
    show ((toPy x).eqv (toPy y) && PyData.eqvAll (toPy.toPys xs) (toPy.toPys ys)) = true ↔ _
    rw [Bool.and_eq_true, eqv_iff x y a c, eqvs_iff xs ys b d, List.cons.injEq]
end
/-- plain and not too deep -/
structure Pl (h : Nat) (d : D) : Prop where
  pl : plain d = true
  sh : Shp h d
theorem Pl.int (i : Int) : Pl 0 (.int i) := ⟨rfl, .int i⟩
theorem Pl.non : Pl 0 .non := ⟨rfl, .non⟩
theorem Pl.mono {h g : Nat} {d : D} (s : Pl h d) (l : h ≤ g) : Pl g d := ⟨s.pl, s.sh.mono l⟩
theorem Pl.tup {h : Nat} {ds : List D} (hs : ∀ d ∈ ds, Pl h d) : Pl (h + 1) (.tup ds) := ⟨plains_of fun d hd => (hs d hd).pl, .tup fun d hd => (hs d hd).sh⟩
theorem Pl.lst {h : Nat} {ds : List D} (hs : ∀ d ∈ ds, Pl h d) : Pl (h + 1) (.lst ds) := ⟨plains_of fun d hd => (hs d hd).pl, .lst fun d hd => (hs d hd).sh⟩
theorem cmp_eqv {x y : D} (hx : shapedD x = true) (hy : shapedD y = true) : cmpD .eq x y = some ((toPy x).eqv (toPy y)) := by
  have e : (if shapedD x && shapedD y then some ((toPy x).eqv (toPy y)) else if lenNe x y then some false else none) = some ((toPy x).eqv (toPy y)) := by rw [hx, hy]; rfl
  have s : ∀ a b : Str, decide (a = b) = (a == b) := fun a b => by rw [Bool.eq_iff_iff, beq_iff_eq, decide_eq_true_iff]
  have i : ∀ a b : Int, decide (a = b) = (a == b) := fun a b => by rw [Bool.eq_iff_iff, beq_iff_eq, decide_eq_true_iff]
  cases x with
  | int a => cases y with
    | int b => exact congrArg some (i a b)
    | _ => exact e
  | str a => cases y with
    | str b => exact congrArg some (s a b)
    | _ => exact e
  | _ => exact e
theorem cmp_neqv {x y : D} (hx : shapedD x = true) (hy : shapedD y = true) : cmpD .ne x y = some (!(toPy x).eqv (toPy y)) := by
  have e : (if shapedD x && shapedD y then some (!(toPy x).eqv (toPy y)) else none) = some (!(toPy x).eqv (toPy y)) := by rw [hx, hy]; rfl
  have s : ∀ a b : Str, decide (a = b) = (a == b) := fun a b => by rw [Bool.eq_iff_iff, beq_iff_eq, decide_eq_true_iff]
  have i : ∀ a b : Int, decide (a = b) = (a == b) := fun a b => by rw [Bool.eq_iff_iff, beq_iff_eq, decide_eq_true_iff]
  cases x with
  | int a => cases y with
    | int b => exact congrArg (fun z => some (!z)) (i a b)
    | _ => exact e
  | str a => cases y with
    | str b => exact congrArg (fun z => some (!z)) (s a b)
    | _ => exact e
  | _ => exact e
theorem cmp_eq {h : Nat} {x y : D} (hx : Pl h x) (hy : Pl h y) (hh : h ≤ 64) : ∃ k, cmpD .eq x y = some k ∧ (k = true ↔ x = y) :=
  ⟨_, cmp_eqv (hx.sh.ok hh) (hy.sh.ok hh), eqv_iff x y hx.pl hy.pl⟩
def Eq2 (n : Nat) (A B : Nat → Nat → Int) : Prop := ∀ j k, j ≤ n → k ≤ n → A j k = B j k
theorem Eq2.refl (n : Nat) (A : Nat → Nat → Int) : Eq2 n A A := fun _ _ _ _ => rfl
theorem Eq2.symm {n : Nat} {A B : Nat → Nat → Int} (h : Eq2 n A B) : Eq2 n B A := fun j k a b => (h j k a b).symm
theorem Eq2.trans {n : Nat} {A B C : Nat → Nat → Int} (h : Eq2 n A B) (g : Eq2 n B C) : Eq2 n A C := fun j k a b => (h j k a b).trans (g j k a b)
end DL
end
section
set_option autoImplicit false
namespace DL
open PySem L2
end DL
end
section
set_option autoImplicit false
namespace DL
open PySem L2
structure Rq (w h : Nat) (d : D) : Prop where
  pur : pureR d = true
  show_ : (toPy d).showable = true
  short : (toPy d).leavesShort 32 = true
  ht : (toPy d).depth ≤ h
  wt : (toPy d).weight ≤ w
structure Rqs (w h : Nat) (ds : List D) : Prop where
  pur : puresR ds = true
  show_ : PyData.showableAll (toPy.toPys ds) = true
  short : PyData.leavesShortAll 32 (toPy.toPys ds) = true
  ht : PyData.depthAll (toPy.toPys ds) ≤ h
  wt : PyData.weightAll (toPy.toPys ds) ≤ w
theorem Rq.mono {w h w' h' : Nat} {d : D} (s : Rq w h d) (h1 : w ≤ w') (h2 : h ≤ h') : Rq w' h' d := ⟨s.pur, s.show_, s.short, Nat.le_trans s.ht h2, Nat.le_trans s.wt h1⟩
theorem Rqs.mono {w h w' h' : Nat} {d : List D} (s : Rqs w h d) (h1 : w ≤ w') (h2 : h ≤ h') : Rqs w' h' d := ⟨s.pur, s.show_, s.short, Nat.le_trans s.ht h2, Nat.le_trans s.wt h1⟩
theorem Rq.non : Rq 0 0 .non := ⟨rfl, rfl, rfl, Nat.le_refl _, Nat.le_refl _⟩
theorem Rq.bl (b : Bool) : Rq 0 0 (.bl b) := ⟨rfl, rfl, rfl, Nat.le_refl _, Nat.le_refl _⟩
theorem Rq.emp : Rq 0 1 (.emp []) := ⟨rfl, rfl, rfl, Nat.le_refl _, Nat.le_refl _⟩
theorem log2_31 {n : Nat} (h : n < 10 ^ 31) : n.log2 < 104 := by
  by_cases z : n = 0
  · subst z; decide
  · exact (Nat.log2_lt z).mpr (Nat.lt_of_lt_of_le h (by decide +kernel))
theorem Rq.int {i : Int} (h1 : -(10 ^ 31) < i) (h2 : i < 10 ^ 31) : Rq 104 0 (.int i) := by
  have h : i.natAbs < 10 ^ 31 := by omega
  have l := log2_31 h
  refine ⟨rfl, decide_eq_true (by omega), decide_eq_true ?_, Nat.le_refl _, ?_⟩
  · show (Str.ofString (toString i)).length ≤ 32
    rw [ofString_length]
    exact int_text_length_le10 (by decide) h
  · show (if (i == 0) = true then 0 else i.natAbs.log2 + 1) ≤ 104
    split <;> omega
theorem Rq.str {x : Str} (h : x.cps.toList.all (fun c => decide (c < 0x110000)) = true) : Rq x.length 0 (.str x) := by
  refine ⟨rfl, rfl, ?_, Nat.le_refl _, Nat.le_refl _⟩
  show (x.cps.toList.all fun c => decide (c < 16 ^ 8)) = true
  rw [List.all_eq_true] at h ⊢
  intro c hc
  have := of_decide_eq_true (h c hc)
  exact decide_eq_true (by omega)
theorem Rqs.nil (h : Nat) : Rqs 0 h [] := ⟨rfl, rfl, rfl, Nat.zero_le _, Nat.zero_le _⟩
theorem Rqs.cons {w v h : Nat} {d : D} {ds : List D} (a : Rq w h d) (b : Rqs v h ds) : Rqs (w + 1 + v) h (d :: ds) := by
  refine ⟨?_, ?_, ?_, ?_, ?_⟩
  · show (pureR d && puresR ds) = true
    rw [a.pur, b.pur]; rfl
  · show ((toPy d).showable && PyData.showableAll (toPy.toPys ds)) = true
    rw [a.show_, b.show_]; rfl
  · show ((toPy d).leavesShort 32 && PyData.leavesShortAll 32 (toPy.toPys ds)) = true
    rw [a.short, b.short]; rfl
  · exact Nat.max_le.mpr ⟨a.ht, b.ht⟩
  · show (toPy d).weight + 1 + PyData.weightAll (toPy.toPys ds) ≤ _
    have := a.wt
    have := b.wt
    omega
theorem Rqs.tup {w h : Nat} {ds : List D} (b : Rqs w h ds) : Rq w (h + 1) (.tup ds) := ⟨b.pur, b.show_, b.short, Nat.succ_le_succ b.ht, b.wt⟩
theorem Rqs.lst {w h : Nat} {ds : List D} (b : Rqs w h ds) : Rq w (h + 1) (.lst ds) := ⟨b.pur, b.show_, b.short, Nat.succ_le_succ b.ht, b.wt⟩
theorem Rqs.of {w h : Nat} : ∀ {ds : List D}, (∀ d ∈ ds, Rq w h d) → Rqs (ds.length * (w + 1)) h ds
  | [], _ => (Rqs.nil h).mono (Nat.zero_le _) (Nat.le_refl _)
  | d :: ds, hs => (Rqs.cons (hs d (List.mem_cons_self ..)) (Rqs.of fun x hx => hs x (List.mem_cons_of_mem _ hx))).mono (by rw [List.length_cons, Nat.succ_mul]; omega) (Nat.le_refl _)
theorem Rq.tup {w h n : Nat} {ds : List D} (hn : ds.length ≤ n) (hs : ∀ d ∈ ds, Rq w h d) : Rq (n * (w + 1)) (h + 1) (.tup ds) := ((Rqs.of hs).mono (Nat.mul_le_mul_right _ hn) (Nat.le_refl _)).tup
theorem Rq.lst {w h n : Nat} {ds : List D} (hn : ds.length ≤ n) (hs : ∀ d ∈ ds, Rq w h d) : Rq (n * (w + 1)) (h + 1) (.lst ds) := ((Rqs.of hs).mono (Nat.mul_le_mul_right _ hn) (Nat.le_refl _)).lst
theorem rp_ok {w h : Nat} {d : D} (s : Rq w h d) (hw : w ≤ 400000) (hh : h ≤ 64) : biD .repr [d] = some (.fz (.str (toPy d).shown)) := by
  have l : (toPy d).shown.length ≤ sizeLine := by
    have h1 := PyData.shown_le 32 (by decide) (toPy d) s.short
    have h2 : (32 + 2) * (toPy d).weight ≤ 34 * 400000 := Nat.mul_le_mul (by omega) (Nat.le_trans s.wt hw)
    rw [sizeLine_eq]; omega
  show (if _ then _ else _) = _
  rw [if_pos]
  rw [s.pur, s.show_, decide_eq_true (Nat.le_trans s.ht hh), decide_eq_true l]
  rfl
theorem rq_small {i : Int} (h1 : -1000000 ≤ i) (h2 : i ≤ 1000000) : Rq 104 0 (.int i) := Rq.int (by omega) (by omega)
theorem rq_pts {n M : Int} (hn : n ≤ 12) (hM : M ≤ 1000000000000000000000000000000) : ∀ ps : List Pt, OkPs n M ps → Rqs (240 * szPs ps) (2 * dpPs ps) (dPs ps) := by
  refine Pt.ind (fun _ => Rqs.nil _) (fun i ps ih ok => ?_) (fun qs t ps ih1 ih2 ok => ?_)
  · obtain ⟨a, b⟩ := ok_lv (ok _ (List.mem_cons_self ..))
    have i1 := ih fun p hp => ok p (List.mem_cons_of_mem _ hp)
    have i2 : Rq 104 (2 * dpPs (.lv i :: ps)) (.int i) := (rq_small (by omega) (by omega)).mono (Nat.le_refl _) (Nat.zero_le _)
    exact (Rqs.cons i2 (i1.mono (Nat.le_refl _) (by rw [dpPs_cons]; omega))).mono (by rw [szPs_cons, szP_lv]; omega) (Nat.le_refl _)
  · obtain ⟨o1, t1, t2⟩ := ok_sub (ok _ (List.mem_cons_self ..))
    have i1 := ih1 o1
    have i2 := ih2 fun p hp => ok p (List.mem_cons_of_mem _ hp)
    have i3 : Rq 104 (2 * dpPs qs + 1) (.int t) := (Rq.int (by omega) (by omega)).mono (Nat.le_refl _) (Nat.zero_le _)
    have i4 := (Rqs.cons i1.tup (Rqs.cons i3 (Rqs.nil _))).tup
    exact (Rqs.cons (i4.mono (Nat.le_refl _) (by rw [dpPs_cons, dpP_pr]; omega)) (i2.mono (Nat.le_refl _) (by rw [dpPs_cons]; omega))).mono (by rw [szPs_cons, szP_pr]; omega) (Nat.le_refl _)
theorem rq_parts {n M : Int} (hn : n ≤ 12) (hM : M ≤ 1000000000000000000000000000000) {ps : List Pt} (ok : OkPs n M ps) : Rq (240 * szPs ps) (2 * dpPs ps + 1) (.tup (dPs ps)) := (rq_pts hn hM ps ok).tup
end DL
end
section
set_option autoImplicit false
namespace DL
open PySem L2
def lawN (q N : Nat) : Nat := max 2 (min q N)
theorem lawN_max {q N : Nat} : biD .max2 [.int 2, .int ((min q N : Nat) : Int)] = some (.fz (.int (lawN q N : Nat))) := by
  refine congrArg (fun z => some (R.fz (D.int z))) ?_
  unfold lawN
  show (if ((min q N : Nat) : Int) > 2 then ((min q N : Nat) : Int) else 2) = _
  split <;> omega
theorem lawN_min {q N : Nat} : biD .min2 [.int (q : Nat), .int (N : Nat)] = some (.fz (.int ((min q N : Nat) : Int))) := by
  refine congrArg (fun z => some (R.fz (D.int z))) ?_
  show (if (N : Int) < (q : Int) then (N : Int) else (q : Int)) = _
  split <;> omega
theorem boolsD_rep {P : Type} (l : List P) : boolsD (l.map fun _ => D.bl true) = some (l.map fun _ => true) := by
  have := boolsD_map (l.map fun _ => true)
  rw [List.map_map] at this
  exact this
theorem all_true {P : Type} (l : List P) : biD .all [.lst (l.map fun _ => D.bl true)] = some (.fz (.bl true)) := by
  rw [b_all, boolsD_rep]
  show some (R.fz (D.bl ((l.map fun _ => true).all id))) = _
  congr 3
  simp
end DL
end
section
set_option autoImplicit false
namespace DL
open PySem L2
end DL
end
section
set_option autoImplicit false
namespace DL
open PySem L2
/-- the length in the band (b, k] -/
def lis (w : List Nat) (b k : Nat) : Int := stps (w.filter fun x => decide (b < x)) (fun _ => 0) k
theorem whl_inv {test : M Bool} {body : M Fl} (I : Nat → Ev → Prop) (J : Ev → Prop) (hs : ∀ m ρ, I m ρ → (∃ ρ1, test ρ = .ok false ρ1 ∧ J ρ1) ∨ (∃ ρ1 ρ2 m', test ρ = .ok true ρ1 ∧ (body ρ1 = .ok .nx ρ2 ∨ body ρ1 = .ok .ct ρ2) ∧ m' < m ∧ I m' ρ2)) :
    ∀ (n m : Nat) (ρ : Ev), m < n → I m ρ → ∃ ρ', whileN test body n ρ = .ok .nx ρ' ∧ J ρ'
  | 0, m, ρ, h, _ => absurd h (Nat.not_lt_zero _)
  | n + 1, m, ρ, h, hI => by
    rcases hs m ρ hI with ⟨ρ1, e, hj⟩ | ⟨ρ1, ρ2, m', e, eb, hm, hI2⟩
    · refine ⟨ρ1, ?_, hj⟩
      show (test ρ).then _ = _
      rw [e]; rfl
    · obtain ⟨ρ', e2, hj⟩ := whl_inv I J hs n m' ρ2 (by omega) hI2
      refine ⟨ρ', ?_, hj⟩
      show (test ρ).then _ = _
      rw [e]
      show (body ρ1).then _ = _
      rcases eb with eb | eb <;> (rw [eb]; exact e2)
end DL
end
section
set_option autoImplicit false
namespace DL
open PySem L2
section
variable {Φ : Calls} {ρ ρ1 : Ev}
theorem x_par {i j : Nat} {a b : E} {x y : R} {ρ2 ρ3 : Ev} (ha : ev Φ a ρ = .ok x ρ1) (hb : ev Φ b ρ1 = .ok y ρ2) (h1 : setR i x ρ2 = .ok () ρ3) {ρ4 : Ev} (h2 : setR j y ρ3 = .ok () ρ4) (hx : unref x ρ2 = .ok x ρ2 := by rfl) (hy : unref y ρ2 = .ok y ρ2 := by rfl) : exec Φ (.par i j a b) ρ = .ok .nx ρ4 := by
  show (ev Φ a ρ).then _ = _
  rw [ha]
  show (ev Φ b ρ1).then _ = _
  rw [hb]
  show (unref x ρ2).then _ = _
  rw [hx]
  show (unref y ρ2).then _ = _
  rw [hy]
  show (setR i x ρ2).then _ = _
  rw [h1]
  show (setR j y ρ3).then _ = _
  rw [h2]; rfl
end
theorem addT {xs ys : List D} (h : xs.length + ys.length ≤ 1000000) : binD .add (.tup xs) (.tup ys) = some (.fz (.tup (xs ++ ys))) := by
  rw [d_addT, if_pos (by show _ ≤ 16777216; omega)]
end DL
end
section
set_option autoImplicit false
namespace DL
open PySem L2
section
variable {Φ : Calls} {ρ ρ1 ρ2 : Ev}
/-- a draw: the pool in slot i -/
theorem e_draw {f i : Nat} {e : E} {d : D} {x v : R} {xs ys : List D} (he : ev Φ e ρ = .ok x ρ) (h : Φ f [.ls .bor xs, .fz d] = some (v, [.ls .bor ys, .fz d])) (h0 : ρ[i]? = some (.ls .bor xs) := by rfl) (hx : DL.share x ρ = .ok d ρ := by rfl) : ev Φ (.call f [0, 1] (.ref (.var i) (.val e .nil)) .nil) ρ = .ok v (ρ.set i (.ls .bor ys)) := by
  have hv : ev Φ (.var i) ρ = .ok (.rf i) ρ := by rw [r_var, h0]
  have e1 : evas Φ (.ref (.var i) (.val e .nil)) ρ = .ok [.rf i, .val d] ρ := by
    rw [r_evas2, hv]
    show (evas Φ (.val e .nil) ρ).then _ = _
    rw [r_evas1, he]
    show ((DL.share x ρ).then _).then _ = _
    rw [hx]; rfl
  rw [r_call, e1]
  show callM Φ f [0, 1] [.rf i, .val d] ρ = _
  rw [c_call]
  have hs : slotsOf ρ [.rf i, .val d] = some [.ls .bor xs, .fz d] := by
    show (match slotOf ρ (.rf i), slotsOf ρ [.val d] with | some s, some ss => some (s :: ss) | _, _ => none) = _
    rw [show slotOf ρ (.rf i) = some (.ls .bor xs) from by rw [so_4, h0]]
    rfl
  have hd : (refs [A.rf i, A.val d]).Nodup ∧ frs [A.rf i, A.val d] ≤ 1 := ⟨by show [i].Nodup; simp, Nat.zero_le _⟩
  show (if (refs [A.rf i, A.val d]).Nodup ∧ frs [A.rf i, A.val d] ≤ 1 then match slotsOf ρ [.rf i, .val d] with | none => Out.stk | some ss => match Φ f ss with | none => .stk | some (r, ss') => .ok r (putBack [.rf i, .val d] ss' ρ) else .stk) = _
  rw [if_pos hd, hs]
  show (match Φ f [.ls .bor xs, .fz d] with | none => Out.stk | some (r, ss') => .ok r (putBack [.rf i, .val d] ss' ρ)) = _
  rw [h]
  show Out.ok v (putBack [.val d] [.fz d] (match ρ[i]? with | some (.ls k _) => ρ.set i (.ls k ys) | _ => ρ)) = _
  rw [h0]; rfl
theorem e_binS {o : Bop} {a b : E} {d d2 : D} {x y v : R} (ha : ev Φ a ρ = .ok x ρ1) (hb : ev Φ b ρ1 = .ok y ρ2) (h1 : view ρ2 x = some d) (h2 : view ρ2 y = some d2) (h : binD o d d2 = some v) : ev Φ (.bin o a b) ρ = .ok v ρ2 := by
  rw [r_bin, ha]
  show ((ev Φ b ρ1).then _) = _
  rw [hb]
  show (((match view ρ2 x with | some d => Out.ok d ρ2 | none => .stk) : Out D).then _) = _
  rw [h1]
  show (((match view ρ2 y with | some d => Out.ok d ρ2 | none => .stk) : Out D).then _) = _
  rw [h2]
  show ofO (binD o d d2) ρ2 = _
  rw [h]; rfl
theorem es_cons {e : E} {es : Es} {x : R} {d : D} {ds : List D} (h : ev Φ e ρ = .ok x ρ1) {ρ3 : Ev} (h2 : evs Φ es ρ2 = .ok ds ρ3) (hs : DL.share x ρ1 = .ok d ρ2 := by rfl) : evs Φ (.cons e es) ρ = .ok (d :: ds) ρ3 := by
  rw [r_evs1, h]
  show ((DL.share x ρ1).then _) = _
  rw [hs]
  show (evs Φ es ρ2).then _ = _
  rw [h2]; rfl
theorem es_nil : evs Φ .nil ρ = .ok [] ρ := rfl
theorem e_tup {es : Es} {ds : List D} (h : evs Φ es ρ = .ok ds ρ1) (hl : ds.length ≤ sizeLine := by exact Nat.le_of_ble_eq_true rfl) : ev Φ (.tup es) ρ = .ok (.fz (.tup ds)) ρ1 := by
  rw [r_tup, h]
  show (if ds.length ≤ sizeLine then DL.ret (R.fz (.tup ds)) else stuck) ρ1 = _
  rw [if_pos hl]; rfl
theorem e_lst {es : Es} {ds : List D} (h : evs Φ es ρ = .ok ds ρ1) (hl : ds.length ≤ sizeLine := by exact Nat.le_of_ble_eq_true rfl) : ev Φ (.lst es) ρ = .ok (.fr ds) ρ1 := by
  rw [r_lst, h]
  show (if ds.length ≤ sizeLine then DL.ret (R.fr ds) else stuck) ρ1 = _
  rw [if_pos hl]; rfl
end
theorem pl_pts : ∀ ps : List Pt, ∀ d ∈ dPs ps, Pl (2 * dpPs ps) d := by
  refine Pt.ind (fun d z => nomatch z) (fun i ps ih d hd => ?_) (fun qs t ps ih1 ih2 d hd => ?_)
  · rcases List.mem_cons.mp hd with e | e
    · subst e; exact (Pl.int i).mono (Nat.zero_le _)
    · exact (ih d e).mono (by rw [dpPs_cons]; omega)
  · rcases List.mem_cons.mp hd with e | e
    · subst e
      refine (Pl.tup (h := 2 * dpPs qs + 1) fun x hx => ?_).mono (by rw [dpPs_cons, dpP_pr]; omega)
      rcases List.mem_cons.mp hx with e | e
      · subst e; exact Pl.tup (ih1)
      · rw [List.mem_singleton] at e; subst e; exact (Pl.int t).mono (Nat.zero_le _)
    · exact (ih2 d e).mono (by rw [dpPs_cons]; omega)
theorem pl_parts (ps : List Pt) : Pl (2 * dpPs ps + 1) (.tup (dPs ps)) := Pl.tup (pl_pts ps)
section
variable {Φ : Calls} {ρ ρ1 : Ev} {P : Type}
theorem i_lk {i : Nat} {k : Lk} {xs : List D} (h : ρ[i]? = some (.ls k xs)) (nk : k.isL = true := by rfl) : evit Φ (.val (.var i)) ρ = .ok (some (i, k), xs) ρ := by
  have hv : ev Φ (.var i) ρ = .ok (.rf i) ρ := by rw [r_var, h]; cases k <;> first | rfl | (cases nk; done)
  show (ev Φ (.var i) ρ).then _ = _
  rw [hv]
  show (vw (.rf i) ρ).then _ = _
  rw [r_vwi, h]
  have hl : lockOf ρ (.rf i) = some (i, k) := by rw [k_rf, h]; cases k <;> first | rfl | (cases nk; done)
  cases k with
  | dic => cases nk
  | dit => cases nk
  | ins c => cases nk
  | inb c => cases nk
  | own => show Out.ok (lockOf ρ (.rf i), xs) ρ = _; rw [hl]
  | bor => show Out.ok (lockOf ρ (.rf i), xs) ρ = _; rw [hl]
  | lck => show Out.ok (lockOf ρ (.rf i), xs) ρ = _; rw [hl]
/-- a loop over an own list, which is locked meanwhile -/
theorem for_nxK {t : Tg} {b : Ss} {i : Nat} {k : Lk} {ρ2 : Ev} (g : P → D) (ps : List P) (st : List P → Ev)
    (hs : ∀ done p rest, ps = done ++ p :: rest → (bnd (asgn Φ t (g p)) fun _ => execs Φ b) (st done) = .ok .nx (st (done ++ [p]))) (h0 : ρ[i]? = some (.ls k (ps.map g)) := by rfl) (hst : st [] = ρ.set i (.ls .lck (ps.map g)) := by rfl) (hL : (st ps)[i]? = some (.ls .lck (ps.map g)) := by rfl) (h2 : (st ps).set i (.ls k (ps.map g)) = ρ2 := by rfl) (nk : k.isL = true := by rfl) : exec Φ (.for_ t (.val (.var i)) b) ρ = .ok .nx ρ2 := by
  have key : ∀ (qs done : List P), ps = done ++ qs → forL (fun x => bnd (asgn Φ t x) fun _ => execs Φ b) (qs.map g) (st done) = .ok .nx (st ps) := fun qs => by
    induction qs with
    | nil => intro done h; rw [List.append_nil] at h; subst h; rfl
    | cons q qs ih =>
      intro done h
      show ((bnd (asgn Φ t (g q)) fun _ => execs Φ b) (st done)).then _ = _
      rw [hs done q qs h]
      exact ih (done ++ [q]) (by rw [h, List.append_assoc]; rfl)
  show (evit Φ (.val (.var i)) ρ).then _ = _
  rw [i_lk h0 nk]
  show withLock (some (i, k)) (forL (fun x => bnd (asgn Φ t x) fun _ => execs Φ b) (ps.map g)) ρ = _
  rw [w_some, h0]
  show ((forL (fun x => bnd (asgn Φ t x) fun _ => execs Φ b) (ps.map g) (ρ.set i (.ls .lck (ps.map g)))).then _) = _
  rw [← hst, key ps [] rfl]
  show (match (st ps)[i]? with | some (.ls _ ys) => Out.ok Fl.nx ((st ps).set i (.ls k ys)) | _ => .stk) = _
  rw [hL]
  show Out.ok Fl.nx ((st ps).set i (.ls k (ps.map g))) = _
  rw [h2]
end
end DL
end
section
set_option autoImplicit false
namespace DL
open PySem L2
section
variable {Φ : Calls} {ρ : Ev} {P : Type}
theorem e_idxS {a b : E} {d d2 d3 : D} {x y : R} {ρ1 ρ2 : Ev} (ha : ev Φ a ρ = .ok x ρ1) (hb : ev Φ b ρ1 = .ok y ρ2) (h1 : view ρ2 x = some d) (h2 : view ρ2 y = some d2) (h : idxD d d2 = some d3) : ev Φ (.idx a b) ρ = .ok (.fz d3) ρ2 := by
  rw [r_idx, ha]
  show ((ev Φ b ρ1).then _) = _
  rw [hb]
  show (((match view ρ2 x with | some d => Out.ok d ρ2 | none => .stk) : Out D).then _) = _
  rw [h1]
  show (((match view ρ2 y with | some d => Out.ok d ρ2 | none => .stk) : Out D).then _) = _
  rw [h2]
  show (ofO (idxD d d2) ρ2).then _ = _
  rw [h]; rfl
end
section
variable {Φ : Calls} {ρ ρ1 : Ev} {P : Type}
/-- a loop by an invariant, with what is still to come -/
theorem for_exR {t : Tg} {it : DL.It} {b : Ss} (g : P → D) (ps : List P) (I : List P → Ev → Prop) (hi : evit Φ it ρ = .ok (none, ps.map g) ρ1) (h0 : I [] ρ1)
    (hs : ∀ done p rest ρ, ps = done ++ p :: rest → I done ρ → ∃ ρ', (bnd (asgn Φ t (g p)) fun _ => execs Φ b) ρ = .ok .nx ρ' ∧ I (done ++ [p]) ρ') : ∃ ρ', exec Φ (.for_ t it b) ρ = .ok .nx ρ' ∧ I ps ρ' := by
  obtain ⟨ρ', e, h⟩ := forL_mapR (step := fun x => bnd (asgn Φ t x) fun _ => execs Φ b) g I ps [] ρ1 h0 fun d p r ρ hp hI => by
    obtain ⟨ρ', e, h⟩ := hs d p r ρ hp hI
    exact ⟨ρ', .inl e, h⟩
  refine ⟨ρ', ?_, h⟩
  show (evit Φ it ρ).then _ = _
  rw [hi]; exact e
end
end DL
end
section
set_option autoImplicit false
namespace DL
open PySem L2
def tgD : Option Nat → D
  | none => .non
  | some t => .int (t : Int)
def gL (n : Nat) (g : Nat → Option Nat) : List D := (List.range n).map fun i => tgD (g (i + 1))
def fi (h : Int) : D → Option D
  | .int t => if 0 < t ∧ t ≤ h then some (.int t) else none
  | _ => none
end DL
end
section
set_option autoImplicit false
namespace DL
open PySem L2
@[simp] theorem lkA {x y : Nat} : List.lookup 0 [((0 : Nat), x), (1, y)] = some x := rfl
@[simp] theorem lkB {x y : Nat} : List.lookup 1 [((0 : Nat), x), (1, y)] = some y := rfl
section
variable {Φ : Calls} {ρ ρ1 ρ2 : Ev}
theorem e_meth0 {o : E} {ms : List (Nat × Nat)} {c fi : Nat} {xs : List D} {v : R} (ho : ev Φ o ρ = .ok (.fz (.obj c xs)) ρ1) (h : Φ fi [.fz (.obj c xs)] = some (v, [.fz (.obj c xs)])) (hl : ms.lookup c = some fi := by rfl) : ev Φ (.meth o ms [0] .nil .nil) ρ = .ok v ρ1 := by
  simp [ho, hl, h]
theorem e_meth1 {o a : E} {ms : List (Nat × Nat)} {c fi : Nat} {xs : List D} {d : D} {x v : R} (ho : ev Φ o ρ = .ok (.fz (.obj c xs)) ρ1) (ha : ev Φ a ρ1 = .ok x ρ2) (h : Φ fi [.fz (.obj c xs), .fz d] = some (v, [.fz (.obj c xs), .fz d])) (hl : ms.lookup c = some fi := by rfl) (hs : DL.share x ρ2 = .ok d ρ2 := by rfl) : ev Φ (.meth o ms [0, 1] (.val a .nil) .nil) ρ = .ok v ρ2 := by
  simp [ho, hl, h, ha, hs]
end
end DL
end
section
set_option autoImplicit false
namespace DL
open PySem L2
end DL
end
section
set_option autoImplicit false
namespace DL
open PySem L2
/-- two words that do the same between any others -/
def Smw (n : Nat) (u v : List Int) : Prop := Eq2 n (lis (u.map Int.toNat)) (lis (v.map Int.toNat))
theorem Smw.refl (n : Nat) (u : List Int) : Smw n u u := Eq2.refl _ _
theorem Smw.symm {n : Nat} {u v : List Int} (h : Smw n u v) : Smw n v u := Eq2.symm h
theorem Smw.trans {n : Nat} {u v w : List Int} (h : Smw n u v) (g : Smw n v w) : Smw n u w := Eq2.trans h g
end DL
end
section
set_option autoImplicit false
namespace DL
open PySem L2
end DL
end
section
set_option autoImplicit false
namespace DL
open PySem L2
end DL
end
section
set_option autoImplicit false
namespace DL
open PySem L2
theorem x_appF {Φ : Calls} {ρ ρ1 ρ2 ρ3 : Ev} {i : Nat} {e : E} {d : D} {r : R} {xs0 xs : List D} (h : ev Φ e ρ = .ok r ρ1) (hs : DL.share r ρ1 = .ok d ρ2) (hl : xs.length < sizeLine) (h0 : getL i ρ = .ok xs0 ρ := by rfl) (h1 : getL i ρ2 = .ok xs ρ2 := by rfl) (hk : putL i (xs ++ [d]) ρ2 = .ok () ρ3 := by rfl) : exec Φ (.ex (.app i e)) ρ = .ok .nx ρ3 := by
  show ((getL i ρ).then fun _ ρ => _).then _ = _
  rw [h0]
  show ((ev Φ e ρ).then _).then _ = _
  rw [h]
  show ((DL.share r ρ1).then _).then _ = _
  rw [hs]
  show ((getL i ρ2).then _).then _ = _
  rw [h1]
  show (((if xs.length < sizeLine then bnd (putL i (xs ++ [d])) fun _ => DL.ret (R.fz .non) else stuck) ρ2)).then _ = _
  rw [if_pos hl]
  show ((putL i (xs ++ [d]) ρ2).then _).then _ = _
  rw [hk]; rfl
theorem e_orV {Φ : Calls} {ρ : Ev} {a b : E} {p q : Bool} (ha : ev Φ a ρ = .ok (.fz (.bl p)) ρ) (hb : ev Φ b ρ = .ok (.fz (.bl q)) ρ) : ev Φ (.or a b) ρ = .ok (.fz (.bl (p || q))) ρ :=
  e_or ha (fun h => by rw [h, Bool.false_or]; exact hb) fun h => by rw [h]; rfl
theorem e_andV {Φ : Calls} {ρ : Ev} {a b : E} {p q : Bool} (ha : ev Φ a ρ = .ok (.fz (.bl p)) ρ) (hb : ev Φ b ρ = .ok (.fz (.bl q)) ρ) : ev Φ (.and a b) ρ = .ok (.fz (.bl (p && q))) ρ :=
  e_and ha (fun h => by rw [h, Bool.true_and]; exact hb) fun h => by rw [h]; rfl
end DL
end
section
set_option autoImplicit false
namespace DL
open PySem L2
end DL
end
section
set_option autoImplicit false
namespace DL
open PySem L2
theorem e_cmpS {Φ : Calls} {ρ ρ1 ρ2 : Ev} {o : Cop} {a b : E} {d d2 : D} {x y : R} {k : Bool} (ha : ev Φ a ρ = .ok x ρ1) (hb : ev Φ b ρ1 = .ok y ρ2) (h1 : view ρ2 x = some d) (h2 : view ρ2 y = some d2) (h : cmpD o d d2 = some k) : ev Φ (.cmp o a b) ρ = .ok (.fz (.bl k)) ρ2 := by
  show (ev Φ a ρ).then _ = _
  rw [ha]
  show (ev Φ b ρ1).then _ = _
  rw [hb]
  show (((match view ρ2 x with | some d => Out.ok d ρ2 | none => .stk) : Out D).then _) = _
  rw [h1]
  show (((match view ρ2 y with | some d => Out.ok d ρ2 | none => .stk) : Out D).then _) = _
  rw [h2]
  show (ofO (cmpD o d d2) ρ2).then _ = _
  rw [h]; rfl
end DL
end
section
set_option autoImplicit false
namespace DL
open PySem
end DL
end
section
set_option autoImplicit false
namespace DL
open PySem
section
variable {Φ : Calls} {ρ ρ1 ρ2 : Ev} {e : E}
@[simp] theorem x_xc : ev Φ (.xc e) = ev Φ e := by funext ρ; simp only [ev]
@[simp] theorem x_xa : ev Φ (.xa e) = ev Φ e := by funext ρ; simp only [ev]
/-- f(..) raises the error c with the field d -/
def Er (Φ : Calls) (f : Nat) (as : List Sl) (c : Nat) (d : D) : Prop := Φ f as = none ∧ ∃ ss, Φ (f + XO) as = some (.fz (.tup [.int (c : Int), .tup [d]]), ss)
theorem vals_val : ∀ (ds : List D), valsOf (ds.map .val) = some ds
  | [] => rfl
  | d :: ds => by
    show (valsOf (ds.map .val)).map (d :: ·) = _
    rw [vals_val ds]; rfl
variable {c : Nat} {d : D} {a b t : E} {s : S} {ss is js : Ss}
end
end DL
end
section
set_option autoImplicit false
namespace DL
section
variable {Φ : Calls} {ρ ρ0 ρ1 ρ2 : Ev} {e a b : E} {s : S} {ss is js : Ss} {c : Nat} {fs : List D}
def ErL (Φ : Calls) (f : Nat) (as : List Sl) (c : Nat) (fs : List D) : Prop := Φ f as = none ∧ ∃ ss, Φ (f + XO) as = some (.fz (.tup [.int (c : Int), .tup fs]), ss)
def RssL (Φ : Calls) (ss : Ss) (ρ : Ev) (c : Nat) (fs : List D) : Prop := execs Φ ss ρ = .stk ∧ ∃ ρ', xexecs Φ ss ρ = some (c, fs, ρ')
theorem Er.l {f : Nat} {as : List Sl} {d : D} (h : Er Φ f as c d) : ErL Φ f as c [d] := h
/-- a class's call with any arguments -/
theorem e_makeK {f c0 : Nat} {perm : List Nat} {as ks : As} {al kl : List A} {ds xs : List D} {ss : List Sl} (ha : evas Φ as ρ = .ok al ρ1) (hk : evas Φ ks ρ1 = .ok kl ρ2) (hp : pick perm (al ++ kl) = some (ds.map .val)) (h : Φ f (.un :: ds.map .fz) = some (.fz (.tup xs), ss)) (hl : xs.length = (cFlds c0).length := by rfl) : ev Φ (.make c0 f perm as ks) ρ = .ok (.fz (.obj c0 xs)) ρ2 := by
  simp only [ev]
  show (evas Φ as ρ).then _ = _
  rw [ha]
  show (evas Φ ks ρ1).then _ = _
  rw [hk]
  show makeM Φ c0 f perm (al ++ kl) ρ2 = _
  unfold makeM
  simp only [hp, Option.bind_some, vals_val, h]
  exact if_pos hl
end
end DL
end
section
set_option autoImplicit false
namespace DL
open PySem PySem.Spec PySem.Builtin.Str PyProof.Rows
structure Tx (n : Nat) (s : Str) : Prop where
  len : s.length ≤ n
  ok : ∀ c ∈ s.cps.toList, c < 0x110000
theorem Tx.mono {n m : Nat} {s : Str} (h : Tx n s) (hm : n ≤ m) : Tx m s := ⟨Nat.le_trans h.len hm, h.ok⟩
theorem Tx.app {n m : Nat} {a b : Str} (ha : Tx n a) (hb : Tx m b) : Tx (n + m) (a ++ b) := by
  refine ⟨?_, fun c hc => ?_⟩
  · rw [Str.length_append]
    exact Nat.add_le_add ha.len hb.len
  · rw [PySem.Str.cps_append, Array.toList_append, List.mem_append] at hc
    exact hc.elim (ha.ok c) (hb.ok c)
theorem Tx.int {i : Int} (h1 : -(10 ^ 31) < i) (h2 : i < 10 ^ 31) : Tx 32 (Str.ofString (toString i)) := by
  refine ⟨?_, fun c hc => ?_⟩
  · rw [PySem.ofString_length]
    exact int_text_length_le10 (k := 31) (by decide) (by omega)
  · by_cases q : c ≠ 45 ∧ (c < 48 ∨ 57 < c)
    · exact absurd hc (int_text_free' c q i)
    · omega
theorem Tx.join {sep : Str} (hs : Tx 1 sep) : ∀ {ws : List Str} {f : Str → Nat}, (∀ w ∈ ws, Tx (f w) w) → Tx ((ws.map f).sum + ws.length) (Str.join sep ws)
  | [], _, _ => ⟨Nat.zero_le _, fun c hc => by cases hc⟩
  | [x], f, h => (h x (List.mem_cons_self ..)).mono (by simp only [List.map_cons, List.map_nil, List.sum_cons, List.sum_nil]; omega)
  | x :: y :: r, f, h => by
    have ih := Tx.join hs (ws := y :: r) (f := f) fun w hw => h w (List.mem_cons_of_mem _ hw)
    refine ((h x (List.mem_cons_self ..)).app hs |>.app ih).mono ?_
    simp only [List.map_cons, List.sum_cons, List.length_cons]
    omega
theorem Tx.txt {sep : Str} (hs : Tx 1 sep) {ws : List Str} {f : Str → Nat} (h : ∀ w ∈ ws, Tx (f w) w) : Tx ((ws.map f).sum + ws.length) (Txt.join sep ws) := by
  show Tx _ (glued sep ws)
  rw [StrLaws.glued_eq_join]
  exact Tx.join hs h
theorem strs_map (ws : List Str) : strsD (ws.map D.str) = some ws := by
  induction ws with
  | nil => rfl
  | cons w ws ih =>
    show (match strsD (ws.map D.str) with | _ => _) = _
    simp only [List.map_cons, strsD, ih]
    rfl
open PySem L2
mutual
theorem ls_up : ∀ d : PyData, d.leavesShort 32 = true → d.leavesShort 170 = true
  | .none, _ => rfl
  | .bool _, _ => rfl
  | .int i, h => decide_eq_true (Nat.le_trans (of_decide_eq_true (show decide ((PyData.shown (.int i)).length ≤ 32) = true from h)) (by decide))
  | .str x, h => h
  | .list xs, h => ls_upA xs h
  | .tuple xs, h => ls_upA xs h
  | .dict kvs, h => ls_upK kvs h
theorem ls_upA : ∀ ds : List PyData, PyData.leavesShortAll 32 ds = true → PyData.leavesShortAll 170 ds = true
  | [], _ => rfl
  | d :: ds, h => by
    obtain ⟨h1, h2⟩ := Bool.and_eq_true _ _ |>.mp (show (d.leavesShort 32 && PyData.leavesShortAll 32 ds) = true from h)
    show (d.leavesShort 170 && PyData.leavesShortAll 170 ds) = true
    rw [ls_up d h1, ls_upA ds h2]; rfl
theorem ls_upK : ∀ ds : List (PyData × PyData), PyData.leavesShortKv 32 ds = true → PyData.leavesShortKv 170 ds = true
  | [], _ => rfl
  | (k, v) :: ds, h => by
    obtain ⟨h0, h2⟩ := Bool.and_eq_true _ _ |>.mp (show (k.leavesShort 32 && v.leavesShort 32 && PyData.leavesShortKv 32 ds) = true from h)
    obtain ⟨h0, h1⟩ := Bool.and_eq_true _ _ |>.mp h0
    show (k.leavesShort 170 && v.leavesShort 170 && PyData.leavesShortKv 170 ds) = true
    rw [ls_up k h0, ls_up v h1, ls_upK ds h2]; rfl
end
/-- what repr needs, with ints of up to 160 digits -/
structure Rws (w h : Nat) (ds : List D) : Prop where
  pur : puresR ds = true
  show_ : PyData.showableAll (toPy.toPys ds) = true
  short : PyData.leavesShortAll 170 (toPy.toPys ds) = true
  ht : PyData.depthAll (toPy.toPys ds) ≤ h
  wt : PyData.weightAll (toPy.toPys ds) ≤ w
theorem Rws.nil (h : Nat) : Rws 0 h [] := ⟨rfl, rfl, rfl, Nat.zero_le _, Nat.zero_le _⟩
theorem Rws.cons {w v h : Nat} {d : D} {ds : List D} (a : Rq w h d) (b : Rws v h ds) : Rws (w + 1 + v) h (d :: ds) := by
  refine ⟨?_, ?_, ?_, ?_, ?_⟩
  · show (pureR d && puresR ds) = true
    rw [a.pur, b.pur]; rfl
  · show ((toPy d).showable && PyData.showableAll (toPy.toPys ds)) = true
    rw [a.show_, b.show_]; rfl
  · show ((toPy d).leavesShort 170 && PyData.leavesShortAll 170 (toPy.toPys ds)) = true
    rw [ls_up _ a.short, b.short]; rfl
  · exact Nat.max_le.mpr ⟨a.ht, b.ht⟩
  · show (toPy d).weight + 1 + PyData.weightAll (toPy.toPys ds) ≤ _
    have := a.wt
    have := b.wt
    omega
end DL
end
section
set_option autoImplicit false
namespace DL
open PySem L2
theorem shP_rqN {w h : Nat} {d : D} (s : Rq w h d) (hw : w ≤ 400000) (hh : h ≤ 64) : shP d = some (toPy d).shown ∧ (toPy d).shown.length ≤ 34 * w + 32 := by
  have h2 : (toPy d).shown.length ≤ 34 * w + 32 := by
    have h1 := PyData.shown_le 32 (by decide) (toPy d) s.short
    have h3 : (32 + 2) * (toPy d).weight ≤ 34 * w := Nat.mul_le_mul_left 34 s.wt
    omega
  refine ⟨?_, h2⟩
  have l : (toPy d).shown.length ≤ sizeLine := by rw [sizeLine_eq]; omega
  unfold shP
  rw [if_pos]
  rw [s.pur, s.show_, decide_eq_true (Nat.le_trans s.ht hh), decide_eq_true l]
  rfl
/-- d's own text at depth j, of at most n signs -/
def Sh (tx : Nat → List D → Option Str) (j n : Nat) (d : D) : Prop := ∃ t, shO tx j d = some t ∧ t.length ≤ n
theorem Sh.rq {tx : Nat → List D → Option Str} {j w h : Nat} {d : D} (s : Rq w h d) (hw : w ≤ 400000) (hh : h ≤ 64) : Sh tx (j + 1) (34 * w + 32) d := by
  obtain ⟨e1, e2⟩ := shP_rqN s hw hh
  refine ⟨_, ?_, e2⟩
  show (if pureR d then shP d else _) = _
  rw [if_pos s.pur, e1]
theorem Sh.obj {tx : Nat → List D → Option Str} {j n c : Nat} {fs : List D} {t : Str} (h : tx c fs = some t) (hl : t.length ≤ n) : Sh tx (j + 1) n (.obj c fs) := ⟨t, h, hl⟩
theorem Sh.mono {tx : Nat → List D → Option Str} {j n m : Nat} {d : D} (h : Sh tx j n d) (hm : n ≤ m) : Sh tx j m d := by
  obtain ⟨t, e, l⟩ := h
  exact ⟨t, e, Nat.le_trans l hm⟩
theorem textFrom_le {n : Nat} : ∀ (ts : List Str) (k : Nat) (acc : Str), (∀ t ∈ ts, t.length ≤ n) → (textFrom k acc ts).length ≤ acc.length + ts.length * (n + 2)
  | [], k, acc, _ => by show acc.length ≤ _; omega
  | t :: r, k, acc, h => by
    have ih := textFrom_le r (k + 1) (acc ++ ((if k > 0 then ", " else "" : String) : Str) ++ t) fun x hx => h x (List.mem_cons_of_mem _ hx)
    have ht := h t (List.mem_cons_self ..)
    have e : (acc ++ ((if k > 0 then ", " else "" : String) : Str) ++ t).length ≤ acc.length + 2 + t.length := by
      rw [Str.length_append, Str.length_append]
      split
      · show acc.length + 2 + _ ≤ _; omega
      · show acc.length + 0 + _ ≤ _; omega
    show (textFrom (k + 1) (acc ++ ((if k > 0 then ", " else "" : String) : Str) ++ t) r).length ≤ _
    rw [List.length_cons, Nat.add_mul]
    omega
theorem listText_le {n : Nat} {ts : List Str} (h : ∀ t ∈ ts, t.length ≤ n) : (listText ts).length ≤ ts.length * (n + 2) + 2 := by
  have := textFrom_le ts 0 ("[" : Str) h
  show (textFrom 0 ("[" : Str) ts ++ ("]" : Str)).length ≤ _
  rw [Str.length_append]
  have e1 : ("[" : Str).length = 1 := rfl
  have e2 : ("]" : Str).length = 1 := rfl
  omega
theorem mapM_some {α β : Type} {f : α → Option β} {p : β → Prop} : ∀ {l : List α}, (∀ x ∈ l, ∃ y, f x = some y ∧ p y) → ∃ ys, l.mapM f = some ys ∧ ys.length = l.length ∧ ∀ y ∈ ys, p y
  | [], _ => ⟨[], rfl, rfl, fun _ h => nomatch h⟩
  | x :: l, h => by
    obtain ⟨y, e, hy⟩ := h x (List.mem_cons_self ..)
    obtain ⟨ys, e2, hl, hp⟩ := mapM_some (l := l) fun z hz => h z (List.mem_cons_of_mem _ hz)
    refine ⟨y :: ys, ?_, by rw [List.length_cons, List.length_cons, hl], fun z hz => ?_⟩
    · rw [List.mapM_cons, e, e2]; rfl
    · rcases List.mem_cons.mp hz with rfl | hz
      · exact hy
      · exact hp z hz
/-- a list that holds an instance -/
theorem Sh.lst {tx : Nat → List D → Option Str} {j n : Nat} {ds : List D} (hp : pureR (.lst ds) = false) (h : ∀ d ∈ ds, Sh tx j n d) (hl : ds.length * (n + 2) + 2 ≤ 16777216) : Sh tx (j + 1) (ds.length * (n + 2) + 2) (.lst ds) := by
  obtain ⟨ts, e, l1, l2⟩ := mapM_some (f := shO tx j) (p := fun t : Str => t.length ≤ n) h
  have hb := listText_le l2
  rw [l1] at hb
  refine ⟨listText ts, ?_, hb⟩
  show (if pureR (.lst ds) then shP (.lst ds) else (ds.mapM (shO tx j)).bind fun ts => if (listText ts).length ≤ sizeLine then some (listText ts) else none) = _
  rw [if_neg (by rw [hp]; decide), e]
  exact if_pos (by rw [sizeLine_eq]; omega)
end DL
namespace DL
open PySem L2
end DL
end
section
set_option autoImplicit false
namespace DL
open PySem
end DL
end
section
set_option autoImplicit false
namespace DL
open PySem
section
variable {Φ : Calls} {ρ ρ0 ρ1 ρ2 ρ3 : Ev} {e a b : E} {x y v : R} {d d2 : D}
theorem rpL {xs : List D} {v : R} (h : biD .repr [.lst xs] = some v) (hl : xs.length ≤ 1000) : biD .reprL xs = some v := by
  have h : (if pureR (.lst xs) && (toPy (.lst xs)).showable && decide ((toPy (.lst xs)).depth ≤ 64) && decide ((toPy (.lst xs)).shown.length ≤ sizeLine) then some (R.fz (.str (toPy (.lst xs)).shown)) else none) = some v := h
  show (if pureR (.lst xs) && (toPy (.lst xs)).showable && decide ((toPy (.lst xs)).depth ≤ 64) && decide ((toPy (.lst xs)).shown.length ≤ sizeLine) && decide (xs.length ≤ 1000) then some (R.fz (.str (toPy (.lst xs)).shown)) else none) = some v
  rw [decide_eq_true hl, Bool.and_true]
  exact h
end
theorem join_le {n : Nat} {ts : List Str} (h : ∀ t ∈ ts, t.length ≤ n) : (Str.join ", " ts).length ≤ ts.length * (n + 2) := by
  have key : ∀ ts : List Str, (∀ t ∈ ts, t.length ≤ n) → piled ts ≤ ts.length * (n + 2) := fun ts => by
    induction ts with
    | nil => intro _; exact Nat.zero_le _
    | cons t r ih =>
      intro h
      have a := h t (List.mem_cons_self ..)
      have b := ih fun x hx => h x (List.mem_cons_of_mem _ hx)
      rw [List.length_cons, Nat.add_mul]
      show t.length + 2 + piled r ≤ _
      omega
  by_cases h0 : ts = []
  · subst h0; exact Nat.zero_le _
  · have := join_length_add ts h0
    have := key ts h
    omega
theorem tupleText_le {n : Nat} {ts : List Str} (h : ∀ t ∈ ts, t.length ≤ n) : (tupleText ts).length ≤ ts.length * (n + 2) + 3 := by
  have := join_le h
  unfold tupleText
  rw [Str.length_append, Str.length_append]
  have e1 : ("(" : Str).length = 1 := rfl
  have e2 : ((if ts.length == 1 then ",)" else ")" : String) : Str).length ≤ 2 := by
    split
    · exact Nat.le_refl 2
    · exact Nat.le_succ 1
  omega
theorem Sh.tup {tx : Nat → List D → Option Str} {j n : Nat} {ds : List D} (hp : pureR (.tup ds) = false) (h : ∀ d ∈ ds, Sh tx j n d) (hl : ds.length * (n + 2) + 3 ≤ 16777216) : Sh tx (j + 1) (ds.length * (n + 2) + 3) (.tup ds) := by
  obtain ⟨ts, e, l1, l2⟩ := mapM_some (f := shO tx j) (p := fun t : Str => t.length ≤ n) h
  have hb := tupleText_le l2
  rw [l1] at hb
  refine ⟨tupleText ts, ?_, hb⟩
  show (if pureR (.tup ds) then shP (.tup ds) else (ds.mapM (shO tx j)).bind fun ts => if (tupleText ts).length ≤ sizeLine then some (tupleText ts) else none) = _
  rw [if_neg (by rw [hp]; decide), e]
  exact if_pos (by rw [sizeLine_eq]; omega)
/-- shown, instances inside or not -/
def SQ (tx : Nat → List D → Option Str) (j n w h : Nat) (d : D) : Prop := Rq w h d ∨ (pureR d = false ∧ Sh tx j n d)
theorem SQ.sh {tx : Nat → List D → Option Str} {j n w h : Nat} {d : D} (s : SQ tx (j + 1) n w h d) (hw : 34 * w + 32 ≤ n) (hw2 : w ≤ 400000) (hh : h ≤ 64) : Sh tx (j + 1) n d := by
  rcases s with s | ⟨_, s⟩
  · exact (Sh.rq s hw2 hh).mono hw
  · exact s
theorem pures_false : ∀ {ds : List D} {d : D}, d ∈ ds → pureR d = false → puresR ds = false
  | x :: ds, d, h, hd => by
    show (pureR x && puresR ds) = false
    rcases List.mem_cons.mp h with rfl | h
    · rw [hd]; rfl
    · rw [pures_false h hd, Bool.and_false]
theorem sq_split {tx : Nat → List D → Option Str} {j n w h : Nat} {ds : List D} (hs : ∀ d ∈ ds, SQ tx j n w h d) : (∀ d ∈ ds, Rq w h d) ∨ puresR ds = false := by
  induction ds with
  | nil => exact .inl fun _ z => nomatch z
  | cons x ds ih =>
    rcases hs x (List.mem_cons_self ..) with a | a
    · rcases ih fun d hd => hs d (List.mem_cons_of_mem _ hd) with b | b
      · exact .inl fun d hd => (List.mem_cons.mp hd).elim (fun z => z ▸ a) (b d)
      · right
        show (pureR x && puresR ds) = false
        rw [b, Bool.and_false]
    · exact .inr (pures_false (List.mem_cons_self ..) a.1)
theorem SQ.tup {tx : Nat → List D → Option Str} {j n w h l : Nat} {ds : List D} (hl : ds.length ≤ l) (hs : ∀ d ∈ ds, SQ tx (j + 1) n w h d) (hn : 34 * w + 32 ≤ n) (hw : w ≤ 400000) (hh : h ≤ 64) (hb : l * (n + 2) + 3 ≤ 16777216) : SQ tx (j + 2) (l * (n + 2) + 3) (l * (w + 1)) (h + 1) (.tup ds) := by
  rcases sq_split hs with a | a
  · exact .inl (Rq.tup hl a)
  · have hm := Nat.mul_le_mul_right (n + 2) hl
    exact .inr ⟨a, (Sh.tup (n := n) a (fun d hd => (hs d hd).sh hn hw hh) (by omega)).mono (by omega)⟩
theorem SQ.lst {tx : Nat → List D → Option Str} {j n w h l : Nat} {ds : List D} (hl : ds.length ≤ l) (hs : ∀ d ∈ ds, SQ tx (j + 1) n w h d) (hn : 34 * w + 32 ≤ n) (hw : w ≤ 400000) (hh : h ≤ 64) (hb : l * (n + 2) + 2 ≤ 16777216) : SQ tx (j + 2) (l * (n + 2) + 2) (l * (w + 1)) (h + 1) (.lst ds) := by
  rcases sq_split hs with a | a
  · exact .inl (Rq.lst hl a)
  · have hm := Nat.mul_le_mul_right (n + 2) hl
    exact .inr ⟨a, (Sh.lst (n := n) a (fun d hd => (hs d hd).sh hn hw hh) (by omega)).mono (by omega)⟩
theorem SQ.mono {tx : Nat → List D → Option Str} {j n w h n' w' h' : Nat} {d : D} (s : SQ tx j n w h d) (h1 : n ≤ n') (h2 : w ≤ w') (h3 : h ≤ h') : SQ tx j n' w' h' d := s.elim (fun a => .inl (a.mono h2 h3)) fun a => .inr ⟨a.1, a.2.mono h1⟩
end DL
end
section
set_option autoImplicit false
namespace DL
open PySem
section
variable {Φ : Calls} {ρ ρ0 ρ1 ρ2 ρ3 : Ev} {e : E} {s : S} {ss is js b fin : Ss} {c : Nat} {fs : List D} {d : D}
/-- f(..) raises c with the fields fs; what it leaves in the slots that were passed -/
def ErS (Φ : Calls) (f : Nat) (as : List Sl) (c : Nat) (fs : List D) (as' : List Sl) : Prop := Φ f as = none ∧ Φ (f + XO) as = some (.fz (.tup [.int (c : Int), .tup fs]), as')
theorem ErS.l {f : Nat} {as as' : List Sl} (h : ErS Φ f as c fs as') : ErL Φ f as c fs := ⟨h.1, as', h.2⟩
def RssE (Φ : Calls) (ss : Ss) (ρ : Ev) (c : Nat) (fs : List D) (ρ' : Ev) : Prop := execs Φ ss ρ = .stk ∧ xexecs Φ ss ρ = some (c, fs, ρ')
theorem RssE.l (h : RssE Φ ss ρ c fs ρ1) : RssL Φ ss ρ c fs := ⟨h.1, ρ1, h.2⟩
end
end DL
end
section
set_option autoImplicit false
namespace DL
open PySem L2
theorem lexI_tr : ∀ {u v w : List Int}, lexLtI u v = true → lexLtI v w = true → lexLtI u w = true
  | [], [], _, h, _ => by cases h
  | [], _ :: _, [], _, h => by cases h
  | [], _ :: _, _ :: _, _, _ => rfl
  | _ :: _, [], _, h, _ => by cases h
  | _ :: _, _ :: _, [], _, h => by cases h
  | x :: u, y :: v, z :: w, h1, h2 => by
    have h1 : (if x = y then lexLtI u v else decide (x < y)) = true := h1
    have h2 : (if y = z then lexLtI v w else decide (y < z)) = true := h2
    show (if x = z then lexLtI u w else decide (x < z)) = true
    by_cases a : x = y
    · rw [if_pos a] at h1
      by_cases b : y = z
      · rw [if_pos b] at h2
        rw [if_pos (a.trans b)]
        exact lexI_tr h1 h2
      · rw [if_neg b] at h2
        rw [if_neg (fun q => b (a ▸ q)), a]
        exact h2
    · rw [if_neg a] at h1
      have h1 := of_decide_eq_true h1
      by_cases b : y = z
      · rw [if_neg (fun q => a (q.trans b.symm)), ← b]
        exact decide_eq_true h1
      · rw [if_neg b] at h2
        have h2 := of_decide_eq_true h2
        rw [if_neg (by omega)]
        exact decide_eq_true (by omega)
theorem lexI_app : ∀ {u v : List Int} (a b : List Int), u.length = v.length → lexLtI u v = true → lexLtI (u ++ a) (v ++ b) = true
  | [], [], _, _, _, h => by cases h
  | [], _ :: _, _, _, h, _ => by cases h
  | _ :: _, [], _, _, h, _ => by cases h
  | x :: u, y :: v, a, b, hl, h => by
    have h : (if x = y then lexLtI u v else decide (x < y)) = true := h
    show (if x = y then lexLtI (u ++ a) (v ++ b) else decide (x < y)) = true
    by_cases q : x = y
    · rw [if_pos q] at h ⊢
      exact lexI_app a b (by simpa using hl) h
    · rw [if_neg q] at h ⊢
      exact h
theorem lexI_pre : ∀ (u a b : List Int), lexLtI (u ++ a) (u ++ b) = lexLtI a b
  | [], _, _ => rfl
  | x :: u, a, b => by show (if x = x then lexLtI (u ++ a) (u ++ b) else _) = _; rw [if_pos rfl]; exact lexI_pre u a b
/-- shorter, or as long and less -/
def slt (u v : List Int) : Prop := u.length < v.length ∨ (u.length = v.length ∧ lexLtI u v = true)
def sle (u v : List Int) : Prop := u = v ∨ slt u v
theorem slt_tr {u v w : List Int} (a : slt u v) (b : slt v w) : slt u w := by
  rcases a with a | ⟨a1, a2⟩ <;> rcases b with b | ⟨b1, b2⟩
  · exact .inl (by omega)
  · exact .inl (by omega)
  · exact .inl (by omega)
  · exact .inr ⟨by omega, lexI_tr a2 b2⟩
theorem slt_sle {u v w : List Int} (a : slt u v) (b : sle v w) : slt u w := by
  rcases b with rfl | b
  · exact a
  · exact slt_tr a b
theorem sle_tr {u v w : List Int} (a : sle u v) (b : sle v w) : sle u w := by
  rcases a with rfl | a
  · exact b
  · exact .inr (slt_sle a b)
theorem slt_app {u v : List Int} (h : slt u v) (a b : Int) : slt (u ++ [a]) (v ++ [b]) := by
  rcases h with h | ⟨h1, h2⟩
  · exact .inl (by rw [List.length_append, List.length_append]; simp; omega)
  · exact .inr ⟨by rw [List.length_append, List.length_append, h1]; rfl, lexI_app _ _ h1 h2⟩
theorem slt_one {u : List Int} {a b : Int} (h : a < b) : slt (u ++ [a]) (u ++ [b]) := by
  refine .inr ⟨by rw [List.length_append, List.length_append]; rfl, ?_⟩
  rw [lexI_pre]
  show (if a = b then _ else decide (a < b)) = true
  rw [if_neg (by omega)]
  exact decide_eq_true h
theorem slt_snoc {u : List Int} (a : Int) : slt u (u ++ [a]) := .inl (by rw [List.length_append]; simp)
theorem sle_app {u v : List Int} (h : sle u v) (a : Int) : sle (u ++ [a]) (v ++ [a]) := by
  rcases h with rfl | h
  · exact .inl rfl
  · exact .inr (slt_app h a a)
section
variable {T : Type} (stp : Int → T → T) (us : List Int) (s0 : T)
def runW (w : List Int) : T := w.foldl (fun s l => stp l s) s0
theorem runW_snoc (w : List Int) (l : Int) : runW stp s0 (w ++ [l]) = stp l (runW stp s0 w) := by
  unfold runW; rw [List.foldl_append]; rfl
/-- found so far: things with their words; P: which of them have been read with which level -/
structure Bf (L : List (T × List Int)) (P : Nat → Int → Prop) : Prop where
  hd : L[0]? = some (s0, [])
  rn : ∀ e ∈ L, e.1 = runW stp s0 e.2 ∧ ∀ x ∈ e.2, x ∈ us
  nd : ∀ e ∈ L, ∀ f ∈ L, e.1 = f.1 → e = f
  st : ∀ (i j : Nat) (e f : T × List Int), i < j → L[i]? = some e → L[j]? = some f → slt e.2 f.2
  un : ∀ (j : Nat) (e : T × List Int) (l : Int), L[j]? = some e → l ∈ us → ¬ P j l → ∀ f ∈ L, slt f.2 (e.2 ++ [l])
  pr : ∀ (j : Nat) (e : T × List Int) (l : Int), L[j]? = some e → l ∈ us → P j l → ∃ f ∈ L, f.1 = stp l e.1 ∧ sle f.2 (e.2 ++ [l])
  lt : ∀ j l, P j l → j < L.length
variable {stp us s0} {L : List (T × List Int)} {P Q : Nat → Int → Prop}
theorem Bf.start : Bf stp us s0 [(s0, [])] fun _ _ => False where
  hd := rfl
  rn := fun e he => by rw [List.mem_singleton.mp he]; exact ⟨rfl, fun _ h => nomatch h⟩
  nd := fun e he f hf _ => by rw [List.mem_singleton.mp he, List.mem_singleton.mp hf]
  st := fun i j e f h _ h2 => by
    cases j with
    | zero => omega
    | succ j => simp at h2
  un := fun j e l he _ _ f hf => by
    rw [List.mem_singleton.mp hf]
    exact .inl (by rw [List.length_append]; simp)
  pr := fun j e l _ _ h => h.elim
  lt := fun j l h => h.elim
theorem Bf.congr (h : Bf stp us s0 L P) (e : ∀ j l, l ∈ us → (P j l ↔ Q j l)) (hq : ∀ j l, Q j l → j < L.length) : Bf stp us s0 L Q :=
  ⟨h.hd, h.rn, h.nd, h.st, fun j a l h1 h2 h3 => h.un j a l h1 h2 fun z => h3 ((e j l h2).mp z), fun j a l h1 h2 h3 => h.pr j a l h1 h2 ((e j l h2).mpr h3), hq⟩
/-- a level is read, what comes is known -/
theorem Bf.old (h : Bf stp us s0 L P) {i : Nat} {e f : T × List Int} {l : Int} (he : L[i]? = some e) (hl : l ∈ us) (hn : ¬ P i l) (hf : f ∈ L) (hk : f.1 = stp l e.1) : Bf stp us s0 L fun j x => P j x ∨ (j = i ∧ x = l) where
  hd := h.hd
  rn := h.rn
  nd := h.nd
  st := h.st
  un := fun j a x h1 h2 h3 => h.un j a x h1 h2 fun z => h3 (.inl z)
  pr := fun j a x h1 h2 h3 => by
    rcases h3 with h3 | ⟨rfl, rfl⟩
    · exact h.pr j a x h1 h2 h3
    · rw [he] at h1
      cases h1
      exact ⟨f, hf, hk, .inr (h.un _ _ _ he hl hn f hf)⟩
  lt := fun j x h3 => by
    rcases h3 with h3 | ⟨rfl, rfl⟩
    · exact h.lt j x h3
    · exact (List.getElem?_eq_some_iff.mp he).1
/-- .. or is new -/
theorem Bf.new (h : Bf stp us s0 L P) {i : Nat} {e : T × List Int} {l : Int} (he : L[i]? = some e) (hl : l ∈ us) (hn : ¬ P i l) (hk : ∀ f ∈ L, f.1 ≠ stp l e.1) (h1 : ∀ j x, j < i → x ∈ us → P j x) (h2 : ∀ x ∈ us, ¬ P i x → x = l ∨ l < x) : Bf stp us s0 (L ++ [(stp l e.1, e.2 ++ [l])]) fun j x => P j x ∨ (j = i ∧ x = l) where
  hd := by
    have h0 : 0 < L.length := (List.getElem?_eq_some_iff.mp h.hd).1
    rw [List.getElem?_append_left h0]; exact h.hd
  rn := fun a ha => by
    rcases List.mem_append.mp ha with ha | ha
    · exact h.rn a ha
    · rw [List.mem_singleton.mp ha]
      obtain ⟨q1, q2⟩ := h.rn e (List.mem_of_getElem? he)
      refine ⟨by rw [runW_snoc, ← q1], fun x hx => ?_⟩
      rcases List.mem_append.mp hx with hx | hx
      · exact q2 x hx
      · rw [List.mem_singleton.mp hx]; exact hl
  nd := fun a ha b hb hab => by
    rcases List.mem_append.mp ha with ha | ha <;> rcases List.mem_append.mp hb with hb | hb
    · exact h.nd a ha b hb hab
    · rw [List.mem_singleton.mp hb] at hab; exact absurd hab (hk a ha)
    · rw [List.mem_singleton.mp ha] at hab; exact absurd hab.symm (hk b hb)
    · rw [List.mem_singleton.mp ha, List.mem_singleton.mp hb]
  st := fun j k a b hjk ha hb => by
    have hk' : k < (L ++ [(stp l e.1, e.2 ++ [l])]).length := (List.getElem?_eq_some_iff.mp hb).1
    rw [List.length_append] at hk'
    have hk' : k < L.length + 1 := hk'
    rw [List.getElem?_append_left (by omega)] at ha
    by_cases q : k < L.length
    · rw [List.getElem?_append_left q] at hb
      exact h.st j k a b hjk ha hb
    · have : k = L.length := by omega
      subst this
      rw [List.getElem?_append_right (Nat.le_refl _), Nat.sub_self] at hb
      cases hb
      exact h.un i e l he hl hn a (List.mem_of_getElem? ha)
  un := fun j a x ha hx h3 f hf => by
    have hj : j < (L ++ [(stp l e.1, e.2 ++ [l])]).length := (List.getElem?_eq_some_iff.mp ha).1
    rw [List.length_append] at hj
    have hj : j < L.length + 1 := hj
    by_cases q : j < L.length
    · rw [List.getElem?_append_left q] at ha
      rcases List.mem_append.mp hf with hf | hf
      · exact h.un j a x ha hx (fun z => h3 (.inl z)) f hf
      · rw [List.mem_singleton.mp hf]
        show slt (e.2 ++ [l]) (a.2 ++ [x])
        rcases Nat.lt_trichotomy j i with z | z | z
        · exact absurd (.inl (h1 j x z hx)) h3
        · subst z
          rw [he] at ha
          cases ha
          rcases h2 x hx (fun z => h3 (.inl z)) with w | w
          · exact absurd (.inr ⟨rfl, w⟩) h3
          · exact slt_one w
        · exact slt_app (h.st i j e a z he ha) l x
    · have : j = L.length := by omega
      subst this
      rw [List.getElem?_append_right (Nat.le_refl _), Nat.sub_self] at ha
      cases ha
      show slt f.2 ((e.2 ++ [l]) ++ [x])
      rcases List.mem_append.mp hf with hf | hf
      · exact slt_tr (h.un i e l he hl hn f hf) (slt_snoc x)
      · rw [List.mem_singleton.mp hf]; exact slt_snoc x
  pr := fun j a x ha hx h3 => by
    rcases h3 with h3 | ⟨rfl, rfl⟩
    · rw [List.getElem?_append_left (h.lt j x h3)] at ha
      obtain ⟨f, f1, f2, f3⟩ := h.pr j a x ha hx h3
      exact ⟨f, List.mem_append_left _ f1, f2, f3⟩
    · rw [List.getElem?_append_left (List.getElem?_eq_some_iff.mp he).1, he] at ha
      cases ha
      exact ⟨_, List.mem_append_right _ (List.mem_singleton.mpr rfl), rfl, .inl rfl⟩
  lt := fun j x h3 => by
    rw [List.length_append]
    rcases h3 with h3 | ⟨rfl, rfl⟩
    · have := h.lt j x h3; omega
    · have := (List.getElem?_eq_some_iff.mp he).1; omega
/-- the words found are the least -/
theorem Bf.min2 (h : Bf stp us s0 L P) : ∀ (k : Nat) (u : List Int), u.length = k → (∀ x ∈ u, x ∈ us) → (∀ f ∈ L, f.1 = runW stp s0 u → sle f.2 u) ∧ ((∀ f ∈ L, f.1 ≠ runW stp s0 u) → ∀ f ∈ L, slt f.2 u)
  | 0, u, hl, _ => by
    have : u = [] := List.length_eq_zero_iff.mp hl
    subst this
    have h0 : (s0, []) ∈ L := List.mem_of_getElem? h.hd
    refine ⟨fun f hf e => ?_, fun n => absurd rfl (n _ h0)⟩
    rw [h.nd f hf _ h0 e]; exact .inl rfl
  | k + 1, u, hl, hu => by
    rcases List.eq_nil_or_concat u with rfl | ⟨v, l, rfl⟩
    · simp at hl
    rw [List.concat_eq_append] at hl hu ⊢
    have hv : v.length = k := by rw [List.length_append] at hl; simpa using hl
    have hvu : ∀ x ∈ v, x ∈ us := fun x hx => hu x (List.mem_append_left _ hx)
    have hlu : l ∈ us := hu l (List.mem_append_right _ (List.mem_singleton.mpr rfl))
    obtain ⟨A, B⟩ := Bf.min2 h k v hv hvu
    rw [runW_snoc]
    by_cases q : ∃ e ∈ L, e.1 = runW stp s0 v
    · obtain ⟨e, he, hev⟩ := q
      have ale := A e he hev
      obtain ⟨j, hj⟩ := List.getElem?_of_mem he
      by_cases p : P j l
      · obtain ⟨f', f1, f2, f3⟩ := h.pr j e l hj hlu p
        rw [hev] at f2
        refine ⟨fun f hf ef => ?_, fun n => absurd f2 (n f' f1)⟩
        rw [h.nd f hf f' f1 (ef.trans f2.symm)]
        exact sle_tr f3 (sle_app ale l)
      · have := h.un j e l hj hlu p
        exact ⟨fun f hf _ => .inr (slt_sle (this f hf) (sle_app ale l)), fun _ f hf => slt_sle (this f hf) (sle_app ale l)⟩
    · have := B fun f hf e => q ⟨f, hf, e⟩
      exact ⟨fun f hf _ => .inr (slt_tr (this f hf) (slt_snoc l)), fun _ f hf => slt_tr (this f hf) (slt_snoc l)⟩
end
section
variable {T : Type} [DecidableEq T] (stp : Int → T → T) (us : List Int) (s0 : T)
def hasW (L : List (T × List Int)) (t : T) : Bool := L.any fun f => decide (f.1 = t)
def addW (L : List (T × List Int)) (e : T × List Int) (l : Int) : List (T × List Int) := if hasW L (stp l e.1) = true then L else L ++ [(stp l e.1, e.2 ++ [l])]
variable {stp us s0} {L : List (T × List Int)}
theorem hasW_iff {t : T} : hasW L t = true ↔ ∃ f ∈ L, f.1 = t := by
  unfold hasW
  rw [List.any_eq_true]
  exact ⟨fun ⟨f, h1, h2⟩ => ⟨f, h1, of_decide_eq_true h2⟩, fun ⟨f, h1, h2⟩ => ⟨f, h1, decide_eq_true h2⟩⟩
/-- the things before i are read, of thing i the levels in done -/
def Pw (us : List Int) (i : Nat) (done : List Int) : Nat → Int → Prop := fun j l => (j < i ∧ l ∈ us) ∨ (j = i ∧ l ∈ done)
theorem Bf.add {i : Nat} {done rest : List Int} {e : T × List Int} {l : Int} (h : Bf stp us s0 L (Pw us i done)) (hu : us = done ++ l :: rest) (hs : us.Pairwise (· < ·)) (he : L[i]? = some e) : Bf stp us s0 (addW stp L e l) (Pw us i (done ++ [l])) ∧ (addW stp L e l)[i]? = some e := by
  have hl : l ∈ us := by rw [hu]; exact List.mem_append_right _ (List.mem_cons_self ..)
  rw [hu, List.pairwise_append] at hs
  obtain ⟨_, s2, s3⟩ := hs
  rw [List.pairwise_cons] at s2
  have hd : l ∉ done := fun z => by have := s3 l z l (List.mem_cons_self ..); omega
  have hn : ¬ Pw us i done i l := fun z => by
    rcases z with ⟨z, _⟩ | ⟨_, z⟩
    · omega
    · exact hd z
  have hi : i < L.length := (List.getElem?_eq_some_iff.mp he).1
  have cg : ∀ {L' : List (T × List Int)}, L.length ≤ L'.length → Bf stp us s0 L' (fun j x => Pw us i done j x ∨ (j = i ∧ x = l)) → Bf stp us s0 L' (Pw us i (done ++ [l])) := fun hL b => b.congr (fun j x _ => by
    unfold Pw
    constructor
    · rintro ((z | z) | z)
      · exact .inl z
      · exact .inr ⟨z.1, List.mem_append_left _ z.2⟩
      · exact .inr ⟨z.1, List.mem_append_right _ (by rw [z.2]; exact List.mem_singleton.mpr rfl)⟩
    · rintro (z | ⟨z1, z2⟩)
      · exact .inl (.inl z)
      · rcases List.mem_append.mp z2 with z2 | z2
        · exact .inl (.inr ⟨z1, z2⟩)
        · exact .inr ⟨z1, List.mem_singleton.mp z2⟩) fun j x z => by
    rcases z with ⟨z, _⟩ | ⟨z, _⟩ <;> omega
  unfold addW
  split
  · rename_i q
    obtain ⟨f, f1, f2⟩ := hasW_iff.mp q
    exact ⟨cg (Nat.le_refl _) (h.old he hl hn f1 f2), he⟩
  · rename_i q
    refine ⟨cg (by rw [List.length_append]; omega) (h.new he hl hn (fun f hf z => q (hasW_iff.mpr ⟨f, hf, z⟩)) (fun j x hj hx => .inl ⟨hj, hx⟩) fun x hx hnx => ?_), by rw [List.getElem?_append_left hi]; exact he⟩
    rw [hu] at hx
    rcases List.mem_append.mp hx with z | z
    · exact absurd (.inr ⟨rfl, z⟩) hnx
    · rcases List.mem_cons.mp z with z | z
      · exact .inl z
      · exact .inr (s2.1 x z)
end
end DL
end
section
set_option autoImplicit false
namespace DL
open PySem L2
end DL
end
section
set_option autoImplicit false
namespace DL
open PySem L2
end DL
end
section
set_option autoImplicit false
namespace DL
open PySem L2
variable [LTabs]
section
variable {X : Cx} {Φ : Calls} {a b c : Expr} {es : List Expr} {pos : Pos} {ia ib ic : E} {ies : Es}
/-- a def as a value -/
theorem de_fnv {x : Str} {f : Addr} (n : Nat) (hg : Gl X x) (hm : X.mg x = some (.ref f)) (ht : PySem.W.typeIn X.K (.ref f) = some (.type "function")) (hd : (x == ("__debug__" : Str)) = false := by decide) : PE X (.Name x pos) (tD X.K (ev Φ (.cst (.box 2 n [])))) :=
  de_cst (pe_glob (v := .ref f) hg hm rfl hd) fun S H => .box (.fn n (by
    have ht : (X.K.lookup f).map Obj.cls = some (.type "function") := ht
    cases q : X.K.lookup f with
    | none => rw [q] at ht; cases ht
    | some o => rw [q] at ht; exact ⟨o, rfl, Option.some.inj ht⟩)) .nil
end
end DL
end
section
set_option autoImplicit false
namespace DL
open PySem L2
mutual
/-- numbers from 0 on, None, tuples and lists of such -/
def riD : D → Bool
  | .non => true
  | .int i => decide (0 ≤ i)
  | .tup ds => risD ds
  | .lst ds => risD ds
  | _ => false
def risD : List D → Bool
  | [] => true
  | d :: ds => riD d && risD ds
end
mutual
def shL : D → List Nat
  | .non => [78, 111, 110, 101]
  | .int i => TL.numL i.toNat
  | .tup [] => [40, 41]
  | .tup [x] => 40 :: (shL x ++ [44, 41])
  | .tup (x :: y :: r) => 40 :: (shL x ++ tlE 41 (y :: r))
  | .lst [] => [91, 93]
  | .lst (x :: r) => 91 :: (shL x ++ tlE 93 r)
  | _ => []
def tlE (e : Nat) : List D → List Nat
  | [] => [e]
  | y :: r => 44 :: 32 :: (shL y ++ tlE e r)
end
theorem joinE (e : Nat) : ∀ (x : D) (r : List D), TL.joinL [44, 32] ((x :: r).map shL) ++ [e] = shL x ++ tlE e r
  | x, [] => by rw [tlE]; rfl
  | x, y :: r => by
    have ih := joinE e y r
    rw [tlE, ← ih]
    show shL x ++ ([44, 32] ++ TL.joinL [44, 32] ((y :: r).map shL)) ++ [e] = _
    rw [List.append_assoc, List.append_assoc]
    rfl
theorem tl_op : TL.tl ("(" : Str) = [40] ∧ TL.tl (")" : Str) = [41] ∧ TL.tl (",)" : Str) = [44, 41] ∧ TL.tl ("[" : Str) = [91] ∧ TL.tl ("]" : Str) = [93] ∧ TL.tl (", " : Str) = [44, 32] ∧ TL.tl ("None" : Str) = [78, 111, 110, 101] := by decide +kernel
mutual
theorem shown_L : ∀ (d : D), riD d = true → TL.tl (toPy d).shown = shL d
  | .non, _ => by
    rw [shL, ← tl_op.2.2.2.2.2.2]
    rfl
  | .int i, h => by
    have h : 0 ≤ i := of_decide_eq_true h
    obtain ⟨n, rfl⟩ : ∃ n : Nat, i = (n : Int) := ⟨i.toNat, by omega⟩
    rw [shL, Int.toNat_natCast, ← TL.tl_num]
    rfl
  | .tup ds, h => by
    have ih := shown_Ls ds h
    have e : (toPy (.tup ds)).shown = tupleText (PyData.shownAll (toPy.toPys ds)) := by simp only [toPy, PyData.shown, tupleText]
    have hl : (PyData.shownAll (toPy.toPys ds)).length = ds.length := by
      have := congrArg List.length ih
      rw [List.length_map, List.length_map] at this
      exact this
    rw [e]
    unfold tupleText
    rw [TL.tl_append, TL.tl_append, TL.tl_join, ih, tl_op.1, tl_op.2.2.2.2.2.1, hl]
    match ds with
    | [] =>
      rw [shL]
      show [40] ++ [] ++ TL.tl (")" : Str) = _
      rw [tl_op.2.1]; rfl
    | [x] =>
      rw [shL]
      show [40] ++ shL x ++ TL.tl (",)" : Str) = _
      rw [tl_op.2.2.1]; rfl
    | x :: y :: r =>
      rw [shL]
      show [40] ++ TL.joinL [44, 32] ((x :: y :: r).map shL) ++ TL.tl (")" : Str) = _
      rw [tl_op.2.1, List.append_assoc, joinE]; rfl
  | .lst ds, h => by
    have ih := shown_Ls ds h
    have e : (toPy (.lst ds)).shown = listText (PyData.shownAll (toPy.toPys ds)) := by simp only [toPy, PyData.shown, listText_eq_join]
    rw [e, listText_eq_join, TL.tl_append, TL.tl_append, TL.tl_join, ih, tl_op.2.2.2.1, tl_op.2.2.2.2.2.1, tl_op.2.2.2.2.1]
    match ds with
    | [] => rw [shL]; rfl
    | x :: r =>
      rw [shL, List.append_assoc, joinE]; rfl
theorem shown_Ls : ∀ (ds : List D), risD ds = true → (PyData.shownAll (toPy.toPys ds)).map TL.tl = ds.map shL
  | [], _ => rfl
  | d :: ds, h => by
    obtain ⟨h1, h2⟩ := Bool.and_eq_true _ _ |>.mp (show (riD d && risD ds) = true from h)
    have e : PyData.shownAll (toPy.toPys (d :: ds)) = (toPy d).shown :: PyData.shownAll (toPy.toPys ds) := by simp only [toPy.toPys, PyData.shownAll]
    rw [e, List.map_cons, List.map_cons, shown_L d h1, shown_Ls ds h2]
end
/-- what may stand behind a datum -/
def Dl (r : List Nat) : Prop := r = [] ∨ ∃ c t, r = c :: t ∧ (c = 44 ∨ c = 41 ∨ c = 93)
theorem Dl.no {r : List Nat} (h : Dl r) : ∀ c t, r = c :: t → ¬ (48 ≤ c ∧ c ≤ 57) := fun c t e => by
  rcases h with h | ⟨c', t', h, z⟩
  · rw [h] at e; cases e
  · rw [h] at e; cases e; omega
theorem tlE_dl (e : Nat) (he : e = 41 ∨ e = 93) (ds : List D) (r : List Nat) : Dl (tlE e ds ++ r) := by
  cases ds with
  | nil => rw [tlE]; exact .inr ⟨e, r, rfl, by omega⟩
  | cons y ds => rw [tlE]; exact .inr ⟨44, _, rfl, .inl rfl⟩
theorem dig_cut : ∀ {x y r s : List Nat}, (∀ c ∈ x, 48 ≤ c ∧ c ≤ 57) → (∀ c ∈ y, 48 ≤ c ∧ c ≤ 57) → (∀ c t, r = c :: t → ¬ (48 ≤ c ∧ c ≤ 57)) → (∀ c t, s = c :: t → ¬ (48 ≤ c ∧ c ≤ 57)) → x ++ r = y ++ s → x = y ∧ r = s
  | [], [], r, s, _, _, _, _, h => ⟨rfl, h⟩
  | [], b :: y, r, s, _, hy, hr, _, h => absurd (hy b (List.mem_cons_self ..)) (hr b (y ++ s) h)
  | a :: x, [], r, s, hx, _, _, hs, h => absurd (hx a (List.mem_cons_self ..)) (hs a (x ++ r) h.symm)
  | a :: x, b :: y, r, s, hx, hy, hr, hs, h => by
    injection h with h1 h2
    obtain ⟨e1, e2⟩ := dig_cut (fun c hc => hx c (List.mem_cons_of_mem _ hc)) (fun c hc => hy c (List.mem_cons_of_mem _ hc)) hr hs h2
    exact ⟨by rw [h1, e1], e2⟩
theorem num_dig (n : Nat) : ∀ c ∈ TL.numL n, 48 ≤ c ∧ c ≤ 57 := fun c hc => by
  by_cases q : c < 48 ∨ 57 < c
  · exact absurd hc (TL.numL_free q)
  · omega
/-- the first sign tells the kind -/
def kiD : D → Nat
  | .non => 0
  | .int _ => 1
  | .tup _ => 2
  | _ => 3
theorem shL_hd (d : D) (h : riD d = true) : ∃ c t, shL d = c :: t ∧ ((kiD d = 0 ∧ c = 78) ∨ (kiD d = 1 ∧ 48 ≤ c ∧ c ≤ 57) ∨ (kiD d = 2 ∧ c = 40) ∨ (kiD d = 3 ∧ c = 91)) := by
  cases d with
  | non => rw [shL]; exact ⟨_, _, rfl, .inl ⟨rfl, rfl⟩⟩
  | int i =>
    rw [shL]
    have hn := TL.numL_ne i.toNat
    have hd := num_dig i.toNat
    cases q : TL.numL i.toNat with
    | nil => exact absurd q hn
    | cons c t => exact ⟨c, t, rfl, .inr (.inl ⟨rfl, hd c (q ▸ List.mem_cons_self ..)⟩)⟩
  | tup ds =>
    match ds with
    | [] => rw [shL]; exact ⟨_, _, rfl, .inr (.inr (.inl ⟨rfl, rfl⟩))⟩
    | [x] => rw [shL]; exact ⟨_, _, rfl, .inr (.inr (.inl ⟨rfl, rfl⟩))⟩
    | x :: y :: r => rw [shL]; exact ⟨_, _, rfl, .inr (.inr (.inl ⟨rfl, rfl⟩))⟩
  | lst ds =>
    match ds with
    | [] => rw [shL]; exact ⟨_, _, rfl, .inr (.inr (.inr ⟨rfl, rfl⟩))⟩
    | x :: r => rw [shL]; exact ⟨_, _, rfl, .inr (.inr (.inr ⟨rfl, rfl⟩))⟩
  | _ => cases h
theorem kiD_eq {d e : D} {r s : List Nat} (hd : riD d = true) (he : riD e = true) (h : shL d ++ r = shL e ++ s) : kiD d = kiD e := by
  obtain ⟨c, t, e1, k1⟩ := shL_hd d hd
  obtain ⟨c', t', e2, k2⟩ := shL_hd e he
  rw [e1, e2] at h
  injection h with h1 _
  omega
mutual
theorem uniq : ∀ (d e : D) (r s : List Nat), riD d = true → riD e = true → Dl r → Dl s → shL d ++ r = shL e ++ s → d = e ∧ r = s
  | .non, e, r, s, hd, he, _, _, h => by
    have k := kiD_eq hd he h
    cases e with
    | non => exact ⟨rfl, List.append_cancel_left h⟩
    | int _ => cases k
    | tup _ => cases k
    | lst _ => cases k
    | _ => cases he
  | .int i, e, r, s, hd, he, hr, hs, h => by
    have k := kiD_eq hd he h
    cases e with
    | int j =>
      rw [shL, shL] at h
      obtain ⟨e1, e2⟩ := dig_cut (num_dig _) (num_dig _) hr.no hs.no h
      have e1 := TL.numL_inj e1
      have hi : 0 ≤ i := of_decide_eq_true hd
      have hj : 0 ≤ j := of_decide_eq_true he
      exact ⟨by rw [show i = j by omega], e2⟩
    | non => cases k
    | tup _ => cases k
    | lst _ => cases k
    | _ => cases he
  | .tup ds, e, r, s, hd, he, hr, hs, h => by
    have k := kiD_eq hd he h
    cases e with
    | tup es =>
      match ds, es, hd, he, h with
      | [], [], _, _, h => exact ⟨rfl, List.append_cancel_left h⟩
      | [], [y], _, he, h =>
        rw [shL, shL] at h
        obtain ⟨c, t, e1, k1⟩ := shL_hd y (by
          obtain ⟨h1, _⟩ := Bool.and_eq_true _ _ |>.mp (show (riD y && risD []) = true from he)
          exact h1)
        rw [e1] at h
        injection h with _ h
        injection h with h _
        omega
      | [], y :: y2 :: ys, _, he, h =>
        rw [shL, shL] at h
        obtain ⟨c, t, e1, k1⟩ := shL_hd y (by
          obtain ⟨h1, _⟩ := Bool.and_eq_true _ _ |>.mp (show (riD y && risD (y2 :: ys)) = true from he)
          exact h1)
        rw [e1] at h
        injection h with _ h
        injection h with h _
        omega
      | [x], [], hd, _, h =>
        rw [shL, shL] at h
        obtain ⟨c, t, e1, k1⟩ := shL_hd x (by
          obtain ⟨h1, _⟩ := Bool.and_eq_true _ _ |>.mp (show (riD x && risD []) = true from hd)
          exact h1)
        rw [e1] at h
        injection h with _ h
        injection h with h _
        omega
      | x :: x2 :: xs, [], hd, _, h =>
        rw [shL, shL] at h
        obtain ⟨c, t, e1, k1⟩ := shL_hd x (by
          obtain ⟨h1, _⟩ := Bool.and_eq_true _ _ |>.mp (show (riD x && risD (x2 :: xs)) = true from hd)
          exact h1)
        rw [e1] at h
        injection h with _ h
        injection h with h _
        omega
      | [x], [y], hd, he, h =>
        rw [shL, shL] at h
        injection h with _ h
        have h : (shL x ++ _) ++ r = (shL y ++ _) ++ s := h
        rw [List.append_assoc, List.append_assoc] at h
        obtain ⟨h1, _⟩ := Bool.and_eq_true _ _ |>.mp (show (riD x && risD []) = true from hd)
        obtain ⟨h2, _⟩ := Bool.and_eq_true _ _ |>.mp (show (riD y && risD []) = true from he)
        obtain ⟨e1, e2⟩ := uniq x y _ _ h1 h2 (.inr ⟨44, _, rfl, .inl rfl⟩) (.inr ⟨44, _, rfl, .inl rfl⟩) h
        injection e2 with _ e2
        injection e2 with _ e2
        exact ⟨by rw [e1], e2⟩
      | [x], y :: y2 :: ys, hd, he, h =>
        rw [shL, shL] at h
        injection h with _ h
        have h : (shL x ++ _) ++ r = (shL y ++ _) ++ s := h
        rw [List.append_assoc, List.append_assoc] at h
        obtain ⟨h1, _⟩ := Bool.and_eq_true _ _ |>.mp (show (riD x && risD []) = true from hd)
        obtain ⟨h2, _⟩ := Bool.and_eq_true _ _ |>.mp (show (riD y && risD (y2 :: ys)) = true from he)
        obtain ⟨e1, e2⟩ := uniq x y _ _ h1 h2 (.inr ⟨44, _, rfl, .inl rfl⟩) (tlE_dl 41 (.inl rfl) _ _) h
        rw [tlE] at e2
        injection e2 with _ e2
        injection e2 with e2 _
        omega
      | x :: x2 :: xs, [y], hd, he, h =>
        rw [shL, shL] at h
        injection h with _ h
        have h : (shL x ++ _) ++ r = (shL y ++ _) ++ s := h
        rw [List.append_assoc, List.append_assoc] at h
        obtain ⟨h1, _⟩ := Bool.and_eq_true _ _ |>.mp (show (riD x && risD (x2 :: xs)) = true from hd)
        obtain ⟨h2, _⟩ := Bool.and_eq_true _ _ |>.mp (show (riD y && risD []) = true from he)
        obtain ⟨e1, e2⟩ := uniq x y _ _ h1 h2 (tlE_dl 41 (.inl rfl) _ _) (.inr ⟨44, _, rfl, .inl rfl⟩) h
        rw [tlE] at e2
        injection e2 with _ e2
        injection e2 with e2 _
        omega
      | x :: x2 :: xs, y :: y2 :: ys, hd, he, h =>
        rw [shL, shL] at h
        injection h with _ h
        have h : (shL x ++ _) ++ r = (shL y ++ _) ++ s := h
        rw [List.append_assoc, List.append_assoc] at h
        obtain ⟨h1, h3⟩ := Bool.and_eq_true _ _ |>.mp (show (riD x && risD (x2 :: xs)) = true from hd)
        obtain ⟨h2, h4⟩ := Bool.and_eq_true _ _ |>.mp (show (riD y && risD (y2 :: ys)) = true from he)
        obtain ⟨e1, e2⟩ := uniq x y _ _ h1 h2 (tlE_dl 41 (.inl rfl) _ _) (tlE_dl 41 (.inl rfl) _ _) h
        obtain ⟨e3, e4⟩ := uniqs 41 (.inl rfl) (x2 :: xs) (y2 :: ys) r s h3 h4 e2
        exact ⟨by rw [e1, e3], e4⟩
    | non => cases k
    | int _ => cases k
    | lst _ => cases k
    | _ => cases he
  | .lst ds, e, r, s, hd, he, hr, hs, h => by
    have k := kiD_eq hd he h
    cases e with
    | lst es =>
      match ds, es, hd, he, h with
      | [], [], _, _, h => exact ⟨rfl, List.append_cancel_left h⟩
      | [], y :: ys, _, he, h =>
        rw [shL, shL] at h
        obtain ⟨c, t, e1, k1⟩ := shL_hd y (by
          obtain ⟨h1, _⟩ := Bool.and_eq_true _ _ |>.mp (show (riD y && risD ys) = true from he)
          exact h1)
        rw [e1] at h
        injection h with _ h
        injection h with h _
        omega
      | x :: xs, [], hd, _, h =>
        rw [shL, shL] at h
        obtain ⟨c, t, e1, k1⟩ := shL_hd x (by
          obtain ⟨h1, _⟩ := Bool.and_eq_true _ _ |>.mp (show (riD x && risD xs) = true from hd)
          exact h1)
        rw [e1] at h
        injection h with _ h
        injection h with h _
        omega
      | x :: xs, y :: ys, hd, he, h =>
        rw [shL, shL] at h
        injection h with _ h
        have h : (shL x ++ _) ++ r = (shL y ++ _) ++ s := h
        rw [List.append_assoc, List.append_assoc] at h
        obtain ⟨h1, h3⟩ := Bool.and_eq_true _ _ |>.mp (show (riD x && risD xs) = true from hd)
        obtain ⟨h2, h4⟩ := Bool.and_eq_true _ _ |>.mp (show (riD y && risD ys) = true from he)
        obtain ⟨e1, e2⟩ := uniq x y _ _ h1 h2 (tlE_dl 93 (.inr rfl) _ _) (tlE_dl 93 (.inr rfl) _ _) h
        obtain ⟨e3, e4⟩ := uniqs 93 (.inr rfl) xs ys r s h3 h4 e2
        exact ⟨by rw [e1, e3], e4⟩
    | non => cases k
    | int _ => cases k
    | tup _ => cases k
    | _ => cases he
theorem uniqs (c : Nat) (hc : c = 41 ∨ c = 93) : ∀ (ds es : List D) (r s : List Nat), risD ds = true → risD es = true → tlE c ds ++ r = tlE c es ++ s → ds = es ∧ r = s
  | [], [], r, s, _, _, h => by
    rw [tlE] at h
    injection h with _ h
    exact ⟨rfl, h⟩
  | [], y :: ys, r, s, _, _, h => by
    rw [tlE, tlE] at h
    injection h with h _
    omega
  | x :: xs, [], r, s, _, _, h => by
    rw [tlE, tlE] at h
    injection h with h _
    omega
  | x :: xs, y :: ys, r, s, hd, he, h => by
    rw [tlE, tlE] at h
    injection h with _ h
    injection h with _ h
    have h : (shL x ++ _) ++ r = (shL y ++ _) ++ s := h
    rw [List.append_assoc, List.append_assoc] at h
    obtain ⟨h1, h3⟩ := Bool.and_eq_true _ _ |>.mp (show (riD x && risD xs) = true from hd)
    obtain ⟨h2, h4⟩ := Bool.and_eq_true _ _ |>.mp (show (riD y && risD ys) = true from he)
    obtain ⟨e1, e2⟩ := uniq x y _ _ h1 h2 (tlE_dl c hc _ _) (tlE_dl c hc _ _) h
    obtain ⟨e3, e4⟩ := uniqs c hc xs ys r s h3 h4 e2
    exact ⟨by rw [e1, e3], e4⟩
end
theorem shown_eq {d e : D} (hd : riD d = true) (he : riD e = true) : (toPy d).shown = (toPy e).shown ↔ d = e := by
  refine ⟨fun h => ?_, fun h => by rw [h]⟩
  have h1 := congrArg TL.tl h
  rw [shown_L d hd, shown_L e he] at h1
  exact (uniq d e [] [] hd he (.inl rfl) (.inl rfl) (by rw [List.append_nil, List.append_nil]; exact h1)).1
end DL
end
namespace Q_bandlinks_k06_equality_and_text
open PySem PySem.Spec PyProof.Rows L2 DL
abbrev N0 : List Str := ["_law_script", "_law_shown", "_law_height", "_law_pieces", "_law_text_here", "_law_k"]
abbrev p0 : List Str := ["_law_script"]
theorem sc0 : FnScope N0 p0 (defScope st0) := ⟨rfl, rfl, rfl, by decide +kernel, rfl, by decide +kernel, by decide +kernel⟩
abbrev N1 : List Str := ["_law_one", "_law_text_here"]
abbrev p1 : List Str := ["_law_one"]
theorem sc1 : FnScope N1 p1 (defScope st1) := ⟨rfl, rfl, rfl, by decide +kernel, rfl, by decide +kernel, by decide +kernel⟩
abbrev N2 : List Str := ["self", "levels", "parts", "invalid"]
abbrev p2 : List Str := ["self", "levels", "parts"]
theorem sc2 : FnScope N2 p2 (defScope st2) := ⟨rfl, rfl, rfl, by decide +kernel, rfl, by decide +kernel, by decide +kernel⟩
abbrev N3 : List Str := ["self"]
abbrev p3 : List Str := ["self"]
theorem sc3 : FnScope N3 p3 (defScope st3) := ⟨rfl, rfl, rfl, by decide +kernel, rfl, by decide +kernel, by decide +kernel⟩
abbrev N4 : List Str := ["_law_pool_here", "_law_height", "_law_seen", "_law_pieces", "_law_turn", "_law_one", "_law_other", "_law_same", "_law_things", "_law_thing"]
abbrev p4 : List Str := ["_law_pool_here"]
theorem sc4 : FnScope N4 p4 (defScope st4) := ⟨rfl, rfl, rfl, by decide +kernel, rfl, by decide +kernel, by decide +kernel⟩
abbrev N5 : List Str := ["_law_cell_here", "_law_digits"]
abbrev p5 : List Str := ["_law_cell_here"]
theorem sc5 : FnScope N5 p5 (defScope st5) := ⟨rfl, rfl, rfl, by decide +kernel, rfl, by decide +kernel, by decide +kernel⟩
abbrev N6 : List Str := ["_law_script", "_law_k", "_law_state", "_law_cell_here"]
abbrev p6 : List Str := ["_law_script", "_law_k"]
theorem sc6 : FnScope N6 p6 (defScope st6) := ⟨rfl, rfl, rfl, by decide +kernel, rfl, by decide +kernel, by decide +kernel⟩
abbrev N7 : List Str := ["_law_pieces", "_law_words", "_law_piece"]
abbrev p7 : List Str := ["_law_pieces"]
theorem sc7 : FnScope N7 p7 (defScope st7) := ⟨rfl, rfl, rfl, by decide +kernel, rfl, by decide +kernel, by decide +kernel⟩
abbrev N8 : List Str := ["self"]
abbrev p8 : List Str := ["self"]
theorem sc8 : FnScope N8 p8 (defScope st8) := ⟨rfl, rfl, rfl, by decide +kernel, rfl, by decide +kernel, by decide +kernel⟩
abbrev N9 : List Str := ["thing"]
abbrev p9 : List Str := ["thing"]
theorem sc9 : FnScope N9 p9 (defScope st9) := ⟨rfl, rfl, rfl, by decide +kernel, rfl, by decide +kernel, by decide +kernel⟩
abbrev N10 : List Str := ["levels", "parts", "size", "index", "part", "found"]
abbrev p10 : List Str := ["levels", "parts"]
theorem sc10 : FnScope N10 p10 (defScope st10) := ⟨rfl, rfl, rfl, by decide +kernel, rfl, by decide +kernel, by decide +kernel⟩
abbrev N11 : List Str := ["parts", "words", "part"]
abbrev p11 : List Str := ["parts"]
theorem sc11 : FnScope N11 p11 (defScope st11) := ⟨rfl, rfl, rfl, by decide +kernel, rfl, by decide +kernel, by decide +kernel⟩
abbrev N12 : List Str := ["_law_pool_here", "_law_most", "_law_wide"]
abbrev p12 : List Str := ["_law_pool_here", "_law_most"]
theorem sc12 : FnScope N12 p12 (defScope st12) := ⟨rfl, rfl, rfl, by decide +kernel, rfl, by decide +kernel, by decide +kernel⟩
abbrev N13 : List Str := ["_law_pool_here", "_law_height", "_law_room", "_law_deep", "_law_pieces", "_law_inner"]
abbrev p13 : List Str := ["_law_pool_here", "_law_height", "_law_room", "_law_deep"]
theorem sc13 : FnScope N13 p13 (defScope st13) := ⟨rfl, rfl, rfl, by decide +kernel, rfl, by decide +kernel, by decide +kernel⟩
abbrev N14 : List Str := ["_law_pool_here", "_law_count", "_law_state", "_law_digit"]
abbrev p14 : List Str := ["_law_pool_here", "_law_count"]
theorem sc14 : FnScope N14 p14 (defScope st14) := ⟨rfl, rfl, rfl, by decide +kernel, rfl, by decide +kernel, by decide +kernel⟩
abbrev N15 : List Str := ["_law_pool_here", "_law_height", "_law_pieces", "_law_at", "_law_way", "_law_rest", "_law_piece", "_law_more"]
abbrev p15 : List Str := ["_law_pool_here", "_law_height", "_law_pieces"]
theorem sc15 : FnScope N15 p15 (defScope st15) := ⟨rfl, rfl, rfl, by decide +kernel, rfl, by decide +kernel, by decide +kernel⟩
abbrev N16 : List Str := ["thing"]
abbrev p16 : List Str := ["thing"]
theorem sc16 : FnScope N16 p16 (defScope st16) := ⟨rfl, rfl, rfl, by decide +kernel, rfl, by decide +kernel, by decide +kernel⟩
abbrev N17 : List Str := ["self", "other"]
abbrev p17 : List Str := ["self", "other"]
theorem sc17 : FnScope N17 p17 (defScope st17) := ⟨rfl, rfl, rfl, by decide +kernel, rfl, by decide +kernel, by decide +kernel⟩
abbrev N18 : List Str := ["thing", "least", "most"]
abbrev p18 : List Str := ["thing", "least", "most"]
theorem sc18 : FnScope N18 p18 (defScope st18) := ⟨rfl, rfl, rfl, by decide +kernel, rfl, by decide +kernel, by decide +kernel⟩
abbrev N19 : List Str := ["levels", "part", "inner"]
abbrev p19 : List Str := ["levels", "part"]
theorem sc19 : FnScope N19 p19 (defScope st19) := ⟨rfl, rfl, rfl, by decide +kernel, rfl, by decide +kernel, by decide +kernel⟩
abbrev N20 : List Str := ["_law_pieces", "_law_piece"]
abbrev p20 : List Str := ["_law_pieces"]
theorem sc20 : FnScope N20 p20 (defScope st20) := ⟨rfl, rfl, rfl, by decide +kernel, rfl, by decide +kernel, by decide +kernel⟩
abbrev N21 : List Str := ["_law_pool_here"]
abbrev p21 : List Str := ["_law_pool_here"]
theorem sc21 : FnScope N21 p21 (defScope st21) := ⟨rfl, rfl, rfl, by decide +kernel, rfl, by decide +kernel, by decide +kernel⟩
abbrev N22 : List Str := ["thing"]
abbrev p22 : List Str := ["thing"]
theorem sc22 : FnScope N22 p22 (defScope st22) := ⟨rfl, rfl, rfl, by decide +kernel, rfl, by decide +kernel, by decide +kernel⟩
abbrev N23 : List Str := ["levels", "thing"]
abbrev p23 : List Str := ["levels", "thing"]
theorem sc23 : FnScope N23 p23 (defScope st23) := ⟨rfl, rfl, rfl, by decide +kernel, rfl, by decide +kernel, by decide +kernel⟩
abbrev N24 : List Str := ["levels", "parts", "size", "depth", "part", "found"]
abbrev p24 : List Str := ["levels", "parts"]
theorem sc24 : FnScope N24 p24 (defScope st24) := ⟨rfl, rfl, rfl, by decide +kernel, rfl, by decide +kernel, by decide +kernel⟩
def ir0 : Ss := .cons (.asg (.nm 1) (.lst (.cons (.tup (.cons (.cst (.int 1)) (.cons (.tup (.nil)) (.cons (.cst (.str "-")) (.nil))))) (.cons (.tup (.cons (.cst (.int 4)) (.cons (.tup (.cons (.cst (.int 2)) (.cons (.tup (.cons (.tup (.cons (.cst (.int 4)) (.cons (.cst (.int 1)) (.nil)))) (.cons (.cst (.int 3)) (.nil)))) (.cons (.cst (.int 3)) (.nil))))) (.cons (.cst (.str "2 (4 1)x3 3")) (.nil))))) (.nil)))))
    (.cons (.ex (.app 1 (.tup (.cons (.cst (.int 12)) (.cons (.tup (.cons (.cst (.int 10)) (.cons (.tup (.cons (.tup (.cons (.tup (.cons (.tup (.nil)) (.cons (.cst (.int 2)) (.nil)))) (.cons (.cst (.int 1)) (.nil)))) (.cons (.cst (.int 1000)) (.nil)))) (.nil)))) (.cons (.cst (.str "10 ((-)x2 1)x1000")) (.nil)))))))
    (.cons (.for_ (.tp (.cons (.nm 2) (.cons (.nm 3) (.cons (.nm 4) (.nil))))) (.val (.var 1)) (.cons (.ifs (.or (.cmp .ne (.meth (.make 0 2 [0, 1] (.val (.var 2) (.val (.var 3) (.nil))) (.val (.cst (.tup [])) (.nil))) [(0, 3)] [0] .nil .nil) (.var 4)) (.not (.call 1 [0] (.val (.make 0 2 [0, 1] (.val (.var 2) (.val (.var 3) (.nil))) (.val (.cst (.tup [])) (.nil))) (.nil)) .nil))) (.cons (.ret (.cst (.bl false)))
    (.nil)) (.nil))
    (.cons (.wip [2, 3, 4])
    (.nil))))
    (.cons (.ret (.bi .all (.cons (.comp [5] (.nm 5) (.rng1 (.bi .max2 (.cons (.cst (.int 2)) (.cons (.bi .min2 (.cons (.bi .len (.cons (.var 0) (.nil))) (.cons (.cst (.int 6)) (.nil)))) (.nil))))) (.none) (.call 4 [0] (.ref (.call 5 [0] (.val (.call 6 [0, 1] (.val (.var 0) (.val (.var 5) (.nil))) .nil) (.nil)) .nil) (.nil)) .nil)) (.nil))))
    (.nil))))
abbrev lt0_0 : Tg := .tp (.cons (.nm 2) (.cons (.nm 3) (.cons (.nm 4) (.nil))))
abbrev lb0_0 : Ss := .cons (.ifs (.or (.cmp .ne (.meth (.make 0 2 [0, 1] (.val (.var 2) (.val (.var 3) (.nil))) (.val (.cst (.tup [])) (.nil))) [(0, 3)] [0] .nil .nil) (.var 4)) (.not (.call 1 [0] (.val (.make 0 2 [0, 1] (.val (.var 2) (.val (.var 3) (.nil))) (.val (.cst (.tup [])) (.nil))) (.nil)) .nil))) (.cons (.ret (.cst (.bl false)))
    (.nil)) (.nil))
    (.cons (.wip [2, 3, 4])
    (.nil))
def ir1 : Ss := .cons (.asg (.nm 1) (.call 7 [0] (.val (.fld (.var 0) [(0, 1)]) (.nil)) .nil))
    (.cons (.ret (.and (.cmp .eq (.meth (.var 0) [(0, 3)] [0] .nil .nil) (.var 1)) (.cmp .eq (.meth (.var 0) [(0, 8)] [0] .nil .nil) (.bin .add (.bin .add (.bin .add (.bin .add (.cst (.str "Log(")) (.bi .str1 (.cons (.fld (.var 0) [(0, 0)]) (.nil)))) (.cst (.str ", '"))) (.var 1)) (.cst (.str "')"))))))
    (.nil))
def ir2 : Ss := .cons (.ifs (.not (.call 9 [0] (.val (.var 1) (.nil)) .nil)) (.cons (.ex stkE) .nil) .nil)
    (.cons (.ifs (.not (.bi (.isi .tuple) (.cons (.var 2) .nil))) (.cons (.ex stkE) .nil) .nil)
    (.cons (.asg (.nm 3) (.call 10 [0, 1] (.val (.var 1) (.val (.var 2) (.nil))) .nil))
    (.cons (.ifs (.cmp .notN (.var 3) (.cst .non)) (.cons (.ex stkE) .nil) .nil)
    (.cons (.ret (.tup (.cons (.var 1) (.cons (.var 2) .nil)))) .nil))))
def ir3 : Ss := .cons (.ret (.bi .str1 (.cons (.call 11 [0] (.val (.fld (.var 0) [(0, 1)]) (.nil)) .nil) (.nil))))
    (.nil)
def ir4 : Ss := .cons (.par 1 2 (.call 12 [0, 1] (.ref (.var 0) (.val (.cst (.int 11)) (.nil))) .nil) (.lst (.nil)))
    (.cons (.asg (.nm 3) (.call 13 [0, 1, 2, 3] (.ref (.var 0) (.val (.var 1) (.val (.idx (.lst (.cons (.call 14 [0, 1] (.ref (.var 0) (.val (.cst (.int 9)) (.nil))) .nil) (.cons (.call 14 [0, 1] (.ref (.var 0) (.val (.cst (.int 118)) (.nil))) .nil) (.nil)))) (.call 14 [0, 1] (.ref (.var 0) (.val (.cst (.int 2)) (.nil))) .nil)) (.val (.cst (.int 5)) (.nil))))) .nil))
    (.cons (.for_ (.nm 4) (.rng1 (.cst (.int 6))) (.cons (.asg (.nm 3) (.call 15 [0, 1, 2] (.ref (.var 0) (.val (.var 1) (.val (.var 3) (.nil)))) .nil))
    (.cons (.ex (.app 2 (.make 0 2 [0, 1] (.val (.bin .add (.var 1) (.bi .int1 (.cons (.cmp .eq (.call 14 [0, 1] (.ref (.var 0) (.val (.cst (.int 6)) (.nil))) .nil) (.cst (.int 0))) (.nil)))) (.val (.var 3) (.nil))) (.val (.cst (.tup [])) (.nil)))))
    (.cons (.wip [4])
    (.nil)))))
    (.cons (.wip [3])
    (.cons (.for_ (.nm 5) (.val (.var 2)) (.cons (.ifs (.or (.not (.call 1 [0] (.val (.var 5) (.nil)) .nil)) (.cmp .notN (.call 16 [0] (.val (.var 5) (.nil)) .nil) (.cst (.bl true)))) (.cons (.ret (.cst (.bl false)))
    (.nil)) (.nil))
    (.cons (.wip [7, 6])
    (.cons (.for_ (.nm 6) (.val (.var 2)) (.cons (.asg (.nm 7) (.cmp .eq (.bi .repr (.cons (.lst (.cons (.fld (.var 5) [(0, 0)]) (.cons (.fld (.var 5) [(0, 1)]) (.nil)))) (.nil))) (.bi .repr (.cons (.lst (.cons (.fld (.var 6) [(0, 0)]) (.cons (.fld (.var 6) [(0, 1)]) (.nil)))) (.nil)))))
    (.cons (.ifs (.or (.cmp .ne (.meth (.var 5) [(0, 17)] [0, 1] (.val (.var 6) (.nil)) (.nil)) (.var 7)) (.cmp .eq (.not (.meth (.var 5) [(0, 17)] [0, 1] (.val (.var 6) (.nil)) (.nil))) (.var 7))) (.cons (.ret (.cst (.bl false)))
    (.nil)) (.nil))
    (.cons (.wip [7, 6])
    (.nil)))))
    (.cons (.asg (.nm 8) (.lst (.cons (.cst .non) (.cons (.cst (.int 0)) (.cons (.cst (.str "")) (.cons (.tup (.nil)) (.cons (.fld (.var 5) [(0, 1)]) (.cons (.tup (.cons (.fld (.var 5) [(0, 0)]) (.cons (.fld (.var 5) [(0, 1)]) (.nil)))) (.cons (.meth (.var 5) [(0, 3)] [0] .nil .nil) (.cons (.meth (.var 5) [(0, 8)] [0] .nil .nil) (.cons (.lst (.cons (.var 5) (.nil))) (.cons (.cst (.bl true)) (.cons (.cst (.emp [])) (.cons (.cst (.box 2 16 [])) (.nil)))))))))))))))
    (.cons (.wip [9])
    (.cons (.for_ (.nm 9) (.val (.var 8)) (.cons (.ifs (.or (.meth (.var 5) [(0, 17)] [0, 1] (.val (.var 9) (.nil)) (.nil)) (.or (.not (.not (.meth (.var 5) [(0, 17)] [0, 1] (.val (.var 9) (.nil)) (.nil)))) (.cmp .notN (.call 16 [0] (.val (.var 9) (.nil)) .nil) (.cst (.bl false))))) (.cons (.ret (.cst (.bl false)))
    (.nil)) (.nil))
    (.cons (.wip [9])
    (.nil))))
    (.cons (.wip [6, 7, 8, 9, 5])
    (.nil)))))))))
    (.cons (.ret (.cst (.bl true)))
    (.nil))))))
abbrev lt4_0 : Tg := .nm 4
abbrev lb4_0 : Ss := .cons (.asg (.nm 3) (.call 15 [0, 1, 2] (.ref (.var 0) (.val (.var 1) (.val (.var 3) (.nil)))) .nil))
    (.cons (.ex (.app 2 (.make 0 2 [0, 1] (.val (.bin .add (.var 1) (.bi .int1 (.cons (.cmp .eq (.call 14 [0, 1] (.ref (.var 0) (.val (.cst (.int 6)) (.nil))) .nil) (.cst (.int 0))) (.nil)))) (.val (.var 3) (.nil))) (.val (.cst (.tup [])) (.nil)))))
    (.cons (.wip [4])
    (.nil)))
abbrev lt4_2 : Tg := .nm 6
abbrev lb4_2 : Ss := .cons (.asg (.nm 7) (.cmp .eq (.bi .repr (.cons (.lst (.cons (.fld (.var 5) [(0, 0)]) (.cons (.fld (.var 5) [(0, 1)]) (.nil)))) (.nil))) (.bi .repr (.cons (.lst (.cons (.fld (.var 6) [(0, 0)]) (.cons (.fld (.var 6) [(0, 1)]) (.nil)))) (.nil)))))
    (.cons (.ifs (.or (.cmp .ne (.meth (.var 5) [(0, 17)] [0, 1] (.val (.var 6) (.nil)) (.nil)) (.var 7)) (.cmp .eq (.not (.meth (.var 5) [(0, 17)] [0, 1] (.val (.var 6) (.nil)) (.nil))) (.var 7))) (.cons (.ret (.cst (.bl false)))
    (.nil)) (.nil))
    (.cons (.wip [7, 6])
    (.nil)))
abbrev lt4_3 : Tg := .nm 9
abbrev lb4_3 : Ss := .cons (.ifs (.or (.meth (.var 5) [(0, 17)] [0, 1] (.val (.var 9) (.nil)) (.nil)) (.or (.not (.not (.meth (.var 5) [(0, 17)] [0, 1] (.val (.var 9) (.nil)) (.nil)))) (.cmp .notN (.call 16 [0] (.val (.var 9) (.nil)) .nil) (.cst (.bl false))))) (.cons (.ret (.cst (.bl false)))
    (.nil)) (.nil))
    (.cons (.wip [9])
    (.nil))
abbrev lt4_1 : Tg := .nm 5
abbrev lb4_1 : Ss := .cons (.ifs (.or (.not (.call 1 [0] (.val (.var 5) (.nil)) .nil)) (.cmp .notN (.call 16 [0] (.val (.var 5) (.nil)) .nil) (.cst (.bl true)))) (.cons (.ret (.cst (.bl false)))
    (.nil)) (.nil))
    (.cons (.wip [7, 6])
    (.cons (.for_ (.nm 6) (.val (.var 2)) (.cons (.asg (.nm 7) (.cmp .eq (.bi .repr (.cons (.lst (.cons (.fld (.var 5) [(0, 0)]) (.cons (.fld (.var 5) [(0, 1)]) (.nil)))) (.nil))) (.bi .repr (.cons (.lst (.cons (.fld (.var 6) [(0, 0)]) (.cons (.fld (.var 6) [(0, 1)]) (.nil)))) (.nil)))))
    (.cons (.ifs (.or (.cmp .ne (.meth (.var 5) [(0, 17)] [0, 1] (.val (.var 6) (.nil)) (.nil)) (.var 7)) (.cmp .eq (.not (.meth (.var 5) [(0, 17)] [0, 1] (.val (.var 6) (.nil)) (.nil))) (.var 7))) (.cons (.ret (.cst (.bl false)))
    (.nil)) (.nil))
    (.cons (.wip [7, 6])
    (.nil)))))
    (.cons (.asg (.nm 8) (.lst (.cons (.cst .non) (.cons (.cst (.int 0)) (.cons (.cst (.str "")) (.cons (.tup (.nil)) (.cons (.fld (.var 5) [(0, 1)]) (.cons (.tup (.cons (.fld (.var 5) [(0, 0)]) (.cons (.fld (.var 5) [(0, 1)]) (.nil)))) (.cons (.meth (.var 5) [(0, 3)] [0] .nil .nil) (.cons (.meth (.var 5) [(0, 8)] [0] .nil .nil) (.cons (.lst (.cons (.var 5) (.nil))) (.cons (.cst (.bl true)) (.cons (.cst (.emp [])) (.cons (.cst (.box 2 16 [])) (.nil)))))))))))))))
    (.cons (.wip [9])
    (.cons (.for_ (.nm 9) (.val (.var 8)) (.cons (.ifs (.or (.meth (.var 5) [(0, 17)] [0, 1] (.val (.var 9) (.nil)) (.nil)) (.or (.not (.not (.meth (.var 5) [(0, 17)] [0, 1] (.val (.var 9) (.nil)) (.nil)))) (.cmp .notN (.call 16 [0] (.val (.var 9) (.nil)) .nil) (.cst (.bl false))))) (.cons (.ret (.cst (.bl false)))
    (.nil)) (.nil))
    (.cons (.wip [9])
    (.nil))))
    (.cons (.wip [6, 7, 8, 9, 5])
    (.nil)))))))
def ir5 : Ss := .cons (.asg (.nm 1) (.cst (.int 0)))
    (.cons (.ifs (.or (.cmp .lt (.var 0) (.cst (.int 0))) (.cmp .ge (.var 0) (.bin .pow (.cst (.int 10)) (.cst (.int 18))))) (.cons (.asg (.nm 1) (.bi .abs (.cons (.var 0) (.nil))))
    (.nil)) (.nil))
    (.cons (.ret (.lst (.cons (.bin .mod (.var 0) (.cst (.int 1000000007))) (.cons (.var 1) (.cons (.cst (.int 0)) (.nil))))))
    (.nil)))
def ir6 : Ss := .cons (.ifs (.cmp .lt (.var 1) (.bi .len (.cons (.var 0) (.nil)))) (.cons (.ret (.idx (.var 0) (.var 1)))
    (.nil)) (.nil))
    (.cons (.asg (.nm 2) (.bin .mod (.bin .mul (.cst (.int 50021)) (.bin .add (.bin .add (.bin .mul (.var 1) (.var 1)) (.bin .mul (.cst (.int 7)) (.var 1))) (.cst (.int 3)))) (.cst (.int 1000000007))))
    (.cons (.for_ (.nm 3) (.val (.slc (.var 0) (.none) (.some (.cst (.int 3))))) (.cons (.asg (.nm 2) (.bin .mod (.bin .add (.bin .mul (.var 2) (.cst (.int 30011))) (.var 3)) (.cst (.int 1000000007))))
    (.nil)))
    (.cons (.ret (.var 2))
    (.nil))))
def ir7 : Ss := .cons (.asg (.nm 1) (.lst (.nil)))
    (.cons (.for_ (.nm 2) (.val (.var 0)) (.cons (.ex (.app 1 (.ite (.bi (.isi .tuple) (.cons (.var 2) .nil)) (.bin .add (.bin .add (.bin .add (.cst (.str "(")) (.call 7 [0] (.val (.idx (.var 2) (.cst (.int 0))) (.nil)) .nil)) (.cst (.str ")x"))) (.bi .str1 (.cons (.idx (.var 2) (.cst (.int 1))) (.nil)))) (.bi .str1 (.cons (.var 2) (.nil))))))
    (.cons (.wip [2])
    (.nil))))
    (.cons (.ret (.ite (.cmp .ne (.var 1) (.lst (.nil))) (.bi .join (.cons (.cst (.str " ")) (.cons (.var 1) .nil))) (.cst (.str "-"))))
    (.nil)))
abbrev lt7_0 : Tg := .nm 2
abbrev lb7_0 : Ss := .cons (.ex (.app 1 (.ite (.bi (.isi .tuple) (.cons (.var 2) .nil)) (.bin .add (.bin .add (.bin .add (.cst (.str "(")) (.call 7 [0] (.val (.idx (.var 2) (.cst (.int 0))) (.nil)) .nil)) (.cst (.str ")x"))) (.bi .str1 (.cons (.idx (.var 2) (.cst (.int 1))) (.nil)))) (.bi .str1 (.cons (.var 2) (.nil))))))
    (.cons (.wip [2])
    (.nil))
def ir8 : Ss := .cons (.ret (.bi .fs (.cons (.cst (.str "Log(")) (.cons (.fld (.var 0) [(0, 0)]) (.cons (.cst (.str ", '")) (.cons (.call 11 [0] (.val (.fld (.var 0) [(0, 1)]) (.nil)) .nil) (.cons (.cst (.str "')")) (.nil))))))))
    (.nil)
def ir9 : Ss := .cons (.ret (.call 18 [0, 1, 2] (.val (.var 0) (.val (.cst (.int 1)) (.val (.cst (.int 12)) (.nil)))) .nil))
    (.nil)
def ir10 : Ss := .cons (.asg (.nm 2) (.cst (.int 0)))
    (.cons (.for_ (.tp (.cons (.nm 3) (.cons (.nm 4) (.nil)))) (.enum (.var 1)) (.cons (.asg (.nm 5) (.call 19 [0, 1] (.val (.var 0) (.val (.var 4) (.nil))) .nil))
    (.cons (.ifs (.or (.cmp .isN (.var 5) (.cst .non)) (.or (.cmp .gt (.bin .add (.var 2) (.idx (.var 5) (.cst (.int 0)))) (.cst (.int 120))) (.cmp .gt (.idx (.var 5) (.cst (.int 1))) (.cst (.int 5))))) (.cons (.ret (.var 3))
    (.nil)) (.nil))
    (.cons (.aug 2 .add (.idx (.var 5) (.cst (.int 0))))
    (.nil)))))
    (.cons (.ret (.cst .non))
    (.nil)))
abbrev lt10_0 : Tg := .tp (.cons (.nm 3) (.cons (.nm 4) (.nil)))
abbrev lb10_0 : Ss := .cons (.asg (.nm 5) (.call 19 [0, 1] (.val (.var 0) (.val (.var 4) (.nil))) .nil))
    (.cons (.ifs (.or (.cmp .isN (.var 5) (.cst .non)) (.or (.cmp .gt (.bin .add (.var 2) (.idx (.var 5) (.cst (.int 0)))) (.cst (.int 120))) (.cmp .gt (.idx (.var 5) (.cst (.int 1))) (.cst (.int 5))))) (.cons (.ret (.var 3))
    (.nil)) (.nil))
    (.cons (.aug 2 .add (.idx (.var 5) (.cst (.int 0))))
    (.nil)))
def ir11 : Ss := .cons (.asg (.nm 1) (.lst (.nil)))
    (.cons (.for_ (.nm 2) (.val (.var 0)) (.cons (.ex (.app 1 (.ite (.bi (.isi .tuple) (.cons (.var 2) .nil)) (.bin .add (.bin .add (.bin .add (.cst (.str "(")) (.call 11 [0] (.val (.idx (.var 2) (.cst (.int 0))) (.nil)) .nil)) (.cst (.str ")x"))) (.bi .str1 (.cons (.idx (.var 2) (.cst (.int 1))) (.nil)))) (.bi .str1 (.cons (.var 2) (.nil))))))
    (.cons (.wip [2])
    (.nil))))
    (.cons (.ret (.or (.bi .join (.cons (.cst (.str " ")) (.cons (.var 1) .nil))) (.cst (.str "-"))))
    (.nil)))
abbrev lt11_0 : Tg := .nm 2
abbrev lb11_0 : Ss := .cons (.ex (.app 1 (.ite (.bi (.isi .tuple) (.cons (.var 2) .nil)) (.bin .add (.bin .add (.bin .add (.cst (.str "(")) (.call 11 [0] (.val (.idx (.var 2) (.cst (.int 0))) (.nil)) .nil)) (.cst (.str ")x"))) (.bi .str1 (.cons (.idx (.var 2) (.cst (.int 1))) (.nil)))) (.bi .str1 (.cons (.var 2) (.nil))))))
    (.cons (.wip [2])
    (.nil))
def ir12 : Ss := .cons (.asg (.nm 2) (.cmp .eq (.call 14 [0, 1] (.ref (.var 0) (.val (.cst (.int 3)) (.nil))) .nil) (.cst (.int 0))))
    (.cons (.ret (.bin .add (.cst (.int 1)) (.call 14 [0, 1] (.ref (.var 0) (.val (.ite (.var 2) (.var 1) (.bi .min2 (.cons (.cst (.int 5)) (.cons (.var 1) (.nil))))) (.nil))) .nil)))
    (.nil))
def ir13 : Ss := .cons (.asg (.nm 4) (.lst (.nil)))
    (.cons (.whl (.and (.cmp .gt (.var 2) (.cst (.int 0))) (.cmp .gt (.call 14 [0, 1] (.ref (.var 0) (.val (.cst (.int 9)) (.nil))) .nil) (.cst (.int 0)))) (.cons (.asg (.nm 2) (.bin .sub (.var 2) (.cst (.int 1))))
    (.cons (.ifs (.and (.cmp .gt (.var 3) (.cst (.int 1))) (.cmp .eq (.call 14 [0, 1] (.ref (.var 0) (.val (.cst (.int 4)) (.nil))) .nil) (.cst (.int 0)))) (.cons (.asg (.nm 5) (.call 13 [0, 1, 2, 3] (.ref (.var 0) (.val (.var 1) (.val (.call 14 [0, 1] (.ref (.var 0) (.val (.bin .add (.var 2) (.cst (.int 1))) (.nil))) .nil) (.val (.bin .sub (.var 3) (.cst (.int 1))) (.nil))))) .nil))
    (.cons (.asg (.nm 2) (.bin .sub (.var 2) (.call 20 [0] (.val (.var 5) (.nil)) .nil)))
    (.cons (.ex (.app 4 (.tup (.cons (.var 5) (.cons (.call 21 [0] (.ref (.var 0) (.nil)) .nil) (.nil))))))
    (.nil)))) (.cons (.ex (.app 4 (.bin .add (.cst (.int 1)) (.call 14 [0, 1] (.ref (.var 0) (.val (.var 1) (.nil))) .nil))))
    (.nil)))
    (.cons (.wip [5])
    (.nil)))))
    (.cons (.wip [2])
    (.cons (.ret (.bi .tuple (.cons (.var 4) (.nil))))
    (.nil))))
abbrev wc13_0 : DL.E := .and (.cmp .gt (.var 2) (.cst (.int 0))) (.cmp .gt (.call 14 [0, 1] (.ref (.var 0) (.val (.cst (.int 9)) (.nil))) .nil) (.cst (.int 0)))
abbrev wb13_0 : Ss := .cons (.asg (.nm 2) (.bin .sub (.var 2) (.cst (.int 1))))
    (.cons (.ifs (.and (.cmp .gt (.var 3) (.cst (.int 1))) (.cmp .eq (.call 14 [0, 1] (.ref (.var 0) (.val (.cst (.int 4)) (.nil))) .nil) (.cst (.int 0)))) (.cons (.asg (.nm 5) (.call 13 [0, 1, 2, 3] (.ref (.var 0) (.val (.var 1) (.val (.call 14 [0, 1] (.ref (.var 0) (.val (.bin .add (.var 2) (.cst (.int 1))) (.nil))) .nil) (.val (.bin .sub (.var 3) (.cst (.int 1))) (.nil))))) .nil))
    (.cons (.asg (.nm 2) (.bin .sub (.var 2) (.call 20 [0] (.val (.var 5) (.nil)) .nil)))
    (.cons (.ex (.app 4 (.tup (.cons (.var 5) (.cons (.call 21 [0] (.ref (.var 0) (.nil)) .nil) (.nil))))))
    (.nil)))) (.cons (.ex (.app 4 (.bin .add (.cst (.int 1)) (.call 14 [0, 1] (.ref (.var 0) (.val (.var 1) (.nil))) .nil))))
    (.nil)))
    (.cons (.wip [5])
    (.nil)))
def ir14 : Ss := .cons (.asg (.sub 0 (.cst (.int 2))) (.bin .add (.idx (.var 0) (.cst (.int 2))) (.cst (.int 1))))
    (.cons (.asg (.nm 2) (.idx (.var 0) (.cst (.int 0))))
    (.cons (.asg (.sub 0 (.cst (.int 0))) (.bin .mod (.bin .add (.bin .add (.bin .mul (.var 2) (.bin .add (.bin .mod (.bi .int1 (.cons (.var 2) (.nil))) (.cst (.int 46007))) (.cst (.int 20011)))) (.bin .mul (.cst (.int 60013)) (.idx (.var 0) (.cst (.int 2))))) (.cst (.int 5))) (.cst (.int 1000000007))))
    (.cons (.ifs (.cmp .gt (.idx (.var 0) (.cst (.int 1))) (.cst (.int 0))) (.cons (.asg (.tp (.cons (.sub 0 (.cst (.int 1))) (.cons (.nm 3) (.nil)))) (.bi .divmod (.cons (.idx (.var 0) (.cst (.int 1))) (.cons (.var 1) (.nil)))))
    (.cons (.ret (.var 3))
    (.nil))) (.nil))
    (.cons (.ret (.bin .mod (.bin .fdiv (.idx (.var 0) (.cst (.int 0))) (.cst (.int 32))) (.var 1)))
    (.nil)))))
def ir15 : Ss := .cons (.par 3 4 (.call 14 [0, 1] (.ref (.var 0) (.val (.bin .add (.bi .len (.cons (.var 2) (.nil))) (.cst (.int 1))) (.nil))) .nil) (.call 14 [0, 1] (.ref (.var 0) (.val (.cst (.int 6)) (.nil))) .nil))
    (.cons (.asg (.nm 5) (.slc (.var 2) (.some (.bin .add (.var 3) (.cst (.int 1)))) (.none)))
    (.cons (.ifs (.cmp .eq (.var 4) (.cst (.int 0))) (.cons (.ret (.bin .add (.slc (.var 2) (.none) (.some (.var 3))) (.var 5)))
    (.nil)) (.nil))
    (.cons (.ifs (.and (.cmp .eq (.var 4) (.cst (.int 1))) (.cmp .lt (.call 20 [0] (.val (.var 2) (.nil)) .nil) (.cst (.int 118)))) (.cons (.ret (.bin .add (.bin .add (.slc (.var 2) (.none) (.some (.var 3))) (.tup (.cons (.tup (.cons (.tup (.nil)) (.cons (.cst (.int 1)) (.nil)))) (.nil)))) (.slc (.var 2) (.some (.var 3)) (.none))))
    (.nil)) (.nil))
    (.cons (.ifs (.and (.cmp .eq (.var 4) (.cst (.int 2))) (.and (.cmp .lt (.var 3) (.bi .len (.cons (.var 2) (.nil)))) (.and (.cmp .lt (.call 20 [0] (.val (.var 2) (.nil)) .nil) (.cst (.int 118))) (.not (.bi (.isi .tuple) (.cons (.idx (.var 2) (.var 3)) .nil)))))) (.cons (.ret (.bin .add (.bin .add (.slc (.var 2) (.none) (.some (.var 3))) (.tup (.cons (.tup (.cons (.tup (.cons (.idx (.var 2) (.var 3)) (.nil))) (.cons (.cst (.int 1)) (.nil)))) (.nil)))) (.var 5)))
    (.nil)) (.nil))
    (.cons (.ifs (.and (.cmp .eq (.var 4) (.cst (.int 3))) (.cmp .lt (.var 3) (.bi .len (.cons (.var 2) (.nil))))) (.cons (.asg (.nm 6) (.idx (.var 2) (.var 3)))
    (.cons (.asg (.nm 7) (.ite (.bi (.isi .tuple) (.cons (.var 6) .nil)) (.tup (.cons (.idx (.var 6) (.cst (.int 0))) (.cons (.bin .add (.bin .mod (.bi .int1 (.cons (.idx (.var 6) (.cst (.int 1))) (.nil))) (.bin .pow (.cst (.int 10)) (.cst (.int 30)))) (.cst (.int 1))) (.nil)))) (.bin .add (.cst (.int 1)) (.bin .mod (.bi .int1 (.cons (.var 6) (.nil))) (.var 1)))))
    (.cons (.ret (.bin .add (.bin .add (.slc (.var 2) (.none) (.some (.var 3))) (.tup (.cons (.var 7) (.nil)))) (.var 5)))
    (.nil)))) (.nil))
    (.cons (.wip [6, 7])
    (.cons (.ret (.var 2))
    (.nil))))))))
def ir16 : Ss := .cons (.ret (.bi (.isn 0) (.cons (.var 0) .nil)))
    (.nil)
def ir17 : Ss := .cons (.ret (.and (.bi (.isn 0) (.cons (.var 1) .nil)) (.and (.cmp .eq (.fld (.var 0) [(0, 0)]) (.fld (.var 1) [(0, 0)])) (.cmp .eq (.fld (.var 0) [(0, 1)]) (.fld (.var 1) [(0, 1)])))))
    (.nil)
def ir18 : Ss := .cons (.ret (.and (.call 22 [0] (.val (.var 0) (.nil)) .nil) (.chn .le .le (.var 1) (.var 0) (.var 2))))
    (.nil)
def ir19 : Ss := .cons (.ifs (.call 23 [0, 1] (.val (.var 0) (.val (.var 1) (.nil))) .nil) (.cons (.ret (.tup (.cons (.cst (.int 1)) (.cons (.cst (.int 1)) (.nil)))))
    (.nil)) (.nil))
    (.cons (.ifs (.or (.not (.bi (.isi .tuple) (.cons (.var 1) .nil))) (.or (.cmp .ne (.bi .len (.cons (.var 1) (.nil))) (.cst (.int 2))) (.not (.call 18 [0, 1, 2] (.val (.idx (.var 1) (.cst (.int 1))) (.val (.cst (.int 1)) (.val (.cst (.int 1000000000000000000000000000000)) (.nil)))) .nil)))) (.cons (.ret (.cst .non))
    (.nil)) (.nil))
    (.cons (.asg (.nm 2) (.call 24 [0, 1] (.val (.var 0) (.val (.idx (.var 1) (.cst (.int 0))) (.nil))) .nil))
    (.cons (.ret (.ite (.cmp .isN (.var 2) (.cst .non)) (.cst .non) (.tup (.cons (.bin .add (.idx (.var 2) (.cst (.int 0))) (.cst (.int 1))) (.cons (.bin .add (.idx (.var 2) (.cst (.int 1))) (.cst (.int 1))) (.nil))))))
    (.nil))))
def ir20 : Ss := .cons (.ret (.bi .sum (.cons (.comp [1] (.nm 1) (.val (.var 0)) (.none) (.ite (.bi (.isi .int) (.cons (.var 1) .nil)) (.cst (.int 1)) (.bin .add (.cst (.int 1)) (.call 20 [0] (.val (.idx (.var 1) (.cst (.int 0))) (.nil)) .nil)))) (.nil))))
    (.nil)
abbrev co20_0 : List Nat := [1]
abbrev ct20_0 : Tg := .nm 1
abbrev cc20_0 : Eo := .none
abbrev ce20_0 : DL.E := .ite (.bi (.isi .int) (.cons (.var 1) .nil)) (.cst (.int 1)) (.bin .add (.cst (.int 1)) (.call 20 [0] (.val (.idx (.var 1) (.cst (.int 0))) (.nil)) .nil))
def ir21 : Ss := .cons (.ret (.idx (.lst (.cons (.cst (.int 1)) (.cons (.cst (.int 2)) (.cons (.bin .add (.cst (.int 3)) (.call 14 [0, 1] (.ref (.var 0) (.val (.cst (.int 12)) (.nil))) .nil)) (.cons (.bin .add (.cst (.int 1)) (.call 14 [0, 1] (.ref (.var 0) (.val (.bin .pow (.cst (.int 10)) (.cst (.int 30))) (.nil))) .nil)) (.cons (.bin .pow (.cst (.int 10)) (.cst (.int 30))) (.nil))))))) (.call 14 [0, 1] (.ref (.var 0) (.val (.cst (.int 5)) (.nil))) .nil)))
    (.nil)
def ir22 : Ss := .cons (.ret (.and (.bi (.isi .int) (.cons (.var 0) .nil)) (.not (.bi (.isi .bool) (.cons (.var 0) .nil)))))
    (.nil)
def ir23 : Ss := .cons (.ret (.call 18 [0, 1, 2] (.val (.var 1) (.val (.cst (.int 1)) (.val (.var 0) (.nil)))) .nil))
    (.nil)
def ir24 : Ss := .cons (.ifs (.not (.bi (.isi .tuple) (.cons (.var 1) .nil))) (.cons (.ret (.cst .non))
    (.nil)) (.nil))
    (.cons (.asg (.tp (.cons (.nm 2) (.cons (.nm 3) (.nil)))) (.tup (.cons (.cst (.int 0)) (.cons (.cst (.int 1)) (.nil)))))
    (.cons (.for_ (.nm 4) (.val (.var 1)) (.cons (.asg (.nm 5) (.call 19 [0, 1] (.val (.var 0) (.val (.var 4) (.nil))) .nil))
    (.cons (.ifs (.cmp .isN (.var 5) (.cst .non)) (.cons (.ret (.cst .non))
    (.nil)) (.nil))
    (.cons (.par 2 3 (.bin .add (.var 2) (.idx (.var 5) (.cst (.int 0)))) (.bi .max2 (.cons (.var 3) (.cons (.idx (.var 5) (.cst (.int 1))) (.nil)))))
    (.nil)))))
    (.cons (.ret (.tup (.cons (.var 2) (.cons (.var 3) (.nil)))))
    (.nil))))
abbrev lt24_0 : Tg := .nm 4
abbrev lb24_0 : Ss := .cons (.asg (.nm 5) (.call 19 [0, 1] (.val (.var 0) (.val (.var 4) (.nil))) .nil))
    (.cons (.ifs (.cmp .isN (.var 5) (.cst .non)) (.cons (.ret (.cst .non))
    (.nil)) (.nil))
    (.cons (.par 2 3 (.bin .add (.var 2) (.idx (.var 5) (.cst (.int 0)))) (.bi .max2 (.cons (.var 3) (.cons (.idx (.var 5) (.cst (.int 1))) (.nil)))))
    (.nil)))
def tbl : List Df := [⟨1, 6, ir0⟩,
  ⟨1, 2, ir1⟩,
  ⟨3, 4, ir2⟩,
  ⟨1, 1, ir3⟩,
  ⟨1, 10, ir4⟩,
  ⟨1, 2, ir5⟩,
  ⟨2, 4, ir6⟩,
  ⟨1, 3, ir7⟩,
  ⟨1, 1, ir8⟩,
  ⟨1, 1, ir9⟩,
  ⟨2, 6, ir10⟩,
  ⟨1, 3, ir11⟩,
  ⟨2, 3, ir12⟩,
  ⟨4, 6, ir13⟩,
  ⟨2, 4, ir14⟩,
  ⟨3, 8, ir15⟩,
  ⟨1, 1, ir16⟩,
  ⟨2, 2, ir17⟩,
  ⟨3, 3, ir18⟩,
  ⟨2, 3, ir19⟩,
  ⟨1, 2, ir20⟩,
  ⟨1, 1, ir21⟩,
  ⟨1, 1, ir22⟩,
  ⟨2, 2, ir23⟩,
  ⟨2, 6, ir24⟩]
theorem gr8 : ∀ k, GrdR (callN tbl k) 8 := grdR_of rfl
theorem gs3 : ∀ k, GrdS (callN tbl k) 3 := grdS_of rfl
theorem gr17 {K : PySem.W.Frag} : ∀ k, GrdA K (callN tbl k) 0 17 := grdA_of rfl
def psn (j : Nat) : List Str := [p0, p1, p2, p3, p4, p5, p6, p7, p8, p9, p10, p11, p12, p13, p14, p15, p16, p17, p18, p19, p20, p21, p22, p23, p24].getD j []
def sps (K : PySem.W.Frag) (Φ : Calls) (j : Nat) : Sp := ([spD K Φ 0, spD K Φ 1, spI K Φ 2 0, spD K Φ 3, spD K Φ 4, spD K Φ 5, spD K Φ 6, spD K Φ 7, spD K Φ 8, spD K Φ 9, spD K Φ 10, spD K Φ 11, spD K Φ 12, spD K Φ 13, spD K Φ 14, spD K Φ 15, spD K Φ 16, spD K Φ 17, spD K Φ 18, spD K Φ 19, spD K Φ 20, spD K Φ 21, spD K Φ 22, spD K Φ 23, spD K Φ 24] : List Sp).getD j (fun _ _ _ _ => False)
structure Fx (K : PySem.W.Frag) (mg : Str → Option Value) (fa : Nat → Addr) (fd : Nat → FuncData) (ca : Nat → Addr) (dv : Nat → Value) : Prop where
  f0 : FunW K "law" "law" st0 (fa 0) (fd 0) .none
  m0 : mg "law" = some (.ref (fa 0))
  f1 : FunW K "_law_shown_right" "_law_shown_right" st1 (fa 1) (fd 1) .none
  m1 : mg "_law_shown_right" = some (.ref (fa 1))
  f2 : FunW K "__init__" "Log.__init__" st2 (fa 2) (fd 2) (dv 2)
  e2 : DfW K (dv 2) [.tup []]
  f3 : FunW K "__str__" "Log.__str__" st3 (fa 3) (fd 3) .none
  h3 : Meth K (ca 0) "__str__" (fa 3)
  f4 : FunW K "_law_right" "_law_right" st4 (fa 4) (fd 4) .none
  m4 : mg "_law_right" = some (.ref (fa 4))
  f5 : FunW K "_law_pool" "_law_pool" st5 (fa 5) (fd 5) .none
  m5 : mg "_law_pool" = some (.ref (fa 5))
  f6 : FunW K "_law_cell" "_law_cell" st6 (fa 6) (fd 6) .none
  m6 : mg "_law_cell" = some (.ref (fa 6))
  f7 : FunW K "_law_text" "_law_text" st7 (fa 7) (fd 7) .none
  m7 : mg "_law_text" = some (.ref (fa 7))
  f8 : FunW K "__repr__" "Log.__repr__" st8 (fa 8) (fd 8) .none
  h8 : Meth K (ca 0) "__repr__" (fa 8)
  f9 : FunW K "is_level_count" "is_level_count" st9 (fa 9) (fd 9) .none
  m9 : mg "is_level_count" = some (.ref (fa 9))
  f10 : FunW K "first_invalid" "first_invalid" st10 (fa 10) (fd 10) .none
  m10 : mg "first_invalid" = some (.ref (fa 10))
  f11 : FunW K "parts_text" "parts_text" st11 (fa 11) (fd 11) .none
  m11 : mg "parts_text" = some (.ref (fa 11))
  f12 : FunW K "_law_levels" "_law_levels" st12 (fa 12) (fd 12) .none
  m12 : mg "_law_levels" = some (.ref (fa 12))
  f13 : FunW K "_law_parts" "_law_parts" st13 (fa 13) (fd 13) .none
  m13 : mg "_law_parts" = some (.ref (fa 13))
  f14 : FunW K "_law_draw" "_law_draw" st14 (fa 14) (fd 14) .none
  m14 : mg "_law_draw" = some (.ref (fa 14))
  f15 : FunW K "_law_changed" "_law_changed" st15 (fa 15) (fd 15) .none
  m15 : mg "_law_changed" = some (.ref (fa 15))
  f16 : FunW K "is_log" "is_log" st16 (fa 16) (fd 16) .none
  m16 : mg "is_log" = some (.ref (fa 16))
  f17 : FunW K "__eq__" "Log.__eq__" st17 (fa 17) (fd 17) .none
  h17 : Meth K (ca 0) "__eq__" (fa 17)
  f18 : FunW K "is_between" "is_between" st18 (fa 18) (fd 18) .none
  m18 : mg "is_between" = some (.ref (fa 18))
  f19 : FunW K "measure_part" "measure_part" st19 (fa 19) (fd 19) .none
  m19 : mg "measure_part" = some (.ref (fa 19))
  f20 : FunW K "_law_size" "_law_size" st20 (fa 20) (fd 20) .none
  m20 : mg "_law_size" = some (.ref (fa 20))
  f21 : FunW K "_law_times" "_law_times" st21 (fa 21) (fd 21) .none
  m21 : mg "_law_times" = some (.ref (fa 21))
  f22 : FunW K "is_whole" "is_whole" st22 (fa 22) (fd 22) .none
  m22 : mg "is_whole" = some (.ref (fa 22))
  f23 : FunW K "is_level" "is_level" st23 (fa 23) (fd 23) .none
  m23 : mg "is_level" = some (.ref (fa 23))
  f24 : FunW K "measure" "measure" st24 (fa 24) (fd 24) .none
  m24 : mg "measure" = some (.ref (fa 24))
  c0 : ClsF K 0 (ca 0)
  k0 : Mk K (ca 0) (fa 2)
  i0 : IsiF K (ca 0)
  q0 : mg "Log" = some (.ref (ca 0))
  n0 : NeF K (ca 0)
  ft16 : PySem.W.typeIn K (.ref (fa 16)) = some (.type "function")
  b_abs : mg "abs" = none
  b_all : mg "all" = none
  b_bool : mg "bool" = none
  b_divmod : mg "divmod" = none
  b_enumerate : mg "enumerate" = none
  b_int : mg "int" = none
  b_isinstance : mg "isinstance" = none
  b_len : mg "len" = none
  b_max : mg "max" = none
  b_min : mg "min" = none
  b_range : mg "range" = none
  b_repr : mg "repr" = none
  b_str : mg "str" = none
  b_sum : mg "sum" = none
  b_tuple : mg "tuple" = none
  g_MAX_LEVELS : ∃ t : Tok, mg "MAX_LEVELS" = some (.int 12 t)
  g_MAX_DEPTH : ∃ t : Tok, mg "MAX_DEPTH" = some (.int 5 t)
  g_MAX_PARTS : ∃ t : Tok, mg "MAX_PARTS" = some (.int 120 t)
  g_MAX_TIMES : ∃ t : Tok, mg "MAX_TIMES" = some (.int 1000000000000000000000000000000 t)
  gs_NOTHING : ∃ t : Tok, mg "NOTHING" = some (.str "-" t)
theorem bp_1_1_ {K : PySem.W.Frag} {f : Addr} {fd : FuncData} (F : FunW K "_law_shown_right" "_law_shown_right" st1 f fd .none) : BindP K fd p1 1 [] [0] := by
  obtain ⟨oc, od, kv, dc, pm, an, cd, ct, sl, rfl, _, _⟩ := F.ex
  intro s us ws zs _ h1 h2 h3
  match us, h1, ws, h2, h3 with
  | [u0], _, [], _, h3 =>
    have e : [u0] = zs := Option.some.inj h3
    subst e
    exact .of_eq rfl
theorem bd_2_3_ {K : PySem.W.Frag} {f : Addr} {fd : FuncData} {dV : Value} (F : FunW K "__init__" "Log.__init__" st2 f fd dV) (W : DfW K dV [.tup []]) : BindDf K fd p2 3 [] [.tup []] [0, 1, 2] := by
  refine bindDf_of F W fun T kV doc pm an cdv ct us ws its zs h1 h2 h0 h3 => ?_
  match us, h1, ws, h2, its, h0, h3 with
  | [u0, u1, u2], _, [], _, [d0], _, h3 =>
    have e : [u0, u1, u2] = zs := Option.some.inj h3
    subst e
    exact ⟨_, rfl, rfl⟩
theorem bp_3_1_ {K : PySem.W.Frag} {f : Addr} {fd : FuncData} (F : FunW K "__str__" "Log.__str__" st3 f fd .none) : BindP K fd p3 1 [] [0] := by
  obtain ⟨oc, od, kv, dc, pm, an, cd, ct, sl, rfl, _, _⟩ := F.ex
  intro s us ws zs _ h1 h2 h3
  match us, h1, ws, h2, h3 with
  | [u0], _, [], _, h3 =>
    have e : [u0] = zs := Option.some.inj h3
    subst e
    exact .of_eq rfl
theorem bp_4_1_ {K : PySem.W.Frag} {f : Addr} {fd : FuncData} (F : FunW K "_law_right" "_law_right" st4 f fd .none) : BindP K fd p4 1 [] [0] := by
  obtain ⟨oc, od, kv, dc, pm, an, cd, ct, sl, rfl, _, _⟩ := F.ex
  intro s us ws zs _ h1 h2 h3
  match us, h1, ws, h2, h3 with
  | [u0], _, [], _, h3 =>
    have e : [u0] = zs := Option.some.inj h3
    subst e
    exact .of_eq rfl
theorem bp_5_1_ {K : PySem.W.Frag} {f : Addr} {fd : FuncData} (F : FunW K "_law_pool" "_law_pool" st5 f fd .none) : BindP K fd p5 1 [] [0] := by
  obtain ⟨oc, od, kv, dc, pm, an, cd, ct, sl, rfl, _, _⟩ := F.ex
  intro s us ws zs _ h1 h2 h3
  match us, h1, ws, h2, h3 with
  | [u0], _, [], _, h3 =>
    have e : [u0] = zs := Option.some.inj h3
    subst e
    exact .of_eq rfl
theorem bp_6_2_ {K : PySem.W.Frag} {f : Addr} {fd : FuncData} (F : FunW K "_law_cell" "_law_cell" st6 f fd .none) : BindP K fd p6 2 [] [0, 1] := by
  obtain ⟨oc, od, kv, dc, pm, an, cd, ct, sl, rfl, _, _⟩ := F.ex
  intro s us ws zs _ h1 h2 h3
  match us, h1, ws, h2, h3 with
  | [u0, u1], _, [], _, h3 =>
    have e : [u0, u1] = zs := Option.some.inj h3
    subst e
    exact .of_eq rfl
theorem bp_7_1_ {K : PySem.W.Frag} {f : Addr} {fd : FuncData} (F : FunW K "_law_text" "_law_text" st7 f fd .none) : BindP K fd p7 1 [] [0] := by
  obtain ⟨oc, od, kv, dc, pm, an, cd, ct, sl, rfl, _, _⟩ := F.ex
  intro s us ws zs _ h1 h2 h3
  match us, h1, ws, h2, h3 with
  | [u0], _, [], _, h3 =>
    have e : [u0] = zs := Option.some.inj h3
    subst e
    exact .of_eq rfl
theorem bp_8_1_ {K : PySem.W.Frag} {f : Addr} {fd : FuncData} (F : FunW K "__repr__" "Log.__repr__" st8 f fd .none) : BindP K fd p8 1 [] [0] := by
  obtain ⟨oc, od, kv, dc, pm, an, cd, ct, sl, rfl, _, _⟩ := F.ex
  intro s us ws zs _ h1 h2 h3
  match us, h1, ws, h2, h3 with
  | [u0], _, [], _, h3 =>
    have e : [u0] = zs := Option.some.inj h3
    subst e
    exact .of_eq rfl
theorem bp_9_1_ {K : PySem.W.Frag} {f : Addr} {fd : FuncData} (F : FunW K "is_level_count" "is_level_count" st9 f fd .none) : BindP K fd p9 1 [] [0] := by
  obtain ⟨oc, od, kv, dc, pm, an, cd, ct, sl, rfl, _, _⟩ := F.ex
  intro s us ws zs _ h1 h2 h3
  match us, h1, ws, h2, h3 with
  | [u0], _, [], _, h3 =>
    have e : [u0] = zs := Option.some.inj h3
    subst e
    exact .of_eq rfl
theorem bp_10_2_ {K : PySem.W.Frag} {f : Addr} {fd : FuncData} (F : FunW K "first_invalid" "first_invalid" st10 f fd .none) : BindP K fd p10 2 [] [0, 1] := by
  obtain ⟨oc, od, kv, dc, pm, an, cd, ct, sl, rfl, _, _⟩ := F.ex
  intro s us ws zs _ h1 h2 h3
  match us, h1, ws, h2, h3 with
  | [u0, u1], _, [], _, h3 =>
    have e : [u0, u1] = zs := Option.some.inj h3
    subst e
    exact .of_eq rfl
theorem bp_11_1_ {K : PySem.W.Frag} {f : Addr} {fd : FuncData} (F : FunW K "parts_text" "parts_text" st11 f fd .none) : BindP K fd p11 1 [] [0] := by
  obtain ⟨oc, od, kv, dc, pm, an, cd, ct, sl, rfl, _, _⟩ := F.ex
  intro s us ws zs _ h1 h2 h3
  match us, h1, ws, h2, h3 with
  | [u0], _, [], _, h3 =>
    have e : [u0] = zs := Option.some.inj h3
    subst e
    exact .of_eq rfl
theorem bp_12_2_ {K : PySem.W.Frag} {f : Addr} {fd : FuncData} (F : FunW K "_law_levels" "_law_levels" st12 f fd .none) : BindP K fd p12 2 [] [0, 1] := by
  obtain ⟨oc, od, kv, dc, pm, an, cd, ct, sl, rfl, _, _⟩ := F.ex
  intro s us ws zs _ h1 h2 h3
  match us, h1, ws, h2, h3 with
  | [u0, u1], _, [], _, h3 =>
    have e : [u0, u1] = zs := Option.some.inj h3
    subst e
    exact .of_eq rfl
theorem bp_13_4_ {K : PySem.W.Frag} {f : Addr} {fd : FuncData} (F : FunW K "_law_parts" "_law_parts" st13 f fd .none) : BindP K fd p13 4 [] [0, 1, 2, 3] := by
  obtain ⟨oc, od, kv, dc, pm, an, cd, ct, sl, rfl, _, _⟩ := F.ex
  intro s us ws zs _ h1 h2 h3
  match us, h1, ws, h2, h3 with
  | [u0, u1, u2, u3], _, [], _, h3 =>
    have e : [u0, u1, u2, u3] = zs := Option.some.inj h3
    subst e
    exact .of_eq rfl
theorem bp_14_2_ {K : PySem.W.Frag} {f : Addr} {fd : FuncData} (F : FunW K "_law_draw" "_law_draw" st14 f fd .none) : BindP K fd p14 2 [] [0, 1] := by
  obtain ⟨oc, od, kv, dc, pm, an, cd, ct, sl, rfl, _, _⟩ := F.ex
  intro s us ws zs _ h1 h2 h3
  match us, h1, ws, h2, h3 with
  | [u0, u1], _, [], _, h3 =>
    have e : [u0, u1] = zs := Option.some.inj h3
    subst e
    exact .of_eq rfl
theorem bp_15_3_ {K : PySem.W.Frag} {f : Addr} {fd : FuncData} (F : FunW K "_law_changed" "_law_changed" st15 f fd .none) : BindP K fd p15 3 [] [0, 1, 2] := by
  obtain ⟨oc, od, kv, dc, pm, an, cd, ct, sl, rfl, _, _⟩ := F.ex
  intro s us ws zs _ h1 h2 h3
  match us, h1, ws, h2, h3 with
  | [u0, u1, u2], _, [], _, h3 =>
    have e : [u0, u1, u2] = zs := Option.some.inj h3
    subst e
    exact .of_eq rfl
theorem bp_16_1_ {K : PySem.W.Frag} {f : Addr} {fd : FuncData} (F : FunW K "is_log" "is_log" st16 f fd .none) : BindP K fd p16 1 [] [0] := by
  obtain ⟨oc, od, kv, dc, pm, an, cd, ct, sl, rfl, _, _⟩ := F.ex
  intro s us ws zs _ h1 h2 h3
  match us, h1, ws, h2, h3 with
  | [u0], _, [], _, h3 =>
    have e : [u0] = zs := Option.some.inj h3
    subst e
    exact .of_eq rfl
theorem bp_17_2_ {K : PySem.W.Frag} {f : Addr} {fd : FuncData} (F : FunW K "__eq__" "Log.__eq__" st17 f fd .none) : BindP K fd p17 2 [] [0, 1] := by
  obtain ⟨oc, od, kv, dc, pm, an, cd, ct, sl, rfl, _, _⟩ := F.ex
  intro s us ws zs _ h1 h2 h3
  match us, h1, ws, h2, h3 with
  | [u0, u1], _, [], _, h3 =>
    have e : [u0, u1] = zs := Option.some.inj h3
    subst e
    exact .of_eq rfl
theorem bp_18_3_ {K : PySem.W.Frag} {f : Addr} {fd : FuncData} (F : FunW K "is_between" "is_between" st18 f fd .none) : BindP K fd p18 3 [] [0, 1, 2] := by
  obtain ⟨oc, od, kv, dc, pm, an, cd, ct, sl, rfl, _, _⟩ := F.ex
  intro s us ws zs _ h1 h2 h3
  match us, h1, ws, h2, h3 with
  | [u0, u1, u2], _, [], _, h3 =>
    have e : [u0, u1, u2] = zs := Option.some.inj h3
    subst e
    exact .of_eq rfl
theorem bp_19_2_ {K : PySem.W.Frag} {f : Addr} {fd : FuncData} (F : FunW K "measure_part" "measure_part" st19 f fd .none) : BindP K fd p19 2 [] [0, 1] := by
  obtain ⟨oc, od, kv, dc, pm, an, cd, ct, sl, rfl, _, _⟩ := F.ex
  intro s us ws zs _ h1 h2 h3
  match us, h1, ws, h2, h3 with
  | [u0, u1], _, [], _, h3 =>
    have e : [u0, u1] = zs := Option.some.inj h3
    subst e
    exact .of_eq rfl
theorem bp_20_1_ {K : PySem.W.Frag} {f : Addr} {fd : FuncData} (F : FunW K "_law_size" "_law_size" st20 f fd .none) : BindP K fd p20 1 [] [0] := by
  obtain ⟨oc, od, kv, dc, pm, an, cd, ct, sl, rfl, _, _⟩ := F.ex
  intro s us ws zs _ h1 h2 h3
  match us, h1, ws, h2, h3 with
  | [u0], _, [], _, h3 =>
    have e : [u0] = zs := Option.some.inj h3
    subst e
    exact .of_eq rfl
theorem bp_21_1_ {K : PySem.W.Frag} {f : Addr} {fd : FuncData} (F : FunW K "_law_times" "_law_times" st21 f fd .none) : BindP K fd p21 1 [] [0] := by
  obtain ⟨oc, od, kv, dc, pm, an, cd, ct, sl, rfl, _, _⟩ := F.ex
  intro s us ws zs _ h1 h2 h3
  match us, h1, ws, h2, h3 with
  | [u0], _, [], _, h3 =>
    have e : [u0] = zs := Option.some.inj h3
    subst e
    exact .of_eq rfl
theorem bp_22_1_ {K : PySem.W.Frag} {f : Addr} {fd : FuncData} (F : FunW K "is_whole" "is_whole" st22 f fd .none) : BindP K fd p22 1 [] [0] := by
  obtain ⟨oc, od, kv, dc, pm, an, cd, ct, sl, rfl, _, _⟩ := F.ex
  intro s us ws zs _ h1 h2 h3
  match us, h1, ws, h2, h3 with
  | [u0], _, [], _, h3 =>
    have e : [u0] = zs := Option.some.inj h3
    subst e
    exact .of_eq rfl
theorem bp_23_2_ {K : PySem.W.Frag} {f : Addr} {fd : FuncData} (F : FunW K "is_level" "is_level" st23 f fd .none) : BindP K fd p23 2 [] [0, 1] := by
  obtain ⟨oc, od, kv, dc, pm, an, cd, ct, sl, rfl, _, _⟩ := F.ex
  intro s us ws zs _ h1 h2 h3
  match us, h1, ws, h2, h3 with
  | [u0, u1], _, [], _, h3 =>
    have e : [u0, u1] = zs := Option.some.inj h3
    subst e
    exact .of_eq rfl
theorem bp_24_2_ {K : PySem.W.Frag} {f : Addr} {fd : FuncData} (F : FunW K "measure" "measure" st24 f fd .none) : BindP K fd p24 2 [] [0, 1] := by
  obtain ⟨oc, od, kv, dc, pm, an, cd, ct, sl, rfl, _, _⟩ := F.ex
  intro s us ws zs _ h1 h2 h3
  match us, h1, ws, h2, h3 with
  | [u0, u1], _, [], _, h3 =>
    have e : [u0, u1] = zs := Option.some.inj h3
    subst e
    exact .of_eq rfl
section
variable {P : Program} {w : World} {K : PySem.W.Frag} {mg : Str → Option Value} {base : Heap} {k : Nat} {fa : Nat → Addr} {fd : Nat → FuncData} {ca : Nat → Addr} {dv : Nat → Value} {A : Around} {out : List Env} {s : Shared} {H : Hp} {E : XK} {cd : Value}
theorem b0 (M : Fx K mg fa fd ca dv) (C : ∀ j, FnG P w K mg base L2.CX0 (2 * k) (fa j) (fd j) (psn j) (sps K (callN tbl k) j)) (hr1 : Room (2 * k + 1) (A.deeper (envOfC "law" (defScope st0) s.heap.objs.size (fa 0) cd))) (hg : A.guards = some []) :
    PSs (cxOf L2.CX0 P w K mg base N0 "law" (defScope st0) (fa 0) cd A out s H E).nox (defBody st0) (tS K (execs (callN tbl k) ir0)) :=
  have hr := hr1.mono (Nat.le_succ (2 * k))
  have sc := sc0
  dss_cons (ds_nm (pg_name (i := 1) sc.nd rfl (by first | exact .inl rfl | exact .inr rfl)) (de_lst (da_cons (de_tup (da_cons (de_int) (da_cons (de_tup (da_nil)) (da_cons (de_str) (da_nil))))) (da_cons (de_tup (da_cons (de_int) (da_cons (de_tup (da_cons (de_int) (da_cons (de_tup (da_cons (de_tup (da_cons (de_int) (da_cons (de_int) (da_nil)))) (da_cons (de_int) (da_nil)))) (da_cons (de_int) (da_nil))))) (da_cons (de_str) (da_nil))))) (da_nil)))))
    (dss_cons (ds_ex (de_app (pvr 1) (de_tup (da_cons (de_int) (da_cons (de_tup (da_cons (de_int) (da_cons (de_tup (da_cons (de_tup (da_cons (de_tup (da_cons (de_tup (da_nil)) (da_cons (de_int) (da_nil)))) (da_cons (de_int) (da_nil)))) (da_cons (de_int) (da_nil)))) (da_nil)))) (da_cons (de_str) (da_nil)))))))
    (dss_cons (ds_for PassesOwn.never rfl (di_val (de_var (pvr 1))) (dg_tp rfl (dgs_cons (dg_nm (pg_name (i := 2) sc.nd rfl (by first | exact .inl rfl | exact .inr rfl))) (dgs_cons (dg_nm (pg_name (i := 3) sc.nd rfl (by first | exact .inl rfl | exact .inr rfl))) (dgs_cons (dg_nm (pg_name (i := 4) sc.nd rfl (by first | exact .inl rfl | exact .inr rfl))) (dgs_nil)))) rfl rfl (fun ds ρ ρ2 h => asgns_len ds ρ ρ2 h)) (dss_cons (ds_if (PW.pt (dw_or (dt_cmp (op_neDD (rm_units hr)) (de_strO (ms := [(0, 3)]) (allS_cons (c := 0) (fi := 3) (strF M.c0 M.h3 (C 3) hr1 (bp_3_1_ M.f3).toDf) (gs3 k) allS_nil) hg L2.pass0 (by rfl) M.b_str (de_makeB (perm := [0, 1]) (dds := [.tup []]) M.c0 M.k0 M.q0 (C 2) hr1 hg (bd_2_3_ M.f2 M.e2) L2.pass0 (by rfl) (daa_val (de_var (pvr 2)) (daa_val (de_var (pvr 3)) (daa_nil))))) (de_var (pvr 4)) (nomark _)) (dw_one (dt_not (dt_val (de_call (C 1) hr hg M.m1 M.f1.kp (bp_1_1_ M.f1) L2.pass0 (by rfl) (daa_val (de_makeB (perm := [0, 1]) (dds := [.tup []]) M.c0 M.k0 M.q0 (C 2) hr1 hg (bd_2_3_ M.f2 M.e2) L2.pass0 (by rfl) (daa_val (de_var (pvr 2)) (daa_val (de_var (pvr 3)) (daa_nil)))) (daa_nil))) (fun _ => rfl))) (.inr rfl)))) (dss_cons (ds_ret (de_bl))
    (dss_nil)) (dss_nil))
    (dss_wip (dss_nil))))
    (dss_cons (ds_ret (de_bi (cr_allD rfl) (by rfl) M.b_all bt_all (dr_cons (de_comp (own := [("_law_k", 5)]) rfl sc.nd (by kernel_rfl) (by decide) (di_rng1 (by rfl) M.b_range (de_bi (cr_max2D rfl) (by rfl) M.b_max bt_max (dr_cons (de_int) (dr_cons (de_bi (cr_min2D rfl) (by rfl) M.b_min bt_min (dr_cons (de_bi cr_lenD (by rfl) M.b_len bt_len (dr_cons (de_var (pvr 0)) (dr_nil))) (dr_cons (de_int) (dr_nil)))) (dr_nil))))) (fun _ _ _ _ _ => dg_nm (pg_name (i := 5) sc.nd rfl (by first | exact .inl rfl | exact .inr rfl))) (fun _ _ _ _ _ => dts_none) (fun _ _ _ _ _ => de_call (C 4) hr hg M.m4 M.f4.kp (bp_4_1_ M.f4) L2.pass0 (by rfl) (daa_ref (de_call (C 5) hr hg M.m5 M.f5.kp (bp_5_1_ M.f5) L2.pass0 (by rfl) (daa_val (de_call (C 6) hr hg M.m6 M.f6.kp (bp_6_2_ M.f6) L2.pass0 (by rfl) (daa_val (de_var (pvr 0)) (daa_val (de_var (pvr 5)) (daa_nil)))) (daa_nil))) (daa_nil)))) (dr_nil))))
    (dss_nil))))
theorem b1 (M : Fx K mg fa fd ca dv) (C : ∀ j, FnG P w K mg base L2.CX0 (2 * k) (fa j) (fd j) (psn j) (sps K (callN tbl k) j)) (hr1 : Room (2 * k + 1) (A.deeper (envOfC "_law_shown_right" (defScope st1) s.heap.objs.size (fa 1) cd))) (hg : A.guards = some []) :
    PSs (cxOf L2.CX0 P w K mg base N1 "_law_shown_right" (defScope st1) (fa 1) cd A out s H E).nox (defBody st1) (tS K (execs (callN tbl k) ir1)) :=
  have hr := hr1.mono (Nat.le_succ (2 * k))
  have sc := sc1
  dss_cons (ds_nm (pg_name (i := 1) sc.nd rfl (by first | exact .inl rfl | exact .inr rfl)) (de_call (C 7) hr hg M.m7 M.f7.kp (bp_7_1_ M.f7) L2.pass0 (by rfl) (daa_val (de_fld (ks := [(0, 1)]) (f := "parts") (de_var (pvr 0)) (allF_cons (i := 1) M.c0 rfl allF_nil)) (daa_nil))))
    (dss_cons (ds_ret (de_and (de_cmp (op_eqDD (rm_units hr)) (de_strO (ms := [(0, 3)]) (allS_cons (c := 0) (fi := 3) (strF M.c0 M.h3 (C 3) hr1 (bp_3_1_ M.f3).toDf) (gs3 k) allS_nil) hg L2.pass0 (by rfl) M.b_str (de_var (pvr 0))) (de_var (pvr 1)) (nomark _)) (de_one (de_cmp (op_eqDD (rm_units hr)) (de_repO (ms := [(0, 8)]) (allR_cons (c := 0) (fi := 8) (repF M.c0 M.h8 (C 8) hr1 (bp_8_1_ M.f8).toDf) (gr8 k) allR_nil) hg L2.pass0 (by rfl) M.b_repr (de_var (pvr 0))) (de_bin op_addD (de_bin op_addD (de_bin op_addD (de_bin op_addD (de_str) (de_ty cr_str1D (by rfl) M.b_str bt_str (dr_cons (de_fld (ks := [(0, 0)]) (f := "levels") (de_var (pvr 0)) (allF_cons (i := 0) M.c0 rfl allF_nil)) (dr_nil)))) (de_str)) (de_var (pvr 1))) (de_str)) (nomark _)))))
    (dss_nil))
theorem b2 (M : Fx K mg fa fd ca dv) (C : ∀ j, FnG P w K mg base L2.CX0 (2 * k) (fa j) (fd j) (psn j) (sps K (callN tbl k) j)) (hr1 : Room (2 * k + 1) (A.deeper (envOfC "Log.__init__" (defScope st2) s.heap.objs.size (fa 2) cd))) (hg : A.guards = some []) :
    PSs (cxOf L2.CX0 P w K mg base N2 "Log.__init__" (defScope st2) (fa 2) cd A out s H E).nox (defBody st2) (tSI K 0 (execs (callN tbl k) ir2)) :=
  have hr := hr1.mono (Nat.le_succ (2 * k))
  have sc := sc2
  dsi_if (dt_not (dt_val (de_call (C 9) hr hg M.m9 M.f9.kp (bp_9_1_ M.f9) L2.pass0 (by rfl) (daa_val (de_var (pvr 1)) (daa_nil))) (fun _ => rfl))) (dss_cons ds_stk dss_nil) (fun _ _ _ h => by cases h) (dsi_if (dt_not (dt_val (de_isi .tuple (by rfl) M.b_isinstance (de_bt (by rfl) M.b_tuple bt_tuple) (de_var (pvr 2))) (fun _ => rfl))) (dss_cons ds_stk dss_nil) (fun _ _ _ h => by cases h) (dsi_nm (i := 3) (by decide) (pg_name (i := 3) sc.nd rfl (by first | exact .inl rfl | exact .inr rfl)) (de_call (C 10) hr hg M.m10 M.f10.kp (bp_10_2_ M.f10) L2.pass0 (by rfl) (daa_val (de_var (pvr 1)) (daa_val (de_var (pvr 2)) (daa_nil)))) (dsi_if (dt_cmp op_notND (de_var (pvr 3)) (de_non) (nomark _)) (dss_cons ds_stk dss_nil) (fun _ _ _ h => by cases h) (dsi_end (c := 0) rfl (by decide) ⟨_, M.c0⟩ (pvr 0) (pvr 1) (pvr 0) (pvr 2)))))
theorem b3 (M : Fx K mg fa fd ca dv) (C : ∀ j, FnG P w K mg base L2.CX0 (2 * k) (fa j) (fd j) (psn j) (sps K (callN tbl k) j)) (hr1 : Room (2 * k + 1) (A.deeper (envOfC "Log.__str__" (defScope st3) s.heap.objs.size (fa 3) cd))) (hg : A.guards = some []) :
    PSs (cxOf L2.CX0 P w K mg base N3 "Log.__str__" (defScope st3) (fa 3) cd A out s H E).nox (defBody st3) (tS K (execs (callN tbl k) ir3)) :=
  have hr := hr1.mono (Nat.le_succ (2 * k))
  have sc := sc3
  dss_cons (ds_ret (de_ty cr_str1D (by rfl) M.b_str bt_str (dr_cons (de_call (C 11) hr hg M.m11 M.f11.kp (bp_11_1_ M.f11) L2.pass0 (by rfl) (daa_val (de_fld (ks := [(0, 1)]) (f := "parts") (de_var (pvr 0)) (allF_cons (i := 1) M.c0 rfl allF_nil)) (daa_nil))) (dr_nil))))
    (dss_nil)
theorem b4 (M : Fx K mg fa fd ca dv) (C : ∀ j, FnG P w K mg base L2.CX0 (2 * k) (fa j) (fd j) (psn j) (sps K (callN tbl k) j)) (hr1 : Room (2 * k + 1) (A.deeper (envOfC "_law_right" (defScope st4) s.heap.objs.size (fa 4) cd))) (hg : A.guards = some []) :
    PSs (cxOf L2.CX0 P w K mg base N4 "_law_right" (defScope st4) (fa 4) cd A out s H E).nox (defBody st4) (tS K (execs (callN tbl k) ir4)) :=
  have hr := hr1.mono (Nat.le_succ (2 * k))
  have sc := sc4
  dss_cons (ds_par rfl sc.nd rfl rfl (by decide) rfl rfl (de_call (C 12) hr hg M.m12 M.f12.kp (bp_12_2_ M.f12) L2.pass0 (by rfl) (daa_ref (de_var (pvr 0)) (daa_val (de_int) (daa_nil)))) (de_lst (da_nil)))
    (dss_cons (ds_nm (pg_name (i := 3) sc.nd rfl (by first | exact .inl rfl | exact .inr rfl)) (de_call (C 13) hr hg M.m13 M.f13.kp (bp_13_4_ M.f13) L2.pass0 (by rfl) (daa_ref (de_var (pvr 0)) (daa_val (de_var (pvr 1)) (daa_val (de_idx (de_lst (da_cons (de_call (C 14) hr hg M.m14 M.f14.kp (bp_14_2_ M.f14) L2.pass0 (by rfl) (daa_ref (de_var (pvr 0)) (daa_val (de_int) (daa_nil)))) (da_cons (de_call (C 14) hr hg M.m14 M.f14.kp (bp_14_2_ M.f14) L2.pass0 (by rfl) (daa_ref (de_var (pvr 0)) (daa_val (de_int) (daa_nil)))) (da_nil)))) (de_call (C 14) hr hg M.m14 M.f14.kp (bp_14_2_ M.f14) L2.pass0 (by rfl) (daa_ref (de_var (pvr 0)) (daa_val (de_int) (daa_nil)))) (fun _ _ => rfl)) (daa_val (de_int) (daa_nil)))))))
    (dss_cons (ds_for PassesOwn.never rfl (di_rng1 (by rfl) M.b_range (de_int)) (dg_nm (pg_name (i := 4) sc.nd rfl (by first | exact .inl rfl | exact .inr rfl))) (dss_cons (ds_nm (pg_name (i := 3) sc.nd rfl (by first | exact .inl rfl | exact .inr rfl)) (de_call (C 15) hr hg M.m15 M.f15.kp (bp_15_3_ M.f15) L2.pass0 (by rfl) (daa_ref (de_var (pvr 0)) (daa_val (de_var (pvr 1)) (daa_val (de_var (pvr 3)) (daa_nil))))))
    (dss_cons (ds_ex (de_app (pvr 2) (de_makeB (perm := [0, 1]) (dds := [.tup []]) M.c0 M.k0 M.q0 (C 2) hr1 hg (bd_2_3_ M.f2 M.e2) L2.pass0 (by rfl) (daa_val (de_bin op_addD (de_var (pvr 1)) (de_ty cr_intD (by rfl) M.b_int bt_int (dr_cons (de_cmp (op_eqDD (rm_units hr)) (de_call (C 14) hr hg M.m14 M.f14.kp (bp_14_2_ M.f14) L2.pass0 (by rfl) (daa_ref (de_var (pvr 0)) (daa_val (de_int) (daa_nil)))) (de_int) (nomark _)) (dr_nil)))) (daa_val (de_var (pvr 3)) (daa_nil))))))
    (dss_wip (dss_nil)))))
    (dss_wip (dss_cons (ds_for PassesOwn.never rfl (di_val (de_var (pvr 2))) (dg_nm (pg_name (i := 5) sc.nd rfl (by first | exact .inl rfl | exact .inr rfl))) (dss_cons (ds_if (PW.pt (dw_or (dt_not (dt_val (de_call (C 1) hr hg M.m1 M.f1.kp (bp_1_1_ M.f1) L2.pass0 (by rfl) (daa_val (de_var (pvr 5)) (daa_nil))) (fun _ => rfl))) (dw_one (dt_cmp op_notND (de_call (C 16) hr hg M.m16 M.f16.kp (bp_16_1_ M.f16) L2.pass0 (by rfl) (daa_val (de_var (pvr 5)) (daa_nil))) (de_bl) (nomark _)) (.inr rfl)))) (dss_cons (ds_ret (de_bl))
    (dss_nil)) (dss_nil))
    (dss_wip (dss_cons (ds_for PassesOwn.never rfl (di_val (de_var (pvr 2))) (dg_nm (pg_name (i := 6) sc.nd rfl (by first | exact .inl rfl | exact .inr rfl))) (dss_cons (ds_nm (pg_name (i := 7) sc.nd rfl (by first | exact .inl rfl | exact .inr rfl)) (de_cmp (op_eqDD (rm_units hr)) (de_bi (cr_reprD hg (rm_units70 hr)) (by rfl) M.b_repr bt_repr (dr_cons (de_lst (da_cons (de_fld (ks := [(0, 0)]) (f := "levels") (de_var (pvr 5)) (allF_cons (i := 0) M.c0 rfl allF_nil)) (da_cons (de_fld (ks := [(0, 1)]) (f := "parts") (de_var (pvr 5)) (allF_cons (i := 1) M.c0 rfl allF_nil)) (da_nil)))) (dr_nil))) (de_bi (cr_reprD hg (rm_units70 hr)) (by rfl) M.b_repr bt_repr (dr_cons (de_lst (da_cons (de_fld (ks := [(0, 0)]) (f := "levels") (de_var (pvr 6)) (allF_cons (i := 0) M.c0 rfl allF_nil)) (da_cons (de_fld (ks := [(0, 1)]) (f := "parts") (de_var (pvr 6)) (allF_cons (i := 1) M.c0 rfl allF_nil)) (da_nil)))) (dr_nil))) (nomark _)))
    (dss_cons (ds_if (PW.pt (dw_or (dt_cmp (op_neDD (rm_units hr)) (de_eqA (ms := [(0, 17)]) (allM_cons (c := 0) (fi := 17) (methF M.c0 M.h17 (C 17) hr (bp_17_2_ M.f17).toDf) allM_nil) (rowsA_cons (gr17 k) M.c0 M.i0 rowsA_nil) hg L2.pass0 (de_var (pvr 5)) (de_var (pvr 6))) (de_var (pvr 7)) (nomark _)) (dw_one (dt_cmp (op_eqDD (rm_units hr)) (de_neA (ms := [(0, 17)]) (allN_cons (c := 0) (fi := 17) M.c0 M.h17 (C 17) hr1 (bp_17_2_ M.f17) M.n0 allN_nil) (rowsA_cons (gr17 k) M.c0 M.i0 rowsA_nil) hg L2.pass0 (de_var (pvr 5)) (de_var (pvr 6))) (de_var (pvr 7)) (nomark _)) (.inr rfl)))) (dss_cons (ds_ret (de_bl))
    (dss_nil)) (dss_nil))
    (dss_wip (dss_nil)))))
    (dss_cons (ds_nm (pg_name (i := 8) sc.nd rfl (by first | exact .inl rfl | exact .inr rfl)) (de_lst (da_cons (de_non) (da_cons (de_int) (da_cons (de_str) (da_cons (de_tup (da_nil)) (da_cons (de_fld (ks := [(0, 1)]) (f := "parts") (de_var (pvr 5)) (allF_cons (i := 1) M.c0 rfl allF_nil)) (da_cons (de_tup (da_cons (de_fld (ks := [(0, 0)]) (f := "levels") (de_var (pvr 5)) (allF_cons (i := 0) M.c0 rfl allF_nil)) (da_cons (de_fld (ks := [(0, 1)]) (f := "parts") (de_var (pvr 5)) (allF_cons (i := 1) M.c0 rfl allF_nil)) (da_nil)))) (da_cons (de_strO (ms := [(0, 3)]) (allS_cons (c := 0) (fi := 3) (strF M.c0 M.h3 (C 3) hr1 (bp_3_1_ M.f3).toDf) (gs3 k) allS_nil) hg L2.pass0 (by rfl) M.b_str (de_var (pvr 5))) (da_cons (de_repO (ms := [(0, 8)]) (allR_cons (c := 0) (fi := 8) (repF M.c0 M.h8 (C 8) hr1 (bp_8_1_ M.f8).toDf) (gr8 k) allR_nil) hg L2.pass0 (by rfl) M.b_repr (de_var (pvr 5))) (da_cons (de_lst (da_cons (de_var (pvr 5)) (da_nil))) (da_cons (de_bl) (da_cons (de_emp) (da_cons (de_fnv 16 (by rfl) M.m16 M.ft16) (da_nil)))))))))))))))
    (dss_wip (dss_cons (ds_for PassesOwn.never rfl (di_val (de_var (pvr 8))) (dg_nm (pg_name (i := 9) sc.nd rfl (by first | exact .inl rfl | exact .inr rfl))) (dss_cons (ds_if (PW.pt (dw_or (dt_eqA (ms := [(0, 17)]) (allM_cons (c := 0) (fi := 17) (methF M.c0 M.h17 (C 17) hr (bp_17_2_ M.f17).toDf) allM_nil) (rowsA_cons (gr17 k) M.c0 M.i0 rowsA_nil) hg L2.pass0 (de_var (pvr 5)) (de_var (pvr 9))) (dw_or (dt_not (dt_neA (ms := [(0, 17)]) (allN_cons (c := 0) (fi := 17) M.c0 M.h17 (C 17) hr1 (bp_17_2_ M.f17) M.n0 allN_nil) (rowsA_cons (gr17 k) M.c0 M.i0 rowsA_nil) hg L2.pass0 (de_var (pvr 5)) (de_var (pvr 9)))) (dw_one (dt_cmp op_notND (de_call (C 16) hr hg M.m16 M.f16.kp (bp_16_1_ M.f16) L2.pass0 (by rfl) (daa_val (de_var (pvr 9)) (daa_nil))) (de_bl) (nomark _)) (.inr rfl))))) (dss_cons (ds_ret (de_bl))
    (dss_nil)) (dss_nil))
    (dss_wip (dss_nil))))
    (dss_wip (dss_nil)))))))))
    (dss_cons (ds_ret (de_bl))
    (dss_nil))))))
theorem b5 (M : Fx K mg fa fd ca dv) (C : ∀ j, FnG P w K mg base L2.CX0 (2 * k) (fa j) (fd j) (psn j) (sps K (callN tbl k) j)) (hr1 : Room (2 * k + 1) (A.deeper (envOfC "_law_pool" (defScope st5) s.heap.objs.size (fa 5) cd))) (hg : A.guards = some []) :
    PSs (cxOf L2.CX0 P w K mg base N5 "_law_pool" (defScope st5) (fa 5) cd A out s H E).nox (defBody st5) (tS K (execs (callN tbl k) ir5)) :=
  have hr := hr1.mono (Nat.le_succ (2 * k))
  have sc := sc5
  dss_cons (ds_nm (pg_name (i := 1) sc.nd rfl (by first | exact .inl rfl | exact .inr rfl)) (de_int))
    (dss_cons (ds_if (PW.pt (dw_or (dt_cmp (op_ltD (rm_units hr)) (de_var (pvr 0)) (de_int) (nomark _)) (dw_one (dt_cmp op_geD (de_var (pvr 0)) (de_bin op_powD (de_int) (de_int)) (nomark _)) (.inr rfl)))) (dss_cons (ds_nm (pg_name (i := 1) sc.nd rfl (by first | exact .inl rfl | exact .inr rfl)) (de_bi cr_absD (by rfl) M.b_abs bt_abs (dr_cons (de_var (pvr 0)) (dr_nil))))
    (dss_nil)) (dss_nil))
    (dss_cons (ds_ret (de_lst (da_cons (de_bin op_modD (de_var (pvr 0)) (de_int)) (da_cons (de_var (pvr 1)) (da_cons (de_int) (da_nil))))))
    (dss_nil)))
theorem b6 (M : Fx K mg fa fd ca dv) (C : ∀ j, FnG P w K mg base L2.CX0 (2 * k) (fa j) (fd j) (psn j) (sps K (callN tbl k) j)) (hr1 : Room (2 * k + 1) (A.deeper (envOfC "_law_cell" (defScope st6) s.heap.objs.size (fa 6) cd))) (hg : A.guards = some []) :
    PSs (cxOf L2.CX0 P w K mg base N6 "_law_cell" (defScope st6) (fa 6) cd A out s H E).nox (defBody st6) (tS K (execs (callN tbl k) ir6)) :=
  have hr := hr1.mono (Nat.le_succ (2 * k))
  have sc := sc6
  dss_cons (ds_if (dt_cmp (op_ltD (rm_units hr)) (de_var (pvr 1)) (de_bi cr_lenD (by rfl) M.b_len bt_len (dr_cons (de_var (pvr 0)) (dr_nil))) (nomark _)) (dss_cons (ds_ret (de_idx (de_var (pvr 0)) (de_var (pvr 1)) (fun _ _ => rfl)))
    (dss_nil)) (dss_nil))
    (dss_cons (ds_nm (pg_name (i := 2) sc.nd rfl (by first | exact .inl rfl | exact .inr rfl)) (de_bin op_modD (de_bin op_mulD (de_int) (de_bin op_addD (de_bin op_addD (de_bin op_mulD (de_var (pvr 1)) (de_var (pvr 1))) (de_bin op_mulD (de_int) (de_var (pvr 1)))) (de_int))) (de_int)))
    (dss_cons (ds_for PassesOwn.never rfl (di_val (de_slc (de_var (pvr 0)) (do_none) (do_some (de_int)))) (dg_nm (pg_name (i := 3) sc.nd rfl (by first | exact .inl rfl | exact .inr rfl))) (dss_cons (ds_nm (pg_name (i := 2) sc.nd rfl (by first | exact .inl rfl | exact .inr rfl)) (de_bin op_modD (de_bin op_addD (de_bin op_mulD (de_var (pvr 2)) (de_int)) (de_var (pvr 3))) (de_int)))
    (dss_nil)))
    (dss_cons (ds_ret (de_var (pvr 2)))
    (dss_nil))))
theorem b7 (M : Fx K mg fa fd ca dv) (C : ∀ j, FnG P w K mg base L2.CX0 (2 * k) (fa j) (fd j) (psn j) (sps K (callN tbl k) j)) (hr1 : Room (2 * k + 1) (A.deeper (envOfC "_law_text" (defScope st7) s.heap.objs.size (fa 7) cd))) (hg : A.guards = some []) :
    PSs (cxOf L2.CX0 P w K mg base N7 "_law_text" (defScope st7) (fa 7) cd A out s H E).nox (defBody st7) (tS K (execs (callN tbl k) ir7)) :=
  have hr := hr1.mono (Nat.le_succ (2 * k))
  have sc := sc7
  dss_cons (ds_nm (pg_name (i := 1) sc.nd rfl (by first | exact .inl rfl | exact .inr rfl)) (de_lst (da_nil)))
    (dss_cons (ds_for PassesOwn.never rfl (di_val (de_var (pvr 0))) (dg_nm (pg_name (i := 2) sc.nd rfl (by first | exact .inl rfl | exact .inr rfl))) (dss_cons (ds_ex (de_app (pvr 1) (de_ite (dt_val (de_isi .tuple (by rfl) M.b_isinstance (de_bt (by rfl) M.b_tuple bt_tuple) (de_var (pvr 2))) (fun _ => rfl)) (de_bin op_addD (de_bin op_addD (de_bin op_addD (de_str) (de_call (C 7) hr hg M.m7 M.f7.kp (bp_7_1_ M.f7) L2.pass0 (by rfl) (daa_val (de_idx (de_var (pvr 2)) (de_int) (fun _ _ => rfl)) (daa_nil)))) (de_str)) (de_ty cr_str1D (by rfl) M.b_str bt_str (dr_cons (de_idx (de_var (pvr 2)) (de_int) (fun _ _ => rfl)) (dr_nil)))) (de_ty cr_str1D (by rfl) M.b_str bt_str (dr_cons (de_var (pvr 2)) (dr_nil))))))
    (dss_wip (dss_nil))))
    (dss_cons (ds_ret (de_ite (dt_cmp (op_neDD (rm_units hr)) (de_var (pvr 1)) (de_lst (da_nil)) (nomark _)) (de_join (de_str) (de_var (pvr 1))) (de_str)))
    (dss_nil)))
theorem b8 (M : Fx K mg fa fd ca dv) (C : ∀ j, FnG P w K mg base L2.CX0 (2 * k) (fa j) (fd j) (psn j) (sps K (callN tbl k) j)) (hr1 : Room (2 * k + 1) (A.deeper (envOfC "Log.__repr__" (defScope st8) s.heap.objs.size (fa 8) cd))) (hg : A.guards = some []) :
    PSs (cxOf L2.CX0 P w K mg base N8 "Log.__repr__" (defScope st8) (fa 8) cd A out s H E).nox (defBody st8) (tS K (execs (callN tbl k) ir8)) :=
  have hr := hr1.mono (Nat.le_succ (2 * k))
  have sc := sc8
  dss_cons (ds_ret (de_fs (.cons (fs_cst (de_str)) (.cons (fs_val (de_fld (ks := [(0, 0)]) (f := "levels") (de_var (pvr 0)) (allF_cons (i := 0) M.c0 rfl allF_nil))) (.cons (fs_cst (de_str)) (.cons (fs_val (de_call (C 11) hr hg M.m11 M.f11.kp (bp_11_1_ M.f11) L2.pass0 (by rfl) (daa_val (de_fld (ks := [(0, 1)]) (f := "parts") (de_var (pvr 0)) (allF_cons (i := 1) M.c0 rfl allF_nil)) (daa_nil)))) (.cons (fs_cst (de_str)) (.nil))))))))
    (dss_nil)
theorem b9 (M : Fx K mg fa fd ca dv) (C : ∀ j, FnG P w K mg base L2.CX0 (2 * k) (fa j) (fd j) (psn j) (sps K (callN tbl k) j)) (hr1 : Room (2 * k + 1) (A.deeper (envOfC "is_level_count" (defScope st9) s.heap.objs.size (fa 9) cd))) (hg : A.guards = some []) :
    PSs (cxOf L2.CX0 P w K mg base N9 "is_level_count" (defScope st9) (fa 9) cd A out s H E).nox (defBody st9) (tS K (execs (callN tbl k) ir9)) :=
  have hr := hr1.mono (Nat.le_succ (2 * k))
  have sc := sc9
  dss_cons (ds_ret (de_call (C 18) hr hg M.m18 M.f18.kp (bp_18_3_ M.f18) L2.pass0 (by rfl) (daa_val (de_var (pvr 0)) (daa_val (de_int) (daa_val (de_glob (by rfl) M.g_MAX_LEVELS.choose_spec) (daa_nil))))))
    (dss_nil)
theorem b10 (M : Fx K mg fa fd ca dv) (C : ∀ j, FnG P w K mg base L2.CX0 (2 * k) (fa j) (fd j) (psn j) (sps K (callN tbl k) j)) (hr1 : Room (2 * k + 1) (A.deeper (envOfC "first_invalid" (defScope st10) s.heap.objs.size (fa 10) cd))) (hg : A.guards = some []) :
    PSs (cxOf L2.CX0 P w K mg base N10 "first_invalid" (defScope st10) (fa 10) cd A out s H E).nox (defBody st10) (tS K (execs (callN tbl k) ir10)) :=
  have hr := hr1.mono (Nat.le_succ (2 * k))
  have sc := sc10
  dss_cons (ds_nm (pg_name (i := 2) sc.nd rfl (by first | exact .inl rfl | exact .inr rfl)) (de_int))
    (dss_cons (ds_for PassesOwn.never rfl (di_enum (by rfl) M.b_enumerate (de_var (pvr 1))) (dg_tp rfl (dgs_cons (dg_nm (pg_name (i := 3) sc.nd rfl (by first | exact .inl rfl | exact .inr rfl))) (dgs_cons (dg_nm (pg_name (i := 4) sc.nd rfl (by first | exact .inl rfl | exact .inr rfl))) (dgs_nil))) rfl rfl (fun ds ρ ρ2 h => asgns_len ds ρ ρ2 h)) (dss_cons (ds_nm (pg_name (i := 5) sc.nd rfl (by first | exact .inl rfl | exact .inr rfl)) (de_call (C 19) hr hg M.m19 M.f19.kp (bp_19_2_ M.f19) L2.pass0 (by rfl) (daa_val (de_var (pvr 0)) (daa_val (de_var (pvr 4)) (daa_nil)))))
    (dss_cons (ds_if (PW.pt (dw_or (dt_cmp op_isND (de_var (pvr 5)) (de_non) (nomark _)) (dw_or (dt_cmp op_gtD (de_bin op_addD (de_var (pvr 2)) (de_idx (de_var (pvr 5)) (de_int) (fun _ _ => rfl))) (de_glob (by rfl) M.g_MAX_PARTS.choose_spec) (nomark _)) (dw_one (dt_cmp op_gtD (de_idx (de_var (pvr 5)) (de_int) (fun _ _ => rfl)) (de_glob (by rfl) M.g_MAX_DEPTH.choose_spec) (nomark _)) (.inr rfl))))) (dss_cons (ds_ret (de_var (pvr 3)))
    (dss_nil)) (dss_nil))
    (dss_cons (ds_aug (i := 2) sc.nd rfl (by first | exact .inl rfl | exact .inr rfl) ip_add (fun _ _ => rfl) (de_idx (de_var (pvr 5)) (de_int) (fun _ _ => rfl)))
    (dss_nil)))))
    (dss_cons (ds_ret (de_non))
    (dss_nil)))
theorem b11 (M : Fx K mg fa fd ca dv) (C : ∀ j, FnG P w K mg base L2.CX0 (2 * k) (fa j) (fd j) (psn j) (sps K (callN tbl k) j)) (hr1 : Room (2 * k + 1) (A.deeper (envOfC "parts_text" (defScope st11) s.heap.objs.size (fa 11) cd))) (hg : A.guards = some []) :
    PSs (cxOf L2.CX0 P w K mg base N11 "parts_text" (defScope st11) (fa 11) cd A out s H E).nox (defBody st11) (tS K (execs (callN tbl k) ir11)) :=
  have hr := hr1.mono (Nat.le_succ (2 * k))
  have sc := sc11
  dss_cons (ds_nm (pg_name (i := 1) sc.nd rfl (by first | exact .inl rfl | exact .inr rfl)) (de_lst (da_nil)))
    (dss_cons (ds_for PassesOwn.never rfl (di_val (de_var (pvr 0))) (dg_nm (pg_name (i := 2) sc.nd rfl (by first | exact .inl rfl | exact .inr rfl))) (dss_cons (ds_ex (de_app (pvr 1) (de_ite (dt_val (de_isi .tuple (by rfl) M.b_isinstance (de_bt (by rfl) M.b_tuple bt_tuple) (de_var (pvr 2))) (fun _ => rfl)) (de_bin op_addD (de_bin op_addD (de_bin op_addD (de_str) (de_call (C 11) hr hg M.m11 M.f11.kp (bp_11_1_ M.f11) L2.pass0 (by rfl) (daa_val (de_idx (de_var (pvr 2)) (de_int) (fun _ _ => rfl)) (daa_nil)))) (de_str)) (de_ty cr_str1D (by rfl) M.b_str bt_str (dr_cons (de_idx (de_var (pvr 2)) (de_int) (fun _ _ => rfl)) (dr_nil)))) (de_ty cr_str1D (by rfl) M.b_str bt_str (dr_cons (de_var (pvr 2)) (dr_nil))))))
    (dss_wip (dss_nil))))
    (dss_cons (ds_ret (de_or (de_join (de_str) (de_var (pvr 1))) (de_one (de_globS (by rfl) M.gs_NOTHING.choose_spec))))
    (dss_nil)))
theorem b12 (M : Fx K mg fa fd ca dv) (C : ∀ j, FnG P w K mg base L2.CX0 (2 * k) (fa j) (fd j) (psn j) (sps K (callN tbl k) j)) (hr1 : Room (2 * k + 1) (A.deeper (envOfC "_law_levels" (defScope st12) s.heap.objs.size (fa 12) cd))) (hg : A.guards = some []) :
    PSs (cxOf L2.CX0 P w K mg base N12 "_law_levels" (defScope st12) (fa 12) cd A out s H E).nox (defBody st12) (tS K (execs (callN tbl k) ir12)) :=
  have hr := hr1.mono (Nat.le_succ (2 * k))
  have sc := sc12
  dss_cons (ds_nm (pg_name (i := 2) sc.nd rfl (by first | exact .inl rfl | exact .inr rfl)) (de_cmp (op_eqDD (rm_units hr)) (de_call (C 14) hr hg M.m14 M.f14.kp (bp_14_2_ M.f14) L2.pass0 (by rfl) (daa_ref (de_var (pvr 0)) (daa_val (de_int) (daa_nil)))) (de_int) (nomark _)))
    (dss_cons (ds_ret (de_bin op_addD (de_int) (de_call (C 14) hr hg M.m14 M.f14.kp (bp_14_2_ M.f14) L2.pass0 (by rfl) (daa_ref (de_var (pvr 0)) (daa_val (de_ite (dt_val (de_var (pvr 2)) (fun _ => rfl)) (de_var (pvr 1)) (de_bi (cr_min2D rfl) (by rfl) M.b_min bt_min (dr_cons (de_int) (dr_cons (de_var (pvr 1)) (dr_nil))))) (daa_nil))))))
    (dss_nil))
theorem b13 (M : Fx K mg fa fd ca dv) (C : ∀ j, FnG P w K mg base L2.CX0 (2 * k) (fa j) (fd j) (psn j) (sps K (callN tbl k) j)) (hr1 : Room (2 * k + 1) (A.deeper (envOfC "_law_parts" (defScope st13) s.heap.objs.size (fa 13) cd))) (hg : A.guards = some []) :
    PSs (cxOf L2.CX0 P w K mg base N13 "_law_parts" (defScope st13) (fa 13) cd A out s H E).nox (defBody st13) (tS K (execs (callN tbl k) ir13)) :=
  have hr := hr1.mono (Nat.le_succ (2 * k))
  have sc := sc13
  dss_cons (ds_nm (pg_name (i := 4) sc.nd rfl (by first | exact .inl rfl | exact .inr rfl)) (de_lst (da_nil)))
    (dss_cons (ds_whl PassesOwn.never (PW.pt (dw_and (dt_cmp op_gtD (de_var (pvr 2)) (de_int) (nomark _)) (dw_one (dt_cmp op_gtD (de_call (C 14) hr hg M.m14 M.f14.kp (bp_14_2_ M.f14) L2.pass0 (by rfl) (daa_ref (de_var (pvr 0)) (daa_val (de_int) (daa_nil)))) (de_int) (nomark _)) (.inl rfl)))) (dss_cons (ds_nm (pg_name (i := 2) sc.nd rfl (by first | exact .inl rfl | exact .inr rfl)) (de_bin op_subD (de_var (pvr 2)) (de_int)))
    (dss_cons (ds_if (PW.pt (dw_and (dt_cmp op_gtD (de_var (pvr 3)) (de_int) (nomark _)) (dw_one (dt_cmp (op_eqDD (rm_units hr)) (de_call (C 14) hr hg M.m14 M.f14.kp (bp_14_2_ M.f14) L2.pass0 (by rfl) (daa_ref (de_var (pvr 0)) (daa_val (de_int) (daa_nil)))) (de_int) (nomark _)) (.inl rfl)))) (dss_cons (ds_nm (pg_name (i := 5) sc.nd rfl (by first | exact .inl rfl | exact .inr rfl)) (de_call (C 13) hr hg M.m13 M.f13.kp (bp_13_4_ M.f13) L2.pass0 (by rfl) (daa_ref (de_var (pvr 0)) (daa_val (de_var (pvr 1)) (daa_val (de_call (C 14) hr hg M.m14 M.f14.kp (bp_14_2_ M.f14) L2.pass0 (by rfl) (daa_ref (de_var (pvr 0)) (daa_val (de_bin op_addD (de_var (pvr 2)) (de_int)) (daa_nil)))) (daa_val (de_bin op_subD (de_var (pvr 3)) (de_int)) (daa_nil)))))))
    (dss_cons (ds_nm (pg_name (i := 2) sc.nd rfl (by first | exact .inl rfl | exact .inr rfl)) (de_bin op_subD (de_var (pvr 2)) (de_call (C 20) hr hg M.m20 M.f20.kp (bp_20_1_ M.f20) L2.pass0 (by rfl) (daa_val (de_var (pvr 5)) (daa_nil)))))
    (dss_cons (ds_ex (de_app (pvr 4) (de_tup (da_cons (de_var (pvr 5)) (da_cons (de_call (C 21) hr hg M.m21 M.f21.kp (bp_21_1_ M.f21) L2.pass0 (by rfl) (daa_ref (de_var (pvr 0)) (daa_nil))) (da_nil))))))
    (dss_nil)))) (dss_cons (ds_ex (de_app (pvr 4) (de_bin op_addD (de_int) (de_call (C 14) hr hg M.m14 M.f14.kp (bp_14_2_ M.f14) L2.pass0 (by rfl) (daa_ref (de_var (pvr 0)) (daa_val (de_var (pvr 1)) (daa_nil)))))))
    (dss_nil)))
    (dss_wip (dss_nil)))))
    (dss_wip (dss_cons (ds_ret (de_ty cr_tupleD (by rfl) M.b_tuple bt_tuple (dr_cons (de_var (pvr 4)) (dr_nil))))
    (dss_nil))))
theorem b14 (M : Fx K mg fa fd ca dv) (C : ∀ j, FnG P w K mg base L2.CX0 (2 * k) (fa j) (fd j) (psn j) (sps K (callN tbl k) j)) (hr1 : Room (2 * k + 1) (A.deeper (envOfC "_law_draw" (defScope st14) s.heap.objs.size (fa 14) cd))) (hg : A.guards = some []) :
    PSs (cxOf L2.CX0 P w K mg base N14 "_law_draw" (defScope st14) (fa 14) cd A out s H E).nox (defBody st14) (tS K (execs (callN tbl k) ir14)) :=
  have hr := hr1.mono (Nat.le_succ (2 * k))
  have sc := sc14
  dss_cons (ds_asg (by intro _ z; cases z) (dg_sub (pvr 0) (de_int)) (de_bin op_addD (de_idx (de_var (pvr 0)) (de_int) (fun _ _ => rfl)) (de_int)))
    (dss_cons (ds_nm (pg_name (i := 2) sc.nd rfl (by first | exact .inl rfl | exact .inr rfl)) (de_idx (de_var (pvr 0)) (de_int) (fun _ _ => rfl)))
    (dss_cons (ds_asg (by intro _ z; cases z) (dg_sub (pvr 0) (de_int)) (de_bin op_modD (de_bin op_addD (de_bin op_addD (de_bin op_mulD (de_var (pvr 2)) (de_bin op_addD (de_bin op_modD (de_ty cr_intD (by rfl) M.b_int bt_int (dr_cons (de_var (pvr 2)) (dr_nil))) (de_int)) (de_int))) (de_bin op_mulD (de_int) (de_idx (de_var (pvr 0)) (de_int) (fun _ _ => rfl)))) (de_int)) (de_int)))
    (dss_cons (ds_if (dt_cmp op_gtD (de_idx (de_var (pvr 0)) (de_int) (fun _ _ => rfl)) (de_int) (nomark _)) (dss_cons (ds_asg (by intro _ z; cases z) (dg_tp rfl (dgs_cons (dg_sub (pvr 0) (de_int)) (dgs_cons (dg_nm (pg_name (i := 3) sc.nd rfl (by first | exact .inl rfl | exact .inr rfl))) (dgs_nil))) rfl rfl (fun ds ρ ρ2 h => asgns_len ds ρ ρ2 h)) (de_bi cr_divmodD (by rfl) M.b_divmod bt_divmod (dr_cons (de_idx (de_var (pvr 0)) (de_int) (fun _ _ => rfl)) (dr_cons (de_var (pvr 1)) (dr_nil)))))
    (dss_cons (ds_ret (de_var (pvr 3)))
    (dss_nil))) (dss_nil))
    (dss_cons (ds_ret (de_bin op_modD (de_bin op_fdivD (de_idx (de_var (pvr 0)) (de_int) (fun _ _ => rfl)) (de_int)) (de_var (pvr 1))))
    (dss_nil)))))
theorem b15 (M : Fx K mg fa fd ca dv) (C : ∀ j, FnG P w K mg base L2.CX0 (2 * k) (fa j) (fd j) (psn j) (sps K (callN tbl k) j)) (hr1 : Room (2 * k + 1) (A.deeper (envOfC "_law_changed" (defScope st15) s.heap.objs.size (fa 15) cd))) (hg : A.guards = some []) :
    PSs (cxOf L2.CX0 P w K mg base N15 "_law_changed" (defScope st15) (fa 15) cd A out s H E).nox (defBody st15) (tS K (execs (callN tbl k) ir15)) :=
  have hr := hr1.mono (Nat.le_succ (2 * k))
  have sc := sc15
  dss_cons (ds_par rfl sc.nd rfl rfl (by decide) rfl rfl (de_call (C 14) hr hg M.m14 M.f14.kp (bp_14_2_ M.f14) L2.pass0 (by rfl) (daa_ref (de_var (pvr 0)) (daa_val (de_bin op_addD (de_bi cr_lenD (by rfl) M.b_len bt_len (dr_cons (de_var (pvr 2)) (dr_nil))) (de_int)) (daa_nil)))) (de_call (C 14) hr hg M.m14 M.f14.kp (bp_14_2_ M.f14) L2.pass0 (by rfl) (daa_ref (de_var (pvr 0)) (daa_val (de_int) (daa_nil)))))
    (dss_cons (ds_nm (pg_name (i := 5) sc.nd rfl (by first | exact .inl rfl | exact .inr rfl)) (de_slc (de_var (pvr 2)) (do_some (de_bin op_addD (de_var (pvr 3)) (de_int))) (do_none)))
    (dss_cons (ds_if (dt_cmp (op_eqDD (rm_units hr)) (de_var (pvr 4)) (de_int) (nomark _)) (dss_cons (ds_ret (de_bin op_addD (de_slc (de_var (pvr 2)) (do_none) (do_some (de_var (pvr 3)))) (de_var (pvr 5))))
    (dss_nil)) (dss_nil))
    (dss_cons (ds_if (PW.pt (dw_and (dt_cmp (op_eqDD (rm_units hr)) (de_var (pvr 4)) (de_int) (nomark _)) (dw_one (dt_cmp (op_ltD (rm_units hr)) (de_call (C 20) hr hg M.m20 M.f20.kp (bp_20_1_ M.f20) L2.pass0 (by rfl) (daa_val (de_var (pvr 2)) (daa_nil))) (de_int) (nomark _)) (.inl rfl)))) (dss_cons (ds_ret (de_bin op_addD (de_bin op_addD (de_slc (de_var (pvr 2)) (do_none) (do_some (de_var (pvr 3)))) (de_tup (da_cons (de_tup (da_cons (de_tup (da_nil)) (da_cons (de_int) (da_nil)))) (da_nil)))) (de_slc (de_var (pvr 2)) (do_some (de_var (pvr 3))) (do_none))))
    (dss_nil)) (dss_nil))
    (dss_cons (ds_if (PW.pt (dw_and (dt_cmp (op_eqDD (rm_units hr)) (de_var (pvr 4)) (de_int) (nomark _)) (dw_and (dt_cmp (op_ltD (rm_units hr)) (de_var (pvr 3)) (de_bi cr_lenD (by rfl) M.b_len bt_len (dr_cons (de_var (pvr 2)) (dr_nil))) (nomark _)) (dw_and (dt_cmp (op_ltD (rm_units hr)) (de_call (C 20) hr hg M.m20 M.f20.kp (bp_20_1_ M.f20) L2.pass0 (by rfl) (daa_val (de_var (pvr 2)) (daa_nil))) (de_int) (nomark _)) (dw_one (dt_not (dt_val (de_isi .tuple (by rfl) M.b_isinstance (de_bt (by rfl) M.b_tuple bt_tuple) (de_idx (de_var (pvr 2)) (de_var (pvr 3)) (fun _ _ => rfl))) (fun _ => rfl))) (.inl rfl)))))) (dss_cons (ds_ret (de_bin op_addD (de_bin op_addD (de_slc (de_var (pvr 2)) (do_none) (do_some (de_var (pvr 3)))) (de_tup (da_cons (de_tup (da_cons (de_tup (da_cons (de_idx (de_var (pvr 2)) (de_var (pvr 3)) (fun _ _ => rfl)) (da_nil))) (da_cons (de_int) (da_nil)))) (da_nil)))) (de_var (pvr 5))))
    (dss_nil)) (dss_nil))
    (dss_cons (ds_if (PW.pt (dw_and (dt_cmp (op_eqDD (rm_units hr)) (de_var (pvr 4)) (de_int) (nomark _)) (dw_one (dt_cmp (op_ltD (rm_units hr)) (de_var (pvr 3)) (de_bi cr_lenD (by rfl) M.b_len bt_len (dr_cons (de_var (pvr 2)) (dr_nil))) (nomark _)) (.inl rfl)))) (dss_cons (ds_nm (pg_name (i := 6) sc.nd rfl (by first | exact .inl rfl | exact .inr rfl)) (de_idx (de_var (pvr 2)) (de_var (pvr 3)) (fun _ _ => rfl)))
    (dss_cons (ds_nm (pg_name (i := 7) sc.nd rfl (by first | exact .inl rfl | exact .inr rfl)) (de_ite (dt_val (de_isi .tuple (by rfl) M.b_isinstance (de_bt (by rfl) M.b_tuple bt_tuple) (de_var (pvr 6))) (fun _ => rfl)) (de_tup (da_cons (de_idx (de_var (pvr 6)) (de_int) (fun _ _ => rfl)) (da_cons (de_bin op_addD (de_bin op_modD (de_ty cr_intD (by rfl) M.b_int bt_int (dr_cons (de_idx (de_var (pvr 6)) (de_int) (fun _ _ => rfl)) (dr_nil))) (de_bin op_powD (de_int) (de_int))) (de_int)) (da_nil)))) (de_bin op_addD (de_int) (de_bin op_modD (de_ty cr_intD (by rfl) M.b_int bt_int (dr_cons (de_var (pvr 6)) (dr_nil))) (de_var (pvr 1))))))
    (dss_cons (ds_ret (de_bin op_addD (de_bin op_addD (de_slc (de_var (pvr 2)) (do_none) (do_some (de_var (pvr 3)))) (de_tup (da_cons (de_var (pvr 7)) (da_nil)))) (de_var (pvr 5))))
    (dss_nil)))) (dss_nil))
    (dss_wip (dss_cons (ds_ret (de_var (pvr 2)))
    (dss_nil))))))))
theorem b16 (M : Fx K mg fa fd ca dv) (C : ∀ j, FnG P w K mg base L2.CX0 (2 * k) (fa j) (fd j) (psn j) (sps K (callN tbl k) j)) (hr1 : Room (2 * k + 1) (A.deeper (envOfC "is_log" (defScope st16) s.heap.objs.size (fa 16) cd))) (hg : A.guards = some []) :
    PSs (cxOf L2.CX0 P w K mg base N16 "is_log" (defScope st16) (fa 16) cd A out s H E).nox (defBody st16) (tS K (execs (callN tbl k) ir16)) :=
  have hr := hr1.mono (Nat.le_succ (2 * k))
  have sc := sc16
  dss_cons (ds_ret (de_isn M.c0 M.i0 (by rfl) M.b_isinstance (pe_glob (by rfl) M.q0 rfl) (de_var (pvr 0))))
    (dss_nil)
theorem b17 (M : Fx K mg fa fd ca dv) (C : ∀ j, FnG P w K mg base L2.CX0 (2 * k) (fa j) (fd j) (psn j) (sps K (callN tbl k) j)) (hr1 : Room (2 * k + 1) (A.deeper (envOfC "Log.__eq__" (defScope st17) s.heap.objs.size (fa 17) cd))) (hg : A.guards = some []) :
    PSs (cxOf L2.CX0 P w K mg base N17 "Log.__eq__" (defScope st17) (fa 17) cd A out s H E).nox (defBody st17) (tS K (execs (callN tbl k) ir17)) :=
  have hr := hr1.mono (Nat.le_succ (2 * k))
  have sc := sc17
  dss_cons (ds_ret (de_and (de_isn M.c0 M.i0 (by rfl) M.b_isinstance (pe_glob (by rfl) M.q0 rfl) (de_var (pvr 1))) (de_and (de_cmp (op_eqDD (rm_units hr)) (de_fld (ks := [(0, 0)]) (f := "levels") (de_var (pvr 0)) (allF_cons (i := 0) M.c0 rfl allF_nil)) (de_fld (ks := [(0, 0)]) (f := "levels") (de_var (pvr 1)) (allF_cons (i := 0) M.c0 rfl allF_nil)) (nomark _)) (de_one (de_cmp (op_eqDD (rm_units hr)) (de_fld (ks := [(0, 1)]) (f := "parts") (de_var (pvr 0)) (allF_cons (i := 1) M.c0 rfl allF_nil)) (de_fld (ks := [(0, 1)]) (f := "parts") (de_var (pvr 1)) (allF_cons (i := 1) M.c0 rfl allF_nil)) (nomark _))))))
    (dss_nil)
theorem b18 (M : Fx K mg fa fd ca dv) (C : ∀ j, FnG P w K mg base L2.CX0 (2 * k) (fa j) (fd j) (psn j) (sps K (callN tbl k) j)) (hr1 : Room (2 * k + 1) (A.deeper (envOfC "is_between" (defScope st18) s.heap.objs.size (fa 18) cd))) (hg : A.guards = some []) :
    PSs (cxOf L2.CX0 P w K mg base N18 "is_between" (defScope st18) (fa 18) cd A out s H E).nox (defBody st18) (tS K (execs (callN tbl k) ir18)) :=
  have hr := hr1.mono (Nat.le_succ (2 * k))
  have sc := sc18
  dss_cons (ds_ret (de_and (de_call (C 22) hr hg M.m22 M.f22.kp (bp_22_1_ M.f22) L2.pass0 (by rfl) (daa_val (de_var (pvr 0)) (daa_nil))) (de_one (de_chn op_leD op_leD (de_var (pvr 1)) (de_var (pvr 0)) (de_var (pvr 2))))))
    (dss_nil)
theorem b19 (M : Fx K mg fa fd ca dv) (C : ∀ j, FnG P w K mg base L2.CX0 (2 * k) (fa j) (fd j) (psn j) (sps K (callN tbl k) j)) (hr1 : Room (2 * k + 1) (A.deeper (envOfC "measure_part" (defScope st19) s.heap.objs.size (fa 19) cd))) (hg : A.guards = some []) :
    PSs (cxOf L2.CX0 P w K mg base N19 "measure_part" (defScope st19) (fa 19) cd A out s H E).nox (defBody st19) (tS K (execs (callN tbl k) ir19)) :=
  have hr := hr1.mono (Nat.le_succ (2 * k))
  have sc := sc19
  dss_cons (ds_if (dt_val (de_call (C 23) hr hg M.m23 M.f23.kp (bp_23_2_ M.f23) L2.pass0 (by rfl) (daa_val (de_var (pvr 0)) (daa_val (de_var (pvr 1)) (daa_nil)))) (fun _ => rfl)) (dss_cons (ds_ret (de_tup (da_cons (de_int) (da_cons (de_int) (da_nil)))))
    (dss_nil)) (dss_nil))
    (dss_cons (ds_if (PW.pt (dw_or (dt_not (dt_val (de_isi .tuple (by rfl) M.b_isinstance (de_bt (by rfl) M.b_tuple bt_tuple) (de_var (pvr 1))) (fun _ => rfl))) (dw_or (dt_cmp (op_neDD (rm_units hr)) (de_bi cr_lenD (by rfl) M.b_len bt_len (dr_cons (de_var (pvr 1)) (dr_nil))) (de_int) (nomark _)) (dw_one (dt_not (dt_val (de_call (C 18) hr hg M.m18 M.f18.kp (bp_18_3_ M.f18) L2.pass0 (by rfl) (daa_val (de_idx (de_var (pvr 1)) (de_int) (fun _ _ => rfl)) (daa_val (de_int) (daa_val (de_glob (by rfl) M.g_MAX_TIMES.choose_spec) (daa_nil))))) (fun _ => rfl))) (.inr rfl))))) (dss_cons (ds_ret (de_non))
    (dss_nil)) (dss_nil))
    (dss_cons (ds_nm (pg_name (i := 2) sc.nd rfl (by first | exact .inl rfl | exact .inr rfl)) (de_call (C 24) hr hg M.m24 M.f24.kp (bp_24_2_ M.f24) L2.pass0 (by rfl) (daa_val (de_var (pvr 0)) (daa_val (de_idx (de_var (pvr 1)) (de_int) (fun _ _ => rfl)) (daa_nil)))))
    (dss_cons (ds_ret (de_ite (dt_cmp op_isND (de_var (pvr 2)) (de_non) (nomark _)) (de_non) (de_tup (da_cons (de_bin op_addD (de_idx (de_var (pvr 2)) (de_int) (fun _ _ => rfl)) (de_int)) (da_cons (de_bin op_addD (de_idx (de_var (pvr 2)) (de_int) (fun _ _ => rfl)) (de_int)) (da_nil))))))
    (dss_nil))))
theorem b20 (M : Fx K mg fa fd ca dv) (C : ∀ j, FnG P w K mg base L2.CX0 (2 * k) (fa j) (fd j) (psn j) (sps K (callN tbl k) j)) (hr1 : Room (2 * k + 1) (A.deeper (envOfC "_law_size" (defScope st20) s.heap.objs.size (fa 20) cd))) (hg : A.guards = some []) :
    PSs (cxOf L2.CX0 P w K mg base N20 "_law_size" (defScope st20) (fa 20) cd A out s H E).nox (defBody st20) (tS K (execs (callN tbl k) ir20)) :=
  have hr := hr1.mono (Nat.le_succ (2 * k))
  have sc := sc20
  dss_cons (ds_ret (de_bi (cr_sumD rfl) (by rfl) M.b_sum bt_sum (dr_cons (de_comp (own := [("_law_piece", 1)]) rfl sc.nd (by kernel_rfl) (by decide) (di_val (de_var (pvr 0))) (fun _ _ _ _ _ => dg_nm (pg_name (i := 1) sc.nd rfl (by first | exact .inl rfl | exact .inr rfl))) (fun _ _ _ _ _ => dts_none) (fun _ _ _ _ _ => de_ite (dt_val (de_isi .int (by rfl) M.b_isinstance (de_bt (by rfl) M.b_int bt_int) (de_var (pvr 1))) (fun _ => rfl)) (de_int) (de_bin op_addD (de_int) (de_call (C 20) hr hg M.m20 M.f20.kp (bp_20_1_ M.f20) L2.pass0 (by rfl) (daa_val (de_idx (de_var (pvr 1)) (de_int) (fun _ _ => rfl)) (daa_nil)))))) (dr_nil))))
    (dss_nil)
theorem b21 (M : Fx K mg fa fd ca dv) (C : ∀ j, FnG P w K mg base L2.CX0 (2 * k) (fa j) (fd j) (psn j) (sps K (callN tbl k) j)) (hr1 : Room (2 * k + 1) (A.deeper (envOfC "_law_times" (defScope st21) s.heap.objs.size (fa 21) cd))) (hg : A.guards = some []) :
    PSs (cxOf L2.CX0 P w K mg base N21 "_law_times" (defScope st21) (fa 21) cd A out s H E).nox (defBody st21) (tS K (execs (callN tbl k) ir21)) :=
  have hr := hr1.mono (Nat.le_succ (2 * k))
  have sc := sc21
  dss_cons (ds_ret (de_idx (de_lst (da_cons (de_int) (da_cons (de_int) (da_cons (de_bin op_addD (de_int) (de_call (C 14) hr hg M.m14 M.f14.kp (bp_14_2_ M.f14) L2.pass0 (by rfl) (daa_ref (de_var (pvr 0)) (daa_val (de_int) (daa_nil))))) (da_cons (de_bin op_addD (de_int) (de_call (C 14) hr hg M.m14 M.f14.kp (bp_14_2_ M.f14) L2.pass0 (by rfl) (daa_ref (de_var (pvr 0)) (daa_val (de_bin op_powD (de_int) (de_int)) (daa_nil))))) (da_cons (de_bin op_powD (de_int) (de_int)) (da_nil))))))) (de_call (C 14) hr hg M.m14 M.f14.kp (bp_14_2_ M.f14) L2.pass0 (by rfl) (daa_ref (de_var (pvr 0)) (daa_val (de_int) (daa_nil)))) (fun _ _ => rfl)))
    (dss_nil)
theorem b22 (M : Fx K mg fa fd ca dv) (C : ∀ j, FnG P w K mg base L2.CX0 (2 * k) (fa j) (fd j) (psn j) (sps K (callN tbl k) j)) (hr1 : Room (2 * k + 1) (A.deeper (envOfC "is_whole" (defScope st22) s.heap.objs.size (fa 22) cd))) (hg : A.guards = some []) :
    PSs (cxOf L2.CX0 P w K mg base N22 "is_whole" (defScope st22) (fa 22) cd A out s H E).nox (defBody st22) (tS K (execs (callN tbl k) ir22)) :=
  have hr := hr1.mono (Nat.le_succ (2 * k))
  have sc := sc22
  dss_cons (ds_ret (de_and (de_isi .int (by rfl) M.b_isinstance (de_bt (by rfl) M.b_int bt_int) (de_var (pvr 0))) (de_one (de_not (de_isi .bool (by rfl) M.b_isinstance (de_bt (by rfl) M.b_bool bt_bool) (de_var (pvr 0)))))))
    (dss_nil)
theorem b23 (M : Fx K mg fa fd ca dv) (C : ∀ j, FnG P w K mg base L2.CX0 (2 * k) (fa j) (fd j) (psn j) (sps K (callN tbl k) j)) (hr1 : Room (2 * k + 1) (A.deeper (envOfC "is_level" (defScope st23) s.heap.objs.size (fa 23) cd))) (hg : A.guards = some []) :
    PSs (cxOf L2.CX0 P w K mg base N23 "is_level" (defScope st23) (fa 23) cd A out s H E).nox (defBody st23) (tS K (execs (callN tbl k) ir23)) :=
  have hr := hr1.mono (Nat.le_succ (2 * k))
  have sc := sc23
  dss_cons (ds_ret (de_call (C 18) hr hg M.m18 M.f18.kp (bp_18_3_ M.f18) L2.pass0 (by rfl) (daa_val (de_var (pvr 1)) (daa_val (de_int) (daa_val (de_var (pvr 0)) (daa_nil))))))
    (dss_nil)
theorem b24 (M : Fx K mg fa fd ca dv) (C : ∀ j, FnG P w K mg base L2.CX0 (2 * k) (fa j) (fd j) (psn j) (sps K (callN tbl k) j)) (hr1 : Room (2 * k + 1) (A.deeper (envOfC "measure" (defScope st24) s.heap.objs.size (fa 24) cd))) (hg : A.guards = some []) :
    PSs (cxOf L2.CX0 P w K mg base N24 "measure" (defScope st24) (fa 24) cd A out s H E).nox (defBody st24) (tS K (execs (callN tbl k) ir24)) :=
  have hr := hr1.mono (Nat.le_succ (2 * k))
  have sc := sc24
  dss_cons (ds_if (dt_not (dt_val (de_isi .tuple (by rfl) M.b_isinstance (de_bt (by rfl) M.b_tuple bt_tuple) (de_var (pvr 1))) (fun _ => rfl))) (dss_cons (ds_ret (de_non))
    (dss_nil)) (dss_nil))
    (dss_cons (ds_asg (by intro _ z; cases z) (dg_tp rfl (dgs_cons (dg_nm (pg_name (i := 2) sc.nd rfl (by first | exact .inl rfl | exact .inr rfl))) (dgs_cons (dg_nm (pg_name (i := 3) sc.nd rfl (by first | exact .inl rfl | exact .inr rfl))) (dgs_nil))) rfl rfl (fun ds ρ ρ2 h => asgns_len ds ρ ρ2 h)) (de_tup (da_cons (de_int) (da_cons (de_int) (da_nil)))))
    (dss_cons (ds_for PassesOwn.never rfl (di_val (de_var (pvr 1))) (dg_nm (pg_name (i := 4) sc.nd rfl (by first | exact .inl rfl | exact .inr rfl))) (dss_cons (ds_nm (pg_name (i := 5) sc.nd rfl (by first | exact .inl rfl | exact .inr rfl)) (de_call (C 19) hr hg M.m19 M.f19.kp (bp_19_2_ M.f19) L2.pass0 (by rfl) (daa_val (de_var (pvr 0)) (daa_val (de_var (pvr 4)) (daa_nil)))))
    (dss_cons (ds_if (dt_cmp op_isND (de_var (pvr 5)) (de_non) (nomark _)) (dss_cons (ds_ret (de_non))
    (dss_nil)) (dss_nil))
    (dss_cons (ds_par rfl sc.nd rfl rfl (by decide) rfl rfl (de_bin op_addD (de_var (pvr 2)) (de_idx (de_var (pvr 5)) (de_int) (fun _ _ => rfl))) (de_bi (cr_max2D rfl) (by rfl) M.b_max bt_max (dr_cons (de_var (pvr 3)) (dr_cons (de_idx (de_var (pvr 5)) (de_int) (fun _ _ => rfl)) (dr_nil)))))
    (dss_nil)))))
    (dss_cons (ds_ret (de_tup (da_cons (de_var (pvr 2)) (da_cons (de_var (pvr 3)) (da_nil)))))
    (dss_nil))))
end
theorem tab {P : Program} {w : World} {K : PySem.W.Frag} {mg : Str → Option Value} {base : Heap} {fa : Nat → Addr} {fd : Nat → FuncData} {ca : Nat → Addr} {dv : Nat → Value} (M : Fx K mg fa fd ca dv) : ∀ k j, FnG P w K mg base L2.CX0 (2 * k) (fa j) (fd j) (psn j) (sps K (callN tbl k) j)
  | 0, 0 => fnG_zero
  | 0, 1 => fnG_zero
  | 0, 2 => fnI_zero
  | 0, 3 => fnG_zero
  | 0, 4 => fnG_zero
  | 0, 5 => fnG_zero
  | 0, 6 => fnG_zero
  | 0, 7 => fnG_zero
  | 0, 8 => fnG_zero
  | 0, 9 => fnG_zero
  | 0, 10 => fnG_zero
  | 0, 11 => fnG_zero
  | 0, 12 => fnG_zero
  | 0, 13 => fnG_zero
  | 0, 14 => fnG_zero
  | 0, 15 => fnG_zero
  | 0, 16 => fnG_zero
  | 0, 17 => fnG_zero
  | 0, 18 => fnG_zero
  | 0, 19 => fnG_zero
  | 0, 20 => fnG_zero
  | 0, 21 => fnG_zero
  | 0, 22 => fnG_zero
  | 0, 23 => fnG_zero
  | 0, 24 => fnG_zero
  | 0, _ + 25 => fnG_out
  | k + 1, 0 => fnG_tab M.f0 sc0 rfl rfl rfl fun cd A out s H E hr hg => b0 M (tab M k) hr hg
  | k + 1, 1 => fnG_tab M.f1 sc1 rfl rfl rfl fun cd A out s H E hr hg => b1 M (tab M k) hr hg
  | k + 1, 2 => fnI_tab M.f2 sc2 rfl rfl rfl fun cd A out s H E hr hg => b2 M (tab M k) hr hg
  | k + 1, 3 => fnG_tab M.f3 sc3 rfl rfl rfl fun cd A out s H E hr hg => b3 M (tab M k) hr hg
  | k + 1, 4 => fnG_tab M.f4 sc4 rfl rfl rfl fun cd A out s H E hr hg => b4 M (tab M k) hr hg
  | k + 1, 5 => fnG_tab M.f5 sc5 rfl rfl rfl fun cd A out s H E hr hg => b5 M (tab M k) hr hg
  | k + 1, 6 => fnG_tab M.f6 sc6 rfl rfl rfl fun cd A out s H E hr hg => b6 M (tab M k) hr hg
  | k + 1, 7 => fnG_tab M.f7 sc7 rfl rfl rfl fun cd A out s H E hr hg => b7 M (tab M k) hr hg
  | k + 1, 8 => fnG_tab M.f8 sc8 rfl rfl rfl fun cd A out s H E hr hg => b8 M (tab M k) hr hg
  | k + 1, 9 => fnG_tab M.f9 sc9 rfl rfl rfl fun cd A out s H E hr hg => b9 M (tab M k) hr hg
  | k + 1, 10 => fnG_tab M.f10 sc10 rfl rfl rfl fun cd A out s H E hr hg => b10 M (tab M k) hr hg
  | k + 1, 11 => fnG_tab M.f11 sc11 rfl rfl rfl fun cd A out s H E hr hg => b11 M (tab M k) hr hg
  | k + 1, 12 => fnG_tab M.f12 sc12 rfl rfl rfl fun cd A out s H E hr hg => b12 M (tab M k) hr hg
  | k + 1, 13 => fnG_tab M.f13 sc13 rfl rfl rfl fun cd A out s H E hr hg => b13 M (tab M k) hr hg
  | k + 1, 14 => fnG_tab M.f14 sc14 rfl rfl rfl fun cd A out s H E hr hg => b14 M (tab M k) hr hg
  | k + 1, 15 => fnG_tab M.f15 sc15 rfl rfl rfl fun cd A out s H E hr hg => b15 M (tab M k) hr hg
  | k + 1, 16 => fnG_tab M.f16 sc16 rfl rfl rfl fun cd A out s H E hr hg => b16 M (tab M k) hr hg
  | k + 1, 17 => fnG_tab M.f17 sc17 rfl rfl rfl fun cd A out s H E hr hg => b17 M (tab M k) hr hg
  | k + 1, 18 => fnG_tab M.f18 sc18 rfl rfl rfl fun cd A out s H E hr hg => b18 M (tab M k) hr hg
  | k + 1, 19 => fnG_tab M.f19 sc19 rfl rfl rfl fun cd A out s H E hr hg => b19 M (tab M k) hr hg
  | k + 1, 20 => fnG_tab M.f20 sc20 rfl rfl rfl fun cd A out s H E hr hg => b20 M (tab M k) hr hg
  | k + 1, 21 => fnG_tab M.f21 sc21 rfl rfl rfl fun cd A out s H E hr hg => b21 M (tab M k) hr hg
  | k + 1, 22 => fnG_tab M.f22 sc22 rfl rfl rfl fun cd A out s H E hr hg => b22 M (tab M k) hr hg
  | k + 1, 23 => fnG_tab M.f23 sc23 rfl rfl rfl fun cd A out s H E hr hg => b23 M (tab M k) hr hg
  | k + 1, 24 => fnG_tab M.f24 sc24 rfl rfl rfl fun cd A out s H E hr hg => b24 M (tab M k) hr hg
  | k + 1, j + 25 => fnG_out
end Q_bandlinks_k06_equality_and_text
namespace Q_bandlinks_k06_equality_and_text
open PySem L2 DL
theorem ok_draw (k : Nat) {xs : List D} {n : Int} (h : Pool xs) (h1 : 0 < n) (h2 : n < 1000000000000000000000000000000000000000000000000000000000000) :
    ∃ r ys, callN tbl (k + 1) 14 [.ls .bor xs, .fz (.int n)] = some (.fz (.int r), [.ls .bor ys, .fz (.int n)]) ∧ 0 ≤ r ∧ r < n ∧ Pool ys := by
  obtain ⟨s, g, c, rfl, hs1, hs2, hg, hc⟩ := h
  have e1 : DL.small64 s = true := s64 (by omega) (by omega)
  have e2 : DL.small64 60013 = true := by decide
  by_cases hp : 0 < g
  · have key : execs (callN tbl k) ir14 [.ls .bor [.int s, .int g, .int c], .fz (.int n), .un, .un] = .ok (.rt (.fz (.int (g % n)))) [.ls .bor [.int ((s * (s % 46007 + 20011) + 60013 * (c + 1) + 5) % 1000000007), .int (g / n), .int (c + 1)], .fz (.int n), .fz (.int s), .fz (.int (g % n))] := by
      simp [ir14, e1, e2, hp, h1, h2, fmodE]
    refine ⟨g % n, [.int ((s * (s % 46007 + 20011) + 60013 * (c + 1) + 5) % 1000000007), .int (g / n), .int (c + 1)], call_fz ⟨2, 4, ir14⟩ key, Int.emod_nonneg _ (by omega), Int.emod_lt_of_pos _ h1, _, _, _, rfl, Int.emod_nonneg _ (by decide), Int.emod_lt_of_pos _ (by decide), Int.ediv_nonneg (by omega) (by omega), by omega⟩
  · have key : execs (callN tbl k) ir14 [.ls .bor [.int s, .int g, .int c], .fz (.int n), .un, .un] = .ok (.rt (.fz (.int ((s * (s % 46007 + 20011) + 60013 * (c + 1) + 5) % 1000000007 / 32 % n)))) [.ls .bor [.int ((s * (s % 46007 + 20011) + 60013 * (c + 1) + 5) % 1000000007), .int g, .int (c + 1)], .fz (.int n), .fz (.int s), .un] := by
      have hn : n ≠ 0 := by omega
      have hn2 : (0:Int) ≤ n := by omega
      simp [ir14, e1, e2, hp, h1, h2, fmodE, fdivE, hn, hn2]
    refine ⟨(s * (s % 46007 + 20011) + 60013 * (c + 1) + 5) % 1000000007 / 32 % n, [.int ((s * (s % 46007 + 20011) + 60013 * (c + 1) + 5) % 1000000007), .int g, .int (c + 1)], call_fz ⟨2, 4, ir14⟩ key, Int.emod_nonneg _ (by omega), Int.emod_lt_of_pos _ h1, _, _, _, rfl, Int.emod_nonneg _ (by decide), Int.emod_lt_of_pos _ (by decide), by omega, by omega⟩
theorem ok_pool (k : Nat) (x : Int) : ∃ ys, callN tbl (k + 1) 5 [.fz (.int x)] = some (.fr ys, [.fz (.int x)]) ∧ Pool ys := by
  by_cases h : x < 0 ∨ 1000000000000000000 ≤ x
  · have key : execs (callN tbl k) ir5 [.fz (.int x), .un] = .ok (.rt (.fr [.int (x % 1000000007), .int (if x < 0 then -x else x), .int 0])) [.fz (.int x), .fz (.int (if x < 0 then -x else x))] := by
      rcases h with h | h
      · simp [ir5, fmodE, h]
      · have h' : ¬ x < 0 := by omega
        simp [ir5, fmodE, h, h']
    refine ⟨[.int (x % 1000000007), .int (if x < 0 then -x else x), .int 0], call_fr ⟨1, 2, ir5⟩ key, _, _, _, rfl, Int.emod_nonneg _ (by decide), Int.emod_lt_of_pos _ (by decide), by split <;> omega, by omega⟩
  · have h' : ¬ x < 0 := by omega
    have h'' : ¬ 1000000000000000000 ≤ x := by omega
    have key : execs (callN tbl k) ir5 [.fz (.int x), .un] = .ok (.rt (.fr [.int (x % 1000000007), .int 0, .int 0])) [.fz (.int x), .fz (.int 0)] := by
      simp [ir5, fmodE, h', h'']
    refine ⟨[.int (x % 1000000007), .int 0, .int 0], call_fr ⟨1, 2, ir5⟩ key, _, _, _, rfl, Int.emod_nonneg _ (by decide), Int.emod_lt_of_pos _ (by decide), by omega, by omega⟩
theorem ok_height (k : Nat) {xs : List D} {n : Int} (h : Pool xs) (h1 : 0 < n) (h2 : n < 1000000000000000000000000000000000000000000000000000000000000) :
    ∃ r ys, callN tbl (k + 2) 12 [.ls .bor xs, .fz (.int n)] = some (.fz (.int r), [.ls .bor ys, .fz (.int n)]) ∧ 1 ≤ r ∧ r ≤ n ∧ Pool ys := by
  obtain ⟨r1, ys1, e1, _, _, p1⟩ := ok_draw k h (n := 3) (by decide) (by decide)
  by_cases hr : r1 = 0
  · obtain ⟨r2, ys2, e2, g1, g2, p2⟩ := ok_draw k p1 h1 h2
    have key : execs (callN tbl (k + 1)) ir12 [.ls .bor xs, .fz (.int n), .un] = .ok (.rt (.fz (.int (1 + r2)))) [.ls .bor ys2, .fz (.int n), .fz (.bl true)] := by
      simp [ir12, e1, e2, hr]
    exact ⟨1 + r2, ys2, call_fz ⟨2, 3, ir12⟩ key, by omega, by omega, p2⟩
  · obtain ⟨r2, ys2, e2, g1, g2, p2⟩ := ok_draw k p1 (n := if n < 5 then n else 5) (by split <;> omega) (by split <;> omega)
    have key : execs (callN tbl (k + 1)) ir12 [.ls .bor xs, .fz (.int n), .un] = .ok (.rt (.fz (.int (1 + r2)))) [.ls .bor ys2, .fz (.int n), .fz (.bl false)] := by
      simp [ir12, e1, e2, hr]
    refine ⟨1 + r2, ys2, call_fz ⟨2, 3, ir12⟩ key, by omega, ?_, p2⟩
    split at g2 <;> omega
theorem cellA (k : Nat) (ns : List Int) (i : Nat) (h : i < ns.length) : callN tbl (k + 1) 6 [.fz (.scr (ns.map .int)), .fz (.int i)] = some (.fz (.int ns[i]), [.fz (.scr (ns.map .int)), .fz (.int i)]) := by
    have e : atI (ns.map D.int) (i : Int) = some (.int ns[i]) := by
      unfold atI ixN
      rw [if_pos (by omega), if_pos (by rw [List.length_map]; omega)]
      show (ns.map D.int)[(i : Int).toNat]? = _
      rw [Int.toNat_natCast, List.getElem?_map, List.getElem?_eq_getElem h]
      rfl
    have key : execs (callN tbl k) ir6 [.fz (.scr (ns.map .int)), .fz (.int i), .un, .un] = .ok (.rt (.fz (.int ns[i]))) [.fz (.scr (ns.map .int)), .fz (.int i), .un, .un] := by
      simp [ir6, h, e, -x_atI, -x_ixN]
    exact call_fz ⟨2, 4, ir6⟩ key
theorem cellL (k : Nat) (ns : List Int) (i : Int) (x0 : Int) : ∃ x s3, forL (fun x => bnd (asgn (callN tbl k) (.nm 3) x) fun _ => execs (callN tbl k) cellB) (cut (ns.map D.int) none (some 3)) [.fz (.scr (ns.map .int)), .fz (.int i), .fz (.int x0), .un] = .ok .nx [.fz (.scr (ns.map .int)), .fz (.int i), .fz (.int x), s3] := by
  obtain ⟨ρ', e, x, s3, rfl, _⟩ := forL_inv (step := fun x => bnd (asgn (callN tbl k) (.nm 3) x) fun _ => execs (callN tbl k) cellB)
      (fun _ ρ => ∃ x s3, ρ = [.fz (.scr (ns.map .int)), .fz (.int i), .fz (.int x), s3] ∧ (s3 = .un ∨ ∃ d, s3 = .fz d)) (cut (ns.map D.int) none (some 3)) 0
      [.fz (.scr (ns.map .int)), .fz (.int i), .fz (.int x0), .un] ⟨_, _, rfl, .inl rfl⟩ (fun j ρ d hd hI => by
        obtain ⟨x, s3, rfl, hs⟩ := hI
        have hm : d ∈ ns.map D.int := by
          have := List.mem_of_getElem? hd
          unfold cut at this
          exact List.mem_of_mem_drop (List.mem_of_mem_take this)
        obtain ⟨y, _, rfl⟩ := List.mem_map.mp hm
        have e64 : DL.small64 30011 = true := by decide
        refine ⟨[.fz (.scr (ns.map .int)), .fz (.int i), .fz (.int ((x * 30011 + y) % 1000000007)), .fz (.int y)], .inl ?_, _, _, rfl, .inr ⟨_, rfl⟩⟩
        rcases hs with rfl | ⟨d, rfl⟩ <;> simp [e64, fmodE])
  exact ⟨x, s3, e⟩
theorem cellC (k : Nat) (ns : List Int) (i : Int) (h0 : 0 ≤ i) (hi : i < 60) (h : ¬ i < ns.length) : ∃ x, callN tbl (k + 1) 6 [.fz (.scr (ns.map .int)), .fz (.int i)] = some (.fz (.int x), [.fz (.scr (ns.map .int)), .fz (.int i)]) := by
  obtain ⟨x, s3, e⟩ := cellL k ns i (50021 * (i * i + 7 * i + 3) % 1000000007)
  have e64 : DL.small64 50021 = true := by decide
  have e7 : DL.small64 7 = true := by decide
  have ei : DL.small64 i = true := s64 (by omega) (by omega)
  have key : execs (callN tbl k) ir6 [.fz (.scr (ns.map .int)), .fz (.int i), .un, .un] = .ok (.rt (.fz (.int x))) [.fz (.scr (ns.map .int)), .fz (.int i), .fz (.int x), s3] := by
    simp only [cellB] at e
    simp [ir6, h, e64, e7, ei, fmodE, e]
  exact ⟨_, call_fz ⟨2, 4, ir6⟩ key⟩
theorem ok_cell (k : Nat) (ns : List Int) (i : Nat) (hi : i < 60) : ∃ x, callN tbl (k + 1) 6 [.fz (.scr (ns.map .int)), .fz (.int i)] = some (.fz (.int x), [.fz (.scr (ns.map .int)), .fz (.int i)]) := by
  by_cases h : i < ns.length
  · exact ⟨_, cellA k ns i h⟩
  · exact cellC k ns i (by omega) (by omega) (by omega)
theorem ok_whole (k : Nat) (x : Int) : callN tbl (k + 1) 22 [.fz (.int x)] = some (.fz (.bl true), [.fz (.int x)]) := call_fz ⟨1, 1, ir22⟩ (ρ' := [.fz (.int x)]) rfl
theorem ok_btw (k : Nat) (x lo hi : Int) : callN tbl (k + 2) 18 [.fz (.int x), .fz (.int lo), .fz (.int hi)] = some (.fz (.bl (decide (lo ≤ x ∧ x ≤ hi))), [.fz (.int x), .fz (.int lo), .fz (.int hi)]) := by
  have e := ok_whole k x
  have key : execs (callN tbl (k + 1)) ir18 [.fz (.int x), .fz (.int lo), .fz (.int hi)] = .ok (.rt (.fz (.bl (decide (lo ≤ x ∧ x ≤ hi))))) [.fz (.int x), .fz (.int lo), .fz (.int hi)] := by
    by_cases h : lo ≤ x <;> simp [ir18, e, h]
  exact call_fz ⟨3, 3, ir18⟩ key
theorem ok_lvc (k : Nat) (x : Int) (h1 : 1 ≤ x) (h2 : x ≤ 12) : callN tbl (k + 3) 9 [.fz (.int x)] = some (.fz (.bl true), [.fz (.int x)]) := by
  have e := ok_btw k x 1 12
  have key : execs (callN tbl (k + 2)) ir9 [.fz (.int x)] = .ok (.rt (.fz (.bl true))) [.fz (.int x)] := by simp [ir9, e, h1, h2]
  exact call_fz ⟨1, 1, ir9⟩ key
theorem ok_isl (k : Nat) (n x : Int) (h1 : 1 ≤ x) (h2 : x ≤ n) : callN tbl (k + 3) 23 [.fz (.int n), .fz (.int x)] = some (.fz (.bl true), [.fz (.int n), .fz (.int x)]) := by
  have e := ok_btw k x 1 n
  have key : execs (callN tbl (k + 2)) ir23 [.fz (.int n), .fz (.int x)] = .ok (.rt (.fz (.bl true))) [.fz (.int n), .fz (.int x)] := by simp [ir23, e, h1, h2]
  exact call_fz ⟨2, 2, ir23⟩ key
end Q_bandlinks_k06_equality_and_text
namespace Q_bandlinks_k06_equality_and_text
open PySem L2 DL
theorem ok_wholeT (k : Nat) (xs : List D) : callN tbl (k + 1) 22 [.fz (.tup xs)] = some (.fz (.bl false), [.fz (.tup xs)]) := by
  have key : execs (callN tbl k) ir22 [.fz (.tup xs)] = .ok (.rt (.fz (.bl false))) [.fz (.tup xs)] := by simp [ir22]
  exact call_fz ⟨1, 1, ir22⟩ key
theorem ok_btwT (k : Nat) (xs : List D) (lo hi : Int) : callN tbl (k + 2) 18 [.fz (.tup xs), .fz (.int lo), .fz (.int hi)] = some (.fz (.bl false), [.fz (.tup xs), .fz (.int lo), .fz (.int hi)]) := by
  have e := ok_wholeT k xs
  have key : execs (callN tbl (k + 1)) ir18 [.fz (.tup xs), .fz (.int lo), .fz (.int hi)] = .ok (.rt (.fz (.bl false))) [.fz (.tup xs), .fz (.int lo), .fz (.int hi)] := by simp [ir18, e]
  exact call_fz ⟨3, 3, ir18⟩ key
theorem ok_islT (k : Nat) (n : Int) (xs : List D) : callN tbl (k + 3) 23 [.fz (.int n), .fz (.tup xs)] = some (.fz (.bl false), [.fz (.int n), .fz (.tup xs)]) := by
  have e := ok_btwT k xs 1 n
  have key : execs (callN tbl (k + 2)) ir23 [.fz (.int n), .fz (.tup xs)] = .ok (.rt (.fz (.bl false))) [.fz (.int n), .fz (.tup xs)] := by simp [ir23, e]
  exact call_fz ⟨2, 2, ir23⟩ key
theorem part_lv (k : Nat) (n i : Int) (h1 : 1 ≤ i) (h2 : i ≤ n) : callN tbl (k + 4) 19 [.fz (.int n), .fz (.int i)] = some (.fz (.tup [.int 1, .int 1]), [.fz (.int n), .fz (.int i)]) := by
  have e := ok_isl k n i h1 h2
  have key : execs (callN tbl (k + 3)) ir19 [.fz (.int n), .fz (.int i), .un] = .ok (.rt (.fz (.tup [.int 1, .int 1]))) [.fz (.int n), .fz (.int i), .un] := by simp [ir19, e]
  exact call_fz ⟨2, 3, ir19⟩ key
theorem part_pr (k : Nat) (n t a b : Int) (ds : List D) (h1 : 1 ≤ t) (h2 : t ≤ 1000000000000000000000000000000) (e : callN tbl (k + 3) 24 [.fz (.int n), .fz (.tup ds)] = some (.fz (.tup [.int a, .int b]), [.fz (.int n), .fz (.tup ds)])) :
    callN tbl (k + 4) 19 [.fz (.int n), .fz (.tup [.tup ds, .int t])] = some (.fz (.tup [.int (a + 1), .int (b + 1)]), [.fz (.int n), .fz (.tup [.tup ds, .int t])]) := by
  have e1 := ok_islT k n [.tup ds, .int t]
  have e2 := ok_btw (k + 1) t 1 1000000000000000000000000000000
  have key : execs (callN tbl (k + 3)) ir19 [.fz (.int n), .fz (.tup [.tup ds, .int t]), .un] = .ok (.rt (.fz (.tup [.int (a + 1), .int (b + 1)]))) [.fz (.int n), .fz (.tup [.tup ds, .int t]), .fz (.tup [.int a, .int b])] := by
    simp [ir19, e1, e2, e, h1, h2]
  exact call_fz ⟨2, 3, ir19⟩ key
theorem meas_step (Φ : Calls) (n s dd a b : Int) (P T : D) (s4 s5 : Sl) (h4 : Loose s4) (h5 : Loose s5) (e : Φ 19 [.fz (.int n), .fz P] = some (.fz (.tup [.int a, .int b]), [.fz (.int n), .fz P])) :
    (bnd (asgn Φ lt24_0 P) fun _ => execs Φ lb24_0) [.fz (.int n), .fz T, .fz (.int s), .fz (.int dd), s4, s5] = .ok .nx [.fz (.int n), .fz T, .fz (.int (s + a)), .fz (.int (if b > dd then b else dd)), .fz P, .fz (.tup [.int a, .int b])] := by
  rcases h4 with rfl | ⟨d, rfl⟩ <;> rcases h5 with rfl | ⟨d, rfl⟩ <;> simp [e]
theorem meas_of (F : Nat) {n : Int} {ps : List Pt} (h : ∀ p ∈ ps, callN tbl F 19 [.fz (.int n), .fz (dP p)] = some (.fz (.tup [.int (szP p : Nat), .int (dpP p : Nat)]), [.fz (.int n), .fz (dP p)])) :
    callN tbl (F + 1) 24 [.fz (.int n), .fz (.tup (dPs ps))] = some (.fz (.tup [.int (szPs ps : Nat), .int (dpPs ps : Nat)]), [.fz (.int n), .fz (.tup (dPs ps))]) := by
  obtain ⟨ρ', e, s4, s5, rfl, _, _⟩ := forL_map (step := fun x => bnd (asgn (callN tbl F) lt24_0 x) fun _ => execs (callN tbl F) lb24_0) dP
    (fun done ρ => ∃ s4 s5, ρ = [.fz (.int n), .fz (.tup (dPs ps)), .fz (.int (szPs done : Nat)), .fz (.int (dpPs done : Nat)), s4, s5] ∧ Loose s4 ∧ Loose s5) ps [] [.fz (.int n), .fz (.tup (dPs ps)), .fz (.int 0), .fz (.int 1), .un, .un]
    ⟨_, _, rfl, .inl rfl, .inl rfl⟩ (fun done p ρ hp hI => by
      obtain ⟨s4, s5, rfl, h4, h5⟩ := hI
      refine ⟨_, .inl (meas_step _ n _ _ _ _ _ _ s4 s5 h4 h5 (h p hp)), Sl.fz (dP p), Sl.fz (.tup [.int (szP p : Nat), .int (dpP p : Nat)]), ?_, .inr ⟨_, rfl⟩, .inr ⟨_, rfl⟩⟩
      rw [szI, dpI])
  rw [List.nil_append, ← dPs_map] at e
  generalize dPs ps = A at e ⊢
  generalize ((szPs ps : Nat) : Int) = a at e ⊢
  generalize ((dpPs ps : Nat) : Int) = b at e ⊢
  have key : execs (callN tbl F) ir24 [.fz (.int n), .fz (.tup A), .un, .un, .un, .un] = .ok (.rt (.fz (.tup [.int a, .int b]))) [.fz (.int n), .fz (.tup A), .fz (.int a), .fz (.int b), s4, s5] := by
    simp [ir24, e]
  exact call_fz ⟨2, 6, ir24⟩ key
theorem ok_meas {n M : Int} (hM : M ≤ 1000000000000000000000000000000) : ∀ (d k : Nat), (∀ p, dpP p ≤ d → OkP n M p → callN tbl (k + 2 * d + 2) 19 [.fz (.int n), .fz (dP p)] = some (.fz (.tup [.int (szP p : Nat), .int (dpP p : Nat)]), [.fz (.int n), .fz (dP p)])) ∧
    (∀ ps, dpPs ps ≤ d → OkPs n M ps → callN tbl (k + 2 * d + 3) 24 [.fz (.int n), .fz (.tup (dPs ps))] = some (.fz (.tup [.int (szPs ps : Nat), .int (dpPs ps : Nat)]), [.fz (.int n), .fz (.tup (dPs ps))]))
  | 0, k => ⟨fun p h => by have := dpP_pos p; omega, fun ps h => by have := dpPs_pos ps; omega⟩
  | d + 1, k => by
    have A : ∀ p, dpP p ≤ d + 1 → OkP n M p → callN tbl (k + 2 * (d + 1) + 2) 19 [.fz (.int n), .fz (dP p)] = some (.fz (.tup [.int (szP p : Nat), .int (dpP p : Nat)]), [.fz (.int n), .fz (dP p)]) := fun p hd ok => by
      cases ok with
      | lv h1 h2 =>
        rename_i i
        rw [szP_lv, dpP_lv, dP]
        exact part_lv (k + 2 * d) n i h1 h2
      | pr h h1 h2 =>
        rename_i qs t
        rw [dpP_pr] at hd
        have e := (ok_meas hM d k).2 qs (by omega) h
        rw [szP_pr, dpP_pr, dP]
        have := part_pr (k + 2 * d) n t _ _ _ h1 (Int.le_trans h2 hM) e
        rw [show ((1 + szPs qs : Nat) : Int) = (szPs qs : Int) + 1 from by omega, show ((dpPs qs + 1 : Nat) : Int) = (dpPs qs : Int) + 1 from rfl]
        exact this
    exact ⟨A, fun ps hd ok => meas_of (k + 2 * (d + 1) + 2) fun p hp => A p (Nat.le_trans (dp_mem hp) hd) (ok p hp)⟩
theorem inv_step (Φ : Calls) (n s a b j : Int) (P T : D) (s3 s4 s5 : Sl) (h3 : Loose s3) (h4 : Loose s4) (h5 : Loose s5) (ha : ¬ 120 < s + a) (hb : ¬ 5 < b) (e : Φ 19 [.fz (.int n), .fz P] = some (.fz (.tup [.int a, .int b]), [.fz (.int n), .fz P])) :
    (bnd (asgn Φ lt10_0 (.tup [.int j, P])) fun _ => execs Φ lb10_0) [.fz (.int n), .fz T, .fz (.int s), s3, s4, s5] = .ok .nx [.fz (.int n), .fz T, .fz (.int (s + a)), .fz (.int j), .fz P, .fz (.tup [.int a, .int b])] := by
  rcases h3 with rfl | ⟨d, rfl⟩ <;> rcases h4 with rfl | ⟨d, rfl⟩ <;> rcases h5 with rfl | ⟨d, rfl⟩ <;> simp [e, ha, hb]
theorem inv_loop (F : Nat) {n : Int} (T : D) : ∀ (ps : List Pt) (j s0 : Nat) (s3 s4 s5 : Sl), Loose s3 → Loose s4 → Loose s5 → s0 + szPs ps ≤ 120 → (∀ p ∈ ps, dpP p ≤ 5 ∧ callN tbl F 19 [.fz (.int n), .fz (dP p)] = some (.fz (.tup [.int (szP p : Nat), .int (dpP p : Nat)]), [.fz (.int n), .fz (dP p)])) →
    ∃ s2 s3' s4' s5', forL (fun x => bnd (asgn (callN tbl F) lt10_0 x) fun _ => execs (callN tbl F) lb10_0) (enumFrom j (dPs ps)) [.fz (.int n), .fz T, .fz (.int (s0 : Nat)), s3, s4, s5] = .ok .nx [.fz (.int n), .fz T, s2, s3', s4', s5']
  | [], j, s0, s3, s4, s5, _, _, _, _, _ => ⟨_, _, _, _, rfl⟩
  | p :: ps, j, s0, s3, s4, s5, h3, h4, h5, hz, h => by
    obtain ⟨h6, h7⟩ := h p (List.mem_cons_self ..)
    rw [szPs_cons] at hz
    have e := inv_step (callN tbl F) n (s0 : Nat) (szP p : Nat) (dpP p : Nat) (j : Nat) (dP p) T s3 s4 s5 h3 h4 h5 (by omega) (by omega) h7
    rw [show ((s0 : Nat) : Int) + ((szP p : Nat) : Int) = ((s0 + szP p : Nat) : Int) from rfl] at e
    obtain ⟨s2, s3', s4', s5', e2⟩ := inv_loop F T ps (j + 1) (s0 + szP p) _ _ _ (.inr ⟨_, rfl⟩) (.inr ⟨_, rfl⟩) (.inr ⟨_, rfl⟩) (by omega) fun q hq => h q (List.mem_cons_of_mem _ hq)
    refine ⟨s2, s3', s4', s5', ?_⟩
    rw [dPs]
    exact forL_cons e e2
theorem ok_finv {n M : Int} (hM : M ≤ 1000000000000000000000000000000) (k : Nat) {ps : List Pt} (ok : OkPs n M ps) (hz : szPs ps ≤ 120) (hd : dpPs ps ≤ 5) : callN tbl (k + 13) 10 [.fz (.int n), .fz (.tup (dPs ps))] = some (.fz .non, [.fz (.int n), .fz (.tup (dPs ps))]) := by
  obtain ⟨s2, s3, s4, s5, e⟩ := inv_loop (k + 12) (n := n) (.tup (dPs ps)) ps 0 0 .un .un .un (.inl rfl) (.inl rfl) (.inl rfl) (by omega) fun p hp => ⟨Nat.le_trans (dp_mem hp) hd, (ok_meas hM 5 k).1 p (Nat.le_trans (dp_mem hp) hd) (ok p hp)⟩
  generalize dPs ps = A at e ⊢
  have key : execs (callN tbl (k + 12)) ir10 [.fz (.int n), .fz (.tup A), .un, .un, .un, .un] = .ok (.rt (.fz .non)) [.fz (.int n), .fz (.tup A), s2, s3, s4, s5] := by
    rw [show (((0 : Nat) : Int)) = 0 from rfl] at e
    simp [ir10, e]
  exact call_fz ⟨2, 6, ir10⟩ key
theorem ok_init {n M : Int} (hM : M ≤ 1000000000000000000000000000000) (k : Nat) (h1 : 1 ≤ n) (h2 : n ≤ 12) {ps : List Pt} (ok : OkPs n M ps) (hz : szPs ps ≤ 120) (hd : dpPs ps ≤ 5) :
    ∃ ss, callN tbl (k + 14) 2 [.un, .fz (.int n), .fz (.tup (dPs ps))] = some (.fz (.tup [.int n, .tup (dPs ps)]), ss) := by
  have e1 := ok_finv hM k ok hz hd
  have e2 := ok_lvc (k + 10) n h1 h2
  generalize dPs ps = A at e1 ⊢
  have key : execs (callN tbl (k + 13)) ir2 [.un, .fz (.int n), .fz (.tup A), .un] = .ok (.rt (.fz (.tup [.int n, .tup A]))) [.un, .fz (.int n), .fz (.tup A), .fz .non] := by
    simp [ir2, e1, e2]
  exact ⟨_, call_fz ⟨3, 4, ir2⟩ key⟩
def lg (n : Int) (ps : List Pt) : D := .obj 0 [.int n, .tup (dPs ps)]
end Q_bandlinks_k06_equality_and_text
namespace Q_bandlinks_k06_equality_and_text
open PySem L2 DL
theorem sz_lv (Φ : Calls) (T : D) (i : Int) : compStep Φ co20_0 ct20_0 cc20_0 ce20_0 (.int i) [.fz T, .un] = .ok (some (.int 1)) [.fz T, .un] := by
  simp [compStep]
theorem sz_pr (Φ : Calls) (T : D) (z t : Int) (ds : List D) (e : Φ 20 [.fz (.tup ds)] = some (.fz (.int z), [.fz (.tup ds)])) : compStep Φ co20_0 ct20_0 cc20_0 ce20_0 (.tup [.tup ds, .int t]) [.fz T, .un] = .ok (some (.int (1 + z))) [.fz T, .un] := by
  simp [compStep, e]
theorem sz_run (Φ : Calls) (A Z : List D) (zs : List Int) (e : cmpL (compStep Φ co20_0 ct20_0 cc20_0 ce20_0) A [] [.fz (.tup A), .un] = .ok Z [.fz (.tup A), .un]) (i : intsD Z = some zs) :
    execs Φ ir20 [.fz (.tup A), .un] = .ok (.rt (.fz (.int zs.sum))) [.fz (.tup A), .un] := by
  simp [ir20, e, i]
theorem sz_sum : ∀ ps : List Pt, (ps.map fun p => ((szP p : Nat) : Int)).sum = ((szPs ps : Nat) : Int)
  | [] => rfl
  | p :: ps => by rw [List.map_cons, List.sum_cons, sz_sum ps, szPs_cons]; rfl
theorem ok_size : ∀ (d k : Nat) (ps : List Pt), dpPs ps ≤ d → szPs ps ≤ 1000 → callN tbl (k + d) 20 [.fz (.tup (dPs ps))] = some (.fz (.int (szPs ps : Nat)), [.fz (.tup (dPs ps))])
  | 0, k, ps, h, _ => by have := dpPs_pos ps; omega
  | d + 1, k, ps, hd, hz => by
    have hps := len_sz ps
    have e := cmpL_map (step := compStep (callN tbl (k + d)) co20_0 ct20_0 cc20_0 ce20_0) (g := dP) (ρ := [.fz (.tup (dPs ps)), .un]) (f := fun p => some (.int ((szP p : Nat) : Int))) ps [] (by show 0 + ps.length ≤ 16777216; omega) (fun p hp => by
      have dp := Nat.le_trans (dp_mem hp) hd
      have zp := Nat.le_trans (sz_mem hp) hz
      cases p with
      | lv i => rw [dP, szP_lv]; exact sz_lv _ _ i
      | pr qs t =>
        rw [dpP_pr] at dp
        rw [szP_pr] at zp
        rw [dP, szP_pr]
        exact sz_pr _ _ _ t _ (ok_size d k qs (by omega) (by omega)))
    rw [← dPs_map, List.nil_append] at e
    have i : intsD (ps.filterMap fun p => some (D.int ((szP p : Nat) : Int))) = some (ps.map fun p => ((szP p : Nat) : Int)) := by
      have := DL.ints_of (ps.map fun p => ((szP p : Nat) : Int))
      rw [List.map_map] at this
      rw [← this, ← List.filterMap_eq_map]
      rfl
    have key := sz_run _ _ _ _ e i
    rw [sz_sum] at key
    exact call_fz ⟨1, 2, ir20⟩ key
theorem tm_run (Φ : Calls) (xs ys1 ys2 ys3 : List D) (a b c v : Int) (e1 : Φ 14 [.ls .bor xs, .fz (.int 12)] = some (.fz (.int a), [.ls .bor ys1, .fz (.int 12)])) (e2 : Φ 14 [.ls .bor ys1, .fz (.int 1000000000000000000000000000000)] = some (.fz (.int b), [.ls .bor ys2, .fz (.int 1000000000000000000000000000000)]))
    (e3 : Φ 14 [.ls .bor ys2, .fz (.int 5)] = some (.fz (.int c), [.ls .bor ys3, .fz (.int 5)])) (at5 : atI [D.int 1, .int 2, .int (3 + a), .int (1 + b), .int 1000000000000000000000000000000] c = some (.int v)) :
    execs Φ ir21 [.ls .bor xs] = .ok (.rt (.fz (.int v))) [.ls .bor ys3] := by
  simp [ir21, e1, e2, e3, at5, -x_atI, -x_ixN]
theorem ok_times (k : Nat) {xs : List D} (h : Pool xs) : ∃ t ys, callN tbl (k + 2) 21 [.ls .bor xs] = some (.fz (.int t), [.ls .bor ys]) ∧ 1 ≤ t ∧ t ≤ 1000000000000000000000000000000 ∧ Pool ys := by
  obtain ⟨a, ys1, e1, a0, a1, p1⟩ := ok_draw k h (n := 12) (by decide) (by decide)
  obtain ⟨b, ys2, e2, b0, b1, p2⟩ := ok_draw k p1 (n := 1000000000000000000000000000000) (by decide) (by decide)
  obtain ⟨c, ys3, e3, c0, c1, p3⟩ := ok_draw k p2 (n := 5) (by decide) (by decide)
  have hc : c = 0 ∨ c = 1 ∨ c = 2 ∨ c = 3 ∨ c = 4 := by omega
  rcases hc with rfl | rfl | rfl | rfl | rfl
  · exact ⟨1, ys3, call_fz ⟨1, 1, ir21⟩ (tm_run _ _ _ _ _ _ _ _ _ e1 e2 e3 rfl), by decide, by decide, p3⟩
  · exact ⟨2, ys3, call_fz ⟨1, 1, ir21⟩ (tm_run _ _ _ _ _ _ _ _ _ e1 e2 e3 rfl), by decide, by decide, p3⟩
  · exact ⟨3 + a, ys3, call_fz ⟨1, 1, ir21⟩ (tm_run _ _ _ _ _ _ _ _ _ e1 e2 e3 rfl), by omega, by omega, p3⟩
  · exact ⟨1 + b, ys3, call_fz ⟨1, 1, ir21⟩ (tm_run _ _ _ _ _ _ _ _ _ e1 e2 e3 rfl), by omega, by omega, p3⟩
  · exact ⟨1000000000000000000000000000000, ys3, call_fz ⟨1, 1, ir21⟩ (tm_run _ _ _ _ _ _ _ _ _ e1 e2 e3 rfl), by decide, by decide, p3⟩
theorem pa_no (Φ : Calls) (xs F : List D) (n r d : Int) (h : ¬ 0 < r) : (bnd (ev Φ wc13_0) fun x => bnd (vw x) fun d => ofO (truthD d)) [.ls .bor xs, .fz (.int n), .fz (.int r), .fz (.int d), .ls .own F, .un] = .ok false [.ls .bor xs, .fz (.int n), .fz (.int r), .fz (.int d), .ls .own F, .un] := by
  simp [h]
theorem pa_go (Φ : Calls) (xs ys F : List D) (n r d v : Int) (h : 0 < r) (e : Φ 14 [.ls .bor xs, .fz (.int 9)] = some (.fz (.int v), [.ls .bor ys, .fz (.int 9)])) : (bnd (ev Φ wc13_0) fun x => bnd (vw x) fun d => ofO (truthD d)) [.ls .bor xs, .fz (.int n), .fz (.int r), .fz (.int d), .ls .own F, .un] = .ok (decide (0 < v)) [.ls .bor ys, .fz (.int n), .fz (.int r), .fz (.int d), .ls .own F, .un] := by
  simp [h, e]
theorem pb_1 (Φ : Calls) (xs ys F : List D) (n r d v : Int) (hd : ¬ 1 < d) (hF : F.length ≤ 4000) (e : Φ 14 [.ls .bor xs, .fz (.int n)] = some (.fz (.int v), [.ls .bor ys, .fz (.int n)])) : execs Φ wb13_0 [.ls .bor xs, .fz (.int n), .fz (.int r), .fz (.int d), .ls .own F, .un] = .ok .nx [.ls .bor ys, .fz (.int n), .fz (.int (r - 1)), .fz (.int d), .ls .own (F ++ [.int (1 + v)]), .un] := by
  have : F.length < 16777216 := by omega
  simp [hd, e, this]
theorem pb_2 (Φ : Calls) (xs ys zs F : List D) (n r d v w : Int) (hd : 1 < d) (hw : w ≠ 0) (hF : F.length ≤ 4000) (e0 : Φ 14 [.ls .bor xs, .fz (.int 4)] = some (.fz (.int w), [.ls .bor ys, .fz (.int 4)])) (e : Φ 14 [.ls .bor ys, .fz (.int n)] = some (.fz (.int v), [.ls .bor zs, .fz (.int n)])) : execs Φ wb13_0 [.ls .bor xs, .fz (.int n), .fz (.int r), .fz (.int d), .ls .own F, .un] = .ok .nx [.ls .bor zs, .fz (.int n), .fz (.int (r - 1)), .fz (.int d), .ls .own (F ++ [.int (1 + v)]), .un] := by
  have : F.length < 16777216 := by omega
  simp [hd, e0, e, hw, this]
theorem pb_3 (Φ : Calls) (xs y1 y2 y3 y4 F Q : List D) (n r d v z t : Int) (hd : 1 < d) (hF : F.length ≤ 4000) (e0 : Φ 14 [.ls .bor xs, .fz (.int 4)] = some (.fz (.int 0), [.ls .bor y1, .fz (.int 4)])) (e1 : Φ 14 [.ls .bor y1, .fz (.int (r - 1 + 1))] = some (.fz (.int v), [.ls .bor y2, .fz (.int (r - 1 + 1))]))
    (e2 : Φ 13 [.ls .bor y2, .fz (.int n), .fz (.int v), .fz (.int (d - 1))] = some (.fz (.tup Q), [.ls .bor y3, .fz (.int n), .fz (.int v), .fz (.int (d - 1))])) (e3 : Φ 20 [.fz (.tup Q)] = some (.fz (.int z), [.fz (.tup Q)]))
    (e5 : Φ 21 [.ls .bor y3] = some (.fz (.int t), [.ls .bor y4])) :
    execs Φ wb13_0 [.ls .bor xs, .fz (.int n), .fz (.int r), .fz (.int d), .ls .own F, .un] = .ok .nx [.ls .bor y4, .fz (.int n), .fz (.int (r - 1 - z)), .fz (.int d), .ls .own (F ++ [.tup [.tup Q, .int t]]), .un] := by
  have : F.length < 16777216 := by omega
  simp [hd, e0, e1, e2, e3, e5, this, -Int.sub_add_cancel]
theorem pa_run (Φ : Calls) (xs ys F : List D) (n r r' d : Int) (e : whileN (bnd (ev Φ wc13_0) fun x => bnd (vw x) fun d => ofO (truthD d)) (execs Φ wb13_0) fuelW [.ls .bor xs, .fz (.int n), .fz (.int r), .fz (.int d), .ls .own [], .un] = .ok .nx [.ls .bor ys, .fz (.int n), .fz (.int r'), .fz (.int d), .ls .own F, .un]) :
    execs Φ ir13 [.ls .bor xs, .fz (.int n), .fz (.int r), .fz (.int d), .un, .un] = .ok (.rt (.fz (.tup F))) [.ls .bor ys, .fz (.int n), .un, .fz (.int d), .ls .own F, .un] := by
  have s_whl : ∀ {c b ρ}, exec Φ (.whl c b) ρ = whileN (bnd (ev Φ c) fun x => bnd (vw x) fun d => ofO (truthD d)) (execs Φ b) fuelW ρ := rfl
  simp [ir13, s_whl, e]
theorem x_parts (Φ : Calls) {n : Int} (n1 : 1 ≤ n) (n2 : n ≤ 12) (dd : Nat) (d1 : 1 ≤ dd)
    (hdr : ∀ (xs : List D) (m : Int), Pool xs → 0 < m → m < 1000000000000000000000000000000000000000000000000000000000000 → ∃ v ys, Φ 14 [.ls .bor xs, .fz (.int m)] = some (.fz (.int v), [.ls .bor ys, .fz (.int m)]) ∧ 0 ≤ v ∧ v < m ∧ Pool ys)
    (htm : ∀ xs : List D, Pool xs → ∃ t ys, Φ 21 [.ls .bor xs] = some (.fz (.int t), [.ls .bor ys]) ∧ 1 ≤ t ∧ t ≤ 1000000000000000000000000000000 ∧ Pool ys)
    (hrec : 1 < dd → ∀ (v : Int) (xs : List D), Pool xs → 0 ≤ v → v ≤ 120 → ∃ qs ys, Φ 13 [.ls .bor xs, .fz (.int n), .fz (.int v), .fz (.int ((dd : Int) - 1))] = some (.fz (.tup (dPs qs)), [.ls .bor ys, .fz (.int n), .fz (.int v), .fz (.int ((dd : Int) - 1))]) ∧ Pool ys ∧ OkPs n 1000000000000000000000000000000 qs ∧ (szPs qs : Int) ≤ v ∧ dpPs qs ≤ dd - 1 ∧ Φ 20 [.fz (.tup (dPs qs))] = some (.fz (.int (szPs qs : Nat)), [.fz (.tup (dPs qs))]))
    {xs : List D} (h : Pool xs) {r : Int} (r0 : 0 ≤ r) (r1 : r ≤ 120) :
    ∃ ps ys, execs Φ ir13 [.ls .bor xs, .fz (.int n), .fz (.int r), .fz (.int (dd : Nat)), .un, .un] = .ok (.rt (.fz (.tup (dPs ps)))) [.ls .bor ys, .fz (.int n), .un, .fz (.int (dd : Nat)), .ls .own (dPs ps), .un] ∧ Pool ys ∧ OkPs n 1000000000000000000000000000000 ps ∧ (szPs ps : Int) ≤ r ∧ dpPs ps ≤ dd := by
  obtain ⟨ρ', e, ps, r', ys, rfl, p, ok, hz, hd⟩ := whl_inv (test := bnd (ev Φ wc13_0) fun x => bnd (vw x) fun d => ofO (truthD d)) (body := execs Φ wb13_0)
    (fun m' ρ => ∃ (ps : List Pt) (r' : Int) (ys : List D), ρ = [.ls .bor ys, .fz (.int n), .fz (.int r'), .fz (.int (dd : Nat)), .ls .own (dPs ps), .un] ∧ Pool ys ∧ OkPs n 1000000000000000000000000000000 ps ∧ (szPs ps : Int) + r' ≤ r ∧ dpPs ps ≤ dd ∧ 0 ≤ r' ∧ m' = r'.toNat)
    (fun ρ => ∃ (ps : List Pt) (r' : Int) (ys : List D), ρ = [.ls .bor ys, .fz (.int n), .fz (.int r'), .fz (.int (dd : Nat)), .ls .own (dPs ps), .un] ∧ Pool ys ∧ OkPs n 1000000000000000000000000000000 ps ∧ (szPs ps : Int) ≤ r ∧ dpPs ps ≤ dd)
    (fun m' ρ hI => by
      obtain ⟨ps, r', ys, rfl, p, ok, hz, hd, hr, rfl⟩ := hI
      have hl := len_sz ps
      have hF : (dPs ps).length ≤ 4000 := by rw [dPs_len]; omega
      by_cases c : 0 < r'
      · obtain ⟨v, y1, e1, v0, v1, p1⟩ := hdr ys 9 p (by decide) (by decide)
        have go := pa_go Φ _ _ (dPs ps) n r' (dd : Nat) v c e1
        by_cases cv : 0 < v
        · rw [decide_eq_true cv] at go
          refine .inr ?_
          have lv : ∀ {w : Int} {y2 : List D}, 0 ≤ w → w < n → Pool y2 → ∀ ρ1, ρ1 = ([.ls .bor y2, .fz (.int n), .fz (.int (r' - 1)), .fz (.int (dd : Nat)), .ls .own (dPs ps ++ [.int (1 + w)]), .un] : Ev) → (execs Φ wb13_0 [.ls .bor y1, .fz (.int n), .fz (.int r'), .fz (.int (dd : Nat)), .ls .own (dPs ps), .un] = .ok .nx ρ1) →
              ∃ ρ1 ρ2 m', ((bnd (ev Φ wc13_0) fun x => bnd (vw x) fun d => ofO (truthD d)) [.ls .bor ys, .fz (.int n), .fz (.int r'), .fz (.int (dd : Nat)), .ls .own (dPs ps), .un] = .ok true ρ1) ∧ (execs Φ wb13_0 ρ1 = .ok .nx ρ2 ∨ execs Φ wb13_0 ρ1 = .ok .ct ρ2) ∧ m' < r'.toNat ∧ ∃ (ps : List Pt) (r' : Int) (ys : List D), ρ2 = [.ls .bor ys, .fz (.int n), .fz (.int r'), .fz (.int (dd : Nat)), .ls .own (dPs ps), .un] ∧ Pool ys ∧ OkPs n 1000000000000000000000000000000 ps ∧ (szPs ps : Int) + r' ≤ r ∧ dpPs ps ≤ dd ∧ 0 ≤ r' ∧ m' = r'.toNat := fun {w y2} w0 w1 p2 ρ1 hρ e2 => by
            subst hρ
            refine ⟨_, _, (r' - 1).toNat, go, .inl e2, by omega, ps ++ [.lv (1 + w)], r' - 1, y2, by rw [dPs_app]; rfl, p2, ok.app (OkPs.one (.lv (by omega) (by omega))), ?_, ?_, by omega, rfl⟩
            · rw [szPs_app, szPs_one, szP_lv]; omega
            · rw [dpPs_app, dpPs_one, dpP_lv]; omega
          by_cases cd : 1 < (dd : Int)
          · obtain ⟨q, y2, e2, q0, q1, p2⟩ := hdr y1 4 p1 (by decide) (by decide)
            by_cases cq : q = 0
            · subst cq
              obtain ⟨v', y3, e3, v0', v1', p3⟩ := hdr y2 (r' - 1 + 1) p2 (by omega) (by omega)
              obtain ⟨qs, y4, e4, p4, ok4, hz4, hd4, e5⟩ := hrec (by omega) v' y3 p3 (by omega) (by omega)
              obtain ⟨t, y5, e6, t1, t2, p5⟩ := htm y4 p4
              have b3 := pb_3 Φ _ _ _ _ _ (dPs ps) _ n r' _ v' _ t cd hF e2 e3 e4 e5 e6
              refine ⟨_, _, (r' - 1 - (szPs qs : Nat)).toNat, go, .inl b3, by omega, ps ++ [.pr qs t], r' - 1 - (szPs qs : Nat), y5, by rw [dPs_app]; rfl, p5, ok.app (OkPs.one (.pr ok4 t1 t2)), ?_, ?_, by omega, rfl⟩
              · rw [szPs_app, szPs_one, szP_pr]; omega
              · rw [dpPs_app, dpPs_one, dpP_pr]; omega
            · obtain ⟨w, y3, e3, w0, w1, p3⟩ := hdr y2 n p2 (by omega) (by omega)
              exact lv w0 w1 p3 _ rfl (pb_2 Φ _ _ _ (dPs ps) n r' _ w q cd cq hF e2 e3)
          · obtain ⟨w, y2, e2, w0, w1, p2⟩ := hdr y1 n p1 (by omega) (by omega)
            exact lv w0 w1 p2 _ rfl (pb_1 Φ _ _ (dPs ps) n r' _ w cd hF e2)
        · rw [decide_eq_false cv] at go
          exact .inl ⟨_, go, ps, r', y1, rfl, p1, ok, by omega, hd⟩
      · exact .inl ⟨_, pa_no Φ _ _ n r' _ c, ps, r', ys, rfl, p, ok, by omega, hd⟩)
    fuelW r.toNat [.ls .bor xs, .fz (.int n), .fz (.int r), .fz (.int (dd : Nat)), .ls .own [], .un] (by show r.toNat < 100000; omega)
    ⟨[], r, xs, rfl, h, fun _ z => (nomatch z), by rw [szPs_nil]; omega, by rw [dpPs_nil]; omega, r0, rfl⟩
  exact ⟨ps, ys, pa_run Φ _ _ _ n r r' _ e, p, ok, hz, hd⟩
theorem ok_parts {n : Int} (n1 : 1 ≤ n) (n2 : n ≤ 12) : ∀ (d k : Nat) (r : Int) {xs : List D}, Pool xs → 0 ≤ r → r ≤ 120 →
    ∃ ps ys, callN tbl (k + d + 3) 13 [.ls .bor xs, .fz (.int n), .fz (.int r), .fz (.int ((d + 1 : Nat) : Int))] = some (.fz (.tup (dPs ps)), [.ls .bor ys, .fz (.int n), .fz (.int r), .fz (.int ((d + 1 : Nat) : Int))]) ∧ Pool ys ∧ OkPs n 1000000000000000000000000000000 ps ∧ (szPs ps : Int) ≤ r ∧ dpPs ps ≤ d + 1 := by
  intro d
  induction d with
  | zero =>
    intro k r xs h r0 r1
    obtain ⟨ps, ys, e, a⟩ := x_parts (callN tbl (k + 0 + 2)) n1 n2 (0 + 1) (by decide) (fun xs m hp h1 h2 => ok_draw (k + 0 + 1) hp h1 h2) (fun xs hp => ok_times (k + 0) hp) (fun z => absurd z (by decide)) h r0 r1
    exact ⟨ps, ys, call_fz ⟨4, 6, ir13⟩ e, a⟩
  | succ d ih =>
    intro k r xs h r0 r1
    obtain ⟨ps, ys, e, a⟩ := x_parts (callN tbl (k + (d + 1) + 2)) n1 n2 (d + 1 + 1) (by omega) (fun xs m hp h1 h2 => ok_draw (k + (d + 1) + 1) hp h1 h2) (fun xs hp => ok_times (k + (d + 1)) hp) (fun _ v xs hp v0 v1 => by
      obtain ⟨qs, ys, e, p, ok, hz, hd⟩ := ih k v hp v0 v1
      have e5 := ok_size (d + 1) (k + 2) qs hd (by omega)
      rw [show k + 2 + (d + 1) = k + (d + 1) + 2 from by omega] at e5
      rw [show ((d + 1 + 1 : Nat) : Int) - 1 = ((d + 1 : Nat) : Int) from by omega, show k + (d + 1) + 2 = k + d + 3 from by omega]
      exact ⟨qs, ys, e, p, ok, hz, by omega, by rw [show k + d + 3 = k + (d + 1) + 2 from by omega]; exact e5⟩) h r0 r1
    exact ⟨ps, ys, call_fz ⟨4, 6, ir13⟩ e, a⟩
end Q_bandlinks_k06_equality_and_text
namespace Q_bandlinks_k06_equality_and_text
open PySem L2 DL
theorem str_eq {s : Str} : cmpD .eq (.str s) (.str s) = some true := congrArg some (decide_eq_true rfl)
theorem er_nil {Φ : Calls} {ρ : Ev} : evrs Φ .nil ρ = .ok [] ρ := rfl
theorem er_cons {Φ : Calls} {ρ ρ1 ρ2 : Ev} {e : E} {es : Es} {x : R} {xs : List R} (h : ev Φ e ρ = .ok x ρ1) (h2 : evrs Φ es ρ1 = .ok xs ρ2) : evrs Φ (.cons e es) ρ = .ok (x :: xs) ρ2 := by
  rw [r_evrs1, h]
  show ((evrs Φ es ρ1).then _) = _
  rw [h2]; rfl
theorem e_biN {Φ : Calls} {ρ ρ1 : Ev} {b : Bi} {es : Es} {xs : List R} {ds : List D} {v : R} (h : evrs Φ es ρ = .ok xs ρ1) (hm : xs.mapM (view ρ1) = some ds) (hb : biD b ds = some v) : ev Φ (.bi b es) ρ = .ok v ρ1 := by
  rw [r_bi, h]
  show (match xs.mapM (view ρ1) with | some ds => ofO (biD b ds) ρ1 | none => .stk) = _
  rw [hm]
  show ofO (biD b ds) ρ1 = _
  rw [hb]; rfl
theorem e_orS {Φ : Calls} {ρ : Ev} {a b : E} {d : D} {v : R} {k : Bool} (ha : ev Φ a ρ = .ok (.fz d) ρ) (ht : truthD d = some k) (hb : ev Φ b ρ = .ok v ρ) : ev Φ (.or a b) ρ = .ok (if k then .fz d else v) ρ := by
  rw [r_or, ha]
  show (ofO (truthD d) ρ).then _ = _
  rw [ht]
  cases k with
  | false => exact hb
  | true => rfl
theorem str_add {a b : Str} (h : a.length + b.length ≤ 16777216) : binD .add (.str a) (.str b) = some (.fz (.str (a ++ b))) := by
  show (if a.length + b.length ≤ sizeLine then some (R.fz (.str (a ++ b))) else none) = _
  exact if_pos (by rw [sz_le]; exact h)
theorem str1_int {i : Int} (h1 : -(10 ^ 31) < i) (h2 : i < 10 ^ 31) : biD .str1 [.int i] = some (.fz (.str (Str.ofString (toString i)))) := by
  show (if i.natAbs.log2 < 1920 then some (R.fz (.str (Str.ofString (toString i)))) else none) = _
  exact if_pos (Nat.lt_trans (log2_31 (by omega)) (by decide))
abbrev sP (A : D) (W : List Str) (s2 : Sl) : Ev := [.fz A, .ls .own (W.map D.str), s2]
theorem pt_lv (Φ : Calls) (A : D) (W : List Str) (i : Int) (hl : W.length ≤ 1000000) (h1 : -(10 ^ 31) < i) (h2 : i < 10 ^ 31) :
    (bnd (asgn Φ lt11_0 (.int i)) fun _ => execs Φ lb11_0) (sP A W .un) = .ok .nx (sP A (W ++ [Str.ofString (toString i)]) .un) := by
  rw [show sP A (W ++ [Str.ofString (toString i)]) .un = [.fz A, .ls .own (W.map D.str ++ [.str (Str.ofString (toString i))]), .un] from by unfold sP; rw [List.map_append]; rfl]
  exact bd (ρ1 := [.fz A, .ls .own (W.map D.str), .fz (.int i)]) rfl (sq (x_app (d := .str (Str.ofString (toString i))) (e_ite false (x := .fz (.bl false)) rfl rfl rfl (e_bi1 (v := .fz (.int i)) rfl rfl (str1_int h1 h2))) (by rw [List.length_map, sz_lt]; omega)) (sq_end x_wip))
def prT (s : Str) (t : Int) : Str := (("(" : Str) ++ s ++ (")x" : Str)) ++ Str.ofString (toString t)
theorem tx_pr {n : Nat} {s : Str} {t : Int} (h : Tx n s) (h1 : -(10 ^ 31) < t) (h2 : t < 10 ^ 31) : Tx (n + 35) (prT s t) := by
  have a : Tx 1 ("(" : Str) := ⟨by decide, by decide⟩
  have b : Tx 2 (")x" : Str) := ⟨by decide, by decide⟩
  exact (((a.app h).app b).app (Tx.int h1 h2)).mono (by omega)
theorem pt_pr (Φ : Calls) (A q : D) (W : List Str) (t : Int) {n : Nat} {s : Str} (hs : Tx n s) (hn : n ≤ 1000000) (e : Φ 11 [.fz q] = some (.fz (.str s), [.fz q])) (hl : W.length ≤ 1000000) (h1 : -(10 ^ 31) < t) (h2 : t < 10 ^ 31) :
    (bnd (asgn Φ lt11_0 (.tup [q, .int t])) fun _ => execs Φ lb11_0) (sP A W .un) = .ok .nx (sP A (W ++ [prT s t]) .un) := by
  rw [show sP A (W ++ [prT s t]) .un = [.fz A, .ls .own (W.map D.str ++ [.str (prT s t)]), .un] from by unfold sP; rw [List.map_append]; rfl]
  have l1 := hs.len
  have a1 : binD .add (.str "(") (.str s) = some (.fz (.str (("(" : Str) ++ s))) := str_add (by show 1 + s.length ≤ _; omega)
  have a2 : binD .add (.str (("(" : Str) ++ s)) (.str ")x") = some (.fz (.str ((("(" : Str) ++ s) ++ (")x" : Str)))) := str_add (by rw [Str.length_append]; show 1 + s.length + 2 ≤ _; omega)
  have a3 : binD .add (.str ((("(" : Str) ++ s) ++ (")x" : Str))) (.str (Str.ofString (toString t))) = some (.fz (.str (prT s t))) := str_add (by
    have := (Tx.int h1 h2).len
    rw [Str.length_append, Str.length_append]; show 1 + s.length + 2 + _ ≤ _; omega)
  have c1 : ev Φ (.call 11 [0] (.val (.idx (.var 2) (.cst (.int 0))) (.nil)) .nil) [.fz A, .ls .own (W.map D.str), .fz (.tup [q, .int t])] = .ok (.fz (.str s)) [.fz A, .ls .own (W.map D.str), .fz (.tup [q, .int t])] := e_call1 (x := .fz q) rfl e
  have c2 : ev Φ (.bi .str1 (.cons (.idx (.var 2) (.cst (.int 1))) (.nil))) [.fz A, .ls .own (W.map D.str), .fz (.tup [q, .int t])] = .ok (.fz (.str (Str.ofString (toString t)))) [.fz A, .ls .own (W.map D.str), .fz (.tup [q, .int t])] := e_bi1 (v := .fz (.int t)) rfl rfl (str1_int h1 h2)
  exact bd (ρ1 := [.fz A, .ls .own (W.map D.str), .fz (.tup [q, .int t])]) rfl (sq (x_app (d := .str (prT s t)) (e_ite true (x := .fz (.bl true)) rfl rfl rfl (e_bin (e_bin (e_bin (x := .fz (.str "(")) rfl c1 rfl rfl a1) rfl (y := .fz (.str ")x")) rfl rfl a2) c2 rfl rfl a3)) (by rw [List.length_map, sz_lt]; omega)) (sq_end x_wip))
end Q_bandlinks_k06_equality_and_text
namespace Q_bandlinks_k06_equality_and_text
open PySem L2 DL
def tjW (W : List Str) : Str := if W = [] then "-" else Txt.join " " W
mutual
def wdP : Pt → Str
  | .lv i => Str.ofString (toString i)
  | .pr ps t => prT (tjW (wdsP ps)) t
def wdsP : List Pt → List Str
  | [] => []
  | p :: ps => wdP p :: wdsP ps
end
theorem wdsP_map : ∀ ps : List Pt, wdsP ps = ps.map wdP
  | [] => by simp [wdsP]
  | p :: ps => by rw [wdsP, wdsP_map ps]; rfl
theorem wdsP_app (ps qs : List Pt) : wdsP (ps ++ qs) = wdsP ps ++ wdsP qs := by rw [wdsP_map, wdsP_map, wdsP_map, List.map_append]
def txP (ps : List Pt) : Str := tjW (wdsP ps)
theorem wdP_pr (ps : List Pt) (t : Int) : wdP (.pr ps t) = prT (txP ps) t := by rw [wdP]; rfl
theorem wdP_lv (i : Int) : wdP (.lv i) = Str.ofString (toString i) := by rw [wdP]
theorem wdsP_one (p : Pt) : wdsP [p] = [wdP p] := by rw [wdsP_map]; rfl
theorem int_txp {i : Int} (h : 0 ≤ i) : 0 < (Str.ofString (toString i)).length := by
  obtain ⟨n, rfl⟩ : ∃ n : Nat, i = (n : Int) := ⟨i.toNat, by omega⟩
  have e : (Str.ofString (toString (n : Int))).length = (TL.numL n).length := by rw [← TL.tl_num]; exact TL.len_tl _
  rw [e]
  have := TL.numL_ne n
  cases q : TL.numL n with
  | nil => exact absurd q this
  | cons a l => rw [List.length_cons]; omega
theorem wdP_pos {n M : Int} {p : Pt} (ok : OkP n M p) : 0 < (wdP p).length := by
  cases p with
  | lv i =>
    have := ok_lv ok
    rw [wdP_lv]
    exact int_txp (by omega)
  | pr qs t =>
    rw [wdP_pr]
    show 0 < (((("(" : Str) ++ txP qs ++ (")x" : Str)) ++ Str.ofString (toString t))).length
    rw [Str.length_append, Str.length_append, Str.length_append]
    show 0 < 1 + _ + _ + _
    omega
theorem join_pos8 {sep : Str} : ∀ {W : List Str}, W ≠ [] → (∀ w ∈ W, 0 < w.length) → 0 < (Txt.join sep W).length
  | [], h, _ => absurd rfl h
  | w :: W, _, h => by
    have hw := h w (List.mem_cons_self ..)
    rw [TL.join_eq]
    cases W with
    | nil => exact hw
    | cons x W =>
      show 0 < (w ++ sep ++ Str.join sep (x :: W)).length
      rw [Str.length_append, Str.length_append]; omega
theorem tx_b {n M : Int} (n2 : n ≤ 12) (hM : M ≤ 1000000000000000000000000000000) : ∀ (d : Nat) (ps : List Pt), dpPs ps ≤ d → OkPs n M ps → (∀ p ∈ ps, Tx (40 * szP p - 1) (wdP p)) ∧ ((wdsP ps).map (·.length)).sum + (wdsP ps).length ≤ 40 * szPs ps ∧ Tx (40 * szPs ps + 1) (txP ps)
  | 0, ps, h, _ => by have := dpPs_pos ps; omega
  | d + 1, ps, h, ok => by
    have A : ∀ p ∈ ps, Tx (40 * szP p - 1) (wdP p) := fun p hp => by
      cases p with
      | lv i =>
        have := ok_lv (ok _ hp)
        rw [wdP_lv, szP_lv]
        exact (Tx.int (by omega) (by omega)).mono (by decide)
      | pr qs t =>
        obtain ⟨o, t1, t2⟩ := ok_sub (ok _ hp)
        have d1 := dp_mem hp
        rw [dpP_pr] at d1
        have := (tx_b n2 hM d qs (by omega) o).2.2
        rw [wdP_pr, szP_pr]
        exact (tx_pr this (by omega) (by omega)).mono (by omega)
    have B : ∀ qs : List Pt, (∀ p ∈ qs, Tx (40 * szP p - 1) (wdP p)) → ((wdsP qs).map (·.length)).sum + (wdsP qs).length ≤ 40 * szPs qs := fun qs => by
      induction qs with
      | nil => intro _; rw [wdsP]; exact Nat.zero_le _
      | cons q qs ih =>
        intro hq
        have i1 := ih fun p hp => hq p (List.mem_cons_of_mem _ hp)
        have i2 := (hq q (List.mem_cons_self ..)).len
        have := szP_pos q
        rw [wdsP, List.map_cons, List.sum_cons, List.length_cons, szPs_cons]
        omega
    refine ⟨A, B ps A, ?_⟩
    unfold txP tjW
    split
    · exact Tx.mono (n := 1) ⟨by decide, by decide⟩ (by omega)
    · exact (Tx.txt (sep := " ") ⟨by decide, by decide⟩ (f := fun w => w.length) fun w hw => by
        rw [wdsP_map] at hw
        obtain ⟨p, hp, rfl⟩ := List.mem_map.mp hw
        exact ⟨Nat.le_refl _, (A p hp).ok⟩).mono (by have := B ps A; omega)
theorem join_ok8 {n M : Int} (n2 : n ≤ 12) (hM : M ≤ 1000000000000000000000000000000) {ps : List Pt} (ok : OkPs n M ps) (hz : szPs ps ≤ 1000) : biD .join [.str " ", .lst ((wdsP ps).map D.str)] = some (.fz (.str (Txt.join " " (wdsP ps)))) ∧ (wdsP ps ≠ [] → 0 < (Txt.join " " (wdsP ps)).length) ∧ (Txt.join " " (wdsP ps)).length ≤ 16777216 := by
  obtain ⟨_, h2, h3⟩ := tx_b n2 hM _ ps (Nat.le_refl _) ok
  refine ⟨?_, fun h => join_pos8 h fun w hw => ?_, ?_⟩
  · show ((strsD ((wdsP ps).map D.str)).bind fun ys => if (ys.map (·.length)).sum + ys.length * (" " : Str).length ≤ 16777216 then some (R.fz (.str (Txt.join " " ys))) else none) = _
    rw [strs_map]
    exact if_pos (by rw [show (" " : Str).length = 1 from by decide]; omega)
  · rw [wdsP_map] at hw
    obtain ⟨p, hp, rfl⟩ := List.mem_map.mp hw
    exact wdP_pos (ok p hp)
  · by_cases q : wdsP ps = []
    · rw [q]; exact Nat.zero_le _
    · have e : txP ps = Txt.join " " (wdsP ps) := if_neg q
      rw [← e]
      have := h3.len
      omega
theorem ok_ptxE {n M : Int} (n2 : n ≤ 12) (hM : M ≤ 1000000000000000000000000000000) : ∀ (d k : Nat) (ps : List Pt), dpPs ps ≤ d → OkPs n M ps → szPs ps ≤ 1000 → callN tbl (k + d) 11 [.fz (.tup (dPs ps))] = some (.fz (.str (txP ps)), [.fz (.tup (dPs ps))])
  | 0, k, ps, h, _, _ => by have := dpPs_pos ps; omega
  | d + 1, k, ps, h, ok, hz => by
    have el := for_nx (Φ := callN tbl (k + d)) (t := lt11_0) (it := .val (.var 0)) (b := lb11_0) (ρ := sP (.tup (dPs ps)) [] .un) (ρ1 := sP (.tup (dPs ps)) [] .un) dP ps (fun done => sP (.tup (dPs ps)) (wdsP done) .un) (i_val (x := .fz (.tup (dPs ps))) rfl rfl (by rw [dPs_map]; rfl)) (by rw [wdsP]) fun done p rest hp => by
      have hmem : p ∈ ps := mem_split hp
      have b1 := len_sz ps
      have b2 : done.length ≤ ps.length := by rw [hp, List.length_append]; omega
      have b3 : (wdsP done).length ≤ 1000000 := by rw [wdsP_map, List.length_map]; omega
      rw [wdsP_app, wdsP_one]
      cases p with
      | lv i =>
        have := ok_lv (ok _ hmem)
        rw [wdP_lv, dP]
        exact pt_lv (callN tbl (k + d)) _ (wdsP done) i b3 (by omega) (by omega)
      | pr qs t =>
        obtain ⟨o, ht1, ht2⟩ := ok_sub (ok _ hmem)
        have d1 := dp_mem hmem
        rw [dpP_pr] at d1
        have z1 := sz_mem hmem
        rw [szP_pr] at z1
        have e := ok_ptxE n2 hM d k qs (by omega) o (by omega)
        have hs := (tx_b n2 hM _ qs (Nat.le_refl _) o).2.2
        rw [wdP_pr, dP]
        exact pt_pr (callN tbl (k + d)) _ _ (wdsP done) t hs (by omega) e b3 (by omega) (by omega)
    obtain ⟨jj, jp, jl⟩ := join_ok8 n2 hM ok hz
    have ej : ev (callN tbl (k + d)) (.bi .join (.cons (.cst (.str " ")) (.cons (.var 1) .nil))) (sP (.tup (dPs ps)) (wdsP ps) .un) = .ok (.fz (.str (Txt.join " " (wdsP ps)))) (sP (.tup (dPs ps)) (wdsP ps) .un) := e_bi2 (x := .fz (.str " ")) (y := .rf 1) rfl rfl rfl rfl jj
    have tr : truthD (.str (Txt.join " " (wdsP ps))) = some ((Txt.join " " (wdsP ps)).length != 0) := by
      show (if (Txt.join " " (wdsP ps)).length ≤ sizeLine then some ((Txt.join " " (wdsP ps)).length != 0) else none) = _
      exact if_pos (by rw [sz_le]; omega)
    have eo := e_orS ej tr (b := .cst (.str "-")) (v := .fz (.str "-")) rfl
    refine call_fz ⟨1, 3, ir11⟩ (ρ' := sP (.tup (dPs ps)) (wdsP ps) .un) (sq (x_asgL (ρ1 := [.fz (.tup (dPs ps)), .un, .un]) e_nil) (sq el (sq_rt (x_ret (eo.trans ?_)))))
    unfold txP tjW
    by_cases c : wdsP ps = []
    · rw [c, if_pos rfl]; rfl
    · have := jp c
      rw [if_neg c, show ((Txt.join " " (wdsP ps)).length != 0) = true from by simp; omega]; rfl
theorem lt_lv8 (Φ : Calls) (A : D) (W : List Str) (i : Int) (hl : W.length ≤ 1000000) (h1 : -(10 ^ 31) < i) (h2 : i < 10 ^ 31) :
    (bnd (asgn Φ lt7_0 (.int i)) fun _ => execs Φ lb7_0) (sP A W .un) = .ok .nx (sP A (W ++ [Str.ofString (toString i)]) .un) := by
  rw [show sP A (W ++ [Str.ofString (toString i)]) .un = [.fz A, .ls .own (W.map D.str ++ [.str (Str.ofString (toString i))]), .un] from by unfold sP; rw [List.map_append]; rfl]
  exact bd (ρ1 := [.fz A, .ls .own (W.map D.str), .fz (.int i)]) rfl (sq (x_app (d := .str (Str.ofString (toString i))) (e_ite false (x := .fz (.bl false)) rfl rfl rfl (e_bi1 (v := .fz (.int i)) rfl rfl (str1_int h1 h2))) (by rw [List.length_map, sz_lt]; omega)) (sq_end x_wip))
theorem lt_pr8 (Φ : Calls) (A q : D) (W : List Str) (t : Int) {n : Nat} {s : Str} (hs : Tx n s) (hn : n ≤ 1000000) (e : Φ 7 [.fz q] = some (.fz (.str s), [.fz q])) (hl : W.length ≤ 1000000) (h1 : -(10 ^ 31) < t) (h2 : t < 10 ^ 31) :
    (bnd (asgn Φ lt7_0 (.tup [q, .int t])) fun _ => execs Φ lb7_0) (sP A W .un) = .ok .nx (sP A (W ++ [prT s t]) .un) := by
  rw [show sP A (W ++ [prT s t]) .un = [.fz A, .ls .own (W.map D.str ++ [.str (prT s t)]), .un] from by unfold sP; rw [List.map_append]; rfl]
  have l1 := hs.len
  have a1 : binD .add (.str "(") (.str s) = some (.fz (.str (("(" : Str) ++ s))) := str_add (by show 1 + s.length ≤ _; omega)
  have a2 : binD .add (.str (("(" : Str) ++ s)) (.str ")x") = some (.fz (.str ((("(" : Str) ++ s) ++ (")x" : Str)))) := str_add (by rw [Str.length_append]; show 1 + s.length + 2 ≤ _; omega)
  have a3 : binD .add (.str ((("(" : Str) ++ s) ++ (")x" : Str))) (.str (Str.ofString (toString t))) = some (.fz (.str (prT s t))) := str_add (by
    have := (Tx.int h1 h2).len
    rw [Str.length_append, Str.length_append]; show 1 + s.length + 2 + _ ≤ _; omega)
  have c1 : ev Φ (.call 7 [0] (.val (.idx (.var 2) (.cst (.int 0))) (.nil)) .nil) [.fz A, .ls .own (W.map D.str), .fz (.tup [q, .int t])] = .ok (.fz (.str s)) [.fz A, .ls .own (W.map D.str), .fz (.tup [q, .int t])] := e_call1 (x := .fz q) rfl e
  have c2 : ev Φ (.bi .str1 (.cons (.idx (.var 2) (.cst (.int 1))) (.nil))) [.fz A, .ls .own (W.map D.str), .fz (.tup [q, .int t])] = .ok (.fz (.str (Str.ofString (toString t)))) [.fz A, .ls .own (W.map D.str), .fz (.tup [q, .int t])] := e_bi1 (v := .fz (.int t)) rfl rfl (str1_int h1 h2)
  exact bd (ρ1 := [.fz A, .ls .own (W.map D.str), .fz (.tup [q, .int t])]) rfl (sq (x_app (d := .str (prT s t)) (e_ite true (x := .fz (.bl true)) rfl rfl rfl (e_bin (e_bin (e_bin (x := .fz (.str "(")) rfl c1 rfl rfl a1) rfl (y := .fz (.str ")x")) rfl rfl a2) c2 rfl rfl a3)) (by rw [List.length_map, sz_lt]; omega)) (sq_end x_wip))
theorem strs_ne8 {W : List Str} (hW : ∀ w ∈ W, ∀ c ∈ w.cps.toList, c < 0x110000) : cmpD .ne (.lst (W.map D.str)) (.lst []) = some (!decide (W = [])) := by
  have s1 : Shp 1 (.lst (W.map D.str)) := Shp.lst (h := 0) fun d hd => by
    obtain ⟨w, hw, rfl⟩ := List.mem_map.mp hd
    refine ⟨rfl, ?_, Nat.le_refl _⟩
    show w.cps.all (fun c => decide (c < 0x110000)) = true
    rw [← Array.all_toList]
    exact List.all_eq_true.mpr fun c hc => decide_eq_true (hW w hw c hc)
  have s2 : Shp 1 (.lst []) := Shp.lst (h := 0) fun d hd => nomatch hd
  rw [cmp_neqv (s1.ok (by decide)) (s2.ok (by decide))]
  cases W with
  | nil => rfl
  | cons w W => rfl
theorem ok_ltxE {n M : Int} (n2 : n ≤ 12) (hM : M ≤ 1000000000000000000000000000000) : ∀ (d k : Nat) (ps : List Pt), dpPs ps ≤ d → OkPs n M ps → szPs ps ≤ 1000 → callN tbl (k + d) 7 [.fz (.tup (dPs ps))] = some (.fz (.str (txP ps)), [.fz (.tup (dPs ps))])
  | 0, k, ps, h, _, _ => by have := dpPs_pos ps; omega
  | d + 1, k, ps, h, ok, hz => by
    have el := for_nx (Φ := callN tbl (k + d)) (t := lt7_0) (it := .val (.var 0)) (b := lb7_0) (ρ := sP (.tup (dPs ps)) [] .un) (ρ1 := sP (.tup (dPs ps)) [] .un) dP ps (fun done => sP (.tup (dPs ps)) (wdsP done) .un) (i_val (x := .fz (.tup (dPs ps))) rfl rfl (by rw [dPs_map]; rfl)) (by rw [wdsP]) fun done p rest hp => by
      have hmem : p ∈ ps := mem_split hp
      have b1 := len_sz ps
      have b2 : done.length ≤ ps.length := by rw [hp, List.length_append]; omega
      have b3 : (wdsP done).length ≤ 1000000 := by rw [wdsP_map, List.length_map]; omega
      rw [wdsP_app, wdsP_one]
      cases p with
      | lv i =>
        have := ok_lv (ok _ hmem)
        rw [wdP_lv, dP]
        exact lt_lv8 (callN tbl (k + d)) _ (wdsP done) i b3 (by omega) (by omega)
      | pr qs t =>
        obtain ⟨o, ht1, ht2⟩ := ok_sub (ok _ hmem)
        have d1 := dp_mem hmem
        rw [dpP_pr] at d1
        have z1 := sz_mem hmem
        rw [szP_pr] at z1
        have e := ok_ltxE n2 hM d k qs (by omega) o (by omega)
        have hs := (tx_b n2 hM _ qs (Nat.le_refl _) o).2.2
        rw [wdP_pr, dP]
        exact lt_pr8 (callN tbl (k + d)) _ _ (wdsP done) t hs (by omega) e b3 (by omega) (by omega)
    obtain ⟨jj, jp, jl⟩ := join_ok8 n2 hM ok hz
    obtain ⟨tb, _, _⟩ := tx_b n2 hM _ ps (Nat.le_refl _) ok
    have ej : ev (callN tbl (k + d)) (.bi .join (.cons (.cst (.str " ")) (.cons (.var 1) .nil))) (sP (.tup (dPs ps)) (wdsP ps) .un) = .ok (.fz (.str (Txt.join " " (wdsP ps)))) (sP (.tup (dPs ps)) (wdsP ps) .un) := e_bi2 (x := .fz (.str " ")) (y := .rf 1) rfl rfl rfl rfl jj
    have ec : ev (callN tbl (k + d)) (.cmp .ne (.var 1) (.lst .nil)) (sP (.tup (dPs ps)) (wdsP ps) .un) = .ok (.fz (.bl (!decide (wdsP ps = [])))) (sP (.tup (dPs ps)) (wdsP ps) .un) := e_cmp (x := .rf 1) (y := .fr []) rfl rfl rfl rfl (strs_ne8 fun w hw => by
      rw [wdsP_map] at hw
      obtain ⟨p, hp, rfl⟩ := List.mem_map.mp hw
      exact (tb p hp).ok)
    refine call_fz ⟨1, 3, ir7⟩ (ρ' := sP (.tup (dPs ps)) (wdsP ps) .un) (sq (x_asgL (ρ1 := [.fz (.tup (dPs ps)), .un, .un]) e_nil) (sq el (sq_rt (x_ret ?_))))
    unfold txP tjW
    by_cases c : wdsP ps = []
    · rw [decide_eq_true c] at ec
      rw [if_pos c]
      exact e_ite false ec rfl rfl rfl
    · rw [decide_eq_false c] at ec
      rw [if_neg c]
      exact e_ite true ec rfl rfl ej
end Q_bandlinks_k06_equality_and_text
namespace Q_bandlinks_k06_equality_and_text
open PySem L2 DL
mutual
def prP : Nat → Int → D → Option (Nat × Nat)
  | 0, _, _ => none
  | _ + 1, n, .int i => if 1 ≤ i ∧ i ≤ n then some (1, 1) else none
  | f + 1, n, .tup [.tup xs, .int t] => if 1 ≤ t ∧ t ≤ 1000000000000000000000000000000 then (prPs f n xs).map fun z => (z.1 + 1, z.2 + 1) else none
  | _ + 1, _, _ => none
def prPs : Nat → Int → List D → Option (Nat × Nat)
  | 0, _, _ => none
  | _ + 1, _, [] => some (0, 1)
  | f + 1, n, x :: xs => match prP f n x, prPs f n xs with
    | some a, some b => some (a.1 + b.1, max a.2 b.2)
    | _, _ => none
end
theorem prP_sp {f : Nat} {n : Int} {d : D} {z : Nat × Nat} (h : prP (f + 1) n d = some z) : (∃ i, d = .int i ∧ (1 ≤ i ∧ i ≤ n) ∧ z = (1, 1)) ∨ ∃ xs t w, d = .tup [.tup xs, .int t] ∧ (1 ≤ t ∧ t ≤ 1000000000000000000000000000000) ∧ prPs f n xs = some w ∧ z = (w.1 + 1, w.2 + 1) := by
  match d, h with
  | .int i, h =>
    rw [prP] at h
    split at h
    · rename_i c
      cases h
      exact .inl ⟨_, rfl, c, rfl⟩
    · cases h
  | .non, h => rw [prP] at h <;> first | (cases h; done) | (intros; contradiction) | (intros; rename_i e; cases e; done)
  | .bl _, h => rw [prP] at h <;> first | (cases h; done) | (intros; contradiction) | (intros; rename_i e; cases e; done)
  | .str _, h => rw [prP] at h <;> first | (cases h; done) | (intros; contradiction) | (intros; rename_i e; cases e; done)
  | .lst _, h => rw [prP] at h <;> first | (cases h; done) | (intros; contradiction) | (intros; rename_i e; cases e; done)
  | .scr _, h => rw [prP] at h <;> first | (cases h; done) | (intros; contradiction) | (intros; rename_i e; cases e; done)
  | .obj _ _, h => rw [prP] at h <;> first | (cases h; done) | (intros; contradiction) | (intros; rename_i e; cases e; done)
  | .emp _, h => rw [prP] at h <;> first | (cases h; done) | (intros; contradiction) | (intros; rename_i e; cases e; done)
  | .box _ _ _, h => rw [prP] at h <;> first | (cases h; done) | (intros; contradiction) | (intros; rename_i e; cases e; done)
  | .tup [], h => rw [prP] at h <;> first | (cases h; done) | (intros; contradiction) | (intros; rename_i e; cases e; done)
  | .tup [_], h => rw [prP] at h <;> first | (cases h; done) | (intros; contradiction) | (intros; rename_i e; cases e; done)
  | .tup (_ :: _ :: _ :: _), h => rw [prP] at h <;> first | (cases h; done) | (intros; contradiction) | (intros; rename_i e; cases e; done)
  | .tup [a, b], h =>
    cases a <;> cases b <;> first | (rw [prP] at h <;> first | (cases h; done) | (intros; contradiction) | (intros; rename_i e; cases e; done) | skip) | skip
    rename_i xs t
    split at h
    · rename_i c
      cases q : prPs f n xs with
      | none => rw [q] at h; cases h
      | some w =>
        rw [q] at h
        cases h
        exact .inr ⟨xs, t, w, rfl, c, q, rfl⟩
    · cases h
theorem prPs_sp {f : Nat} {n : Int} {ds : List D} {z : Nat × Nat} (h : prPs (f + 1) n ds = some z) : (ds = [] ∧ z = (0, 1)) ∨ ∃ x xs a b, ds = x :: xs ∧ prP f n x = some a ∧ prPs f n xs = some b ∧ z = (a.1 + b.1, max a.2 b.2) := by
  cases ds with
  | nil =>
    rw [prPs] at h
    cases h
    exact .inl ⟨rfl, rfl⟩
  | cons x xs =>
    rw [prPs] at h
    cases q : prP f n x with
    | none => rw [q] at h; cases h
    | some a =>
      cases r : prPs f n xs with
      | none => rw [q, r] at h; cases h
      | some b =>
        rw [q, r] at h
        cases h
        exact .inr ⟨x, xs, a, b, rfl, q, r, rfl⟩
def gpB (n : Nat) (ds : List D) : Bool := decide (1 ≤ n) && decide (n ≤ 12) && match prPs 300 (n : Int) ds with
  | some z => decide (z.1 ≤ 120) && decide (z.2 ≤ 5)
  | none => false
mutual
def txV : Nat → D → Str
  | 0, _ => ""
  | _ + 1, .int i => Str.ofString (toString i)
  | f + 1, .tup [.tup xs, .int t] => prT (tjW (txVs f xs)) t
  | _ + 1, _ => ""
def txVs : Nat → List D → List Str
  | 0, _ => []
  | _ + 1, [] => []
  | f + 1, x :: xs => txV f x :: txVs f xs
end
theorem prT_ok (n : Int) : ∀ f : Nat, (∀ d z, prP f n d = some z → ∃ p, dP p = d ∧ OkP n 1000000000000000000000000000000 p ∧ szP p = z.1 ∧ dpP p = z.2 ∧ wdP p = txV f d) ∧ ∀ ds z, prPs f n ds = some z → ∃ ps, dPs ps = ds ∧ OkPs n 1000000000000000000000000000000 ps ∧ szPs ps = z.1 ∧ dpPs ps = z.2 ∧ wdsP ps = txVs f ds := by
  intro f
  induction f with
  | zero =>
    refine ⟨fun d z h => ?_, fun d z h => ?_⟩
    · rw [prP] at h; cases h
    · rw [prPs] at h; cases h
  | succ f ih =>
    obtain ⟨i1, i2⟩ := ih
    refine ⟨fun d z h => ?_, fun ds z h => ?_⟩
    · rcases prP_sp h with ⟨i, rfl, c, rfl⟩ | ⟨xs, t, w, rfl, c, q, rfl⟩
      · exact ⟨.lv i, by rw [dP], .lv c.1 c.2, szP_lv _, dpP_lv _, by rw [wdP_lv, txV]⟩
      · obtain ⟨ps, e1, e2, e3, e4, e5⟩ := i2 xs w q
        refine ⟨.pr ps t, by rw [dP, e1], .pr e2 c.1 c.2, by rw [szP_pr, e3]; exact Nat.add_comm 1 w.1, by rw [dpP_pr, e4], ?_⟩
        rw [wdP_pr, txV, ← e5]; rfl
    · rcases prPs_sp h with ⟨rfl, rfl⟩ | ⟨x, xs, a, b, rfl, q, r, rfl⟩
      · exact ⟨[], by rw [dPs_map]; rfl, (fun _ h => nomatch h), rfl, rfl, by rw [wdsP, txVs]⟩
      · obtain ⟨p, a1, a2, a3, a4, a5⟩ := i1 x a q
        obtain ⟨ps, b1, b2, b3, b4, b5⟩ := i2 xs b r
        exact ⟨p :: ps, by rw [dPs_map, List.map_cons, a1, ← b1, dPs_map], (fun y hy => (List.mem_cons.mp hy).elim (fun e => e ▸ a2) (b2 y)), by rw [szPs_cons, a3, b3], by rw [dpPs_cons, a4, b4], by rw [wdsP, txVs, a5, b5]⟩
def txL (ds : List D) : Str := tjW (txVs 300 ds)
structure Gp (n : Nat) (ps : List Pt) : Prop where
  n1 : 1 ≤ n
  n2 : n ≤ 12
  ok : OkPs (n : Int) 1000000000000000000000000000000 ps
  sz : szPs ps ≤ 120
  dp : dpPs ps ≤ 5
theorem gp_tx {n : Nat} {ds : List D} (h : gpB n ds = true) : ∃ ps, dPs ps = ds ∧ Gp n ps ∧ txP ps = txL ds := by
  unfold gpB at h
  rw [Bool.and_eq_true, Bool.and_eq_true, decide_eq_true_iff, decide_eq_true_iff] at h
  obtain ⟨⟨h1, h2⟩, h3⟩ := h
  cases q : prPs 300 (n : Int) ds with
  | none => rw [q] at h3; cases h3
  | some z =>
    rw [q] at h3
    have h3 : (decide (z.1 ≤ 120) && decide (z.2 ≤ 5)) = true := h3
    rw [Bool.and_eq_true, decide_eq_true_iff, decide_eq_true_iff] at h3
    obtain ⟨ps, e1, e2, e3, e4, e5⟩ := (prT_ok (n : Int) 300).2 ds z q
    exact ⟨ps, e1, ⟨h1, h2, e2, by rw [e3]; exact h3.1, by rw [e4]; exact h3.2⟩, by unfold txP txL; rw [e5]⟩
theorem as28 {Φ : Calls} {ρ : Ev} {e e2 : E} {d d2 : D} (h : ev Φ e ρ = .ok (.fz d) ρ) (h2 : ev Φ e2 ρ = .ok (.fz d2) ρ) : evas Φ (.val e (.val e2 .nil)) ρ = .ok [.val d, .val d2] ρ := by
  simp [h, h2]
theorem as18 {Φ : Calls} {ρ : Ev} {e : E} {d : D} (h : ev Φ e ρ = .ok (.fz d) ρ) : evas Φ (.val e .nil) ρ = .ok [.val d] ρ := by
  simp [h]
theorem Gp.tx {n : Nat} {ps : List Pt} (g : Gp n ps) : Tx 5000 (txP ps) := by
  have n2 := g.n2
  have sz := g.sz
  exact (tx_b (n := (n : Int)) (by omega) (Int.le_refl _) _ ps (Nat.le_refl _) g.ok).2.2.mono (by omega)
theorem mk7 (k : Nat) {n : Nat} {ps : List Pt} (g : Gp n ps) {ρ : Ev} {a b : E} (ha : ev (callN tbl (k + 14)) a ρ = .ok (.fz (.int (n : Int))) ρ) (hb : ev (callN tbl (k + 14)) b ρ = .ok (.fz (.tup (dPs ps))) ρ) : ev (callN tbl (k + 14)) (.make 0 2 [0, 1] (.val a (.val b (.nil))) (.val (.cst (.tup [])) (.nil))) ρ = .ok (.fz (lg n ps)) ρ := by
  have n1 := g.n1
  have n2 := g.n2
  obtain ⟨ss, i⟩ := ok_init (n := (n : Int)) (Int.le_refl _) k (by omega) (by omega) g.ok g.sz g.dp
  exact e_makeK (al := [.val (.int (n : Int)), .val (.tup (dPs ps))]) (kl := [.val (.tup [])]) (ds := [.int (n : Int), .tup (dPs ps)]) (as28 ha hb) (as18 rfl) rfl i
theorem ok_str7 (k : Nat) {n : Nat} {ps : List Pt} (g : Gp n ps) : callN tbl (k + 6) 3 [.fz (lg n ps)] = some (.fz (.str (txP ps)), [.fz (lg n ps)]) := by
  have n2 := g.n2
  have sz := g.sz
  have e2 := ok_ptxE (n := (n : Int)) (by omega) (Int.le_refl _) 5 k ps g.dp g.ok (by omega)
  exact call_fz ⟨1, 1, ir3⟩ (sq_rt (x_ret (e_bi1 (e_call1 (x := .fz (.tup (dPs ps))) rfl e2) rfl rfl)))
end Q_bandlinks_k06_equality_and_text
namespace Q_bandlinks_k06_equality_and_text
open PySem L2 DL
def rpL (n : Nat) (ps : List Pt) : Str := (((("Log(" : Str) ++ Str.ofString (toString (n : Int))) ++ (", '" : Str)) ++ txP ps) ++ ("')" : Str)
theorem emp_log : Str.empty ++ ("Log(" : Str) = ("Log(" : Str) := by decide +kernel
theorem rpL_tx {n : Nat} {ps : List Pt} (g : Gp n ps) : Tx 4 ("Log(" : Str) ∧ Tx 36 (("Log(" : Str) ++ Str.ofString (toString (n : Int))) ∧ Tx 39 ((("Log(" : Str) ++ Str.ofString (toString (n : Int))) ++ (", '" : Str)) ∧ Tx 5039 (((("Log(" : Str) ++ Str.ofString (toString (n : Int))) ++ (", '" : Str)) ++ txP ps) ∧ Tx 5041 (rpL n ps) := by
  have n2 := g.n2
  have ti := Tx.int (i := (n : Int)) (by omega) (by omega)
  have t1 : Tx 4 ("Log(" : Str) := ⟨by decide, by decide⟩
  have t2 : Tx 3 (", '" : Str) := ⟨by decide, by decide⟩
  have t3 : Tx 2 ("')" : Str) := ⟨by decide, by decide⟩
  have a2 := (t1.app ti).mono (show _ ≤ 36 by omega)
  have a3 := (a2.app t2).mono (show _ ≤ 39 by omega)
  have a4 := (a3.app g.tx).mono (show _ ≤ 5039 by omega)
  exact ⟨t1, a2, a3, a4, (a4.app t3).mono (show _ ≤ 5041 by omega)⟩
theorem ok_rep6 (k : Nat) {n : Nat} {ps : List Pt} (g : Gp n ps) : callN tbl (k + 6) 8 [.fz (lg n ps)] = some (.fz (.str (rpL n ps)), [.fz (lg n ps)]) := by
  have n2 := g.n2
  have sz := g.sz
  have e := ok_ptxE (n := (n : Int)) (by omega) (Int.le_refl _) 5 k ps g.dp g.ok (by omega)
  obtain ⟨t1, a2, a3, a4, a5⟩ := rpL_tx g
  have hs := g.tx
  have t2 : Tx 3 (", '" : Str) := ⟨by decide, by decide⟩
  have t3 : Tx 2 ("')" : Str) := ⟨by decide, by decide⟩
  have fs : fsD Str.empty [.str "Log(", .int (n : Int), .str ", '", .str (txP ps), .str "')"] = some (.fz (.str (rpL n ps))) := by
    show (if _ ∧ _ then (if _ ∧ _ then (if _ ∧ _ then (if _ ∧ _ then (if _ ∧ _ then _ else none) else none) else none) else none) else none) = _
    rw [emp_log]
    rw [if_pos ⟨Nat.le_trans t1.len (by omega), Nat.le_trans t1.len (by omega)⟩, if_pos ⟨Nat.lt_trans (log2_31 (by omega)) (by decide), Nat.le_trans a2.len (by omega)⟩, if_pos ⟨Nat.le_trans t2.len (by omega), Nat.le_trans a3.len (by omega)⟩, if_pos ⟨Nat.le_trans hs.len (by omega), Nat.le_trans a4.len (by omega)⟩, if_pos ⟨Nat.le_trans t3.len (by omega), Nat.le_trans a5.len (by omega)⟩]
    rfl
  have c : ev (callN tbl (k + 5)) (.call 11 [0] (.val (.fld (.var 0) [(0, 1)]) (.nil)) .nil) [.fz (lg n ps)] = .ok (.fz (.str (txP ps))) [.fz (lg n ps)] := e_call1 (x := .fz (.tup (dPs ps))) rfl e
  exact call_fz ⟨1, 1, ir8⟩ (sq_rt (x_ret (e_biN (er_cons (x := .fz (.str "Log(")) rfl (er_cons (x := .fz (.int (n : Int))) rfl (er_cons (x := .fz (.str ", '")) rfl (er_cons c (er_cons (x := .fz (.str "')")) rfl er_nil))))) rfl fs)))
theorem ok_shr (k : Nat) {n : Nat} {ps : List Pt} (g : Gp n ps) : callN tbl (k + 7) 1 [.fz (lg n ps)] = some (.fz (.bl true), [.fz (lg n ps)]) := by
  have n2 := g.n2
  have sz := g.sz
  have e1 := ok_ltxE (n := (n : Int)) (by omega) (Int.le_refl _) 5 (k + 1) ps g.dp g.ok (by omega)
  have e2 := ok_str7 k g
  have e3 := ok_rep6 k g
  obtain ⟨t1, a2, a3, a4, a5⟩ := rpL_tx g
  have hs := g.tx.len
  have l1 := t1.len
  have l2 := a2.len
  have l3 := a3.len
  have l4 := a4.len
  have ti := (Tx.int (i := (n : Int)) (by omega) (by omega)).len
  have S1 : exec (callN tbl (k + 6)) (.asg (.nm 1) (.call 7 [0] (.val (.fld (.var 0) [(0, 1)]) (.nil)) .nil)) [.fz (lg n ps), .un] = .ok .nx [.fz (lg n ps), .fz (.str (txP ps))] := x_asgD (e_call1 (x := .fz (.tup (dPs ps))) rfl e1)
  have c1 : ev (callN tbl (k + 6)) (.cmp .eq (.meth (.var 0) [(0, 3)] [0] .nil .nil) (.var 1)) [.fz (lg n ps), .fz (.str (txP ps))] = .ok (.fz (.bl true)) [.fz (lg n ps), .fz (.str (txP ps))] := e_cmp (e_meth0 (c := 0) (xs := [.int (n : Int), .tup (dPs ps)]) rfl e2) (y := .fz (.str (txP ps))) rfl rfl rfl (str_eq)
  have c2 : ev (callN tbl (k + 6)) (.bin .add (.bin .add (.bin .add (.bin .add (.cst (.str "Log(")) (.bi .str1 (.cons (.fld (.var 0) [(0, 0)]) (.nil)))) (.cst (.str ", '"))) (.var 1)) (.cst (.str "')"))) [.fz (lg n ps), .fz (.str (txP ps))] = .ok (.fz (.str (rpL n ps))) [.fz (lg n ps), .fz (.str (txP ps))] :=
    e_bin (e_bin (e_bin (e_bin (x := .fz (.str "Log(")) rfl (e_bi1 (a := .fld (.var 0) [(0, 0)]) (v := .fz (.int (n : Int))) rfl rfl (str1_int (by omega) (by omega))) rfl rfl (str_add (by omega))) (y := .fz (.str ", '")) rfl rfl rfl (str_add (by show _ + 3 ≤ _; omega))) (y := .fz (.str (txP ps))) rfl rfl rfl (str_add (by omega))) (y := .fz (.str "')")) rfl rfl rfl (str_add (by show _ + 2 ≤ _; omega))
  have c3 := e_cmp (o := .eq) (e_meth0 (ms := [(0, 8)]) (fi := 8) (c := 0) (o := .var 0) (ρ := [.fz (lg n ps), .fz (.str (txP ps))]) (xs := [.int (n : Int), .tup (dPs ps)]) rfl e3) c2 rfl rfl (str_eq)
  exact call_fz ⟨1, 2, ir1⟩ (sq S1 (sq_rt (x_ret (e_andV (p := true) (q := true) c1 c3))))
end Q_bandlinks_k06_equality_and_text
namespace Q_bandlinks_k06_equality_and_text
open PySem L2 DL
theorem gp_rep {n : Nat} {ps mid : List Pt} (g : Gp n ps) (a b : Nat) (okm : OkPs (n : Int) 1000000000000000000000000000000 mid) (dm : ∀ p ∈ mid, dpP p ≤ 5) (hz : szPs (ps.take a) + szPs mid + szPs (ps.drop b) ≤ 120) : Gp n (ps.take a ++ mid ++ ps.drop b) := by
  refine ⟨g.n1, g.n2, fun p hp => ?_, ?_, dp_le (by decide) fun p hp => ?_⟩
  · rcases List.mem_append.mp hp with hp | hp
    · rcases List.mem_append.mp hp with hp | hp
      · exact g.ok p (List.mem_of_mem_take hp)
      · exact okm p hp
    · exact g.ok p (List.mem_of_mem_drop hp)
  · rw [szPs_app, szPs_app]; exact hz
  · have := g.dp
    rcases List.mem_append.mp hp with hp | hp
    · rcases List.mem_append.mp hp with hp | hp
      · have := dp_mem (List.mem_of_mem_take hp); omega
      · exact dm p hp
    · have := dp_mem (List.mem_of_mem_drop hp); omega
theorem tk_sz (ps : List Pt) (a : Nat) : szPs (ps.take a) + szPs (ps.drop a) = szPs ps := by rw [← szPs_app, List.take_append_drop]
theorem dr_sz {ps : List Pt} {a : Nat} {p : Pt} (h : ps[a]? = some p) : szPs (ps.drop a) = szP p + szPs (ps.drop (a + 1)) := by
  obtain ⟨hl, e⟩ := List.getElem?_eq_some_iff.mp h
  rw [List.drop_eq_getElem_cons hl, szPs_cons, e]
theorem dr_le (ps : List Pt) (a : Nat) : szPs (ps.drop (a + 1)) ≤ szPs (ps.drop a) := by
  cases h : ps[a]? with
  | some p => rw [dr_sz h]; omega
  | none =>
    have := List.getElem?_eq_none_iff.mp h
    rw [List.drop_eq_nil_of_le (by omega)]
    exact Nat.zero_le _
theorem dPs_take (ps : List Pt) (a : Nat) : (dPs ps).take a = dPs (ps.take a) := by rw [dPs_map, dPs_map, List.map_take]
theorem dPs_drop (ps : List Pt) (a : Nat) : (dPs ps).drop a = dPs (ps.drop a) := by rw [dPs_map, dPs_map, List.map_drop]
theorem dPs_get {ps : List Pt} {a : Nat} {p : Pt} (h : ps[a]? = some p) : (dPs ps)[a]? = some (dP p) := by rw [dPs_map, List.getElem?_map, h]; rfl
abbrev sC (p : List D) (n : Nat) (ps : List Pt) (s3 s4 s5 s6 s7 : Sl) : Ev := [.ls .bor p, .fz (.int (n : Int)), .fz (.tup (dPs ps)), s3, s4, s5, s6, s7]
abbrev sC5 (p : List D) (n : Nat) (ps : List Pt) (a : Nat) (w : Int) (s6 s7 : Sl) : Ev := sC p n ps (.fz (.int (a : Int))) (.fz (.int w)) (.fz (.tup (dPs (ps.drop (a + 1))))) s6 s7
section
variable {Φ : Calls} {p : List D} {n a : Nat} {ps : List Pt} {w : Int} {s6 s7 : Sl}
theorem sl_to : ev Φ (.slc (.var 2) (.none) (.some (.var 3))) (sC5 p n ps a w s6 s7) = .ok (.fz (.tup (dPs (ps.take a)))) (sC5 p n ps a w s6 s7) :=
  e_slc (x := .fz (.tup (dPs ps))) (l := none) (h := some (a : Int)) rfl rfl rfl rfl (by show some (R.fz (.tup (cut (dPs ps) none (some (a : Int))))) = _; rw [cut_to, dPs_take])
theorem sl_from : ev Φ (.slc (.var 2) (.some (.var 3)) (.none)) (sC5 p n ps a w s6 s7) = .ok (.fz (.tup (dPs (ps.drop a)))) (sC5 p n ps a w s6 s7) :=
  e_slc (x := .fz (.tup (dPs ps))) (l := some (a : Int)) (h := none) rfl rfl rfl rfl (by show some (R.fz (.tup (cut (dPs ps) (some (a : Int)) none))) = _; rw [cut_from, dPs_drop])
theorem eqw (v : Int) : ev Φ (.cmp .eq (.var 4) (.cst (.int v))) (sC5 p n ps a w s6 s7) = .ok (.fz (.bl (decide (w = v)))) (sC5 p n ps a w s6 s7) := e_cmp (x := .fz (.int w)) (y := .fz (.int v)) rfl rfl rfl rfl rfl
theorem ltl : ev Φ (.cmp .lt (.var 3) (.bi .len (.cons (.var 2) (.nil)))) (sC5 p n ps a w s6 s7) = .ok (.fz (.bl (decide (a < ps.length)))) (sC5 p n ps a w s6 s7) :=
  e_cmp (x := .fz (.int (a : Int))) (y := .fz (.int ((dPs ps).length : Nat))) rfl (e_bi1 (v := .fz (.tup (dPs ps))) rfl rfl rfl) rfl rfl (by
    show some (decide ((a : Int) < ((dPs ps).length : Nat))) = _
    rw [dPs_len]
    congr 1
    exact decide_eq_decide.mpr (by omega))
theorem ix_a {q : Pt} (h : ps[a]? = some q) : ev Φ (.idx (.var 2) (.var 3)) (sC5 p n ps a w s6 s7) = .ok (.fz (dP q)) (sC5 p n ps a w s6 s7) := e_idx (x := .fz (.tup (dPs ps))) (y := .fz (.int (a : Int))) rfl rfl rfl rfl (at_getN (dPs_get h))
theorem szc (e : Φ 20 [.fz (.tup (dPs ps))] = some (.fz (.int (szPs ps : Nat)), [.fz (.tup (dPs ps))])) : ev Φ (.cmp .lt (.call 20 [0] (.val (.var 2) (.nil)) .nil) (.cst (.int 118))) (sC5 p n ps a w s6 s7) = .ok (.fz (.bl (decide (szPs ps < 118)))) (sC5 p n ps a w s6 s7) :=
  e_cmp (e_call1 (x := .fz (.tup (dPs ps))) rfl e) (y := .fz (.int 118)) rfl rfl rfl (by
    show some (decide (((szPs ps : Nat) : Int) < 118)) = _
    congr 1
    exact decide_eq_decide.mpr (by omega))
theorem addP (xs ys : List Pt) (h : xs.length + ys.length ≤ 1000) : binD .add (.tup (dPs xs)) (.tup (dPs ys)) = some (.fz (.tup (dPs (xs ++ ys)))) := by
  rw [addT (by rw [dPs_len, dPs_len]; omega), dPs_app]
end
theorem isT_ev {Φ : Calls} {p : List D} {n a : Nat} {ps : List Pt} {w : Int} {s6 s7 : Sl} {q : Pt} (h : ps[a]? = some q) : ev Φ (.not (.bi (.isi .tuple) (.cons (.idx (.var 2) (.var 3)) .nil))) (sC5 p n ps a w s6 s7) = .ok (.fz (.bl (match q with | .lv _ => true | .pr _ _ => false))) (sC5 p n ps a w s6 s7) := by
  cases q with
  | lv i => exact e_not (e_bi1 (v2 := .fz (.bl false)) (ix_a h) rfl rfl) rfl rfl
  | pr qs t => exact e_not (e_bi1 (v2 := .fz (.bl true)) (ix_a h) rfl rfl) rfl rfl
theorem c2_ev {Φ : Calls} {p : List D} {n a : Nat} {ps : List Pt} {w : Int} {s6 s7 : Sl} (e : Φ 20 [.fz (.tup (dPs ps))] = some (.fz (.int (szPs ps : Nat)), [.fz (.tup (dPs ps))])) :
    ∃ b, ev Φ (.and (.cmp .eq (.var 4) (.cst (.int 2))) (.and (.cmp .lt (.var 3) (.bi .len (.cons (.var 2) (.nil)))) (.and (.cmp .lt (.call 20 [0] (.val (.var 2) (.nil)) .nil) (.cst (.int 118))) (.not (.bi (.isi .tuple) (.cons (.idx (.var 2) (.var 3)) .nil)))))) (sC5 p n ps a w s6 s7) = .ok (.fz (.bl b)) (sC5 p n ps a w s6 s7) ∧ (b = true → szPs ps < 118 ∧ ∃ i, ps[a]? = some (.lv i)) := by
  by_cases hw : w = 2
  · by_cases ha : a < ps.length
    · obtain ⟨q, hq⟩ : ∃ q, ps[a]? = some q := ⟨ps[a], List.getElem?_eq_getElem ha⟩
      have l := ltl (Φ := Φ) (p := p) (n := n) (a := a) (ps := ps) (w := w) (s6 := s6) (s7 := s7)
      have c := e_andV (eqw (Φ := Φ) (p := p) (n := n) (a := a) (ps := ps) (w := w) (s6 := s6) (s7 := s7) 2) (e_andV l (e_andV (szc e) (isT_ev hq)))
      refine ⟨_, c, fun h => ?_⟩
      obtain ⟨_, h⟩ := Bool.and_eq_true _ _ |>.mp h
      obtain ⟨_, h⟩ := Bool.and_eq_true _ _ |>.mp h
      obtain ⟨h1, h2⟩ := Bool.and_eq_true _ _ |>.mp h
      refine ⟨of_decide_eq_true h1, ?_⟩
      cases q with
      | lv i => exact ⟨i, hq⟩
      | pr _ _ => cases h2
    · have l := ltl (Φ := Φ) (p := p) (n := n) (a := a) (ps := ps) (w := w) (s6 := s6) (s7 := s7)
      rw [decide_eq_false ha] at l
      exact ⟨false, e_and (eqw 2) (fun _ => e_and (k := false) l (fun z => nomatch z) fun _ => rfl) (fun z => absurd z (by rw [decide_eq_true hw]; decide)), fun z => nomatch z⟩
  · have c := eqw (Φ := Φ) (p := p) (n := n) (a := a) (ps := ps) (w := w) (s6 := s6) (s7 := s7) 2
    rw [decide_eq_false hw] at c
    exact ⟨false, e_and (k := false) c (fun z => nomatch z) fun _ => rfl, fun z => nomatch z⟩
theorem ok_chg (k : Nat) {n : Nat} {ps : List Pt} (g : Gp n ps) {xs : List D} (h : Pool xs) : ∃ qs ys, callN tbl (k + 6) 15 [.ls .bor xs, .fz (.int (n : Int)), .fz (.tup (dPs ps))] = some (.fz (.tup (dPs qs)), [.ls .bor ys, .fz (.int (n : Int)), .fz (.tup (dPs ps))]) ∧ Gp n qs ∧ Pool ys := by
  have n1 := g.n1
  have n2 := g.n2
  have sz := g.sz
  have ls := len_sz ps
  obtain ⟨a, p1, e1, a1, a2, q1⟩ := ok_draw (k + 4) h (n := ((dPs ps).length : Nat) + 1) (by omega) (by rw [dPs_len]; omega)
  rw [dPs_len] at a2
  obtain ⟨a, rfl⟩ : ∃ b : Nat, a = (b : Int) := ⟨a.toNat, by omega⟩
  obtain ⟨w, p2, e2, _, _, q2⟩ := ok_draw (k + 4) q1 (n := 6) (by decide) (by decide)
  have es := ok_size 5 k ps g.dp (by omega)
  have S1 : exec (callN tbl (k + 5)) (.par 3 4 (.call 14 [0, 1] (.ref (.var 0) (.val (.bin .add (.bi .len (.cons (.var 2) (.nil))) (.cst (.int 1))) (.nil))) .nil) (.call 14 [0, 1] (.ref (.var 0) (.val (.cst (.int 6)) (.nil))) .nil)) (sC xs n ps .un .un .un .un .un) = .ok .nx (sC p2 n ps (.fz (.int (a : Int))) (.fz (.int w)) .un .un .un) :=
    x_par (e_draw (e_bin (x := .fz (.int ((dPs ps).length : Nat))) (y := .fz (.int 1)) (e_bi1 (v := .fz (.tup (dPs ps))) rfl rfl rfl) rfl rfl rfl rfl) e1) (e_draw rfl e2) rfl rfl
  have S2 : exec (callN tbl (k + 5)) (.asg (.nm 5) (.slc (.var 2) (.some (.bin .add (.var 3) (.cst (.int 1)))) (.none))) (sC p2 n ps (.fz (.int (a : Int))) (.fz (.int w)) .un .un .un) = .ok .nx (sC5 p2 n ps a w .un .un) :=
    x_asgD (e_slc (x := .fz (.tup (dPs ps))) (l := some ((a + 1 : Nat) : Int)) (h := none) rfl rfl rfl rfl (by show some (R.fz (.tup (cut (dPs ps) (some ((a + 1 : Nat) : Int)) none))) = _; rw [cut_from, dPs_drop]))
  have t0 := tk_sz ps a
  have d0 := dr_le ps a
  have lt0 : (ps.take a).length ≤ ps.length := by rw [List.length_take]; omega
  have ld0 : ∀ b, (ps.drop b).length ≤ ps.length := fun b => by rw [List.length_drop]; omega
  have ld1 := ld0 a
  have ld2 := ld0 (a + 1)
  have fin : ∀ {qs : List Pt} {ρ' : Ev}, Gp n qs → execs (callN tbl (k + 5)) ir15 (sC xs n ps .un .un .un .un .un) = .ok (.rt (.fz (.tup (dPs qs)))) ρ' → behind [.ls .bor xs, .fz (.int (n : Int)), .fz (.tup (dPs ps))] ρ' = [.ls .bor p2, .fz (.int (n : Int)), .fz (.tup (dPs ps))] → ∃ qs ys, callN tbl (k + 6) 15 [.ls .bor xs, .fz (.int (n : Int)), .fz (.tup (dPs ps))] = some (.fz (.tup (dPs qs)), [.ls .bor ys, .fz (.int (n : Int)), .fz (.tup (dPs ps))]) ∧ Gp n qs ∧ Pool ys :=
    fun gq e hb => ⟨_, p2, call_fz ⟨3, 8, ir15⟩ e rfl rfl hb, gq, q2⟩
  -- the first way
  by_cases w0 : w = 0
  · have c := eqw (Φ := callN tbl (k + 5)) (p := p2) (n := n) (a := a) (ps := ps) (w := w) (s6 := .un) (s7 := .un) 0
    rw [decide_eq_true w0] at c
    have gq := gp_rep (mid := []) g a (a + 1) (fun _ h => nomatch h) (fun _ h => nomatch h) (by rw [szPs_nil]; omega)
    rw [List.append_nil] at gq
    exact fin gq (ρ' := sC5 p2 n ps a w .un .un) (sq S1 (sq S2 (sq_rt (x_ift c (sq_rt (x_ret (e_bin sl_to (y := .fz (.tup (dPs (ps.drop (a + 1))))) rfl rfl rfl (addP _ _ (by omega))))))))) rfl
  have c0 := eqw (Φ := callN tbl (k + 5)) (p := p2) (n := n) (a := a) (ps := ps) (w := w) (s6 := .un) (s7 := .un) 0
  rw [decide_eq_false w0] at c0
  -- the second
  have c1 := e_andV (eqw (Φ := callN tbl (k + 5)) (p := p2) (n := n) (a := a) (ps := ps) (w := w) (s6 := .un) (s7 := .un) 1) (szc es)
  cases b1 : (decide (w = 1) && decide (szPs ps < 118)) with
  | true =>
    rw [b1] at c1
    have hz := of_decide_eq_true ((Bool.and_eq_true _ _ |>.mp b1).2)
    have gq := gp_rep (mid := [.pr [] 1]) g a a (OkPs.one (.pr (fun _ h => nomatch h) (by decide) (by decide))) (fun p hp => by rw [List.mem_singleton] at hp; subst hp; rw [dpP_pr, dpPs_nil]; decide) (by rw [szPs_one, szP_pr, szPs_nil]; omega)
    have tp : ev (callN tbl (k + 5)) (.tup (.cons (.tup (.cons (.tup (.nil)) (.cons (.cst (.int 1)) (.nil)))) (.nil))) (sC5 p2 n ps a w .un .un) = .ok (.fz (.tup (dPs [.pr [] 1]))) (sC5 p2 n ps a w .un .un) := by
      have : dPs [.pr [] 1] = [.tup [.tup [], .int 1]] := by rw [dPs, dPs, dP, dPs]
      rw [this]
      exact e_tup (es_cons (x := .fz (.tup [.tup [], .int 1])) (e_tup (es_cons (x := .fz (.tup [])) (e_tup es_nil) (es_cons (x := .fz (.int 1)) rfl es_nil))) es_nil)
    exact fin gq (ρ' := sC5 p2 n ps a w .un .un) (sq S1 (sq S2 (sq (x_iff c0 rfl) (sq_rt (x_ift c1 (sq_rt (x_ret (e_bin (e_bin sl_to tp rfl rfl (addP _ _ (by show _ + 1 ≤ _; omega))) sl_from rfl rfl (addP _ _ (by rw [List.length_append]; show _ + 1 + _ ≤ _; omega)))))))))) rfl
  | false =>
  rw [b1] at c1
  -- the third
  obtain ⟨b2, c2, h2⟩ := c2_ev (Φ := callN tbl (k + 5)) (p := p2) (n := n) (a := a) (ps := ps) (w := w) (s6 := .un) (s7 := .un) es
  cases b2 with
  | true =>
    obtain ⟨hz, i, hi⟩ := h2 rfl
    have ds := dr_sz hi
    have o := g.ok _ (List.mem_of_getElem? hi)
    have gq := gp_rep (mid := [.pr [.lv i] 1]) g a (a + 1) (OkPs.one (.pr (OkPs.one o) (by decide) (by decide))) (fun p hp => by rw [List.mem_singleton] at hp; subst hp; rw [dpP_pr, dpPs_one, dpP_lv]; decide) (by rw [szPs_one, szP_pr, szPs_one, szP_lv]; rw [szP_lv] at ds; omega)
    have tp : ev (callN tbl (k + 5)) (.tup (.cons (.tup (.cons (.tup (.cons (.idx (.var 2) (.var 3)) (.nil))) (.cons (.cst (.int 1)) (.nil)))) (.nil))) (sC5 p2 n ps a w .un .un) = .ok (.fz (.tup (dPs [.pr [.lv i] 1]))) (sC5 p2 n ps a w .un .un) := by
      have : dPs [.pr [.lv i] 1] = [.tup [.tup [.int i], .int 1]] := by rw [dPs, dPs, dP, dPs, dPs, dP]
      rw [this]
      have ix := ix_a (Φ := callN tbl (k + 5)) (p := p2) (n := n) (w := w) (s6 := .un) (s7 := .un) hi
      rw [dP] at ix
      exact e_tup (es_cons (x := .fz (.tup [.tup [.int i], .int 1])) (e_tup (es_cons (x := .fz (.tup [.int i])) (e_tup (es_cons ix es_nil)) (es_cons (x := .fz (.int 1)) rfl es_nil))) es_nil)
    exact fin gq (ρ' := sC5 p2 n ps a w .un .un) (sq S1 (sq S2 (sq (x_iff c0 rfl) (sq (x_iff c1 rfl) (sq_rt (x_ift c2 (sq_rt (x_ret (e_bin (e_bin sl_to tp rfl rfl (addP _ _ (by show _ + 1 ≤ _; omega))) (y := .fz (.tup (dPs (ps.drop (a + 1))))) rfl rfl rfl (addP _ _ (by rw [List.length_append]; show _ + 1 + _ ≤ _; omega))))))))))) rfl
  | false =>
  -- the fourth
  have c3 := e_andV (eqw (Φ := callN tbl (k + 5)) (p := p2) (n := n) (a := a) (ps := ps) (w := w) (s6 := .un) (s7 := .un) 3) ltl
  cases b3 : (decide (w = 3) && decide (a < ps.length)) with
  | true =>
    rw [b3] at c3
    have ha := of_decide_eq_true ((Bool.and_eq_true _ _ |>.mp b3).2)
    obtain ⟨q, hq⟩ : ∃ q, ps[a]? = some q := ⟨ps[a], List.getElem?_eq_getElem ha⟩
    have ds := dr_sz hq
    have o := g.ok _ (List.mem_of_getElem? hq)
    have dq := dp_mem (List.mem_of_getElem? hq)
    have dp := g.dp
    have T1 : exec (callN tbl (k + 5)) (.asg (.nm 6) (.idx (.var 2) (.var 3))) (sC5 p2 n ps a w .un .un) = .ok .nx (sC5 p2 n ps a w (.fz (dP q)) .un) := x_asgD (ix_a hq)
    have key : ∃ q', OkP (n : Int) 1000000000000000000000000000000 q' ∧ szP q' = szP q ∧ dpP q' ≤ 5 ∧ ev (callN tbl (k + 5)) (.ite (.bi (.isi .tuple) (.cons (.var 6) .nil)) (.tup (.cons (.idx (.var 6) (.cst (.int 0))) (.cons (.bin .add (.bin .mod (.bi .int1 (.cons (.idx (.var 6) (.cst (.int 1))) (.nil))) (.bin .pow (.cst (.int 10)) (.cst (.int 30)))) (.cst (.int 1))) (.nil)))) (.bin .add (.cst (.int 1)) (.bin .mod (.bi .int1 (.cons (.var 6) (.nil))) (.var 1)))) (sC5 p2 n ps a w (.fz (dP q)) .un) = .ok (.fz (dP q')) (sC5 p2 n ps a w (.fz (dP q)) .un) := by
      cases q with
      | lv i =>
        obtain ⟨i1, i2⟩ := ok_lv o
        have hm : binD .mod (.int i) (.int (n : Int)) = some (.fz (.int (i.fmod (n : Int)))) := by
          show (if (n : Int) ≠ 0 then some (R.fz (D.int (i.fmod (n : Int)))) else none) = _
          exact if_pos (by omega)
        have m0 := Int.fmod_nonneg_of_pos i (show (0 : Int) < n by omega)
        have m1 := Int.fmod_lt_of_pos i (show (0 : Int) < n by omega)
        refine ⟨.lv (1 + i.fmod (n : Int)), .lv (by omega) (by omega), by rw [szP_lv, szP_lv], by rw [dpP_lv]; decide, ?_⟩
        rw [dP, dP]
        exact e_ite false (x := .fz (.bl false)) (e_bi1 (v := .fz (.int i)) rfl rfl rfl) rfl rfl (e_bin (x := .fz (.int 1)) rfl (e_bin (e_bi1 (v := .fz (.int i)) rfl rfl rfl) (y := .fz (.int (n : Int))) rfl rfl rfl hm) rfl rfl rfl)
      | pr qs t =>
        obtain ⟨oq, t1, t2⟩ := ok_sub o
        have hp : binD .pow (.int 10) (.int 30) = some (.fz (.int 1000000000000000000000000000000)) := by
          show (if (0 : Int) ≤ 30 ∧ (30 : Int) ≤ 1000000 ∧ (10 : Int).natAbs < 2 ^ 64 then some (R.fz (D.int ((10 : Int) ^ (30 : Int).toNat))) else none) = _
          rw [if_pos (by decide), show (10 : Int) ^ (30 : Int).toNat = 1000000000000000000000000000000 from by decide +kernel]
        have hm : binD .mod (.int t) (.int 1000000000000000000000000000000) = some (.fz (.int (t.fmod 1000000000000000000000000000000))) := rfl
        have m0 := Int.fmod_nonneg_of_pos t (show (0 : Int) < 1000000000000000000000000000000 by decide)
        have m1 := Int.fmod_lt_of_pos t (show (0 : Int) < 1000000000000000000000000000000 by decide)
        refine ⟨.pr qs (t.fmod 1000000000000000000000000000000 + 1), .pr oq (by omega) (by omega), by rw [szP_pr, szP_pr], by rw [dpP_pr] at dq ⊢; omega, ?_⟩
        rw [dP, dP]
        have i0 : ∀ j : Int, ∀ d : D, atI [.tup (dPs qs), .int t] j = some d → ev (callN tbl (k + 5)) (.idx (.var 6) (.cst (.int j))) (sC5 p2 n ps a w (.fz (.tup [.tup (dPs qs), .int t])) .un) = .ok (.fz d) (sC5 p2 n ps a w (.fz (.tup [.tup (dPs qs), .int t])) .un) := fun j d e => e_idx (x := .fz (.tup [.tup (dPs qs), .int t])) (y := .fz (.int j)) rfl rfl rfl rfl e
        exact e_ite true (x := .fz (.bl true)) (e_bi1 (v := .fz (.tup [.tup (dPs qs), .int t])) rfl rfl rfl) rfl rfl (e_tup (es_cons (i0 0 _ rfl) (es_cons (e_bin (e_bin (e_bi1 (i0 1 (.int t) rfl) rfl rfl) (e_bin (x := .fz (.int 10)) (y := .fz (.int 30)) rfl rfl rfl rfl hp) rfl rfl hm) (y := .fz (.int 1)) rfl rfl rfl rfl) es_nil)))
    obtain ⟨q', oq, zq, dq', ek⟩ := key
    have T2 : exec (callN tbl (k + 5)) (.asg (.nm 7) (.ite (.bi (.isi .tuple) (.cons (.var 6) .nil)) (.tup (.cons (.idx (.var 6) (.cst (.int 0))) (.cons (.bin .add (.bin .mod (.bi .int1 (.cons (.idx (.var 6) (.cst (.int 1))) (.nil))) (.bin .pow (.cst (.int 10)) (.cst (.int 30)))) (.cst (.int 1))) (.nil)))) (.bin .add (.cst (.int 1)) (.bin .mod (.bi .int1 (.cons (.var 6) (.nil))) (.var 1))))) (sC5 p2 n ps a w (.fz (dP q)) .un) = .ok .nx (sC5 p2 n ps a w (.fz (dP q)) (.fz (dP q'))) := x_asgD ek
    have gq := gp_rep (mid := [q']) g a (a + 1) (OkPs.one oq) (fun p hp => by rw [List.mem_singleton] at hp; subst hp; exact dq') (by rw [szPs_one]; omega)
    have tp : ev (callN tbl (k + 5)) (.tup (.cons (.var 7) (.nil))) (sC5 p2 n ps a w (.fz (dP q)) (.fz (dP q'))) = .ok (.fz (.tup (dPs [q']))) (sC5 p2 n ps a w (.fz (dP q)) (.fz (dP q'))) := by
      rw [dPs, dPs]
      exact e_tup (es_cons (x := .fz (dP q')) rfl es_nil)
    exact fin gq (ρ' := sC5 p2 n ps a w (.fz (dP q)) (.fz (dP q'))) (sq S1 (sq S2 (sq (x_iff c0 rfl) (sq (x_iff c1 rfl) (sq (x_iff c2 rfl) (sq_rt (x_ift c3 (sq T1 (sq T2 (sq_rt (x_ret (e_bin (e_bin sl_to tp rfl rfl (addP _ _ (by show _ + 1 ≤ _; omega))) (y := .fz (.tup (dPs (ps.drop (a + 1))))) rfl rfl rfl (addP _ _ (by rw [List.length_append]; show _ + 1 + _ ≤ _; omega)))))))))))))) rfl
  | false =>
    rw [b3] at c3
    exact fin g (ρ' := sC5 p2 n ps a w .un .un) (sq S1 (sq S2 (sq (x_iff c0 rfl) (sq (x_iff c1 rfl) (sq (x_iff c2 rfl) (sq (x_iff c3 rfl) (sq x_wip (sq_rt (x_ret rfl))))))))) rfl
end Q_bandlinks_k06_equality_and_text
namespace Q_bandlinks_k06_equality_and_text
open PySem L2 DL
theorem as2S {Φ : Calls} {ρ ρ1 : Ev} {e e2 : E} {d d2 : D} (h : ev Φ e ρ = .ok (.fz d) ρ1) (h2 : ev Φ e2 ρ1 = .ok (.fz d2) ρ1) : evas Φ (.val e (.val e2 .nil)) ρ = .ok [.val d, .val d2] ρ1 := by
  simp [h, h2]
abbrev Lc := Nat × List Pt
abbrev lgC (c : Lc) : D := lg c.1 c.2
def prC (c : Lc) : D := .lst [.int (c.1 : Int), .tup (dPs c.2)]
theorem risD_of : ∀ {ds : List D}, (∀ d ∈ ds, riD d = true) → risD ds = true
  | [], _ => rfl
  | d :: ds, h => by
    show (riD d && risD ds) = true
    rw [h d (List.mem_cons_self ..), risD_of fun x hx => h x (List.mem_cons_of_mem _ hx)]
    rfl
theorem ri_pts {n M : Int} : ∀ (d : Nat) (ps : List Pt), dpPs ps ≤ d → OkPs n M ps → riD (.tup (dPs ps)) = true
  | 0, ps, h, _ => by have := dpPs_pos ps; omega
  | d + 1, ps, h, ok => by
    refine risD_of (ds := dPs ps) fun x hx => ?_
    rw [dPs_map] at hx
    obtain ⟨p, hp, rfl⟩ := List.mem_map.mp hx
    have dp := dp_mem hp
    have o := ok p hp
    cases p with
    | lv i =>
      obtain ⟨i1, _⟩ := ok_lv o
      rw [dP]
      exact decide_eq_true (show (0 : Int) ≤ i by omega)
    | pr qs t =>
      obtain ⟨oq, t1, _⟩ := ok_sub o
      rw [dpP_pr] at dp
      rw [dP]
      show (riD (.tup (dPs qs)) && (riD (.int t) && true)) = true
      rw [ri_pts d qs (by omega) oq, show riD (.int t) = true from decide_eq_true (show (0 : Int) ≤ t by omega)]
      rfl
theorem ri_prC {c : Lc} (g : Gp c.1 c.2) : riD (prC c) = true := by
  show (riD (.int (c.1 : Int)) && (riD (.tup (dPs c.2)) && true)) = true
  rw [ri_pts 5 c.2 g.dp g.ok, show riD (.int (c.1 : Int)) = true from decide_eq_true (show (0 : Int) ≤ (c.1 : Int) by omega)]
  rfl
theorem rq_prC {c : Lc} (g : Gp c.1 c.2) : biD .repr [prC c] = some (.fz (.str (toPy (prC c)).shown)) := by
  have n2 := g.n2
  have sz := g.sz
  have dp := g.dp
  exact rp_ok (Rqs.lst (Rqs.cons (Rq.mono (rq_small (i := (c.1 : Int)) (by omega) (by omega)) (Nat.le_refl _) (Nat.zero_le _)) (Rqs.cons (rq_parts (n := (c.1 : Int)) (by omega) (Int.le_refl _) g.ok) (Rqs.nil _)))) (by omega) (by omega)
def eqC (a b : Lc) : Bool := decide ((toPy (prC a)).shown = (toPy (prC b)).shown)
theorem ok_eq6 (k : Nat) {a b : Lc} (ga : Gp a.1 a.2) (gb : Gp b.1 b.2) : callN tbl (k + 1) 17 [.fz (lgC a), .fz (lgC b)] = some (.fz (.bl (eqC a b)), [.fz (lgC a), .fz (lgC b)]) := by
  obtain ⟨n, ps⟩ := a
  obtain ⟨m, qs⟩ := b
  have d1 : dpPs ps ≤ 5 := ga.dp
  have d2 : dpPs qs ≤ 5 := gb.dp
  have c1 : ev (callN tbl k) (.cmp .eq (.fld (.var 0) [(0, 0)]) (.fld (.var 1) [(0, 0)])) [.fz (lg n ps), .fz (lg m qs)] = .ok (.fz (.bl (decide ((n : Int) = (m : Int))))) [.fz (lg n ps), .fz (lg m qs)] := e_cmp (x := .fz (.int (n : Int))) (y := .fz (.int (m : Int))) rfl rfl rfl rfl rfl
  obtain ⟨q, hq, hi⟩ := cmp_eq (h := 11) ((pl_parts ps).mono (by omega)) ((pl_parts qs).mono (by omega)) (by decide)
  have c2 : ev (callN tbl k) (.cmp .eq (.fld (.var 0) [(0, 1)]) (.fld (.var 1) [(0, 1)])) [.fz (lg n ps), .fz (lg m qs)] = .ok (.fz (.bl q)) [.fz (lg n ps), .fz (lg m qs)] := e_cmp (x := .fz (.tup (dPs ps))) (y := .fz (.tup (dPs qs))) rfl rfl rfl rfl hq
  have c0 : ev (callN tbl k) (.bi (.isn 0) (.cons (.var 1) .nil)) [.fz (lg n ps), .fz (lg m qs)] = .ok (.fz (.bl true)) [.fz (lg n ps), .fz (lg m qs)] := e_bi1 (v := .fz (lg m qs)) rfl rfl rfl
  have e := e_andV (p := true) c0 (e_andV c1 c2)
  have hb : (true && (decide ((n : Int) = (m : Int)) && q)) = eqC (n, ps) (m, qs) := by
    unfold eqC
    rw [Bool.eq_iff_iff, decide_eq_true_iff, shown_eq (ri_prC ga) (ri_prC gb), Bool.true_and, Bool.and_eq_true, decide_eq_true_iff, hi]
    show _ ↔ D.lst [.int (n : Int), .tup (dPs ps)] = D.lst [.int (m : Int), .tup (dPs qs)]
    constructor
    · rintro ⟨h1, h2⟩
      rw [h1, h2]
    · intro h
      injection h with h
      injection h with h1 h
      injection h with h2 _
      injection h1 with h1
      exact ⟨h1, h2⟩
  rw [hb] at e
  exact call_fz ⟨2, 2, ir17⟩ (sq_rt (x_ret e))
theorem ok_ne6 (k : Nat) {c : Lc} {d : D} (h : biD (.isn 0) [d] = some (.fz (.bl false))) : callN tbl (k + 1) 17 [.fz (lgC c), .fz d] = some (.fz (.bl false), [.fz (lgC c), .fz d]) :=
  call_fz ⟨2, 2, ir17⟩ (ρ' := [.fz (lgC c), .fz d]) (sq_rt (x_ret (e_and (k := false) (e_bi1 (v := .fz d) rfl rfl h) (fun z => nomatch z) fun _ => rfl)))
theorem ok_ilg (k : Nat) {d : D} {b : Bool} (h : biD (.isn 0) [d] = some (.fz (.bl b))) : callN tbl (k + 1) 16 [.fz d] = some (.fz (.bl b), [.fz d]) :=
  call_fz ⟨1, 1, ir16⟩ (ρ' := [.fz d]) (sq_rt (x_ret (e_bi1 (v := .fz d) rfl rfl h)))
theorem ne_bb (b : Bool) : cmpD .ne (.bl b) (.bl b) = some false := by cases b <;> decide +kernel
theorem eq_bb (b : Bool) : cmpD .eq (.bl (!b)) (.bl b) = some false := by cases b <;> decide +kernel
abbrev sW (p : List D) (n : Nat) (k : Lk) (L : List Lc) (s3 s4 s5 s6 s7 s8 s9 : Sl) : Ev := [.ls .bor p, .fz (.int (n : Int)), .ls k (L.map lgC), s3, s4, s5, s6, s7, s8, s9]
theorem in_6 (Φ : Calls) {p : List D} {n : Nat} {L : List Lc} {a b : Lc} (ga : Gp a.1 a.2) (gb : Gp b.1 b.2) (e : Φ 17 [.fz (lgC a), .fz (lgC b)] = some (.fz (.bl (eqC a b)), [.fz (lgC a), .fz (lgC b)])) :
    (bnd (asgn Φ lt4_2 (lgC b)) fun _ => execs Φ lb4_2) (sW p n .lck L .un .un (.fz (lgC a)) .un .un .un .un) = .ok .nx (sW p n .lck L .un .un (.fz (lgC a)) .un .un .un .un) := by
  have rA : ev Φ (.bi .repr (.cons (.lst (.cons (.fld (.var 5) [(0, 0)]) (.cons (.fld (.var 5) [(0, 1)]) (.nil)))) (.nil))) (sW p n .lck L .un .un (.fz (lgC a)) (.fz (lgC b)) .un .un .un) = .ok (.fz (.str (toPy (prC a)).shown)) (sW p n .lck L .un .un (.fz (lgC a)) (.fz (lgC b)) .un .un .un) := e_bi1 (v := .fr [.int (a.1 : Int), .tup (dPs a.2)]) rfl rfl (rq_prC ga)
  have rB : ev Φ (.bi .repr (.cons (.lst (.cons (.fld (.var 6) [(0, 0)]) (.cons (.fld (.var 6) [(0, 1)]) (.nil)))) (.nil))) (sW p n .lck L .un .un (.fz (lgC a)) (.fz (lgC b)) .un .un .un) = .ok (.fz (.str (toPy (prC b)).shown)) (sW p n .lck L .un .un (.fz (lgC a)) (.fz (lgC b)) .un .un .un) := e_bi1 (v := .fr [.int (b.1 : Int), .tup (dPs b.2)]) rfl rfl (rq_prC gb)
  have S1 : exec Φ (.asg (.nm 7) (.cmp .eq (.bi .repr (.cons (.lst (.cons (.fld (.var 5) [(0, 0)]) (.cons (.fld (.var 5) [(0, 1)]) (.nil)))) (.nil))) (.bi .repr (.cons (.lst (.cons (.fld (.var 6) [(0, 0)]) (.cons (.fld (.var 6) [(0, 1)]) (.nil)))) (.nil))))) (sW p n .lck L .un .un (.fz (lgC a)) (.fz (lgC b)) .un .un .un) = .ok .nx (sW p n .lck L .un .un (.fz (lgC a)) (.fz (lgC b)) (.fz (.bl (eqC a b))) .un .un) :=
    x_asgD (e_cmp rA rB rfl rfl (show cmpD .eq (.str _) (.str _) = some (eqC a b) from rfl))
  have m : ev Φ (.meth (.var 5) [(0, 17)] [0, 1] (.val (.var 6) (.nil)) (.nil)) (sW p n .lck L .un .un (.fz (lgC a)) (.fz (lgC b)) (.fz (.bl (eqC a b))) .un .un) = .ok (.fz (.bl (eqC a b))) (sW p n .lck L .un .un (.fz (lgC a)) (.fz (lgC b)) (.fz (.bl (eqC a b))) .un .un) := e_meth1 (c := 0) (xs := [.int (a.1 : Int), .tup (dPs a.2)]) (x := .fz (lgC b)) rfl rfl e
  have c1 := e_cmp (o := .ne) (b := .var 7) (y := .fz (.bl (eqC a b))) m rfl rfl rfl (ne_bb _)
  have c2 := e_cmp (o := .eq) (b := .var 7) (y := .fz (.bl (eqC a b))) (e_not m rfl rfl) rfl rfl rfl (eq_bb _)
  exact bd (ρ1 := sW p n .lck L .un .un (.fz (lgC a)) (.fz (lgC b)) .un .un .un) rfl (sq S1 (sq (x_iff (e_orV (p := false) (q := false) c1 c2) rfl) (sq_end x_wip)))
def thL (c : Lc) : List D := [.non, .int 0, .str "", .tup [], .tup (dPs c.2), .tup [.int (c.1 : Int), .tup (dPs c.2)], .str (txP c.2), .str (rpL c.1 c.2), .lst [lgC c], .bl true, .emp [], .box 2 16 []]
theorem th_no (c : Lc) : ∀ d ∈ thL c, biD (.isn 0) [d] = some (.fz (.bl false)) := by
  intro d hd
  simp only [thL, List.mem_cons, List.not_mem_nil, or_false] at hd
  rcases hd with rfl | rfl | rfl | rfl | rfl | rfl | rfl | rfl | rfl | rfl | rfl | rfl <;> rfl
abbrev sT6 (p : List D) (n : Nat) (L : List Lc) (a : Lc) (k : Lk) (s9 : Sl) : Ev := [.ls .bor p, .fz (.int (n : Int)), .ls .lck (L.map lgC), .un, .un, .fz (lgC a), .un, .un, .ls k (thL a), s9]
theorem th_6 (Φ : Calls) {p : List D} {n : Nat} {L : List Lc} {a : Lc} {d : D} (e : Φ 17 [.fz (lgC a), .fz d] = some (.fz (.bl false), [.fz (lgC a), .fz d])) (e2 : Φ 16 [.fz d] = some (.fz (.bl false), [.fz d])) :
    (bnd (asgn Φ lt4_3 d) fun _ => execs Φ lb4_3) (sT6 p n L a .lck .un) = .ok .nx (sT6 p n L a .lck .un) := by
  have m : ev Φ (.meth (.var 5) [(0, 17)] [0, 1] (.val (.var 9) (.nil)) (.nil)) (sT6 p n L a .lck (.fz d)) = .ok (.fz (.bl false)) (sT6 p n L a .lck (.fz d)) := e_meth1 (c := 0) (xs := [.int (a.1 : Int), .tup (dPs a.2)]) (x := .fz d) rfl rfl e
  have c3 := e_cmp (Φ := Φ) (o := .notN) (a := .call 16 [0] (.val (.var 9) (.nil)) .nil) (b := .cst (.bl false)) (ρ := sT6 p n L a .lck (.fz d)) (y := .fz (.bl false)) (e_call1 (x := .fz d) rfl e2) rfl rfl rfl rfl
  exact bd (ρ1 := sT6 p n L a .lck (.fz d)) rfl (sq (x_iff (e_orV (p := false) (q := false) m (e_orV (p := false) (q := false) (e_not (e_not m rfl rfl) rfl rfl) c3)) rfl) (sq_end x_wip))
theorem ou_6 (k : Nat) {p : List D} {n : Nat} {L : List Lc} (hL : ∀ c ∈ L, Gp c.1 c.2) {a : Lc} (ha : a ∈ L) :
    (bnd (asgn (callN tbl (k + 7)) lt4_1 (lgC a)) fun _ => execs (callN tbl (k + 7)) lb4_1) (sW p n .lck L .un .un .un .un .un .un .un) = .ok .nx (sW p n .lck L .un .un .un .un .un .un .un) := by
  have ga := hL a ha
  have h1 := ok_shr k ga
  have h2 := ok_ilg (k + 6) (d := lgC a) (b := true) rfl
  have c1 : ev (callN tbl (k + 7)) (.not (.call 1 [0] (.val (.var 5) (.nil)) .nil)) (sW p n .lck L .un .un (.fz (lgC a)) .un .un .un .un) = .ok (.fz (.bl false)) (sW p n .lck L .un .un (.fz (lgC a)) .un .un .un .un) := e_not (e_call1 (x := .fz (lgC a)) rfl h1) rfl rfl
  have c2 := e_cmp (Φ := callN tbl (k + 7)) (o := .notN) (a := .call 16 [0] (.val (.var 5) (.nil)) .nil) (b := .cst (.bl true)) (ρ := sW p n .lck L .un .un (.fz (lgC a)) .un .un .un .un) (y := .fz (.bl true)) (e_call1 (x := .fz (lgC a)) rfl h2) rfl rfl rfl rfl
  have L1 := for_nxK (Φ := callN tbl (k + 7)) (t := lt4_2) (b := lb4_2) (i := 2) (k := .lck) (ρ := sW p n .lck L .un .un (.fz (lgC a)) .un .un .un .un) (ρ2 := sW p n .lck L .un .un (.fz (lgC a)) .un .un .un .un) lgC L (fun _ => sW p n .lck L .un .un (.fz (lgC a)) .un .un .un .un) fun done b rest hp => in_6 (callN tbl (k + 7)) ga (hL b (by rw [hp]; exact List.mem_append_right _ (List.mem_cons_self ..))) (ok_eq6 (k + 6) ga (hL b (by rw [hp]; exact List.mem_append_right _ (List.mem_cons_self ..))))
  have f0 : ev (callN tbl (k + 7)) (.fld (.var 5) [(0, 0)]) (sW p n .lck L .un .un (.fz (lgC a)) .un .un .un .un) = .ok (.fz (.int (a.1 : Int))) (sW p n .lck L .un .un (.fz (lgC a)) .un .un .un .un) := rfl
  have f1 : ev (callN tbl (k + 7)) (.fld (.var 5) [(0, 1)]) (sW p n .lck L .un .un (.fz (lgC a)) .un .un .un .un) = .ok (.fz (.tup (dPs a.2))) (sW p n .lck L .un .un (.fz (lgC a)) .un .un .un .un) := rfl
  have f2 : ev (callN tbl (k + 7)) (.meth (.var 5) [(0, 3)] [0] .nil .nil) (sW p n .lck L .un .un (.fz (lgC a)) .un .un .un .un) = .ok (.fz (.str (txP a.2))) (sW p n .lck L .un .un (.fz (lgC a)) .un .un .un .un) := e_meth0 (c := 0) (xs := [.int (a.1 : Int), .tup (dPs a.2)]) rfl (ok_str7 (k + 1) ga)
  have f3 : ev (callN tbl (k + 7)) (.meth (.var 5) [(0, 8)] [0] .nil .nil) (sW p n .lck L .un .un (.fz (lgC a)) .un .un .un .un) = .ok (.fz (.str (rpL a.1 a.2))) (sW p n .lck L .un .un (.fz (lgC a)) .un .un .un .un) := e_meth0 (c := 0) (xs := [.int (a.1 : Int), .tup (dPs a.2)]) rfl (ok_rep6 (k + 1) ga)
  have S8 : exec (callN tbl (k + 7)) (.asg (.nm 8) (.lst (.cons (.cst .non) (.cons (.cst (.int 0)) (.cons (.cst (.str "")) (.cons (.tup (.nil)) (.cons (.fld (.var 5) [(0, 1)]) (.cons (.tup (.cons (.fld (.var 5) [(0, 0)]) (.cons (.fld (.var 5) [(0, 1)]) (.nil)))) (.cons (.meth (.var 5) [(0, 3)] [0] .nil .nil) (.cons (.meth (.var 5) [(0, 8)] [0] .nil .nil) (.cons (.lst (.cons (.var 5) (.nil))) (.cons (.cst (.bl true)) (.cons (.cst (.emp [])) (.cons (.cst (.box 2 16 [])) (.nil))))))))))))))) (sW p n .lck L .un .un (.fz (lgC a)) .un .un .un .un) = .ok .nx (sT6 p n L a .own .un) :=
    x_asgL (ρ1 := sW p n .lck L .un .un (.fz (lgC a)) .un .un .un .un) (e_lst (es_cons (x := .fz .non) rfl (es_cons (x := .fz (.int 0)) rfl (es_cons (x := .fz (.str "")) rfl (es_cons (x := .fz (.tup [])) (e_tup es_nil) (es_cons f1 (es_cons (e_tup (es_cons f0 (es_cons f1 es_nil))) (es_cons f2 (es_cons f3 (es_cons (x := .fr [lgC a]) (e_lst (es_cons (x := .fz (lgC a)) rfl es_nil)) (es_cons (x := .fz (.bl true)) rfl (es_cons (x := .fz (.emp [])) rfl (es_cons (x := .fz (.box 2 16 [])) rfl es_nil)))))))))))))
  have L2 := for_nxK (Φ := callN tbl (k + 7)) (t := lt4_3) (b := lb4_3) (i := 8) (k := .own) (ρ := sT6 p n L a .own .un) (ρ2 := sT6 p n L a .own .un) (fun d : D => d) (thL a) (fun _ => sT6 p n L a .lck .un) (fun done d rest hp => by
    have hd := th_no a d (by rw [hp]; exact List.mem_append_right _ (List.mem_cons_self ..))
    exact th_6 (callN tbl (k + 7)) (ok_ne6 (k + 6) hd) (ok_ilg (k + 6) hd)) (by rw [List.map_id']; rfl) (by rw [List.map_id']; rfl) (by rw [List.map_id']; rfl) (by rw [List.map_id']; rfl)
  exact bd (ρ1 := sW p n .lck L .un .un (.fz (lgC a)) .un .un .un .un) rfl (sq (x_iff (e_orV (p := false) (q := false) c1 c2) rfl) (sq x_wip (sq L1 (sq S8 (sq x_wip (sq L2 (sq_end x_wip)))))))
end Q_bandlinks_k06_equality_and_text
namespace Q_bandlinks_k06_equality_and_text
open PySem L2 DL
theorem okp_up {n m M : Int} (h : n ≤ m) {p : Pt} (o : OkP n M p) : OkP m M p := by
  induction o with
  | lv a b => exact .lv a (Int.le_trans b h)
  | pr _ a b ih => exact .pr ih a b
theorem gp_up {n m : Nat} {ps : List Pt} (g : Gp n ps) (h : n ≤ m) (h2 : m ≤ 12) : Gp m ps := ⟨by have := g.n1; omega, h2, fun p hp => okp_up (by omega) (g.ok p hp), g.sz, g.dp⟩
theorem kx6 (Φ : Calls) (p p3 p4 : List D) (n r : Int) (T : D) (e : E) (he : ev Φ e [.ls .bor p, .fz (.int n), .ls .own [], .un, .un, .un, .un, .un, .un, .un] = .ok (.fz (.int r)) [.ls .bor p3, .fz (.int n), .ls .own [], .un, .un, .un, .un, .un, .un, .un]) (h : Φ 13 [.ls .bor p3, .fz (.int n), .fz (.int r), .fz (.int 5)] = some (.fz T, [.ls .bor p4, .fz (.int n), .fz (.int r), .fz (.int 5)])) :
    ev Φ (.call 13 [0, 1, 2, 3] (.ref (.var 0) (.val (.var 1) (.val e (.val (.cst (.int 5)) (.nil))))) .nil) [.ls .bor p, .fz (.int n), .ls .own [], .un, .un, .un, .un, .un, .un, .un] = .ok (.fz T) [.ls .bor p4, .fz (.int n), .ls .own [], .un, .un, .un, .un, .un, .un, .un] := by
  simp [he, h]
theorem kc6 (Φ : Calls) (p p2 L : List D) (n : Int) (P Q : D) (s4 s5 s6 s7 s8 s9 : Sl) (h : Φ 15 [.ls .bor p, .fz (.int n), .fz P] = some (.fz Q, [.ls .bor p2, .fz (.int n), .fz P])) :
    ev Φ (.call 15 [0, 1, 2] (.ref (.var 0) (.val (.var 1) (.val (.var 3) (.nil)))) .nil) [.ls .bor p, .fz (.int n), .ls .own L, .fz P, s4, s5, s6, s7, s8, s9] = .ok (.fz Q) [.ls .bor p2, .fz (.int n), .ls .own L, .fz P, s4, s5, s6, s7, s8, s9] := by
  simp [h]
theorem ok_right6 (k : Nat) {xs : List D} (h : Pool xs) : ∃ ys, callN tbl (k + 15) 4 [.ls .bor xs] = some (.fz (.bl true), [.ls .bor ys]) := by
  obtain ⟨z, p1, e1, z1, z2, q1⟩ := ok_height (k + 12) h (n := 11) (by decide) (by decide)
  obtain ⟨n, rfl⟩ : ∃ n : Nat, z = n := ⟨z.toNat, by omega⟩
  have n1 : 1 ≤ n := by omega
  have n2 : n ≤ 11 := by omega
  obtain ⟨a, p2, e2, a1, a2, q2⟩ := ok_draw (k + 13) q1 (n := 9) (by decide) (by decide)
  obtain ⟨b, p3, e3, b1, b2, q3⟩ := ok_draw (k + 13) q2 (n := 118) (by decide) (by decide)
  obtain ⟨c, p4, e4, c1, c2, q4⟩ := ok_draw (k + 13) q3 (n := 2) (by decide) (by decide)
  obtain ⟨r, hr, r1, r2⟩ : ∃ r : Int, atI [D.int a, D.int b] c = some (.int r) ∧ 0 ≤ r ∧ r ≤ 117 := by
    have : c = 0 ∨ c = 1 := by omega
    rcases this with rfl | rfl
    · exact ⟨a, rfl, by omega, by omega⟩
    · exact ⟨b, rfl, by omega, by omega⟩
  obtain ⟨ps, p5, e5, q5, ok, hz, hd⟩ := ok_parts (n := (n : Int)) (by omega) (by omega) 4 (k + 7) r q4 r1 (by omega)
  have g0 : Gp n ps := ⟨n1, by omega, ok, by omega, hd⟩
  have S1 : exec (callN tbl (k + 14)) (.par 1 2 (.call 12 [0, 1] (.ref (.var 0) (.val (.cst (.int 11)) (.nil))) .nil) (.lst (.nil))) [.ls .bor xs, .un, .un, .un, .un, .un, .un, .un, .un, .un] = .ok .nx [.ls .bor p1, .fz (.int (n : Int)), .ls .own [], .un, .un, .un, .un, .un, .un, .un] :=
    x_par (e_draw rfl e1) (e_lst es_nil) rfl rfl
  have d1 : ev (callN tbl (k + 14)) (.call 14 [0, 1] (.ref (.var 0) (.val (.cst (.int 9)) (.nil))) .nil) [.ls .bor p1, .fz (.int (n : Int)), .ls .own [], .un, .un, .un, .un, .un, .un, .un] = .ok (.fz (.int a)) [.ls .bor p2, .fz (.int (n : Int)), .ls .own [], .un, .un, .un, .un, .un, .un, .un] := e_draw rfl e2
  have d2 : ev (callN tbl (k + 14)) (.call 14 [0, 1] (.ref (.var 0) (.val (.cst (.int 118)) (.nil))) .nil) [.ls .bor p2, .fz (.int (n : Int)), .ls .own [], .un, .un, .un, .un, .un, .un, .un] = .ok (.fz (.int b)) [.ls .bor p3, .fz (.int (n : Int)), .ls .own [], .un, .un, .un, .un, .un, .un, .un] := e_draw rfl e3
  have d3 : ev (callN tbl (k + 14)) (.call 14 [0, 1] (.ref (.var 0) (.val (.cst (.int 2)) (.nil))) .nil) [.ls .bor p3, .fz (.int (n : Int)), .ls .own [], .un, .un, .un, .un, .un, .un, .un] = .ok (.fz (.int c)) [.ls .bor p4, .fz (.int (n : Int)), .ls .own [], .un, .un, .un, .un, .un, .un, .un] := e_draw rfl e4
  have S2 := x_asgD (i := 3) (kx6 (callN tbl (k + 14)) p1 p4 p5 n r _ _ (e_idxS (e_lst (es_cons d1 (es_cons d2 es_nil))) d3 rfl rfl hr) e5)
  obtain ⟨ρ1, el, p6, L, qs, rfl, q6, gq, gL6, hl⟩ := for_exR (Φ := callN tbl (k + 14)) (t := lt4_0) (b := lb4_0) (it := .rng1 (.cst (.int 6))) (ρ := sW p5 n .own [] (.fz (.tup (dPs ps))) .un .un .un .un .un .un) (fun i : Nat => .int (i : Int)) (List.range 6) (fun done ρ => ∃ p L ps, ρ = sW p n .own L (.fz (.tup (dPs ps))) .un .un .un .un .un .un ∧ Pool p ∧ Gp n ps ∧ (∀ c ∈ L, Gp c.1 c.2) ∧ L.length = done.length) (i_rng1 (q := 6) rfl (by decide)) ⟨p5, [], ps, rfl, q5, g0, (fun _ h => nomatch h), rfl⟩ fun done i rest ρ hp ⟨p, L, ps, hρ, pp, g, gL, hl⟩ => by
    subst hρ
    obtain ⟨qs, pA, eA, gA, qA⟩ := ok_chg (k + 8) g pp
    obtain ⟨x, pB, eB, _, _, qB⟩ := ok_draw (k + 13) qA (n := 6) (by decide) (by decide)
    have hd : done.length < 6 := by
      have := congrArg List.length hp
      rw [List.length_range, List.length_append, List.length_cons] at this
      omega
    have T1 : exec (callN tbl (k + 14)) (.asg (.nm 3) (.call 15 [0, 1, 2] (.ref (.var 0) (.val (.var 1) (.val (.var 3) (.nil)))) .nil)) (sW p n .own L (.fz (.tup (dPs ps))) (.fz (.int (i : Int))) .un .un .un .un .un) = .ok .nx (sW pA n .own L (.fz (.tup (dPs qs))) (.fz (.int (i : Int))) .un .un .un .un .un) := x_asgD (kc6 (callN tbl (k + 14)) p pA _ n _ _ _ _ _ _ _ _ eA)
    obtain ⟨m, hm, m1, m2⟩ : ∃ m : Nat, ev (callN tbl (k + 14)) (.bin .add (.var 1) (.bi .int1 (.cons (.cmp .eq (.call 14 [0, 1] (.ref (.var 0) (.val (.cst (.int 6)) (.nil))) .nil) (.cst (.int 0))) (.nil)))) (sW pA n .own L (.fz (.tup (dPs qs))) (.fz (.int (i : Int))) .un .un .un .un .un) = .ok (.fz (.int (m : Int))) (sW pB n .own L (.fz (.tup (dPs qs))) (.fz (.int (i : Int))) .un .un .un .un .un) ∧ n ≤ m ∧ m ≤ n + 1 := by
      have f1 : ev (callN tbl (k + 14)) (.cmp .eq (.call 14 [0, 1] (.ref (.var 0) (.val (.cst (.int 6)) (.nil))) .nil) (.cst (.int 0))) (sW pA n .own L (.fz (.tup (dPs qs))) (.fz (.int (i : Int))) .un .un .un .un .un) = .ok (.fz (.bl (decide (x = 0)))) (sW pB n .own L (.fz (.tup (dPs qs))) (.fz (.int (i : Int))) .un .un .un .un .un) := e_cmpS (y := .fz (.int 0)) (e_draw rfl eB) rfl rfl rfl rfl
      by_cases x0 : x = 0
      · rw [decide_eq_true x0] at f1
        exact ⟨n + 1, e_binS (x := .fz (.int (n : Int))) rfl (e_bi1 (v2 := .fz (.int 1)) f1 rfl rfl) rfl rfl rfl, by omega, by omega⟩
      · rw [decide_eq_false x0] at f1
        refine ⟨n, e_binS (x := .fz (.int (n : Int))) rfl (e_bi1 (v2 := .fz (.int 0)) f1 rfl rfl) rfl rfl ?_, by omega, by omega⟩
        show some (R.fz (D.int ((n : Int) + 0))) = _
        rw [Int.add_zero]
    have gm := gp_up gA m1 (by omega)
    obtain ⟨ss, ii⟩ := ok_init (n := (m : Int)) (Int.le_refl _) k (by omega) (by omega) gm.ok gm.sz gm.dp
    have mk : ev (callN tbl (k + 14)) (.make 0 2 [0, 1] (.val (.bin .add (.var 1) (.bi .int1 (.cons (.cmp .eq (.call 14 [0, 1] (.ref (.var 0) (.val (.cst (.int 6)) (.nil))) .nil) (.cst (.int 0))) (.nil)))) (.val (.var 3) (.nil))) (.val (.cst (.tup [])) (.nil))) (sW pA n .own L (.fz (.tup (dPs qs))) (.fz (.int (i : Int))) .un .un .un .un .un) = .ok (.fz (lgC (m, qs))) (sW pB n .own L (.fz (.tup (dPs qs))) (.fz (.int (i : Int))) .un .un .un .un .un) := e_makeK (al := [.val (.int (m : Int)), .val (.tup (dPs qs))]) (kl := [.val (.tup [])]) (ds := [.int (m : Int), .tup (dPs qs)]) (as2S hm rfl) (as18 rfl) rfl ii
    have T2 : exec (callN tbl (k + 14)) (.ex (.app 2 (.make 0 2 [0, 1] (.val (.bin .add (.var 1) (.bi .int1 (.cons (.cmp .eq (.call 14 [0, 1] (.ref (.var 0) (.val (.cst (.int 6)) (.nil))) .nil) (.cst (.int 0))) (.nil)))) (.val (.var 3) (.nil))) (.val (.cst (.tup [])) (.nil))))) (sW pA n .own L (.fz (.tup (dPs qs))) (.fz (.int (i : Int))) .un .un .un .un .un) = .ok .nx (sW pB n .own (L ++ [(m, qs)]) (.fz (.tup (dPs qs))) (.fz (.int (i : Int))) .un .un .un .un .un) := by
      have := x_appF (i := 2) (xs0 := L.map lgC) (xs := L.map lgC) mk rfl (by rw [List.length_map, sz_lt]; omega)
      refine this.trans ?_
      show Out.ok Fl.nx [.ls .bor pB, _, .ls .own (L.map lgC ++ [lgC (m, qs)]), _, _, _, _, _, _, _] = Out.ok Fl.nx [.ls .bor pB, _, .ls .own ((L ++ [(m, qs)]).map lgC), _, _, _, _, _, _, _]
      rw [List.map_append]
      rfl
    exact ⟨_, bd (ρ1 := sW p n .own L (.fz (.tup (dPs ps))) (.fz (.int (i : Int))) .un .un .un .un .un) rfl (sq T1 (sq T2 (sq_end x_wip))), pB, L ++ [(m, qs)], qs, rfl, qB, gA, fun c hc => by
      rcases List.mem_append.mp hc with hc | hc
      · exact gL c hc
      · rw [List.mem_singleton] at hc; subst hc; exact gm, by rw [List.length_append, List.length_append, hl]; rfl⟩
  have L1 := for_nxK (Φ := callN tbl (k + 14)) (t := lt4_1) (b := lb4_1) (i := 2) (k := .own) (ρ := sW p6 n .own L .un .un .un .un .un .un .un) (ρ2 := sW p6 n .own L .un .un .un .un .un .un .un) lgC L (fun _ => sW p6 n .lck L .un .un .un .un .un .un .un) fun done a rest hp => ou_6 (k + 7) gL6 (by rw [hp]; exact List.mem_append_right _ (List.mem_cons_self ..))
  exact ⟨p6, call_fz ⟨1, 10, ir4⟩ (sq S1 (sq S2 (sq el (sq x_wip (sq L1 (sq_rt (x_ret rfl)))))))⟩
def shD (c : Lc) : D := .tup [.int (c.1 : Int), .tup (dPs c.2), .str (txP c.2)]
theorem lw_6 (k : Nat) {A : D} {L : List D} {c : Lc} (g : Gp c.1 c.2) : (bnd (asgn (callN tbl (k + 14)) lt0_0 (shD c)) fun _ => execs (callN tbl (k + 14)) lb0_0) [.fz A, .ls .lck L, .un, .un, .un, .un] = .ok .nx [.fz A, .ls .lck L, .un, .un, .un, .un] := by
  have mk := mk7 k g (ρ := [.fz A, .ls .lck L, .fz (.int (c.1 : Int)), .fz (.tup (dPs c.2)), .fz (.str (txP c.2)), .un]) (a := .var 2) (b := .var 3) rfl rfl
  have c1 := e_cmp (o := .ne) (b := .var 4) (y := .fz (.str (txP c.2))) (e_meth0 (ms := [(0, 3)]) (fi := 3) (c := 0) (xs := [.int (c.1 : Int), .tup (dPs c.2)]) mk (ok_str7 (k + 8) g)) rfl rfl rfl (show cmpD .ne (.str _) (.str _) = some false from congrArg (fun b => some (!b)) (decide_eq_true rfl))
  have c2 := e_not (e_call1 mk (ok_shr (k + 7) g)) rfl rfl
  exact bd (ρ1 := [.fz A, .ls .lck L, .fz (.int (c.1 : Int)), .fz (.tup (dPs c.2)), .fz (.str (txP c.2)), .un]) rfl (sq (x_iff (e_orV (p := false) (q := false) c1 c2) rfl) (sq_end x_wip))
theorem lwc_6 (Φ : Calls) (A : D) (i : Nat) (x : Int) (ps ys L : List D) (e1 : Φ 6 [.fz A, .fz (.int (i : Int))] = some (.fz (.int x), [.fz A, .fz (.int (i : Int))])) (e2 : Φ 5 [.fz (.int x)] = some (.fr ps, [.fz (.int x)])) (e3 : Φ 4 [.ls .bor ps] = some (.fz (.bl true), [.ls .bor ys])) :
    compStep Φ [5] (.nm 5) .none (.call 4 [0] (.ref (.call 5 [0] (.val (.call 6 [0, 1] (.val (.var 0) (.val (.var 5) (.nil))) .nil) (.nil)) .nil) (.nil)) .nil) (.int (i : Int)) [.fz A, .ls .own L, .un, .un, .un, .un] = .ok (some (.bl true)) [.fz A, .ls .own L, .un, .un, .un, .un] := by
  simp [compStep, e1, e2, e3]
def d1L : List D := []
def d2L : List D := [.int 2, .tup [.tup [.int 4, .int 1], .int 3], .int 3]
def d3L : List D := [.int 10, .tup [.tup [.tup [.tup [], .int 2], .int 1], .int 1000]]
theorem g_1 : gpB 1 d1L = true ∧ txL d1L = "-" := by decide +kernel
theorem g_2 : gpB 4 d2L = true ∧ txL d2L = "2 (4 1)x3 3" := by decide +kernel
theorem g_3 : gpB 12 d3L = true ∧ txL d3L = "10 ((-)x2 1)x1000" := by decide +kernel
def cs3 : List D := [.tup [.int 1, .tup d1L, .str "-"], .tup [.int 4, .tup d2L, .str "2 (4 1)x3 3"], .tup [.int 12, .tup d3L, .str "10 ((-)x2 1)x1000"]]
theorem lw_12 (Φ : Calls) (A : D) : ∃ s : S × S, True ∧ ir0 = .cons s.1 (.cons s.2 (match ir0 with | .cons _ (.cons _ r) => r | r => r)) ∧ exec Φ s.1 [.fz A, .un, .un, .un, .un, .un] = .ok .nx [.fz A, .ls .own (cs3.take 2), .un, .un, .un, .un] ∧ exec Φ s.2 [.fz A, .ls .own (cs3.take 2), .un, .un, .un, .un] = .ok .nx [.fz A, .ls .own cs3, .un, .un, .un, .un] :=
  ⟨(_, _), trivial, rfl, by kernel_rfl, by kernel_rfl⟩
theorem math (ns : List Int) (hl : ns.length ≤ 63) : ∃ as', callN tbl 16 0 [.fz (.scr (ns.map D.int))] = some (.fz (.bl true), as') := by
  obtain ⟨P1, a1, b1, t1⟩ := gp_tx g_1.1
  obtain ⟨P2, a2, b2, t2⟩ := gp_tx g_2.1
  obtain ⟨P3, a3, b3, t3⟩ := gp_tx g_3.1
  let C : List Lc := [(1, P1), (4, P2), (12, P3)]
  have hC : cs3 = C.map shD := by
    show [_, _, _] = [D.tup [.int ((1 : Nat) : Int), .tup (dPs P1), .str (txP P1)], D.tup [.int ((4 : Nat) : Int), .tup (dPs P2), .str (txP P2)], D.tup [.int ((12 : Nat) : Int), .tup (dPs P3), .str (txP P3)]]
    rw [a1, a2, a3, t1, t2, t3, g_1.2, g_2.2, g_3.2]
    rfl
  have gC : ∀ c ∈ C, Gp c.1 c.2 := by
    intro c hc
    simp only [C, List.mem_cons, List.not_mem_nil, or_false] at hc
    rcases hc with rfl | rfl | rfl
    · exact b1
    · exact b2
    · exact b3
  obtain ⟨s, _, hs, S1, S2⟩ := lw_12 (callN tbl 15) (.scr (ns.map .int))
  rw [hC] at S1 S2
  have L := for_nxK (Φ := callN tbl 15) (t := lt0_0) (b := lb0_0) (i := 1) (k := .own) (ρ := [.fz (.scr (ns.map .int)), .ls .own (C.map shD), .un, .un, .un, .un]) (ρ2 := [.fz (.scr (ns.map .int)), .ls .own (C.map shD), .un, .un, .un, .un]) shD C (fun _ => [.fz (.scr (ns.map .int)), .ls .lck (C.map shD), .un, .un, .un, .un]) fun done c rest hp => lw_6 1 (gC c (by rw [hp]; exact List.mem_append_right _ (List.mem_cons_self ..)))
  have c2 := e_comp (Φ := callN tbl 15) (own := [5]) (tg := .nm 5) (co := .none) (e := .call 4 [0] (.ref (.call 5 [0] (.val (.call 6 [0, 1] (.val (.var 0) (.val (.var 5) (.nil))) .nil) (.nil)) .nil) (.nil)) .nil) (ρ := [.fz (.scr (ns.map D.int)), .ls .own (C.map shD), .un, .un, .un, .un]) (it := .rng1 (.bi .max2 (.cons (.cst (.int 2)) (.cons (.bi .min2 (.cons (.bi .len (.cons (.var 0) (.nil))) (.cons (.cst (.int 6)) (.nil)))) (.nil))))) (fun i : Nat => .int (i : Int)) (List.range (lawN (ns.map D.int).length 6)) (fun _ => .bl true) (i_rng1 (e_bi2 rfl (e_bi2 (e_bi1 rfl rfl rfl) rfl rfl rfl lawN_min) rfl rfl lawN_max) (by unfold lawN; omega)) (by rw [List.length_range, sz_le]; unfold lawN; omega) fun i hi => by
    have hi := List.mem_range.mp hi
    obtain ⟨x, ec⟩ := ok_cell 14 ns i (by unfold lawN at hi; omega)
    obtain ⟨ps, ep, pp⟩ := ok_pool 14 x
    obtain ⟨ys, er⟩ := ok_right6 0 pp
    exact lwc_6 _ _ i x ps ys _ ec ep er
  have R : execs (callN tbl 15) ir0 [.fz (.scr (ns.map .int)), .un, .un, .un, .un, .un] = .ok (.rt (.fz (.bl true))) [.fz (.scr (ns.map .int)), .ls .own (C.map shD), .un, .un, .un, .un] := by
    rw [hs]
    exact sq S1 (sq S2 (sq L (sq_rt (x_ret (e_bi1 c2 rfl (all_true _))))))
  exact ⟨_, call_fz ⟨1, 6, ir0⟩ R⟩
end Q_bandlinks_k06_equality_and_text
namespace Q_bandlinks_k06_equality_and_text
open PySem PySem.Spec PyProof.Rows L2 DL
theorem facts {P : Program} {w : World} {K : PySem.W.Frag} {h : Heap} {mg : Str → Option Value} {fz : Addr} {k : Nat} (X : K.In h) (G : h.Ns mainGlobals mg) (hz : mg "law" = some (.ref fz)) (c : SaysX faL fbL fnL K) (ct : ∀ p ∈ csL, TabOf K h p) :
    ∃ fd : FuncData, (∀ (s : Shared) (v : Value), BindsTo s fd ⟨[v], []⟩ [("_law_script", v)]) ∧ ∀ base : Heap, K.In base → base.Ns mainGlobals mg → BltAt mg base → FnG P w K mg base L2.CX0 (2 * k) fz fd ["_law_script"] (spD K (callN tbl k) 0) := by
  have D := c.d
  obtain ⟨fd0, F0⟩ := funW0 (K := K) (x := "law") (q := "law") (st := st0) (f := He.fAd K ("law", none)) (D.def_ 0 (d := hd0) rfl)
  obtain ⟨fd1, F1⟩ := funW0 (K := K) (x := "_law_shown_right") (q := "_law_shown_right") (st := st1) (f := He.fAd K ("_law_shown_right", none)) (D.def_ 1 (d := hd1) rfl)
  obtain ⟨fd2, dv2, F2, E2⟩ := funWd (K := K) (x := "__init__") (q := "Log.__init__") (st := st2) (f := He.fAd K ("Log", some "__init__")) (D.def_ 2 (d := hd2) rfl) (by intro z; cases z) (.cons (unitB_ok (c.b 0 (f := .unit ("Log", some "__init__") 0) rfl)) .nil)
  obtain ⟨fd3, F3⟩ := funW0 (K := K) (x := "__str__") (q := "Log.__str__") (st := st3) (f := He.fAd K ("Log", some "__str__")) (D.def_ 3 (d := hd3) rfl)
  obtain ⟨fd4, F4⟩ := funW0 (K := K) (x := "_law_right") (q := "_law_right") (st := st4) (f := He.fAd K ("_law_right", none)) (D.def_ 4 (d := hd4) rfl)
  obtain ⟨fd5, F5⟩ := funW0 (K := K) (x := "_law_pool") (q := "_law_pool") (st := st5) (f := He.fAd K ("_law_pool", none)) (D.def_ 5 (d := hd5) rfl)
  obtain ⟨fd6, F6⟩ := funW0 (K := K) (x := "_law_cell") (q := "_law_cell") (st := st6) (f := He.fAd K ("_law_cell", none)) (D.def_ 6 (d := hd6) rfl)
  obtain ⟨fd7, F7⟩ := funW0 (K := K) (x := "_law_text") (q := "_law_text") (st := st7) (f := He.fAd K ("_law_text", none)) (D.def_ 7 (d := hd7) rfl)
  obtain ⟨fd8, F8⟩ := funW0 (K := K) (x := "__repr__") (q := "Log.__repr__") (st := st8) (f := He.fAd K ("Log", some "__repr__")) (D.def_ 8 (d := hd8) rfl)
  obtain ⟨fd9, F9⟩ := funW0 (K := K) (x := "is_level_count") (q := "is_level_count") (st := st9) (f := He.fAd K ("is_level_count", none)) (D.def_ 9 (d := hd9) rfl)
  obtain ⟨fd10, F10⟩ := funW0 (K := K) (x := "first_invalid") (q := "first_invalid") (st := st10) (f := He.fAd K ("first_invalid", none)) (D.def_ 10 (d := hd10) rfl)
  obtain ⟨fd11, F11⟩ := funW0 (K := K) (x := "parts_text") (q := "parts_text") (st := st11) (f := He.fAd K ("parts_text", none)) (D.def_ 11 (d := hd11) rfl)
  obtain ⟨fd12, F12⟩ := funW0 (K := K) (x := "_law_levels") (q := "_law_levels") (st := st12) (f := He.fAd K ("_law_levels", none)) (D.def_ 12 (d := hd12) rfl)
  obtain ⟨fd13, F13⟩ := funW0 (K := K) (x := "_law_parts") (q := "_law_parts") (st := st13) (f := He.fAd K ("_law_parts", none)) (D.def_ 13 (d := hd13) rfl)
  obtain ⟨fd14, F14⟩ := funW0 (K := K) (x := "_law_draw") (q := "_law_draw") (st := st14) (f := He.fAd K ("_law_draw", none)) (D.def_ 14 (d := hd14) rfl)
  obtain ⟨fd15, F15⟩ := funW0 (K := K) (x := "_law_changed") (q := "_law_changed") (st := st15) (f := He.fAd K ("_law_changed", none)) (D.def_ 15 (d := hd15) rfl)
  obtain ⟨fd16, F16⟩ := funW0 (K := K) (x := "is_log") (q := "is_log") (st := st16) (f := He.fAd K ("is_log", none)) (D.def_ 16 (d := hd16) rfl)
  obtain ⟨fd17, F17⟩ := funW0 (K := K) (x := "__eq__") (q := "Log.__eq__") (st := st17) (f := He.fAd K ("Log", some "__eq__")) (D.def_ 17 (d := hd17) rfl)
  obtain ⟨fd18, F18⟩ := funW0 (K := K) (x := "is_between") (q := "is_between") (st := st18) (f := He.fAd K ("is_between", none)) (D.def_ 18 (d := hd18) rfl)
  obtain ⟨fd19, F19⟩ := funW0 (K := K) (x := "measure_part") (q := "measure_part") (st := st19) (f := He.fAd K ("measure_part", none)) (D.def_ 19 (d := hd19) rfl)
  obtain ⟨fd20, F20⟩ := funW0 (K := K) (x := "_law_size") (q := "_law_size") (st := st20) (f := He.fAd K ("_law_size", none)) (D.def_ 20 (d := hd20) rfl)
  obtain ⟨fd21, F21⟩ := funW0 (K := K) (x := "_law_times") (q := "_law_times") (st := st21) (f := He.fAd K ("_law_times", none)) (D.def_ 21 (d := hd21) rfl)
  obtain ⟨fd22, F22⟩ := funW0 (K := K) (x := "is_whole") (q := "is_whole") (st := st22) (f := He.fAd K ("is_whole", none)) (D.def_ 22 (d := hd22) rfl)
  obtain ⟨fd23, F23⟩ := funW0 (K := K) (x := "is_level") (q := "is_level") (st := st23) (f := He.fAd K ("is_level", none)) (D.def_ 23 (d := hd23) rfl)
  obtain ⟨fd24, F24⟩ := funW0 (K := K) (x := "measure") (q := "measure") (st := st24) (f := He.fAd K ("measure", none)) (D.def_ 24 (d := hd24) rfl)
  have e := hz.symm.trans (He.glo_ok X G (c.f 0 (f := .glo "law") rfl))
  cases e
  let fa : Nat → Addr := fun j => [He.fAd K ("law", none), He.fAd K ("_law_shown_right", none), He.fAd K ("Log", some "__init__"), He.fAd K ("Log", some "__str__"), He.fAd K ("_law_right", none), He.fAd K ("_law_pool", none), He.fAd K ("_law_cell", none), He.fAd K ("_law_text", none), He.fAd K ("Log", some "__repr__"), He.fAd K ("is_level_count", none), He.fAd K ("first_invalid", none), He.fAd K ("parts_text", none), He.fAd K ("_law_levels", none), He.fAd K ("_law_parts", none), He.fAd K ("_law_draw", none), He.fAd K ("_law_changed", none), He.fAd K ("is_log", none), He.fAd K ("Log", some "__eq__"), He.fAd K ("is_between", none), He.fAd K ("measure_part", none), He.fAd K ("_law_size", none), He.fAd K ("_law_times", none), He.fAd K ("is_whole", none), He.fAd K ("is_level", none), He.fAd K ("measure", none)].getD j 0
  let fd : Nat → FuncData := fun j => [fd0, fd1, fd2, fd3, fd4, fd5, fd6, fd7, fd8, fd9, fd10, fd11, fd12, fd13, fd14, fd15, fd16, fd17, fd18, fd19, fd20, fd21, fd22, fd23, fd24].getD j fd0
  let dv : Nat → Value := fun j => [.none, .none, dv2, .none, .none, .none, .none, .none, .none, .none, .none, .none, .none, .none, .none, .none, .none, .none, .none, .none, .none, .none, .none, .none, .none].getD j .none
  let ca : Nat → Addr := fun j => [He.ga K "Log"].getD j 0
  have nA0 : ∀ f ∈ cFlds 0, (He.Fa.noat (cName 0) f).ok K = true := fun f hf => by
    simp only [cFlds, List.mem_cons, List.not_mem_nil, or_false] at hf
    rcases hf with rfl | rfl
    · exact (c.f 24 (f := .noat "Log" "levels") rfl)
    · exact (c.f 25 (f := .noat "Log" "parts") rfl)
  have M : Fx K mg fa fd ca dv := ⟨F0, He.glo_ok X G (c.f 0 (f := .glo "law") rfl), F1, He.glo_ok X G (c.f 1 (f := .glo "_law_shown_right") rfl), F2, E2, F3, He.meth_ok (c.f 2 (f := .meth "Log" "__str__") rfl), F4, He.glo_ok X G (c.f 3 (f := .glo "_law_right") rfl), F5, He.glo_ok X G (c.f 4 (f := .glo "_law_pool") rfl), F6, He.glo_ok X G (c.f 5 (f := .glo "_law_cell") rfl), F7, He.glo_ok X G (c.f 6 (f := .glo "_law_text") rfl), F8, He.meth_ok (c.f 7 (f := .meth "Log" "__repr__") rfl), F9, He.glo_ok X G (c.f 8 (f := .glo "is_level_count") rfl), F10, He.glo_ok X G (c.f 9 (f := .glo "first_invalid") rfl), F11, He.glo_ok X G (c.f 10 (f := .glo "parts_text") rfl), F12, He.glo_ok X G (c.f 11 (f := .glo "_law_levels") rfl), F13, He.glo_ok X G (c.f 12 (f := .glo "_law_parts") rfl), F14, He.glo_ok X G (c.f 13 (f := .glo "_law_draw") rfl), F15, He.glo_ok X G (c.f 14 (f := .glo "_law_changed") rfl), F16, He.glo_ok X G (c.f 15 (f := .glo "is_log") rfl), F17, He.meth_ok (c.f 16 (f := .meth "Log" "__eq__") rfl), F18, He.glo_ok X G (c.f 17 (f := .glo "is_between") rfl), F19, He.glo_ok X G (c.f 18 (f := .glo "measure_part") rfl), F20, He.glo_ok X G (c.f 19 (f := .glo "_law_size") rfl), F21, He.glo_ok X G (c.f 20 (f := .glo "_law_times") rfl), F22, He.glo_ok X G (c.f 21 (f := .glo "is_whole") rfl), F23, He.glo_ok X G (c.f 22 (f := .glo "is_level") rfl), F24, He.glo_ok X G (c.f 23 (f := .glo "measure") rfl), clsF_ok (c := 0) (c.f 26 (f := .glo "Log") rfl) (c.f 27 (f := .cls "Log") rfl) nA0, He.mkr_ok (c.f 28 (f := .mkr "Log") rfl), isiF_ok (c.b 1 (f := .isi "Log") rfl), He.glo_ok X G (c.f 26 (f := .glo "Log") rfl), neF_ok (c.b 2 (f := .ne "Log") rfl), fnt_ok (c.b 3 (f := .fnt ("is_log", none)) rfl), He.free_ok X G (c.f 29 (f := .free "abs") rfl), He.free_ok X G (c.f 30 (f := .free "all") rfl), He.free_ok X G (c.f 31 (f := .free "bool") rfl), He.free_ok X G (c.f 32 (f := .free "divmod") rfl), He.free_ok X G (c.f 33 (f := .free "enumerate") rfl), He.free_ok X G (c.f 34 (f := .free "int") rfl), He.free_ok X G (c.f 35 (f := .free "isinstance") rfl), He.free_ok X G (c.f 36 (f := .free "len") rfl), He.free_ok X G (c.f 37 (f := .free "max") rfl), He.free_ok X G (c.f 38 (f := .free "min") rfl), He.free_ok X G (c.f 39 (f := .free "range") rfl), He.free_ok X G (c.f 40 (f := .free "repr") rfl), He.free_ok X G (c.f 41 (f := .free "str") rfl), He.free_ok X G (c.f 42 (f := .free "sum") rfl), He.free_ok X G (c.f 43 (f := .free "tuple") rfl), He.int_ok X G (c.f 44 (f := .int "MAX_LEVELS" 12) rfl), He.int_ok X G (c.f 45 (f := .int "MAX_DEPTH" 5) rfl), He.int_ok X G (c.f 46 (f := .int "MAX_PARTS" 120) rfl), He.int_ok X G (c.f 47 (f := .int "MAX_TIMES" 1000000000000000000000000000000) rfl), He.str_ok X G (c.f 48 (f := .str "NOTHING" "-") rfl)⟩
  exact ⟨fd0, fun s v => by obtain ⟨oc, od, kv, dc, pm, an, cd, ct, sl, rfl, _, _⟩ := F0.ex; exact .of_eq rfl, fun base _ _ _ => tab M k 0⟩
end Q_bandlinks_k06_equality_and_text
open PySem PySem.W PyProof.Rows
set_option maxHeartbeats 0 in
theorem PySem.Challenge.cw_bandlinks_k06_equality_and_text_holds : PySem.Challenge.rw_bandlinks_k06_equality_and_text.Holds := by
  w_on; o_law
  refine HandSHeadRun.head_any (r := OpenLaw.row PySem.Challenge.rw_bandlinks_k06_equality_and_text) (q := Q_bandlinks_k06_equality_and_text.viewQ) (H := Q_bandlinks_k06_equality_and_text.hookR) (ob := Q_bandlinks_k06_equality_and_text.obR) (M := 20000) (loose := Q_bandlinks_k06_equality_and_text.looseN) (d := HandSHeadRun.topDef (OpenLaw.row PySem.Challenge.rw_bandlinks_k06_equality_and_text).prog 36) (kwd := []) Q_bandlinks_k06_equality_and_text.ob_eq (by kernel_rfl) (fun s => by kernel_rfl) Q_bandlinks_k06_equality_and_text.runR (by kernel_rfl) (by kernel_rfl) (by kernel_rfl) (by rfl) (by first | assumption | decide +kernel) (by decide +kernel) ⟨rfl, rfl, rfl, rfl, rfl, by decide +kernel⟩ ?hw ?hc
  case hw => w_witness2
  case hc =>
    refine DL.end_walkE (l := PySem.Challenge.rw_bandlinks_k06_equality_and_text) (n := 63) (m := 2 * 16) (k := 16) (fi := 0) (T := Q_bandlinks_k06_equality_and_text.tbl) (x := "_law_script") rfl (by decide) (by kernel_rfl) ⟨rfl, by decide, by decide⟩ ?F (fun ns hl => Q_bandlinks_k06_equality_and_text.math ns hl)
    intro w mg fa h Y G hmg0
    obtain ⟨K, KX, c, ct⟩ := Y
    have hmg : mg ("law" : PySem.Str) = some (.ref fa) := by
      have e : (HandSHeadRun.topDef (OpenLaw.row PySem.Challenge.rw_bandlinks_k06_equality_and_text).prog 36).name = ("law" : PySem.Str) := by kernel_rfl
      rw [← e]
      exact hmg0
    obtain ⟨fd, hb, hF⟩ := Q_bandlinks_k06_equality_and_text.facts KX G hmg c ct
    exact ⟨K, fd, KX, (fun _ z => nomatch z), hb, hF⟩
