import PyProof.Rows.All
import Wide.All
import OpenK.AllK
import Wide.FinOn
import HandS.Defaults
import HandS.Head0
import HandS.Head1
import HandS.Head2
import HandS.HeadHook1
import HandS.HeadHook2
import HandS.ForMost
import HandS.Zip
import HandS.Rev
import KE.GoesEnum
import KE.KDictZip
import HandS.SetFor
import HandS.TupMul
import HandS.TupLe
import HandS.Style
import HandS.NoneIn
import HandS.WideBits
import HandS.Iter
import KE.GoesMore
import KE.GoesZip
import PyProof.StrBlock2
import HandS.TupAny
import HandS.IsInst
import HandS.SortInts
import HandS.Flow
import HandS.Conv
import HandS.Deep
import HandS.Text
import HandS.Wide
import HandS.Lambda
import KE.KTupSum
import KE.DataMinMax
import KE.SortData
import KE.GoesEnumKw
import HandS.Words
import PyProof.InstNe
import PyProof.Rows.Range3
import HandS.RaiseMore
import HandS.Dict
import HandS.Star
import PyProof.CollectIter
import PyProof.WalksMore
import HandS.SlotsOwn
import PyProof.ListNew
import HandS.FStr
import HandS.Exc
import HandS.ExcOwn
import HandS.ExcField
import PyProof.ExcBaseAll.ValueError
import PyProof.ExcBaseAll.LookupError
import PyProof.ExcBaseAll.ArithmeticError
import HandS.TryOnly
import HandS.ExcIs
import KE.KTryMore
import HandS.HotCalls
import HandS.ExcInit
import PyProof.Conv_bool
import HandS.OwnEq
import HandS.DictEq
import PyProof.Rows.ReprOcc
import PySem.Challenge.RW_bandlinks_k07_logs_are_formatted
set_option Elab.async false
set_option linter.all false
set_option maxRecDepth 100000
set_option maxHeartbeats 4000000
section
set_option autoImplicit false
namespace DL
open PySem PySem.Spec PyProof.Rows L2
/-- the program's errors: their names, their fields -/
def xName : Nat → Str
  | 0 => "InvalidLevels" | 1 => "InvalidLevel" | 2 => "InvalidLog" | 3 => "InvalidTimes" | 4 => "InvalidText" | 5 => "InvalidRack" | 6 => "InvalidCounts" | 7 => "InvalidBand" | 8 => "InvalidLinks"
  | 9 => "InvalidBytes" | 10 => "InvalidNumber" | 11 => "InvalidGrowth" | 12 => "InvalidPairs" | 13 => "InvalidIndex" | 14 => "InvalidAction" | 15 => "InvalidLine" | 16 => "NotALog" | 17 => "NotLinks"
  | 18 => "LevelsDiffer" | 19 => "Busy" | 20 => "NothingToUndo" | 21 => "TooLong" | 22 => "TooManyParts" | 23 => "TooDeep" | 24 => "TooLarge" | _ => "TooManyEntries"
def xFlds : Nat → List Str
  | 0 => ["levels"] | 1 => ["level"] | 2 => ["index"] | 3 => ["times"] | 4 => ["text"] | 5 => ["value"] | 6 => ["index"] | 7 => ["low", "high"] | 8 => ["index"]
  | 9 => ["data"] | 10 => ["number"] | 11 => ["index"] | 12 => ["index"] | 13 => ["index"] | 14 => ["index"] | 15 => ["line"] | 16 => ["value"] | 17 => ["value"]
  | 18 => ["levels"] | 19 => [] | 20 => [] | 21 => ["found"] | 22 => ["found"] | 23 => ["found"] | 24 => ["levels"] | _ => ["found"]
/-- facts beside those of the library's hook -/
inductive Fb where
  | isi (x : Str) | ne (x : Str) | unit (f : Str × Option Str) (i : Nat) | ali (x y : Str)
  /-- an error's class x with the field f over the base b; what its instances are asked; its kinship -/
  | err (x f : Str) (b : Nat) | exi (x : Str) | kit (x y : Str) (b : Bool) | kitB (x : Str) (t : String) (b : Bool)
  /-- the c-th error's kinship with all; the errors' names -/
  | kin (c : Nat) | nms
def exT : Nat → List Value
  | 0 => [.type "ValueError", .type "Exception", .type "BaseException", .type "object"]
  | 1 => [.type "LookupError", .type "Exception", .type "BaseException", .type "object"]
  | _ => [.type "ArithmeticError", .type "Exception", .type "BaseException", .type "object"]
def exN : Nat → String
  | 0 => "ValueError.__new__" | 1 => "LookupError.__new__" | _ => "ArithmeticError.__new__"
def mroB (T : List Value) : List Value → Bool
  | .ref _ :: r => mroB T r
  | l => l == T
def errB (K : PySem.W.Frag) (C : Addr) (T : List Value) (newId : String) : Bool := match K.lookup C with
  | some ⟨.type "type", _, .cls cd, sl⟩ => (match cd.mro, sl.toList with
    | .ref C' :: bm, [_, _, _, _, some (.builtin n), _] => C' == C && n == newId && !cd.hasDel && cd.hasDict && mroB T bm
    | _, _ => false)
  | _ => false
def unitB (K : PySem.W.Frag) (a : Addr) : Bool := match K.lookup a with
  | some ⟨.type c, _, .seq its _, _⟩ => decide (c = "tuple") && decide (its.size = 0)
  | _ => false
def Fb.ok (K : PySem.W.Frag) : Fb → Bool
  | .isi x => He.eqO (PySem.W.findIn K (.ref (He.ga K x)) "__class__") (some (some (.builtin "object.__class__"))) && (decide (PySem.W.specialIn K (.builtin "object.__class__") "__get__" = some (some (.builtin "getset_descriptor.__get__"))) &&
      (decide (PySem.W.takesIn K (.builtin "object.__class__") = some true) && (decide (PySem.W.mroIn K (He.ga K x) (.type "object") = some true) && (["NoneType", "bool", "int", "str", "tuple", "list", "dict"] : List String).all fun t => decide (PySem.W.kitOne K (.type t) (.ref (He.ga K x)) = some false))))
  | .ne x => He.eqO (PySem.W.findIn K (.ref (He.ga K x)) "__ne__") (some (some (.builtin "object.__ne__"))) && decide (PySem.W.mroIn K (He.ga K x) (.type "object") = some true)
  | .unit f i => unitB K (He.dflAt f i K)
  | .ali x y => He.eqO (PySem.W.nsIn K mainGlobals x) (some (some (.ref (He.ga K y))))
  | .err x f b => He.eqO (PySem.W.nsIn K mainGlobals x) (some (some (.ref (He.ga K x)))) && (errB K (He.ga K x) (exT b) (exN b) && (He.eqO (PySem.W.findIn K (.ref (He.ga K x)) "__setattr__") (some (some (.builtin "object.__setattr__"))) && (He.eqO (PySem.W.findIn K (.ref (He.ga K x)) f) (some none) &&
      (He.eqO (PySem.W.findIn K (.ref (He.ga K x)) "__init__") (some (some (.ref (He.fAd K (x, some "__init__"))))) && (decide (PySem.W.typeIn K (.ref (He.fAd K (x, some "__init__"))) = some (.type "function")) && (PySem.W.keepIn K (.ref (He.ga K x)) && (decide (PySem.W.subIn K (.ref (He.ga K x)) (.type "BaseException") = some true) &&
        (decide (PySem.W.typeIn K (.ref (He.ga K x)) = some (.type "type")) && decide (PySem.W.exmOne K (.ref (He.ga K x)) (.ref (He.ga K x)) = some true)))))))))
  | .exi x => He.eqO (PySem.W.findIn K (.ref (He.ga K x)) "__getattribute__") (some (some (.builtin "BaseException.__getattribute__"))) && (He.eqO (PySem.W.findIn K (.ref (He.ga K x)) "__getattr__") (some none) && (decide (PySem.W.subIn K (.ref (He.ga K x)) (.type "BaseException") = some true) && (PySem.W.hasDictIn K (He.ga K x) &&
      (He.eqO (PySem.W.findIn K (.ref (He.ga K x)) "__class__") (some (some (.builtin "object.__class__"))) && (decide (PySem.W.specialIn K (.builtin "object.__class__") "__get__" = some (some (.builtin "getset_descriptor.__get__"))) &&
        (decide (PySem.W.takesIn K (.builtin "object.__class__") = some true) && decide (PySem.W.mroIn K (He.ga K x) (.type "object") = some true)))))))
  | .kit x y b => decide (PySem.W.kitOne K (.ref (He.ga K x)) (.ref (He.ga K y)) = some b)
  | .kitB x t b => decide (PySem.W.kitOne K (.ref (He.ga K x)) (.type t) = some b)
  | .kin c => ((List.range 26).all fun j => decide (PySem.W.kitOne K (.ref (He.ga K (xName c))) (.ref (He.ga K (xName j))) = some (j == c))) && (decide (PySem.W.exmAny K (.ref (He.ga K (xName c))) [.ref (He.ga K "BandError"), .ref (He.ga K "StateError"), .ref (He.ga K "SizeError")] = some true) &&
      (((xFlds c).all fun f => He.eqO (PySem.W.findIn K (.ref (He.ga K (xName c))) f) (some none)) && (decide (PySem.W.kitOne K (.ref (He.ga K (xName c))) (.ref (He.ga K "BandError")) = some (decide (c < 18))) && (decide (PySem.W.kitOne K (.ref (He.ga K (xName c))) (.ref (He.ga K "StateError")) = some (decide (17 < c) && decide (c < 21))) &&
        (decide (PySem.W.kitOne K (.ref (He.ga K (xName c))) (.ref (He.ga K "SizeError")) = some (decide (20 < c))) && (decide (PySem.W.kitOne K (.ref (He.ga K (xName c))) (.type "ValueError") = some (decide (c < 18))) && (decide (PySem.W.kitOne K (.ref (He.ga K (xName c))) (.type "LookupError") = some (decide (17 < c) && decide (c < 21))) &&
          (decide (PySem.W.kitOne K (.ref (He.ga K (xName c))) (.type "ArithmeticError") = some (decide (20 < c))) && He.eqO (PySem.W.nsIn K mainGlobals (xName c)) (some (some (.ref (He.ga K (xName c)))))))))))))
  | .nms => (List.range 26).all fun j => He.eqO (PySem.W.nsIn K mainGlobals (xName j)) (some (some (.ref (He.ga K (xName j)))))
def obsX (fa : List He.Fa) (fb : List Fb) (fn : List He.DefD) (K : PySem.W.Frag) : He.AlD := ((fb.all fun f => f.ok K) && ((fa.all fun f => f.ok K) && fn.all fun d => d.ok K), fn.map fun d => He.fnW K d.at_)
def SaysX (fa : List He.Fa) (fb : List Fb) (fn : List He.DefD) (K : PySem.W.Frag) : Prop := obsX fa fb fn K = He.valD fn
/-- the code object of the def at f -/
def CdK (K : PySem.W.Frag) (f c : Addr) : Prop := ∃ (oc : Value) (od : Option Addr) (F : FuncData) (sl : Array (Option Value)), K.lookup f = some ⟨oc, od, .func F, sl⟩ ∧ F.code = .ref c
/-- the empty table at P of the code object of the def d -/
def TabOf (K : PySem.W.Frag) (h : Heap) (p : (Str × Option Str) × Addr) : Prop := K.lookup p.2 = none ∧ h.get? p.2 = some (PySem.W.tabObj #[]) ∧ ∃ c, CdK K (He.fAd K p.1) c ∧ PySem.W.codeHdIn K c p.2 = true
def isTabB : Option Obj → Bool
  | some ⟨.none, none, .fields v, sl⟩ => v.size == 0 && sl.size == 0
  | _ => false
def tabB (K : PySem.W.Frag) (g : Addr → Option Obj) (p : (Str × Option Str) × Addr) : Bool := (K.lookup p.2).isNone && (isTabB (g p.2) && match K.lookup (He.fAd K p.1) with
  | some ⟨_, _, .func F, _⟩ => (match F.code with | .ref c => PySem.W.codeHdIn K c p.2 | _ => false)
  | _ => false)
theorem tabB_ok {K : PySem.W.Frag} {h : Heap} {p : (Str × Option Str) × Addr} (e : tabB K h.get? p = true) : TabOf K h p := by
  obtain ⟨e1, e⟩ := He.ba e
  obtain ⟨e2, e3⟩ := He.ba e
  have e0 : K.lookup p.2 = none := by
    cases q : K.lookup p.2 with
    | none => rfl
    | some o => rw [q] at e1; cases e1
  refine ⟨e0, ?_, ?_⟩
  · generalize h.get? p.2 = o at e2
    unfold isTabB at e2
    split at e2
    · obtain ⟨z1, z2⟩ := He.ba e2
      rename_i v sl
      have z1 : v = #[] := Array.eq_empty_of_size_eq_zero (by simpa using z1)
      have z2 : sl = #[] := Array.eq_empty_of_size_eq_zero (by simpa using z2)
      subst z1 z2
      rfl
    · cases e2
  · split at e3
    · rename_i oc od F sl q
      split at e3
      · rename_i c q2
        exact ⟨c, ⟨oc, od, F, sl, q, q2⟩, e3⟩
      · cases e3
    · cases e3
def obsXG (as : List Addr) (fa : List He.Fa) (fb : List Fb) (fn : List He.DefD) (cs : List ((Str × Option Str) × Addr)) (g : Addr → Option Obj) : He.AlD := ((cs.all fun p => tabB (He.frG g as) g p) && (obsX fa fb fn (He.frG g as)).1, (obsX fa fb fn (He.frG g as)).2)
def hookX (as : List Addr) (fa : List He.Fa) (fb : List Fb) (fn : List He.DefD) (cs : List ((Str × Option Str) × Addr)) : PySem.W.Hook where
  α := He.AlD
  obs := fun s => obsXG as fa fb fn cs s.heap.get?
  val := fun _ => He.valD fn
  says := fun _ h => ∃ K : PySem.W.Frag, K.In h ∧ SaysX fa fb fn K ∧ ∀ p ∈ cs, TabOf K h p
  of := fun _ s e => by
    obtain ⟨z1, z2⟩ := He.ba (show ((cs.all fun p => tabB (He.frG s.heap.get? as) s.heap.get? p) && (obsX fa fb fn (He.frG s.heap.get? as)).1) = true from congrArg (fun z : He.AlD => z.1) e)
    have z3 : (obsX fa fb fn (He.frG s.heap.get? as)).2 = (He.valD fn).2 := by
      have e2 := congrArg (fun z : He.AlD => z.2) e
      exact e2
    exact ⟨_, He.frG_in, Prod.ext z2 z3, fun p hp => tabB_ok (List.all_eq_true.mp z1 p hp)⟩
  keeps := fun _ _ _ ⟨K, hK, c, t⟩ k => ⟨K, PySem.W.Frag.In.keeps hK k, c, fun p hp => ⟨(t p hp).1, k _ _ (t p hp).2.1, (t p hp).2.2⟩⟩
theorem obsXG_eq {as : List Addr} {fa : List He.Fa} {fb : List Fb} {fn : List He.DefD} {cs : List ((Str × Option Str) × Addr)} {g : Addr → Option Obj} {s : Shared} (h : ∀ a, g a = s.heap.get? a) : obsXG as fa fb fn cs g = (hookX as fa fb fn cs).obs s := by
  have e : g = s.heap.get? := funext h
  rw [e] <;> rfl
end DL
end
namespace Q_bandlinks_k07_logs_are_formatted
open PySem PySem.Spec PyProof.Rows L2 DL
def top (i : Nat) : Stmt := PySem.Challenge.pw_bandlinks_k07_logs_are_formatted.main.body.getD i (.Pass ⟨0, 0, 0, 0⟩)
abbrev st0 : Stmt := top 74
abbrev st1 : Stmt := top 72
abbrev st2 : Stmt := top 73
abbrev st3 : Stmt := top 59
abbrev st4 : Stmt := top 58
abbrev st5 : Stmt := top 70
abbrev st6 : Stmt := top 61
abbrev st7 : Stmt := top 64
abbrev st8 : Stmt := top 60
abbrev st9 : Stmt := top 69
abbrev st10 : Stmt := top 71
abbrev st11 : Stmt := inClass (top 52) 0
abbrev st12 : Stmt := top 56
abbrev st13 : Stmt := inClass (top 52) 2
abbrev st14 : Stmt := top 63
abbrev st15 : Stmt := top 62
abbrev st16 : Stmt := inClass (top 52) 3
abbrev st17 : Stmt := top 39
abbrev st18 : Stmt := top 44
abbrev st19 : Stmt := top 54
abbrev st20 : Stmt := top 50
abbrev st21 : Stmt := top 38
abbrev st22 : Stmt := top 42
abbrev st23 : Stmt := top 53
abbrev st24 : Stmt := top 37
abbrev st25 : Stmt := top 40
abbrev st26 : Stmt := top 43
abbrev stx16 : Stmt := inClass (top 19) 0
abbrev strca : Stmt := top 68
abbrev strkd : Stmt := top 65
abbrev strfl : Stmt := top 66
abbrev strfo : Stmt := top 67
abbrev rowR : PySem.W.OpenRow := PySem.W.OpenLaw.row PySem.Challenge.rw_bandlinks_k07_logs_are_formatted
abbrev viewQ : Program := PySem.W.view rowR.prog [74]
def looseN : List PySem.Str := (["_wall", "BandError", "InvalidLevels", "InvalidLevel", "InvalidLog", "InvalidTimes", "InvalidText", "InvalidRack", "InvalidCounts", "InvalidBand", "InvalidLinks", "InvalidBytes", "InvalidNumber", "InvalidGrowth", "InvalidPairs", "InvalidIndex", "InvalidAction", "InvalidLine", "NotALog", "NotLinks", "StateError", "LevelsDiffer", "Busy", "NothingToUndo", "SizeError", "TooLong", "TooManyParts", "TooDeep", "TooLarge", "TooManyEntries"] : List PySem.Str) ++ (["MAX_LEVELS", "MAX_TIMES", "MAX_PARTS", "MAX_DEPTH", "MAX_EXPANDED", "is_whole", "is_between", "is_level_count", "is_level", "measure_part", "measure", "first_invalid", "length_of", "levels_in", "expand", "NOTHING", "parts_text", "Log", "is_log", "check_log", "format_log", "_law_cell", "_law_pool", "_law_draw", "_law_levels", "_law_times", "_law_size", "_law_parts", "_law_kind", "_law_fields"] : List PySem.Str) ++ (["_law_other_fields", "_law_caught", "_law_text", "_law_one_right", "_law_others_right", "_law_fixed_right", "_law_right"] : List PySem.Str)
def hd0 : He.DefD := ⟨("law", none), "law", "law", defArgs st0, defBody st0, defScope st0, [], []⟩
def hd1 : He.DefD := ⟨("_law_fixed_right", none), "_law_fixed_right", "_law_fixed_right", defArgs st1, defBody st1, defScope st1, [], []⟩
def hd2 : He.DefD := ⟨("_law_right", none), "_law_right", "_law_right", defArgs st2, defBody st2, defScope st2, [], []⟩
def hd3 : He.DefD := ⟨("_law_pool", none), "_law_pool", "_law_pool", defArgs st3, defBody st3, defScope st3, [], []⟩
def hd4 : He.DefD := ⟨("_law_cell", none), "_law_cell", "_law_cell", defArgs st4, defBody st4, defScope st4, [], []⟩
def hd5 : He.DefD := ⟨("_law_one_right", none), "_law_one_right", "_law_one_right", defArgs st5, defBody st5, defScope st5, [], []⟩
def hd6 : He.DefD := ⟨("_law_levels", none), "_law_levels", "_law_levels", defArgs st6, defBody st6, defScope st6, [], []⟩
def hd7 : He.DefD := ⟨("_law_parts", none), "_law_parts", "_law_parts", defArgs st7, defBody st7, defScope st7, [], []⟩
def hd8 : He.DefD := ⟨("_law_draw", none), "_law_draw", "_law_draw", defArgs st8, defBody st8, defScope st8, [], []⟩
def hd9 : He.DefD := ⟨("_law_text", none), "_law_text", "_law_text", defArgs st9, defBody st9, defScope st9, [], []⟩
def hd10 : He.DefD := ⟨("_law_others_right", none), "_law_others_right", "_law_others_right", defArgs st10, defBody st10, defScope st10, [], []⟩
def hd11 : He.DefD := ⟨("Log", some "__init__"), "__init__", "Log.__init__", defArgs st11, defBody st11, defScope st11, [.adr (He.dflAt ("Log", some "__init__") 0)], []⟩
def hd12 : He.DefD := ⟨("format_log", none), "format_log", "format_log", defArgs st12, defBody st12, defScope st12, [], []⟩
def hd13 : He.DefD := ⟨("Log", some "__str__"), "__str__", "Log.__str__", defArgs st13, defBody st13, defScope st13, [], []⟩
def hd14 : He.DefD := ⟨("_law_size", none), "_law_size", "_law_size", defArgs st14, defBody st14, defScope st14, [], []⟩
def hd15 : He.DefD := ⟨("_law_times", none), "_law_times", "_law_times", defArgs st15, defBody st15, defScope st15, [], []⟩
def hd16 : He.DefD := ⟨("Log", some "__repr__"), "__repr__", "Log.__repr__", defArgs st16, defBody st16, defScope st16, [], []⟩
def hd17 : He.DefD := ⟨("is_level_count", none), "is_level_count", "is_level_count", defArgs st17, defBody st17, defScope st17, [], []⟩
def hd18 : He.DefD := ⟨("first_invalid", none), "first_invalid", "first_invalid", defArgs st18, defBody st18, defScope st18, [], []⟩
def hd19 : He.DefD := ⟨("check_log", none), "check_log", "check_log", defArgs st19, defBody st19, defScope st19, [], []⟩
def hd20 : He.DefD := ⟨("parts_text", none), "parts_text", "parts_text", defArgs st20, defBody st20, defScope st20, [], []⟩
def hd21 : He.DefD := ⟨("is_between", none), "is_between", "is_between", defArgs st21, defBody st21, defScope st21, [], []⟩
def hd22 : He.DefD := ⟨("measure_part", none), "measure_part", "measure_part", defArgs st22, defBody st22, defScope st22, [], []⟩
def hd23 : He.DefD := ⟨("is_log", none), "is_log", "is_log", defArgs st23, defBody st23, defScope st23, [], []⟩
def hd24 : He.DefD := ⟨("is_whole", none), "is_whole", "is_whole", defArgs st24, defBody st24, defScope st24, [], []⟩
def hd25 : He.DefD := ⟨("is_level", none), "is_level", "is_level", defArgs st25, defBody st25, defScope st25, [], []⟩
def hd26 : He.DefD := ⟨("measure", none), "measure", "measure", defArgs st26, defBody st26, defScope st26, [], []⟩
def hdx16 : He.DefD := ⟨("NotALog", some "__init__"), "__init__", "NotALog.__init__", defArgs stx16, defBody stx16, defScope stx16, [], []⟩
def hdrca : He.DefD := ⟨("_law_caught", none), "_law_caught", "_law_caught", defArgs strca, defBody strca, defScope strca, [], []⟩
def hdrkd : He.DefD := ⟨("_law_kind", none), "_law_kind", "_law_kind", defArgs strkd, defBody strkd, defScope strkd, [], []⟩
def hdrfl : He.DefD := ⟨("_law_fields", none), "_law_fields", "_law_fields", defArgs strfl, defBody strfl, defScope strfl, [], []⟩
def hdrfo : He.DefD := ⟨("_law_other_fields", none), "_law_other_fields", "_law_other_fields", defArgs strfo, defBody strfo, defScope strfo, [], []⟩
def fnL : List He.DefD := ([hd0, hd1, hd2, hd3, hd4, hd5, hd6, hd7, hd8, hd9, hd10, hd11, hd12, hd13, hd14, hd15, hd16, hd17, hd18, hd19, hd20, hd21, hd22, hd23, hd24, hd25, hd26, hdx16, hdrca, hdrkd] : List He.DefD) ++ ([hdrfl, hdrfo] : List He.DefD)
def faL : List He.Fa := ([.glo "law", .glo "_law_fixed_right", .glo "_law_right", .glo "_law_pool", .glo "_law_cell", .glo "_law_one_right", .glo "_law_levels", .glo "_law_parts", .glo "_law_draw", .glo "_law_text", .glo "_law_others_right", .glo "format_log", .meth "Log" "__str__", .glo "_law_size", .glo "_law_times", .meth "Log" "__repr__", .glo "is_level_count", .glo "first_invalid", .glo "check_log", .glo "parts_text", .glo "is_between", .glo "measure_part", .glo "is_log", .glo "is_whole", .glo "is_level", .glo "measure", .noat "Log" "levels", .noat "Log" "parts", .glo "Log", .cls "Log"] : List He.Fa) ++ ([.mkr "Log", .glo "NotALog", .glo "BandError", .glo "StateError", .glo "SizeError", .glo "_law_caught", .glo "_law_kind", .glo "_law_fields", .glo "_law_other_fields", .free "ArithmeticError", .free "LookupError", .free "ValueError", .free "abs", .free "all", .free "bool", .free "divmod", .free "enumerate", .free "int", .free "isinstance", .free "len", .free "list", .free "max", .free "min", .free "range", .free "repr", .free "str", .free "sum", .free "tuple", .int "MAX_LEVELS" 12, .int "MAX_DEPTH" 5] : List He.Fa) ++ ([.int "MAX_PARTS" 120, .int "MAX_TIMES" 1000000000000000000000000000000, .str "NOTHING" "-"] : List He.Fa)
def fbL : List Fb := ([.unit ("Log", some "__init__") 0, .isi "Log", .err "NotALog" "value" 0, .kin 16, .exi "NotALog", .nms] : List Fb)
def csL : List ((Str × Option Str) × Addr) := [(("_law_others_right", none), 843)]
def asL : List PySem.Addr := ([3, 31, 51, 70, 89, 108, 127, 146, 165, 184, 203, 222, 241, 260, 279, 298, 317, 336, 355, 374, 386, 406, 418, 430, 442, 462, 481, 500, 519, 538, 547, 554, 561, 568, 575, 582, 589, 617, 727, 738] : List PySem.Addr) ++ ([745, 752, 759, 766, 773, 780, 787, 792, 799, 806, 813, 820, 827, 834, 841, 848, 853, 860, 865, 30, 354, 546, 553, 560, 567, 574, 581, 588, 616, 726, 737, 744, 751, 758, 765, 772, 779, 786, 791, 798] : List PySem.Addr) ++ ([805, 812, 819, 826, 833, 840, 852, 859, 864, 352, 633, 647, 654, 351, 632, 626, 646, 653, 625, 847] : List PySem.Addr)
abbrev hookR : PySem.W.Hook := hookX asL faL fbL fnL csL
def obR (s : PySem.W.SharedT) : He.AlD := obsXG asL faL fbL fnL csL (HandSHeadRun.getT s)
theorem ob_eq (s : PySem.W.SharedT) : obR s = hookR.obs s.abs := obsXG_eq (HandSHeadRun.getT_eq s)
set_option maxHeartbeats 0 in
theorem runR (w : World) : HandSHeadRun.RunEq rowR viewQ hookR obR 20000 looseN w := by
  intro os
  kernel_rfl
end Q_bandlinks_k07_logs_are_formatted
section
set_option autoImplicit false
/-! DLu: enumerate(zip(t, u)) of two tuples. -/
namespace DL
open PySem L2
end DL
end
section
set_option autoImplicit false
/-! DLu2: enumerate(zip(t, u)): the walk. -/
namespace DL
open PySem L2
def IteZ (K : PySem.W.Frag) (a b : Addr) : L2.It :=
  ⟨fun i H => ∃ (xs ys : List V) (x y : V), SqT K H a xs ∧ SqT K H b ys ∧ xs[i]? = some x ∧ ys[i]? = some y,
    fun i H v H' => ∃ P T x y, v = .ref T ∧ P ≠ T ∧ H P = none ∧ H T = none ∧ H' = upd (upd H P (.tup [x, y])) T (.tup [.int ((i : Nat) : Int), .ref P]) ∧ (∀ xs, SqT K H a xs → xs[i]? = some x) ∧ ∀ ys, SqT K H b ys → ys[i]? = some y,
    fun i H => ∃ xs ys : List V, SqT K H a xs ∧ SqT K H b ys ∧ (xs.length ≤ i ∨ ys.length ≤ i)⟩
end DL
end
section
set_option autoImplicit false
/-! DLv: set of a list of ints, sorted. -/
namespace DL
open PySem L2 PySem.Spec PyProof.Rows
end DL
end
section
set_option autoImplicit false
/-! DLv2: tuple * int where nothing or the tuple itself comes; tuples backwards; lists and tuples unpacked; is of truths. -/
namespace L2
open PySem PySem.Spec PyProof.Rows
/-! ### t * k: t itself -/
theorem tuple_mul1 (l : Addr) (items : Array Value) (n : Nat) (dd : Option Addr) (sl : Array (Option Value)) (x : Int) (u : Tok) (c0 : (decide (x < -(2 ^ 63)) || decide (x ≥ 2 ^ 63)) = false) (c1 : (items.isEmpty || x == 1) = true) :
    Meets (Builtin.«tuple.__mul__» ⟨[.ref l, .int x u], []⟩) (fun _ R s => s.heap.get? l = some { cls := .type "tuple", dict := dd, data := .seq items n, slots := sl } ∧
      R (.ok (.ret (Value.ref l))) s) :=
  .of_wp fun prog w A R s h => by
    obtain ⟨hp, g, d, tk, os⟩ := s
    obtain ⟨hl, h⟩ := h
    have f1 := AutoSeq1.idx_int
    wp_walk using wpAny_loadPart' hl
    repeat (first
      | (refine wpAny_ite_false (decide_eq_false (by rw [c0]; exact Bool.false_ne_true)) ?_; wp_walk using wpAny_loadPart' hl)
      | (refine wpAny_ite_true (decide_eq_true (by rw [c1])) ?_; wp_walk using wpAny_loadPart' hl))
    all_goals exact ⟨_, rfl, h⟩
theorem tuple_mul0 (l : Addr) (items : Array Value) (n : Nat) (dd : Option Addr) (sl : Array (Option Value)) (x : Int) (u : Tok) (c0 : (decide (x < -(2 ^ 63)) || decide (x ≥ 2 ^ 63)) = false) (c1 : (items.isEmpty || x == 1) = false) (c2 : (decide (x ≤ 0) || items.isEmpty) = true) :
    Meets (Builtin.«tuple.__mul__» ⟨[.ref l, .int x u], []⟩) (fun _ R s => s.heap.get? l = some { cls := .type "tuple", dict := dd, data := .seq items n, slots := sl } ∧
      R (.ok (.ret (Value.ref s.heap.objs.size))) { s with heap := s.heap.push { cls := Value.type "tuple", data := Data.seq #[] }, toks := s.toks }) :=
  .of_wp fun prog w A R s h => by
    obtain ⟨hp, g, d, tk, os⟩ := s
    obtain ⟨hl, h⟩ := h
    have f1 := AutoSeq1.idx_int
    wp_walk using wpAny_loadPart' hl
    repeat (first
      | (refine wpAny_ite_false (decide_eq_false (by rw [c0]; exact Bool.false_ne_true)) ?_; wp_walk using wpAny_loadPart' hl)
      | (refine wpAny_ite_false (decide_eq_false (by rw [c1]; exact Bool.false_ne_true)) ?_; wp_walk using wpAny_loadPart' hl)
      | (refine wpAny_ite_true (decide_eq_true (by rw [c2])) ?_; wp_walk using wpAny_loadPart' hl))
    all_goals exact ⟨_, rfl, h⟩
/-- t * k, where t is empty or k is 1: t itself -/
def rRep1 (K : PySem.W.Frag) : R2 := fun x y H Q => ∃ l k xs, x = .ref l ∧ y = .int k ∧ SqT K H l xs ∧ (xs = [] ∨ k = 1) ∧ -(2 ^ 63) ≤ k ∧ k < 2 ^ 63 ∧ Q (.ref l) H
/-- t * k, k at most 0: an empty tuple -/
def rRep0 (K : PySem.W.Frag) : R2 := fun x y H Q => ∃ l k xs, x = .ref l ∧ y = .int k ∧ SqT K H l xs ∧ xs ≠ [] ∧ k ≤ 0 ∧ -(2 ^ 63) ≤ k ∧ ∀ p, H p = none → Q (.ref p) (upd H p (.tup []))
section
variable {X : Cx}
theorem op_rep1 : OpR X (binaryOp .Mult) (rRep1 X.K) := by
  intro pins s σ H x y v u Q I rx ry h
  obtain ⟨l, k, xs, rfl, rfl, hT, hne, h1, h2, q⟩ := h
  cases rx
  obtain ⟨t, rfl⟩ := ry
  obtain ⟨its, r, ⟨⟨cls, dd, data, sl⟩, ho, hc, n, hd⟩, hs⟩ := I.tuple hT
  simp only at hc hd
  subst hc hd
  have hle : its.length = xs.length := r.length.symm
  have c0 : (decide (k < -(2 ^ 63)) || decide (k ≥ 2 ^ 63)) = false := by
    rw [decide_eq_false (by omega), decide_eq_false (by omega)] <;> rfl
  have c1 : (its.toArray.isEmpty || k == 1) = true := by
    rcases hne with rfl | rfl
    · have : its = [] := List.eq_nil_of_length_eq_zero hle
      subst this; rfl
    · rw [beq_self_eq_true, Bool.or_true]
  refine wpAny_binaryOp_repeat_ref (T := "tuple") (U := "int") (by decide) ⟨_, ho, rfl⟩ (fun s' => typeIs_int s' k t) noFill_tuple_mul F.fills_int_mul F.slot_int_rmul repeat_tuple F.slot_int_index.lookup
    (call_meets F.slot_int_rmul (typeIs_int s k t) F.entry_int_rmul (F.args_int_rmul_2 _ _) (int_rmul_tuple k t l its.toArray n dd sl)
      ⟨ho, rfl, ⟨_, ho, rfl⟩, call_meets F.slot_tuple_mul ⟨_, ho, rfl⟩ F.entry_tuple_mul (F.args_tuple_mul_2 _ _) (tuple_mul1 l its.toArray n dd sl k t c0 c1) ⟨ho, ?_⟩⟩)
  exact ⟨.ref l, H, I, rfl, q⟩
theorem op_rep0 : OpR X (binaryOp .Mult) (rRep0 X.K) := by
  intro pins s σ H x y v u Q I rx ry h
  obtain ⟨l, k, xs, rfl, rfl, hT, hne, h1, h2, q⟩ := h
  cases rx
  obtain ⟨t, rfl⟩ := ry
  obtain ⟨its, r, ⟨⟨cls, dd, data, sl⟩, ho, hc, n, hd⟩, hs⟩ := I.tuple hT
  simp only at hc hd
  subst hc hd
  have hle : its.length = xs.length := r.length.symm
  have c0 : (decide (k < -(2 ^ 63)) || decide (k ≥ 2 ^ 63)) = false := by
    rw [decide_eq_false (by omega), decide_eq_false (by omega)] <;> rfl
  have hi : its.toArray.isEmpty = false := by
    cases its with
    | nil => exact absurd (List.eq_nil_of_length_eq_zero (by simpa using hle.symm)) hne
    | cons a b => rfl
  have c1 : (its.toArray.isEmpty || k == 1) = false := by
    rw [hi, Bool.false_or]
    exact beq_eq_false_iff_ne.mpr (by omega)
  have c2 : (decide (k ≤ 0) || its.toArray.isEmpty) = true := by rw [decide_eq_true h1, Bool.true_or]
  refine wpAny_binaryOp_repeat_ref (T := "tuple") (U := "int") (by decide) ⟨_, ho, rfl⟩ (fun s' => typeIs_int s' k t) noFill_tuple_mul F.fills_int_mul F.slot_int_rmul repeat_tuple F.slot_int_index.lookup
    (call_meets F.slot_int_rmul (typeIs_int s k t) F.entry_int_rmul (F.args_int_rmul_2 _ _) (int_rmul_tuple k t l its.toArray n dd sl)
      ⟨ho, rfl, ⟨_, ho, rfl⟩, call_meets F.slot_tuple_mul ⟨_, ho, rfl⟩ F.entry_tuple_mul (F.args_tuple_mul_2 _ _) (tuple_mul0 l its.toArray n dd sl k t c0 c1 c2) ⟨ho, ?_⟩⟩)
  refine ⟨.ref s.heap.objs.size, _, I.laid (t' := s.toks) (o := .tup []) (fun b ob q => Heap.get?_push_of_some _ q) (Nat.le_refl _) ?_, rfl, q _ (I.hok.fresh (Nat.le_refl _))⟩
  exact ⟨Nat.zero_le _, [], .nil, IsTup.new _ _⟩
end
end L2
/-! ### t[::-1] -/
namespace L2
open PySem PySem.Spec PyProof.Rows
section
variable {X : Cx}
/-- one of two targets' readings -/
theorem pg_or {e : Expr} {t u : TG} (h1 : PG X e t) (h2 : PG X e u) : PG X e (fun v σ H Q => t v σ H Q ∨ u v σ H Q) := ⟨fun pins s σ H v w Q I r hw => hw.elim (h1.run pins s σ H v w Q I r) (h2.run pins s σ H v w Q I r)⟩
end
end L2
end
section
set_option autoImplicit false
/-! DLzz: zip of three lists. -/
namespace DL
open PySem PySem.Spec PyProof.Rows L2
/-- the lists at a, b, c as they stand at each turn, the items in new triples -/
def Itz3 (K : PySem.W.Frag) (a b c : Addr) : It :=
  ⟨fun i H => ∃ (xs ys zs : List V) (x y u : V), SqL K H a xs ∧ SqL K H b ys ∧ SqL K H c zs ∧ xs[i]? = some x ∧ ys[i]? = some y ∧ zs[i]? = some u,
    fun i H v H' => ∃ T x y u, v = .ref T ∧ H T = none ∧ H' = upd H T (.tup [x, y, u]) ∧ (∀ xs, SqL K H a xs → xs[i]? = some x) ∧ (∀ ys, SqL K H b ys → ys[i]? = some y) ∧ ∀ zs, SqL K H c zs → zs[i]? = some u,
    fun i H => ∃ xs ys zs : List V, SqL K H a xs ∧ SqL K H b ys ∧ SqL K H c zs ∧ (xs.length ≤ i ∨ ys.length ≤ i ∨ zs.length ≤ i)⟩
end DL
end
section
set_option autoImplicit false
/-! DLa: data values, the small language, its functional meaning. -/
namespace DL
open PySem L2
/-- data: a Python value without the heap -/
inductive D where
  | non | bl (b : Bool) | int (i : Int) | str (s : Str) | tup (xs : List D) | lst (xs : List D) | scr (xs : List D)
  /-- an instance of the program's class c, its fields in order -/
  | obj (c : Nat) (xs : List D)
  /-- a dict without entries that nobody changes -/
  | emp
/-- the classes: names, fields -/
def cName : Nat → Str
  | 0 => "Log" | _ => "Links"
def cFlds : Nat → List Str
  | 0 => ["levels", "parts"] | _ => ["levels", "targets"]
mutual
/-- no instance inside -/
def pureD : D → Bool
  | .tup xs => puresD xs
  | .lst xs => puresD xs
  | .scr xs => puresD xs
  | .obj _ _ => false
  | .emp => false
  | _ => true
def puresD : List D → Bool
  | [] => true
  | x :: xs => pureD x && puresD xs
end
mutual
/-- .. empty dicts may be there -/
def pureR : D → Bool
  | .tup xs => puresR xs
  | .lst xs => puresR xs
  | .scr xs => puresR xs
  | .obj _ _ => false
  | _ => true
def puresR : List D → Bool
  | [] => true
  | x :: xs => pureR x && puresR xs
end
/-- who holds a list: its own slot; a caller's; locked while a loop walks it -/
inductive Lk | own | bor | lck | dic
  deriving DecidableEq
/-- a slot -/
inductive Sl where
  | un | fz (d : D) | ls (k : Lk) (xs : List D)
abbrev Ev := List Sl
/-- what an expression gives: frozen data; a fresh list; the list of a slot -/
inductive R where
  | fz (d : D) | fr (xs : List D) | rf (i : Nat)
inductive Out (α : Type) where
  | ok (a : α) (ρ : Ev) | stk
abbrev M (α : Type) := Ev → Out α
section
variable {α β : Type}
def Out.then (o : Out α) (f : α → M β) : Out β := match o with | .ok a ρ => f a ρ | .stk => .stk
def ret (a : α) : M α := fun ρ => .ok a ρ
def stuck : M α := fun _ => .stk
def bnd (m : M α) (f : α → M β) : M β := fun ρ => (m ρ).then f
def ofO (o : Option α) : M α := fun ρ => match o with | some a => .ok a ρ | none => .stk
@[simp] theorem then_ok (a : α) (ρ : Ev) (f : α → M β) : (Out.ok a ρ).then f = f a ρ := rfl
@[simp] theorem then_stk (f : α → M β) : (Out.stk : Out α).then f = .stk := rfl
theorem then_eq {o : Out α} {f : α → M β} {b : β} {ρ' : Ev} (h : o.then f = .ok b ρ') : ∃ a ρ, o = .ok a ρ ∧ f a ρ = .ok b ρ' := by
  cases o with
  | ok a ρ => exact ⟨a, ρ, rfl, h⟩
  | stk => cases h
theorem bnd_eq {m : M α} {f : α → M β} {ρ ρ' : Ev} {b : β} (h : bnd m f ρ = .ok b ρ') : ∃ a ρ1, m ρ = .ok a ρ1 ∧ f a ρ1 = .ok b ρ' := then_eq h
theorem ofO_eq {o : Option α} {ρ ρ' : Ev} {a : α} (h : ofO o ρ = .ok a ρ') : o = some a ∧ ρ' = ρ := by
  cases o with
  | none => cases h
  | some b => cases h; exact ⟨rfl, rfl⟩
end
/-- the data of a result, as things stand -/
def view (ρ : Ev) : R → Option D
  | .fz d => some d
  | .fr xs => some (.lst xs)
  | .rf i => match ρ[i]? with | some (.ls .dic _) => none | some (.ls _ xs) => some (.lst xs) | _ => none
def vw (r : R) : M D := fun ρ => match view ρ r with | some d => .ok d ρ | none => .stk
/-- frozen for good -/
def share : R → M D
  | .fz d => ret d
  | .fr xs => ret (.lst xs)
  | .rf i => fun ρ => match ρ[i]? with | some (.ls .own xs) => .ok (.lst xs) (ρ.set i (.fz (.lst xs))) | _ => .stk
/-! ### operators on data -/
def toPy : D → PyData
  | .non => .none
  | .bl b => .bool b
  | .int i => .int i
  | .str s => .str s
  | .tup xs => .tuple (toPys xs)
  | .lst xs => .list (toPys xs)
  | .scr xs => .list (toPys xs)
  | .obj _ _ => .none
  | .emp => .dict []
where toPys : List D → List PyData
  | [] => []
  | x :: xs => toPy x :: toPys xs
inductive Bop | add | sub | mul | fdiv | mod | pow | shr | band
  deriving DecidableEq
inductive Cop | lt | le | gt | ge | eq | ne | isN | notN | inn | nin
  deriving DecidableEq
def flat : D → Bool
  | .non => true | .bl _ => true | .int _ => true | .str _ => true | _ => false
def small64 (i : Int) : Bool := decide (-(2 ^ 64) < i) && decide (i < 2 ^ 64)
def wide (i : Int) : Bool := decide (i.natAbs < 2 ^ 2000)
def repl (xs : List D) (n : Nat) : List D := (List.replicate n xs).flatten
def binD : Bop → D → D → Option R
  | .add, .int i, .int j => some (.fz (.int (i + j)))
  | .add, .str i, .str j => if i.length + j.length ≤ sizeLine then some (.fz (.str (i ++ j))) else none
  | .add, .tup xs, .tup ys => if xs.length + ys.length ≤ sizeLine then some (.fz (.tup (xs ++ ys))) else none
  | .add, .lst xs, .lst ys => if xs.length + ys.length ≤ sizeLine then some (.fr (xs ++ ys)) else none
  | .sub, .int i, .int j => some (.fz (.int (i - j)))
  | .mul, .int i, .int j => if small64 i || small64 j || (wide i && wide j) then some (.fz (.int (i * j))) else none
  | .mul, .lst xs, .int k => if -(2 ^ 63) ≤ k ∧ k < 2 ^ 63 ∧ xs.length * k.toNat ≤ sizeLine then some (.fr (repl xs k.toNat)) else none
  | .mul, .tup xs, .int k => if 2 ≤ k ∧ k ≤ 1000 ∧ 1 ≤ xs.length ∧ xs.length ≤ 1000 then some (.fz (.tup (repl xs k.toNat))) else if (k ≤ 1 ∨ xs.isEmpty = true) ∧ -(2 ^ 63) ≤ k ∧ k < 2 ^ 63 then some (.fz (.tup (repl xs k.toNat))) else none
  | .mul, .str s, .int k => if 0 ≤ k ∧ k ≤ 1000 ∧ s.length ≤ 1000 then some (.fz (.str (Txt.mul s k))) else none
  | .shr, .int i, .int j => if 0 ≤ j ∧ j ≤ 1000 then some (.fz (.int (i / 2 ^ j.toNat))) else none
  | .band, .int i, .int j => some (.fz (.int (Builtin.bitAnd i j)))
  | .fdiv, .int i, .int j => if j ≠ 0 ∧ j.natAbs < 1073741824 then some (.fz (.int (i.fdiv j))) else none
  | .mod, .int i, .int j => if j ≠ 0 then some (.fz (.int (i.fmod j))) else none
  | .pow, .int i, .int j => if 0 ≤ j ∧ j ≤ 1000000 ∧ i.natAbs < 2 ^ 64 then some (.fz (.int (i ^ j.toNat))) else none
  | _, _, _ => none
def shapedD (x : D) : Bool := pureD x && SeqAt.shaped (toPy x)
def inD (x : D) (xs : List D) : Bool := xs.any fun y => (toPy y).eqv (toPy x)
def isNonD : D → Bool
  | .non => true
  | _ => false
def intsD : List D → Option (List Int)
  | [] => some []
  | .int i :: r => (intsD r).map (i :: ·)
  | _ :: _ => none
/-- two lists of different length -/
def lenNe : D → D → Bool
  | .lst xs, .lst ys => xs.length != ys.length
  | _, _ => false
/-- the order of tuples of whole numbers -/
def lexLtI : List Int → List Int → Bool
  | [], [] => false
  | [], _ :: _ => true
  | _ :: _, [] => false
  | x :: xs, y :: ys => if x = y then lexLtI xs ys else decide (x < y)
/-- one sign in a text -/
def signIn : D → Str → Option Bool
  | .str a, b => match a.cps.toList with
    | [c] => some (decide (c ∈ b.cps.toList))
    | _ => none
  | _, _ => none
def cmpD : Cop → D → D → Option Bool
  | .lt, .int i, .int j => some (decide (i < j))
  | .lt, .tup xs, .tup ys => (intsD xs).bind fun ns => (intsD ys).map fun ms => lexLtI ns ms
  | .le, .int i, .int j => some (decide (i ≤ j))
  | .gt, .int i, .int j => some (decide (i > j))
  | .ge, .int i, .int j => some (decide (i ≥ j))
  | .eq, .int i, .int j => some (decide (i = j))
  | .eq, .str a, .str b => some (decide (a = b))
  | .ne, .int i, .int j => some (!decide (i = j))
  | .ne, .str a, .str b => some (!decide (a = b))
  | .eq, x, y => if shapedD x && shapedD y then some ((toPy x).eqv (toPy y)) else if lenNe x y then some false else none
  | .ne, x, y => if shapedD x && shapedD y then some (!(toPy x).eqv (toPy y)) else none
  | .isN, .bl a, .bl b => some (decide (a = b))
  | .notN, .bl a, .bl b => some (!decide (a = b))
  | .isN, x, .non => some (isNonD x)
  | .notN, x, .non => some (!isNonD x)
  | .inn, x, .lst ys => if (flat x && ys.all flat) || (shapedD x && shapedD (.lst ys)) then some (inD x ys) else none
  | .inn, x, .tup ys => if flat x && ys.all flat then some (inD x ys) else none
  | .nin, x, .lst ys => if (flat x && ys.all flat) || (shapedD x && shapedD (.lst ys)) then some (!inD x ys) else none
  | .nin, x, .tup ys => if flat x && ys.all flat then some (!inD x ys) else none
  | .inn, x, .str b => signIn x b
  | .nin, x, .str b => (signIn x b).map (!·)
  | _, _, _ => none
def truthD : D → Option Bool
  | .non => some false
  | .bl b => some b
  | .int i => some (i != 0)
  | .str s => if s.length ≤ sizeLine then some (s.length != 0) else none
  | .tup xs => some (!xs.isEmpty)
  | .lst xs => some (!xs.isEmpty)
  | .scr xs => some (!xs.isEmpty)
  | .obj _ _ => none
  | .emp => some false
/-- an item by an index of any sign -/
def atD (xs : List D) (i : Int) : Option D := atI xs i
def idxD : D → D → Option D
  | .tup xs, .int i => atD xs i
  | .lst xs, .int i => atD xs i
  | .scr xs, .int i => atD xs i
  | .str z, .int i => if z.length ≤ sizeLine then (atI z.cps.toList i).map fun c => .str ⟨#[c]⟩ else none
  | _, _ => none
def cut (xs : List D) (lo hi : Option Int) : List D := List.take (HT.sIx xs.length xs.length hi - HT.sIx xs.length 0 lo) (List.drop (HT.sIx xs.length 0 lo) xs)
def slcD : D → Option Int → Option Int → Option R
  | .tup xs, lo, hi => some (.fz (.tup (cut xs lo hi)))
  | .lst xs, lo, hi => some (.fr (cut xs lo hi))
  | .scr xs, lo, hi => some (.fr (cut xs lo hi))
  | .str z, lo, hi => if z.length ≤ sizeLine then some (.fz (.str ⟨((z.cps.toList.drop (HT.sIx z.length 0 lo)).take (HT.sIx z.length z.length hi - HT.sIx z.length 0 lo)).toArray⟩)) else none
  | _, _, _ => none
def boolsD : List D → Option (List Bool)
  | [] => some []
  | .bl i :: r => (boolsD r).map (i :: ·)
  | _ :: _ => none
def strsD : List D → Option (List Str)
  | [] => some []
  | .str i :: r => (strsD r).map (i :: ·)
  | _ :: _ => none
def maxL : List Int → Option Int
  | [] => none
  | [x] => some x
  | x :: r => (maxL r).map fun m => if m < x then x else m
def minL : List Int → Option Int
  | [] => none
  | [x] => some x
  | x :: r => (minL r).map fun m => if x < m then x else m
def insI (x : Int) : List Int → List Int
  | [] => [x]
  | y :: r => if x ≤ y then x :: y :: r else y :: insI x r
def sortI : List Int → List Int
  | [] => []
  | x :: r => insI x (sortI r)
/-- without doubles, ascending -/
def insU (x : Int) : List Int → List Int
  | [] => [x]
  | y :: r => if x < y then x :: y :: r else if x = y then y :: r else y :: insU x r
def setI : List Int → List Int
  | [] => []
  | x :: r => insU x (setI r)
def rngL (lo hi : Int) : List D := (List.range (hi - lo).toNat).map fun (i : Nat) => D.int (lo + (i : Int))
def rngDL (lo hi : Int) : List D := (List.range (lo - hi).toNat).map fun (i : Nat) => D.int (lo - (i : Int))
def small62 (i : Int) : Bool := decide (-(2 ^ 62) ≤ i) && decide (i < 2 ^ 62)
/-- built-in classes that are asked for -/
inductive Ty | int | bool | tuple | list | str
  deriving DecidableEq
def isD : D → Ty → Bool
  | .int _, .int => true
  | .bl _, .int => true
  | .bl _, .bool => true
  | .str _, .str => true
  | .tup _, .tuple => true
  | .lst _, .list => true
  | .scr _, .list => true
  | _, _ => false
inductive Bi | len | abs | int1 | tuple | list | max1 | min1 | max2 | min2 | sum | all | any | sorted | divmod | repr | isi (t : Ty) | tupRng1 | tupRng2 | sset | iso (c : Nat) | reprL | rvs | cntI | idxI | stp | cntB | idxB | isn (c : Nat) | str1 | join | fs | rstp | enm | lenO | eqx | nex | isd (c : Nat) | boolL | chs | split | part | isdig
  deriving DecidableEq
/-- the items with their numbers, from k on -/
def enumI : Int → List D → List D
  | _, [] => []
  | n, x :: xs => .tup [.int n, x] :: enumI (n + 1) xs
/-- texts and ints, one behind the other -/
def fsD : Str → List D → Option R
  | acc, [] => some (.fz (.str acc))
  | acc, .str y :: r => if y.length ≤ 16777216 ∧ (acc ++ y).length ≤ 16777216 then fsD (acc ++ y) r else none
  | acc, .int i :: r => if i.natAbs.log2 < 1920 ∧ (acc ++ (toString i : Str)).length ≤ 16777216 then fsD (acc ++ (toString i : Str)) r else none
  | _, _ :: _ => none
/-- range(i, j, c), c > 0 -/
def rngSL (i j c : Int) : List D := (List.range (PySem.Builtin.Range.rangeSize i j c).toNat).map fun (k : Nat) => D.int (i + (k : Int) * c)
def rngSok (i j c : Int) : Bool := decide (1 ≤ c) && decide (c < 1000000) && PySem.Builtin.Range.small i j c && decide (0 ≤ PySem.Builtin.Range.rangeSize i j c)
/-- fields that are equal one by one -/
def fsEq : List D → List D → Bool
  | [], [] => true
  | x :: xs, y :: ys => (cmpD .eq x y == some true) && fsEq xs ys
  | _, _ => false
/-- == gives True: shaped data, or two instances of one class with equal fields -/
def eqx0 (x y : D) : Bool := (shapedD x && shapedD y && (toPy x).eqv (toPy y)) || (match x, y with
  | .obj c fs, .obj c' gs => (c == c') && (decide (c ≤ 1) && fsEq fs gs)
  | .emp, .emp => true
  | _, _ => false)
def eqxs (f : D → D → Bool) : List D → List D → Bool
  | [], [] => true
  | x :: xs, y :: ys => f x y && eqxs f xs ys
  | _, _ => false
/-- == gives True: lists and tuples with such things inside -/
def eqxB : Nat → D → D → Bool
  | 0, x, y => eqx0 x y
  | k + 1, x, y => eqx0 x y || (match x, y with
    | .lst xs, .lst ys => eqxs (eqxB k) xs ys
    | .tup xs, .tup ys => eqxs (eqxB k) xs ys
    | _, _ => false)
/-- .. with instances of class q alone -/
def eqc0 (q : Nat) (x y : D) : Bool := (shapedD x && shapedD y && (toPy x).eqv (toPy y)) || (match x, y with
  | .obj c fs, .obj c' gs => (c == q) && ((c' == q) && fsEq fs gs)
  | .emp, .emp => true
  | _, _ => false)
def eqcB (q : Nat) : Nat → D → D → Bool
  | 0, x, y => eqc0 q x y
  | k + 1, x, y => eqc0 q x y || (match x, y with
    | .lst xs, .lst ys => eqxs (eqcB q k) xs ys
    | .tup xs, .tup ys => eqxs (eqcB q k) xs ys
    | _, _ => false)
def biD : Bi → List D → Option R
  | .len, [.tup xs] => some (.fz (.int xs.length))
  | .len, [.lst xs] => some (.fz (.int xs.length))
  | .len, [.scr xs] => some (.fz (.int xs.length))
  | .len, [.str s] => if s.length ≤ sizeLine then some (.fz (.int s.length)) else none
  | .abs, [.int i] => some (.fz (.int (if i < 0 then -i else i)))
  | .int1, [.int i] => some (.fz (.int i))
  | .int1, [.bl b] => some (.fz (.int (if b then 1 else 0)))
  | .int1, [.str z] => if z.length ≤ 640 then (PySem.intText? z).map fun n => .fz (.int n) else none
  | .chs, [.str z] => some (.fr (z.cps.toList.map fun c => .str ⟨#[c]⟩))
  | .split, [.str a, .str b] => if b.length ≠ 0 ∧ a.length + 2 ≤ sizeLine then some (.fr ((Txt.split a b).map .str)) else none
  | .part, [.str a, .str b] => if b.length ≠ 0 ∧ a.length ≤ sizeLine then some (.fz (.tup [.str (Txt.partition a b).1, .str (Txt.partition a b).2.1, .str (Txt.partition a b).2.2])) else none
  | .isdig, [.str a] => some (.fz (.bl (Txt.isdigit a)))
  | .rvs, [.lst xs] => some (.fr xs.reverse)
  | .rvs, [.tup xs] => some (.fz (.tup xs.reverse))
  | .cntI, [.lst xs, .int k] => (intsD xs).map fun ns => .fz (.int (ns.count k : Nat))
  | .idxI, [.lst xs, .int k] => (intsD xs).bind fun ns => (ns.findIdx? fun i => decide (i = k)).map fun j => .fz (.int (j : Nat))
  | .cntB, [.lst xs, .bl k] => (boolsD xs).map fun bs => .fz (.int (bs.count k : Nat))
  | .idxB, [.lst xs, .bl k] => (boolsD xs).bind fun bs => (bs.findIdx? fun i => i == k).map fun j => .fz (.int (j : Nat))
  | .stp, [.lst xs, .int k] => if 1 ≤ k ∧ k ≤ 1000 ∧ xs.length ≤ sizeLine then some (.fr ((sliceRange 0 xs.length k).filterMap fun i => xs[i]?)) else none
  | .tuple, [.tup xs] => some (.fz (.tup xs))
  | .tuple, [.lst xs] => some (.fz (.tup xs))
  | .list, [.tup xs] => some (.fr xs)
  | .list, [.lst xs] => some (.fr xs)
  | .list, [.scr xs] => some (.fr xs)
  | .max1, [.lst xs] => ((intsD xs).bind maxL).map fun m => .fz (.int m)
  | .max1, [.tup xs] => ((intsD xs).bind maxL).map fun m => .fz (.int m)
  | .min1, [.lst xs] => ((intsD xs).bind minL).map fun m => .fz (.int m)
  | .max2, [.int i, .int j] => some (.fz (.int (if j > i then j else i)))
  | .min2, [.int i, .int j] => some (.fz (.int (if j < i then j else i)))
  | .sum, [.lst xs] => (intsD xs).map fun ns => .fz (.int ns.sum)
  | .sum, [.tup xs] => (intsD xs).map fun ns => .fz (.int ns.sum)
  | .reprL, xs => if pureR (.lst xs) && (toPy (.lst xs)).showable && decide ((toPy (.lst xs)).depth ≤ 64) && decide ((toPy (.lst xs)).shown.length ≤ sizeLine) && decide (xs.length ≤ 1000) then some (.fz (.str (toPy (.lst xs)).shown)) else none
  | .all, [.lst xs] => (boolsD xs).map fun bs => .fz (.bl (bs.all id))
  | .any, [.lst xs] => (boolsD xs).map fun bs => .fz (.bl (bs.any id))
  | .sorted, [.lst xs] => (intsD xs).map fun ns => .fr ((sortI ns).map .int)
  | .divmod, [.int i, .int j] => if 0 < j ∧ j < 1000000000000000000000000000000000000000000000000000000000000 then some (.fz (.tup [.int (i / j), .int (i % j)])) else none
  | .repr, [x] => if pureR x && (toPy x).showable && decide ((toPy x).depth ≤ 64) && decide ((toPy x).shown.length ≤ sizeLine) then some (.fz (.str (toPy x).shown)) else none
  | .isi _, [.obj _ _] => none
  | .isi t, [x] => some (.fz (.bl (isD x t)))
  | .iso c, [.obj c' _] => if c' = c then some (.fz (.bl true)) else none
  | .isn c, [.obj c' _] => if c' = c then some (.fz (.bl true)) else none
  | .isn _, [_] => some (.fz (.bl false))
  | .isd c, [.obj c' _] => if c' = c then some (.fz (.bl true)) else if c' + c = 1 then some (.fz (.bl false)) else none
  | .isd _, [_] => some (.fz (.bl false))
  | .eqx, [.lst xs, .lst ys] => if eqxs (eqxB 3) xs ys then some (.fz (.bl true)) else none
  | .nex, [.lst xs, .lst ys] => if eqxs (eqxB 3) xs ys then some (.fz (.bl false)) else none
  | .eqx, [.lst xs, .lst ys, .int q] => if eqxs (eqcB q.toNat 3) xs ys then some (.fz (.bl true)) else none
  | .nex, [.lst xs, .lst ys, .int q] => if eqxs (eqcB q.toNat 3) xs ys then some (.fz (.bl false)) else none
  | .boolL, [.int n] => if 0 ≤ n ∧ n < 4611686018427387904 then some (.fz (.bl (n != 0))) else none
  | .sset, [.lst xs] => (intsD xs).bind fun ns => if ns.length ≤ 4000 ∧ (setI ns).length < 64 then some (.fr ((setI ns).map .int)) else none
  | .sset, [.tup xs] => (intsD xs).bind fun ns => if ns.length ≤ 4000 ∧ (setI ns).length < 64 then some (.fr ((setI ns).map .int)) else none
  | .str1, [.int i] => if i.natAbs.log2 < 1920 then some (.fz (.str (toString i))) else none
  | .str1, [.str s] => some (.fz (.str s))
  | .join, [.str a, .lst xs] => (strsD xs).bind fun ys => if (ys.map (·.length)).sum + ys.length * a.length ≤ 16777216 then some (.fz (.str (Txt.join a ys))) else none
  | .enm, [.tup xs, .int k] => if small62 k then some (.fr (enumI k xs)) else none
  | .lenO, [.int n] => if 0 ≤ n ∧ n < 4611686018427387904 then some (.fz (.int n)) else none
  | .fs, ds => fsD Str.empty ds
  | .rstp, [.int i, .int j, .int c] => if rngSok i j c then some (.fr (rngSL i j c)) else none
  | .tupRng1, [.int j] => if small62 j && decide (j.toNat ≤ 16777216) then some (.fz (.tup (rngL 0 j))) else none
  | .tupRng2, [.int i, .int j] => if small62 i && small62 j && decide ((j - i).toNat ≤ 16777216) then some (.fz (.tup (rngL i j))) else none
  | _, _ => none
/-! ### the language -/
mutual
inductive E where
  | var (i : Nat) | cst (d : D)
  | bin (o : Bop) (a b : E) | neg (a : E)
  | cmp (o : Cop) (a b : E) | chn (o p : Cop) (a b c : E)
  | and (a b : E) | or (a b : E) | not (a : E) | ite (t a b : E)
  | tup (es : Es) | lst (es : Es)
  | idx (a b : E) | slc (a : E) (lo hi : Eo)
  | call (f : Nat) (perm : List Nat) (as ks : As)
  | bi (b : Bi) (es : Es)
  | comp (own : List Nat) (tg : Tg) (it : It) (cond : Eo) (elt : E)
  | app (i : Nat) (e : E) | ext (i : Nat) (e : E)
  | fld (e : E) (ks : List (Nat × Nat))
  | make (c f : Nat) (perm : List Nat) (as ks : As)
  | meth (o : E) (ms : List (Nat × Nat)) (perm : List Nat) (as ks : As)
  /-- dicts of slots: d[e], e in d, e not in d -/
  | dget (i : Nat) (e : E) | din (i : Nat) (e : E) | dnin (i : Nat) (e : E)
  /-- an error of class c is made and raised -/
  | rse (c : Nat) (es : Es)
  /-- e, that may raise -/
  | xc (e : E)
  /-- e, of which the first part may raise -/
  | xa (e : E)
  /-- `_law_caught(lambda: e)` -/
  | caught (cs : List Nat) (e : E)
  /-- repr(e), instances inside by their own __repr__ -/
  | rpr (ms : List (Nat × Nat)) (e : E)
inductive Eo where
  | none | some (e : E)
inductive Es where
  | nil | cons (e : E) (es : Es)
/-- arguments of a def: by value, by reference -/
inductive As where
  | nil | val (e : E) (es : As) | ref (e : E) (es : As)
inductive It where
  | val (e : E) | rng1 (e : E) | rng2 (a b : E) | rngD (a b : E) | enum (e : E) | zip (a b : E) | rev (e : E) | enumZ (a b : E) | zip3 (a b c : E)
inductive Tg where
  | nm (i : Nat) | sub (j : Nat) (i : E) | tp (ts : Tgs)
inductive Tgs where
  | nil | cons (t : Tg) (ts : Tgs)
end
mutual
inductive S where
  | asg (t : Tg) (e : E)
  | par (i j : Nat) (a b : E)
  | par3 (i j l : Nat) (a b c : E)
  | aug (i : Nat) (o : Bop) (e : E)
  | ex (e : E)
  | ifs (c : E) (a b : Ss)
  | for_ (t : Tg) (it : It) (b : Ss)
  | whl (c : E) (b : Ss)
  | ret (e : E) | retN | pass | brk | cnt
  /-- names that are used no more are forgotten -/
  | wip (ws : List Nat)
  /-- d = {}; x, y, d = a, b, {}; d[e] = v -/
  | dnew (i : Nat) | par3d (i j l : Nat) (a b : E) | dput (i : Nat) (e v : E)
  /-- x, d = a, {}; x, *y = e (a tuple) -/
  | par2d (i l : Nat) (a : E) | star (i j : Nat) (e : E)
  /-- try: return e / except ..: a list, of a word for the error's class and the error's fields -/
  | tryR (e : E) (hs : List (Nat × Str))
  /-- try: return e / except C: return None -/
  | tryN (e : E) (k : Nat)
inductive Ss where
  | nil | cons (s : S) (ss : Ss)
end
def As.len : As → Nat
  | .nil => 0
  | .val _ r => r.len + 1
  | .ref _ r => r.len + 1
/-- calls of the table's defs: the arguments' slots; the result, the slots behind -/
abbrev Calls := Nat → List Sl → Option (R × List Sl)
/-- a slot gets frozen data -/
def setD (i : Nat) (d : D) : M Unit := fun ρ => match ρ[i]? with
  | some .un => .ok () (ρ.set i (.fz d))
  | some (.fz _) => .ok () (ρ.set i (.fz d))
  | some (.ls .own _) => .ok () (ρ.set i (.fz d))
  | _ => .stk
def setL (i : Nat) (xs : List D) : M Unit := fun ρ => match ρ[i]? with
  | some .un => .ok () (ρ.set i (.ls .own xs))
  | some (.fz _) => .ok () (ρ.set i (.ls .own xs))
  | some (.ls .own _) => .ok () (ρ.set i (.ls .own xs))
  | _ => .stk
def setR (i : Nat) : R → M Unit
  | .fz d => setD i d
  | .fr xs => setL i xs
  | .rf j => bnd (share (.rf j)) (setD i)
/-- a slot's list is shared now -/
def unref : R → M R
  | .rf i => bnd (share (.rf i)) fun d => ret (.fz d)
  | r => ret r
/-- the list of a slot is changed in place -/
def putL (i : Nat) (xs : List D) : M Unit := fun ρ => match ρ[i]? with
  | some (.ls .own _) => .ok () (ρ.set i (.ls .own xs))
  | some (.ls .bor _) => .ok () (ρ.set i (.ls .bor xs))
  | _ => .stk
def getL (i : Nat) : M (List D) := fun ρ => match ρ[i]? with
  | some (.ls .dic _) => .stk
  | some (.ls _ xs) => .ok xs ρ
  | _ => .stk
/-- dicts of ints: entries (key, datum) as tuples -/
def dkey : D → Int → Bool
  | .tup [.int j, _], k => decide (j = k)
  | _, _ => false
def dsnd : D → Option D
  | .tup [_, d] => some d
  | _ => none
def dval (xs : List D) (k : Int) : Option D := (xs.find? fun e => dkey e k).bind dsnd
def dputD (xs : List D) (k : Int) (y : D) : List D :=
  if (xs.any fun e => dkey e k) = true then xs.map (fun e => if dkey e k = true then .tup [.int k, y] else e) else xs ++ [.tup [.int k, y]]
def dgetM (i : Nat) : M (List D) := fun ρ => match ρ[i]? with
  | some (.ls .dic xs) => .ok xs ρ
  | _ => .stk
def dputM (i : Nat) (xs : List D) : M Unit := fun ρ => match ρ[i]? with
  | some (.ls .dic _) => .ok () (ρ.set i (.ls .dic xs))
  | _ => .stk
def dsetM (i : Nat) : M Unit := fun ρ => match ρ[i]? with
  | some .un => .ok () (ρ.set i (.ls .dic []))
  | some (.fz _) => .ok () (ρ.set i (.ls .dic []))
  | some (.ls .own _) => .ok () (ρ.set i (.ls .dic []))
  | _ => .stk
/-- an argument by reference: its slot's index, or a fresh list -/
inductive A where
  | val (d : D) | rf (i : Nat) | fr (xs : List D)
def asRef : R → Option A
  | .fz _ => none
  | .fr xs => some (.fr xs)
  | .rf i => some (.rf i)
def slotOf (ρ : Ev) : A → Option Sl
  | .val d => some (.fz d)
  | .fr xs => some (.ls .bor xs)
  | .rf i => match ρ[i]? with
    | some (.ls .own xs) => some (.ls .bor xs)
    | some (.ls .bor xs) => some (.ls .bor xs)
    | _ => none
def slotsOf (ρ : Ev) : List A → Option (List Sl)
  | [] => some []
  | a :: r => match slotOf ρ a, slotsOf ρ r with
    | some s, some ss => some (s :: ss)
    | _, _ => none
def refs : List A → List Nat
  | [] => []
  | .rf i :: r => i :: refs r
  | _ :: r => refs r
/-- what a call has left in the slots that were passed -/
def putBack : List A → List Sl → Ev → Ev
  | .rf i :: r, .ls _ xs :: ss, ρ => putBack r ss (match ρ[i]? with | some (.ls k _) => ρ.set i (.ls k xs) | _ => ρ)
  | _ :: r, _ :: ss, ρ => putBack r ss ρ
  | _, _, ρ => ρ
def pick {α : Type} (perm : List Nat) (l : List α) : Option (List α) := perm.mapM fun j => l[j]?
def frs : List A → Nat
  | [] => 0
  | .fr _ :: r => frs r + 1
  | _ :: r => frs r
def callM (Φ : Calls) (f : Nat) (perm : List Nat) (as : List A) : M R := fun ρ =>
  match pick perm as with
  | none => .stk
  | some as => if (refs as).Nodup ∧ frs as ≤ 1 then match slotsOf ρ as with
      | none => .stk
      | some ss => match Φ f ss with
        | none => .stk
        | some (r, ss') => .ok r (putBack as ss' ρ)
    else .stk
def valsOf : List A → Option (List D)
  | [] => some []
  | .val d :: r => (valsOf r).map (d :: ·)
  | _ :: _ => none
/-- a class's call: its __init__ gives the fields -/
def makeM (Φ : Calls) (c f : Nat) (perm : List Nat) (as : List A) : M R := fun ρ =>
  match (pick perm as).bind valsOf with
  | none => .stk
  | some ds => match Φ f (.un :: ds.map .fz) with
    | some (.fz (.tup xs), _) => if xs.length = (cFlds c).length then .ok (.fz (.obj c xs)) ρ else .stk
    | _ => .stk
inductive Fl where
  | nx | rt (r : R) | bk | ct
def forL (step : D → M Fl) : List D → M Fl
  | [] => ret .nx
  | x :: xs => bnd (step x) fun
    | .nx => forL step xs
    | .ct => forL step xs
    | .bk => ret .nx
    | .rt r => ret (.rt r)
def cmpL (step : D → M (Option D)) : List D → List D → M (List D)
  | [], acc => ret acc
  | x :: xs, acc => bnd (step x) fun
    | some y => if acc.length < sizeLine then cmpL step xs (acc ++ [y]) else stuck
    | none => cmpL step xs acc
def whileN (test : M Bool) (body : M Fl) : Nat → M Fl
  | 0 => stuck
  | n + 1 => bnd test fun
    | true => bnd body fun
      | .nx => whileN test body n
      | .ct => whileN test body n
      | .bk => ret .nx
      | .rt r => ret (.rt r)
    | false => ret .nx
/-- the items that are walked, and the slot that is locked meanwhile -/
def lockOf (ρ : Ev) : R → Option (Nat × Lk)
  | .rf i => match ρ[i]? with | some (.ls .dic _) => none | some (.ls k _) => some (i, k) | _ => none
  | _ => none
def withLock {α : Type} (l : Option (Nat × Lk)) (m : M α) : M α := fun ρ => match l with
  | none => m ρ
  | some (i, k) => match ρ[i]? with
    | some (.ls _ xs) => (m (ρ.set i (.ls .lck xs))).then fun a ρ' => match ρ'[i]? with
      | some (.ls _ ys) => .ok a (ρ'.set i (.ls k ys))
      | _ => .stk
    | _ => .stk
def itemsD : D → Option (List D)
  | .tup xs => some xs
  | .lst xs => some xs
  | .scr xs => some xs
  | _ => none
def enumFrom : Nat → List D → List D
  | _, [] => []
  | n, x :: xs => .tup [.int n, x] :: enumFrom (n + 1) xs
def zipD : List D → List D → List D
  | x :: xs, y :: ys => .tup [x, y] :: zipD xs ys
  | _, _ => []
def zip3D : List D → List D → List D → List D
  | x :: xs, y :: ys, z :: zs => .tup [x, y, z] :: zip3D xs ys zs
  | _, _, _ => []
def zipI : D → D → Option (List D)
  | .lst xs, .lst ys => some (zipD xs ys)
  | .tup xs, .tup ys => some (zipD xs ys)
  | _, _ => none
/-- the slots of a comprehension's own names are put by, and back -/
def wipeS (ρ : Ev) : List Nat → Ev
  | [] => ρ
  | v :: vs => (wipeS ρ vs).set v .un
def ownOk (ρ : Ev) (own : List Nat) : Bool := own.all fun i => match ρ[i]? with | some .un => true | some (.fz _) => true | _ => false
def wipeM (own : List Nat) : M Unit := fun ρ => if ownOk ρ own then .ok () (wipeS ρ own) else .stk
def dropOk (ρ : Ev) (ws : List Nat) : Bool := ws.all fun i => match ρ[i]? with | some .un => true | some (.fz _) => true | some (.ls .own _) => true | _ => false
def dropM (ws : List Nat) : M Unit := fun ρ => if dropOk ρ ws then .ok () (wipeS ρ ws) else .stk
def backS (ρ ρ' : Ev) : List Nat → Ev
  | [] => ρ'
  | v :: vs => (backS ρ ρ' vs).set v (ρ.getD v .un)
/-! ### what raises: the error's class, its fields, the slots as they stand -/
abbrev Xr := Option (Nat × List D × Ev)
def XO : Nat := 1000000
/-- how many fields an error has -/
def xAr : Nat → Nat
  | 7 => 2 | 19 => 0 | 20 => 0 | _ => 1
def xcall (Φ : Calls) (f : Nat) (ss : List Sl) (ρ : Ev) : Xr := match Φ (f + XO) ss with
  | some (.fz (.tup [.int c, .tup fs]), _) => some (c.toNat, fs, ρ)
  | _ => none
def xcallA (Φ : Calls) (f : Nat) (perm : List Nat) (as : List A) (ρ : Ev) : Xr := match (pick perm as).bind valsOf with
  | some ds => xcall Φ f (ds.map .fz) ρ
  | none => none
/-- the word of an error's class -/
def xWord : Nat → Str
  | 0 => "levels" | 1 => "level" | 2 => "log" | 3 => "times" | 4 => "text" | 5 => "rack" | 6 => "counts" | 7 => "band" | 8 => "links" | 9 => "bytes" | 10 => "number" | 11 => "growth" | 12 => "pairs" | 13 => "index" | 14 => "action" | 15 => "line"
  | 16 => "notalog" | 17 => "notlinks" | 18 => "differ" | 19 => "busy" | 20 => "undo" | 21 => "long" | 22 => "parts" | 23 => "deep" | 24 => "large" | _ => "entries"
/-- an instance's own text -/
def txO (Φ : Calls) (ms : List (Nat × Nat)) (c : Nat) (xs : List D) : Option Str := (ms.lookup c).bind fun f => match Φ f [.fz (.obj c xs)] with
  | some (.fz (.str t), _) => some t
  | _ => none
/-- repr of what holds no instance -/
def shP (d : D) : Option Str := if pureR d && (toPy d).showable && decide ((toPy d).depth ≤ 64) && decide ((toPy d).shown.length ≤ sizeLine) then some (toPy d).shown else none
/-- repr of lists and tuples with instances inside -/
def shO (tx : Nat → List D → Option Str) : Nat → D → Option Str
  | 0, _ => none
  | j + 1, d => if pureR d then shP d else match d with
    | .obj c xs => tx c xs
    | .tup ds => (ds.mapM (shO tx j)).bind fun ts => if (tupleText ts).length ≤ sizeLine then some (tupleText ts) else none
    | .lst ds => (ds.mapM (shO tx j)).bind fun ts => if (listText ts).length ≤ sizeLine then some (listText ts) else none
    | _ => none
/-- .. of a list, or of what holds no instance -/
def shT (tx : Nat → List D → Option Str) (d : D) : Option Str := if pureR d then shP d else match d with
  | .lst ds => shO tx 4 (.lst ds)
  | _ => none
mutual
def ev (Φ : Calls) : E → M R
  | .var i => fun ρ => match ρ[i]? with
    | some (.fz d) => .ok (.fz d) ρ
    | some (.ls .dic _) => .stk
    | some (.ls _ _) => .ok (.rf i) ρ
    | _ => .stk
  | .cst d => ret (.fz d)
  | .bin o a b => bnd (ev Φ a) fun x => bnd (ev Φ b) fun y => bnd (vw x) fun d => bnd (vw y) fun e => ofO (binD o d e)
  | .neg a => bnd (ev Φ a) fun x => bnd (vw x) fun d => match d with | .int i => ret (.fz (.int (-i))) | _ => stuck
  | .cmp o a b => bnd (ev Φ a) fun x => bnd (ev Φ b) fun y => bnd (vw x) fun d => bnd (vw y) fun e => bnd (ofO (cmpD o d e)) fun c => ret (.fz (.bl c))
  | .chn o p a b c => bnd (ev Φ a) fun x => bnd (ev Φ b) fun y => bnd (vw x) fun d => bnd (vw y) fun e => bnd (ofO (cmpD o d e)) fun k =>
      if k then bnd (ev Φ c) fun z => bnd (vw y) fun e => bnd (vw z) fun f => bnd (ofO (cmpD p e f)) fun c => ret (.fz (.bl c)) else ret (.fz (.bl false))
  | .and a b => bnd (ev Φ a) fun x => bnd (vw x) fun d => bnd (ofO (truthD d)) fun k => if k then ev Φ b else ret x
  | .or a b => bnd (ev Φ a) fun x => bnd (vw x) fun d => bnd (ofO (truthD d)) fun k => if k then ret x else ev Φ b
  | .not a => bnd (ev Φ a) fun x => bnd (vw x) fun d => bnd (ofO (truthD d)) fun k => ret (.fz (.bl (!k)))
  | .ite t a b => bnd (ev Φ t) fun x => bnd (vw x) fun d => bnd (ofO (truthD d)) fun k => if k then ev Φ a else ev Φ b
  | .tup es => bnd (evs Φ es) fun ds => if ds.length ≤ sizeLine then ret (.fz (.tup ds)) else stuck
  | .lst es => bnd (evs Φ es) fun ds => if ds.length ≤ sizeLine then ret (.fr ds) else stuck
  | .idx a b => bnd (ev Φ a) fun x => bnd (ev Φ b) fun y => bnd (vw x) fun d => bnd (vw y) fun e => bnd (ofO (idxD d e)) fun f => ret (.fz f)
  | .slc a lo hi => bnd (ev Φ a) fun x => bnd (evo Φ lo) fun l => bnd (evo Φ hi) fun h => bnd (vw x) fun d => ofO (slcD d l h)
  | .call f perm as ks => bnd (evas Φ as) fun as => bnd (evas Φ ks) fun ks => callM Φ f perm (as ++ ks)
  | .bi b es => bnd (evrs Φ es) fun rs => fun ρ => match rs.mapM (view ρ) with | some ds => ofO (biD b ds) ρ | none => .stk
  | .comp own tg it cond elt => bnd (evit Φ it) fun (l, xs) => fun ρ =>
      (bnd (wipeM own) (fun _ => withLock l (cmpL (fun x => bnd (asgn Φ tg x) fun _ => bnd (evc Φ cond) fun k =>
        if k then bnd (ev Φ elt) fun r => bnd (share r) fun y => bnd (wipeM own) fun _ => ret (some y) else bnd (wipeM own) fun _ => ret none) xs [])) ρ).then
          fun ys ρ' => .ok (.fr ys) (backS ρ ρ' own)
  | .app i e => bnd (getL i) fun _ => bnd (ev Φ e) fun y => bnd (share y) fun d => bnd (getL i) fun xs =>
      if xs.length < sizeLine then bnd (putL i (xs ++ [d])) fun _ => ret (.fz .non) else stuck
  | .ext i e => bnd (getL i) fun _ => bnd (ev Φ e) fun y => bnd (vw y) fun d => match d with
    | .lst ys => bnd (getL i) fun xs => if xs.length + ys.length ≤ sizeLine then bnd (putL i (xs ++ ys)) fun _ => ret (.fz .non) else stuck
    | _ => stuck
  | .fld e ks => bnd (ev Φ e) fun x => bnd (vw x) fun d => match d with
    | .obj c xs => bnd (ofO ((ks.lookup c).bind fun i => xs[i]?)) fun f => ret (.fz f)
    | _ => stuck
  | .make c f perm as ks => bnd (evas Φ as) fun as => bnd (evas Φ ks) fun ks => makeM Φ c f perm (as ++ ks)
  | .meth o ms perm as ks => bnd (ev Φ o) fun x => bnd (vw x) fun d => match d with
    | .obj c xs => bnd (ofO (ms.lookup c)) fun f => bnd (evas Φ as) fun as => bnd (evas Φ ks) fun ks => callM Φ f perm (.val (.obj c xs) :: (as ++ ks))
    | _ => stuck
  | .dget i e => bnd (dgetM i) fun _ => bnd (ev Φ e) fun y => bnd (vw y) fun d => match d with
    | .int k => bnd (dgetM i) fun xs => bnd (ofO (dval xs k)) fun v => ret (.fz v)
    | _ => stuck
  | .din i e => bnd (ev Φ e) fun y => bnd (vw y) fun d => match d with
    | .int k => bnd (dgetM i) fun xs => ret (.fz (.bl (dval xs k).isSome))
    | _ => stuck
  | .dnin i e => bnd (ev Φ e) fun y => bnd (vw y) fun d => match d with
    | .int k => bnd (dgetM i) fun xs => ret (.fz (.bl (!(dval xs k).isSome)))
    | _ => stuck
  | .rpr ms e => bnd (ev Φ e) fun x => bnd (vw x) fun d => bnd (ofO (shT (txO Φ ms) d)) fun t => ret (.fz (.str t))
  | .rse _ _ => stuck
  | .xc e => ev Φ e
  | .xa e => ev Φ e
  | .caught cs e => fun ρ => match bnd (ev Φ e) share ρ with
    | .ok d ρ1 => .ok (.fr [.str "returned", d]) ρ1
    | .stk => match xev Φ e ρ with
      | some (c, fs, ρ1) => if fs.length = xAr c ∧ c ∈ cs then .ok (.fr (.str (xWord c) :: fs)) ρ1 else .stk
      | none => .stk
def evo (Φ : Calls) : Eo → M (Option Int)
  | .none => ret none
  | .some e => bnd (ev Φ e) fun x => bnd (vw x) fun d => match d with | .int i => ret (some i) | _ => stuck
def evc (Φ : Calls) : Eo → M Bool
  | .none => ret true
  | .some e => bnd (ev Φ e) fun x => bnd (vw x) fun d => ofO (truthD d)
/-- shared, from the left -/
def evs (Φ : Calls) : Es → M (List D)
  | .nil => ret []
  | .cons e es => bnd (ev Φ e) fun x => bnd (share x) fun d => bnd (evs Φ es) fun ds => ret (d :: ds)
/-- as they are -/
def evrs (Φ : Calls) : Es → M (List R)
  | .nil => ret []
  | .cons e es => bnd (ev Φ e) fun x => bnd (evrs Φ es) fun ds => ret (x :: ds)
def evas (Φ : Calls) : As → M (List A)
  | .nil => ret []
  | .val e es => bnd (ev Φ e) fun x => bnd (share x) fun d => bnd (evas Φ es) fun ds => ret (.val d :: ds)
  | .ref e es => bnd (ev Φ e) fun x => bnd (ofO (asRef x)) fun a => bnd (evas Φ es) fun ds => ret (a :: ds)
def evit (Φ : Calls) : It → M (Option (Nat × Lk) × List D)
  | .val e => bnd (ev Φ e) fun x => bnd (vw x) fun d => fun ρ => bnd (ofO (itemsD d)) (fun xs => ret (lockOf ρ x, xs)) ρ
  | .rng1 e => bnd (ev Φ e) fun x => bnd (vw x) fun d => match d with
    | .int j => if small62 j then ret (none, rngL 0 j) else stuck
    | _ => stuck
  | .rng2 a b => bnd (ev Φ a) fun x => bnd (ev Φ b) fun y => bnd (vw x) fun d => bnd (vw y) fun e => match d, e with
    | .int i, .int j => if small62 i && small62 j then ret (none, rngL i j) else stuck
    | _, _ => stuck
  | .rngD a b => bnd (ev Φ a) fun x => bnd (ev Φ b) fun y => bnd (vw x) fun d => bnd (vw y) fun e => match d, e with
    | .int i, .int j => if small62 i && small62 j then ret (none, rngDL i j) else stuck
    | _, _ => stuck
  | .enum e => bnd (ev Φ e) fun x => bnd (vw x) fun d => fun ρ => bnd (ofO (itemsD d)) (fun xs => ret (lockOf ρ x, enumFrom 0 xs)) ρ
  | .zip a b => bnd (ev Φ a) fun x => bnd (share x) fun d => bnd (ev Φ b) fun y => bnd (share y) fun e => bnd (ofO (zipI d e)) fun xs => ret (none, xs)
  | .rev e => bnd (ev Φ e) fun x => bnd (vw x) fun d => fun ρ => bnd (ofO (itemsD d)) (fun xs => ret (lockOf ρ x, xs.reverse)) ρ
  | .enumZ a b => bnd (ev Φ a) fun x => bnd (share x) fun d => bnd (ev Φ b) fun y => bnd (share y) fun e => match d, e with
    | .tup xs, .tup ys => ret (none, enumFrom 0 (zipD xs ys))
    | _, _ => stuck
  | .zip3 a b c => bnd (ev Φ a) fun x => bnd (share x) fun d => bnd (ev Φ b) fun y => bnd (share y) fun e => bnd (ev Φ c) fun z => bnd (share z) fun f => match d, e, f with
    | .lst xs, .lst ys, .lst zs => ret (none, zip3D xs ys zs)
    | _, _, _ => stuck
def asgn (Φ : Calls) : Tg → D → M Unit
  | .nm i, d => setD i d
  | .sub i b, d => bnd (getL i) fun _ => bnd (ev Φ b) fun y => bnd (vw y) fun e => match e with
    | .int k => bnd (getL i) fun xs => match ixN xs.length k with | some j => putL i (xs.set j d) | none => stuck
    | _ => stuck
  | .tp ts, .tup ds => asgns Φ ts ds
  | .tp ts, .lst ds => asgns Φ ts ds
  | .tp _, _ => stuck
def asgns (Φ : Calls) : Tgs → List D → M Unit
  | .nil, [] => ret ()
  | .cons t ts, d :: ds => bnd (asgn Φ t d) fun _ => asgns Φ ts ds
  | _, _ => stuck
def xev (Φ : Calls) : E → Ev → Xr
  | .rse c es, ρ => match evs Φ es ρ with | .ok ds ρ1 => some (c, ds, ρ1) | .stk => none
  | .xc e, ρ => xcev Φ e ρ
  | .xa e, ρ => xaev Φ e ρ
  | _, _ => none
def xcev (Φ : Calls) : E → Ev → Xr
  | .call f perm as ks, ρ => match (bnd (evas Φ as) fun a => bnd (evas Φ ks) fun b => ret (a ++ b)) ρ with
    | .ok as ρ1 => xcallA Φ f perm as ρ1
    | .stk => none
  | .meth o ms perm as ks, ρ => match (bnd (ev Φ o) vw) ρ with
    | .ok (.obj c xs) ρ0 => match ms.lookup c with
      | some f => match (bnd (evas Φ as) fun a => bnd (evas Φ ks) fun b => ret (a ++ b)) ρ0 with
        | .ok as ρ1 => xcallA Φ f perm (.val (.obj c xs) :: as) ρ1
        | .stk => none
      | none => none
    | _ => none
  | .make _ f perm as ks, ρ => match (bnd (evas Φ as) fun a => bnd (evas Φ ks) fun b => ret (a ++ b)) ρ with
    | .ok as ρ1 => match (pick perm as).bind valsOf with
      | some ds => xcall Φ f (.un :: ds.map .fz) ρ1
      | none => none
    | .stk => none
  | .lst es, ρ => xevs Φ es ρ
  | .cmp _ a _, ρ => xev Φ a ρ
  | .not a, ρ => xev Φ a ρ
  | .ite t a b, ρ => match (bnd (ev Φ t) fun x => bnd (vw x) fun d => ofO (truthD d)) ρ with
    | .ok k ρ1 => if k then xev Φ a ρ1 else xev Φ b ρ1
    | .stk => none
  | _, _ => none
def xaev (Φ : Calls) : E → Ev → Xr
  | .slc a _ _, ρ => xev Φ a ρ
  | .bin _ a _, ρ => xev Φ a ρ
  | .bi _ (.cons a _), ρ => xev Φ a ρ
  | .call _ _ (.val a _) _, ρ => xev Φ a ρ
  | _, _ => none
def xevs (Φ : Calls) : Es → Ev → Xr
  | .nil, _ => none
  | .cons e es, ρ => match (bnd (ev Φ e) share) ρ with
    | .ok _ ρ1 => xevs Φ es ρ1
    | .stk => xev Φ e ρ
end
mutual
def Tg.slots : Tg → List Nat
  | .nm i => [i]
  | .sub _ _ => []
  | .tp ts => ts.slots
def Tgs.slots : Tgs → List Nat
  | .nil => []
  | .cons t ts => t.slots ++ ts.slots
end
/-- what a plain assignment stores: a fresh list goes to its slot -/
def asgR (Φ : Calls) : Tg → R → M Unit
  | .nm i, r => setR i r
  | t, r => bnd (share r) fun d => asgn Φ t d
def fuelW : Nat := 100000
mutual
def exec (Φ : Calls) : S → M Fl
  | .asg t e => bnd (ev Φ e) fun r => bnd (asgR Φ t r) fun _ => ret .nx
  | .par i j a b => bnd (ev Φ a) fun x => bnd (ev Φ b) fun y => bnd (unref x) fun x => bnd (unref y) fun y => bnd (setR i x) fun _ => bnd (setR j y) fun _ => ret .nx
  | .par3 i j l a b c => bnd (ev Φ a) fun x => bnd (ev Φ b) fun y => bnd (ev Φ c) fun z => bnd (unref x) fun x => bnd (unref y) fun y => bnd (unref z) fun z => match y, z with
    | .fz d, .fz e => bnd (setR i x) fun _ => bnd (setD j d) fun _ => bnd (setD l e) fun _ => ret .nx
    | _, _ => stuck
  | .aug i o e => bnd (ev Φ (.var i)) fun x => bnd (ev Φ e) fun y => bnd (vw x) fun d => bnd (vw y) fun e => match d, e with
    | .int _, .int _ => bnd (ofO (binD o d e)) fun r => bnd (setR i r) fun _ => ret .nx
    | _, _ => stuck
  | .ex e => bnd (ev Φ e) fun _ => ret .nx
  | .ifs c a b => bnd (ev Φ c) fun x => bnd (vw x) fun d => bnd (ofO (truthD d)) fun k => if k then execs Φ a else execs Φ b
  | .for_ t it b => bnd (evit Φ it) fun (l, xs) => withLock l (forL (fun x => bnd (asgn Φ t x) fun _ => execs Φ b) xs)
  | .whl c b => whileN (bnd (ev Φ c) fun x => bnd (vw x) fun d => ofO (truthD d)) (execs Φ b) fuelW
  | .ret e => bnd (ev Φ e) fun r => ret (.rt r)
  | .retN => ret (.rt (.fz .non))
  | .pass => ret .nx
  | .brk => ret .bk
  | .cnt => ret .ct
  | .wip ws => bnd (dropM ws) fun _ => ret .nx
  | .dnew i => bnd (dsetM i) fun _ => ret .nx
  | .par3d i j l a b => bnd (ev Φ a) fun x => bnd (ev Φ b) fun y => bnd (unref x) fun x => bnd (unref y) fun y => match y with
    | .fz d => bnd (setR i x) fun _ => bnd (setD j d) fun _ => bnd (dsetM l) fun _ => ret .nx
    | _ => stuck
  | .par2d i l a => bnd (ev Φ a) fun x => bnd (unref x) fun x => bnd (setR i x) fun _ => bnd (dsetM l) fun _ => ret .nx
  | .star i j e => bnd (ev Φ e) fun x => bnd (vw x) fun d => match d with
    | .tup (y :: ys) => bnd (setD i y) fun _ => bnd (setL j ys) fun _ => ret .nx
    | _ => stuck
  | .dput i e v => bnd (ev Φ v) fun x => bnd (share x) fun d => bnd (dgetM i) fun _ => bnd (ev Φ e) fun y => bnd (vw y) fun z => match z with
    | .int k => bnd (dgetM i) fun xs => if xs.length < sizeLine then bnd (dputM i (dputD xs k d)) fun _ => ret .nx else stuck
    | _ => stuck
  | .tryR e hs => fun ρ => match ev Φ e ρ with
    | .ok r ρ1 => .ok (.rt r) ρ1
    | .stk => match xev Φ e ρ with
      | some (c, fs, ρ1) => match hs.lookup c with
        | some w => if fs.length = xAr c then .ok (.rt (.fr (.str w :: fs))) ρ1 else .stk
        | none => .stk
      | none => .stk
  | .tryN e k => fun ρ => match ev Φ e ρ with
    | .ok r ρ1 => .ok (.rt r) ρ1
    | .stk => match xev Φ e ρ with
      | some (c, fs, ρ1) => if c = k ∧ fs.length = xAr c then .ok (.rt (.fz .non)) ρ1 else .stk
      | none => .stk
def execs (Φ : Calls) : Ss → M Fl
  | .nil => ret .nx
  | .cons s ss => bnd (exec Φ s) fun
    | .nx => execs Φ ss
    | f => ret f
end
def xit (Φ : Calls) : It → Ev → Xr
  | .val e, ρ => xev Φ e ρ
  | _, _ => none
def xforL (step : D → M Fl) (xs : D → Ev → Xr) : List D → Ev → Xr
  | [], _ => none
  | d :: ds, ρ => match step d ρ with
    | .ok .nx ρ1 => xforL step xs ds ρ1
    | .ok .ct ρ1 => xforL step xs ds ρ1
    | .ok _ _ => none
    | .stk => xs d ρ
mutual
def xexec (Φ : Calls) : S → Ev → Xr
  | .ex e, ρ => xev Φ e ρ
  | .ret e, ρ => xev Φ e ρ
  | .asg _ e, ρ => xev Φ e ρ
  | .ifs c a b, ρ => match (bnd (ev Φ c) fun x => bnd (vw x) fun d => ofO (truthD d)) ρ with
    | .ok k ρ1 => if k then xexecs Φ a ρ1 else xexecs Φ b ρ1
    | .stk => xev Φ c ρ
  | .for_ t it b, ρ => match evit Φ it ρ with
    | .ok (none, xs) ρ1 => xforL (fun x => bnd (asgn Φ t x) fun _ => execs Φ b) (fun x ρ2 => match asgn Φ t x ρ2 with | .ok _ ρ3 => xexecs Φ b ρ3 | .stk => none) xs ρ1
    | .ok _ _ => none
    | .stk => xit Φ it ρ
  | _, _ => none
def xexecs (Φ : Calls) : Ss → Ev → Xr
  | .nil, _ => none
  | .cons s ss, ρ => match exec Φ s ρ with
    | .ok .nx ρ1 => xexecs Φ ss ρ1
    | .ok _ _ => none
    | .stk => xexec Φ s ρ
end
/-- a def of the table: its parameters, its slots, its body -/
structure Df where
  np : Nat
  ns : Nat
  body : Ss
/-- a result that leaves its def -/
def leave (ρ : Ev) : R → Option R
  | .fz d => some (.fz d)
  | .fr xs => some (.fr xs)
  | .rf i => match ρ[i]? with | some (.ls .own xs) => some (.fr xs) | _ => none
/-- the slots that were passed by reference, as the def has left them -/
def behind : List Sl → Ev → List Sl
  | [], _ => []
  | .ls _ _ :: as, s :: ρ => s :: behind as ρ
  | a :: as, ρ => a :: behind as ρ.tail
def callN (T : List Df) : Nat → Calls
  | 0, _, _ => none
  | k + 1, f, args => match T[f]? with
    | none => if XO ≤ f then match T[f - XO]? with
        | none => none
        | some d => if args.length = d.np then match xexecs (callN T k) d.body (args ++ List.replicate (d.ns - d.np) .un) with
            | some (c, fs, _) => some (.fz (.tup [.int c, .tup fs]), args)
            | none => none
          else none
      else none
    | some d => if args.length = d.np then
        match execs (callN T k) d.body (args ++ List.replicate (d.ns - d.np) .un) with
        | .ok (.rt r) ρ => (leave ρ r).map fun r => (r, behind args ρ)
        | .ok .nx ρ => some (.fz .non, behind args ρ)
        | _ => none
      else none
end DL
end
section
set_option autoImplicit false
/-! DLb: how data stands in the heap, and what a run may change. -/
namespace DL
open PySem L2
/-- the tables of the code objects that make lambdas, with the lambdas' names -/
class LTabs where
  T : List (Addr × Str)
  /-- what may be shown while a def runs -/
  gk : Option (List Code) → Prop
  gk0 : gk (some [])
/-- laws without lambdas -/
instance (priority := 1) noTabs : LTabs := ⟨[], fun g => g = some [], rfl⟩
variable [LTabs]
abbrev Gok (A : Around) : Prop := LTabs.gk A.guards
def NT (o : HO) : Prop := ∀ ps, o ≠ .tbl ps
/-- the tables stand in the heap -/
def LTb (H : Hp) : Prop := LamX.Tabs LTabs.T H
theorem LTb.new {H : Hp} {p : Addr} {o : HO} (t : LTb H) (hp : H p = none) : LTb (upd H p o) := LamX.Tabs.ext t fun b u e => by rw [upd_ne (ne_of_none e hp)]; exact e
theorem LTb.set {H : Hp} {a : Addr} {o o' : HO} (t : LTb H) (ha : H a = some o) (nt : NT o := by intro _ z; cases z) (nc : ∀ c q, o ≠ LamX.CodeO c q := by intro _ _ z; unfold LamX.CodeO at z; cases z) : LTb (upd H a o') := fun p hp => by
  obtain ⟨ps, h1, h2, h3⟩ := t p hp
  refine ⟨ps, ?_, h2, fun pos cv hc => ?_⟩
  · rw [upd_ne]
    · exact h1
    · intro z; rw [z, ha] at h1; exact nt ps (Option.some.inj h1)
  · obtain ⟨c, e1, e2⟩ := h3 pos cv hc
    refine ⟨c, e1, ?_⟩
    rw [upd_ne]
    · exact e2
    · intro z; rw [z, ha] at e2; exact nc _ _ (Option.some.inj e2)
/-- what stood stays, tables grow -/
structure Kp (H H' : Hp) : Prop where
  keep : ∀ b o, H b = some o → NT o → H' b = some o
  stay : ∀ b, H' b = none → H b = none
  tb : LTb H → LTb H'
theorem Kp.refl {H : Hp} : Kp H H := ⟨fun _ _ h _ => h, fun _ h => h, fun t => t⟩
theorem Kp.trans {H H' H'' : Hp} (a : Kp H H') (b : Kp H' H'') : Kp H H'' := ⟨fun c o h n => b.keep c o (a.keep c o h n) n, fun c h => a.stay c (b.stay c h), fun t => b.tb (a.tb t)⟩
theorem Kp.new {H : Hp} {p : Addr} {o : HO} (hp : H p = none) : Kp H (upd H p o) := ⟨fun b u h _ => by rw [upd_ne (ne_of_none h hp)]; exact h, fun b h => by
  by_cases e : b = p
  · rw [e, upd_same] at h; cases h
  · rw [upd_ne e] at h; exact h, fun t => t.new hp⟩
/-- a thing that is new since H changes -/
theorem Kp.set {H H' : Hp} {a : Addr} {o o' : HO} (k : Kp H H') (h0 : H a = none) (ha : H' a = some o) (nt : NT o := by intro _ z; cases z) (nc : ∀ c q, o ≠ LamX.CodeO c q := by intro _ _ z; unfold LamX.CodeO at z; cases z) : Kp H (upd H' a o') :=
  ⟨fun b u h n => by rw [upd_ne (ne_of_none h h0)]; exact k.keep b u h n, fun b h => by
    by_cases e : b = a
    · rw [e, upd_same] at h; cases h
    · rw [upd_ne e] at h; exact k.stay b h, fun t => (k.tb t).set ha nt nc⟩
/-- an object of the written part -/
def KSeq (K : PySem.W.Frag) (cls : String) (dict : Bool) (a : Addr) (xs : List V) : Prop :=
  ∃ (o : Obj) (its : Array Value) (n : Nat), K.lookup a = some o ∧ o.cls = .type cls ∧ (dict = true → o.dict = none) ∧ o.data = .seq its n ∧ its.size ≤ sizeLine ∧ Vals xs its.toList
def ReS (K : PySem.W.Frag) (S : Addr → Prop) (H : Hp) (a : Addr) (xs : List V) : Prop := (S a ∧ Rd H a (.lst xs)) ∨ KSeq K "list" true a xs
def ReL (S : Addr → Prop) (H : Hp) (a : Addr) (xs : List V) : Prop := S a ∧ H a = some (.lst xs)
def ReT (K : PySem.W.Frag) (S : Addr → Prop) (H : Hp) (a : Addr) (xs : List V) : Prop := (S a ∧ Rd H a (.tup xs)) ∨ KSeq K "tuple" false a xs
mutual
/-- v is the frozen datum d -/
inductive Rp (K : PySem.W.Frag) (S : Addr → Prop) (H : Hp) : V → D → Prop
  | non : Rp K S H .non .non
  | bl (b : Bool) : Rp K S H (.bl b) (.bl b)
  | int (i : Int) : Rp K S H (.int i) (.int i)
  | str (x : Str) : Rp K S H (.str x) (.str x)
  | tup {a : Addr} {vs : List V} {ds : List D} : ReT K S H a vs → Rps K S H vs ds → Rp K S H (.ref a) (.tup ds)
  | lst {a : Addr} {vs : List V} {ds : List D} : ReL S H a vs → Rps K S H vs ds → Rp K S H (.ref a) (.lst ds)
  | scr {a : Addr} {vs : List V} {ds : List D} : ReS K S H a vs → Rps K S H vs ds → Rp K S H (.ref a) (.scr ds)
  | obj {a C dx : Addr} {c : Nat} {vs : List V} {ds : List D} : PySem.W.nsIn K mainGlobals (cName c) = some (some (.ref C)) → S a → H a = some (.ins C dx ((cFlds c).zip vs)) → vs.length = (cFlds c).length → Rps K S H vs ds → Rp K S H (.ref a) (.obj c ds)
  | emp {a : Addr} : S a → H a = some (.dK []) → Rp K S H (.ref a) .emp
inductive Rps (K : PySem.W.Frag) (S : Addr → Prop) (H : Hp) : List V → List D → Prop
  | nil : Rps K S H [] []
  | cons {v : V} {vs : List V} {d : D} {ds : List D} : Rp K S H v d → Rps K S H vs ds → Rps K S H (v :: vs) (d :: ds)
end
/-- frozen things stay -/
structure Ke (S : Addr → Prop) (H : Hp) (S' : Addr → Prop) (H' : Hp) : Prop where
  sub : ∀ a, S a → S' a
  keep : ∀ a o, S a → H a = some o → (nt : NT o := by intro _ z; cases z) → H' a = some o
section
variable {K : PySem.W.Frag} {S S' : Addr → Prop} {H H' : Hp}
theorem Ke.rd (k : Ke S H S' H') {a : Addr} {u : HO} (h : S a ∧ Rd H a u) (nt : NT u := by intro _ z; cases z) : S' a ∧ Rd H' a u :=
  ⟨k.sub a h.1, h.2.elim (fun e => .inl (k.keep a _ h.1 e nt)) fun ⟨o, e⟩ => .inr ⟨o, k.keep a _ h.1 e⟩⟩
theorem ReL.mono (k : Ke S H S' H') {a : Addr} {xs : List V} (h : ReL S H a xs) : ReL S' H' a xs := ⟨k.sub a h.1, k.keep a _ h.1 h.2⟩
theorem ReS.mono (k : Ke S H S' H') {a : Addr} {xs : List V} (h : ReS K S H a xs) : ReS K S' H' a xs := h.elim (fun h => .inl (k.rd h)) .inr
theorem ReT.mono (k : Ke S H S' H') {a : Addr} {xs : List V} (h : ReT K S H a xs) : ReT K S' H' a xs := h.elim (fun h => .inl (k.rd h)) .inr
mutual
theorem Rp.mono (k : Ke S H S' H') : ∀ {v : V} {d : D}, Rp K S H v d → Rp K S' H' v d
  | _, _, .non => .non
  | _, _, .bl b => .bl b
  | _, _, .int b => .int b
  | _, _, .str b => .str b
  | _, _, .tup h r => .tup (h.mono k) (Rps.mono k r)
  | _, _, .lst h r => .lst (h.mono k) (Rps.mono k r)
  | _, _, .scr h r => .scr (h.mono k) (Rps.mono k r)
  | _, _, .obj n s h l r => .obj n (k.sub _ s) (k.keep _ _ s h) l (Rps.mono k r)
  | _, _, .emp s h => .emp (k.sub _ s) (k.keep _ _ s h)
theorem Rps.mono (k : Ke S H S' H') : ∀ {v : List V} {d : List D}, Rps K S H v d → Rps K S' H' v d
  | _, _, .nil => .nil
  | _, _, .cons h r => .cons (Rp.mono k h) (Rps.mono k r)
end
theorem ReL.sq {a : Addr} {xs : List V} (h : ReL S H a xs) : SqL K H a xs := .inl (.inl h.2)
theorem ReS.sq {a : Addr} {xs : List V} (h : ReS K S H a xs) : SqL K H a xs := by
  rcases h with h | ⟨o, its, n, h1, h2, h3, h4, h5, h6⟩
  · exact .inl h.2
  · exact .inr ⟨o, its, n, h1, h2, h3 rfl, h4, h5, h6⟩
theorem ReT.sq {a : Addr} {xs : List V} (h : ReT K S H a xs) : SqT K H a xs := by
  rcases h with h | ⟨o, its, n, h1, h2, h3, h4, h5, h6⟩
  · exact .inl h.2
  · exact .inr ⟨o, its, n, h1, h2, h4, h5, h6⟩
mutual
theorem Rp.dp : ∀ {v : V} {d : D}, Rp K S H v d → pureD d = true → Dp K H v (toPy d)
  | _, _, .non, _ => .non
  | _, _, .bl b, _ => .bl b
  | _, _, .int b, _ => .int b
  | _, _, .str b, _ => .str b
  | _, _, .tup h r, p => .tup h.sq (Rps.dp r p)
  | _, _, .lst h r, p => .lst h.sq (Rps.dp r p)
  | _, _, .scr h r, p => .lst h.sq (Rps.dp r p)
  | _, _, .obj _ _ _ _ _, p => by cases p
  | _, _, .emp _ _, p => by cases p
theorem Rps.dp : ∀ {v : List V} {d : List D}, Rps K S H v d → puresD d = true → DpAll K H v (toPy.toPys d)
  | _, _, .nil, _ => .nil
  | _, _, .cons h r, p => by
    obtain ⟨p1, p2⟩ := Bool.and_eq_true _ _ |>.mp (show (_ && _) = true from p)
    exact .cons (Rp.dp h p1) (Rps.dp r p2)
end
/-! ### what repr reads: empty dicts, too -/
mutual
inductive Dq (K : PySem.W.Frag) (H : Hp) : V → PyData → Prop
  | non : Dq K H .non .none
  | bl (b : Bool) : Dq K H (.bl b) (.bool b)
  | int (i : Int) : Dq K H (.int i) (.int i)
  | str (x : Str) : Dq K H (.str x) (.str x)
  | lst {a : Addr} {xs : List V} {ds : List PyData} : SqL K H a xs → Dqs K H xs ds → Dq K H (.ref a) (.list ds)
  | tup {a : Addr} {xs : List V} {ds : List PyData} : SqT K H a xs → Dqs K H xs ds → Dq K H (.ref a) (.tuple ds)
  | emp {a : Addr} : H a = some (.dK []) → Dq K H (.ref a) (.dict [])
inductive Dqs (K : PySem.W.Frag) (H : Hp) : List V → List PyData → Prop
  | nil : Dqs K H [] []
  | cons {v : V} {vs : List V} {d : PyData} {ds : List PyData} : Dq K H v d → Dqs K H vs ds → Dqs K H (v :: vs) (d :: ds)
end
mutual
theorem Rp.dq : ∀ {v : V} {d : D}, Rp K S H v d → pureR d = true → Dq K H v (toPy d)
  | _, _, .non, _ => .non
  | _, _, .bl b, _ => .bl b
  | _, _, .int b, _ => .int b
  | _, _, .str b, _ => .str b
  | _, _, .tup h r, p => .tup h.sq (Rps.dq r p)
  | _, _, .lst h r, p => .lst h.sq (Rps.dq r p)
  | _, _, .scr h r, p => .lst h.sq (Rps.dq r p)
  | _, _, .obj _ _ _ _ _, p => by cases p
  | _, _, .emp _ h, _ => .emp h
theorem Rps.dq : ∀ {v : List V} {d : List D}, Rps K S H v d → puresR d = true → Dqs K H v (toPy.toPys d)
  | _, _, .nil, _ => .nil
  | _, _, .cons h r, p => by
    obtain ⟨p1, p2⟩ := Bool.and_eq_true _ _ |>.mp (show (_ && _) = true from p)
    exact .cons (Rp.dq h p1) (Rps.dq r p2)
end
theorem Rps.length : ∀ {vs : List V} {ds : List D}, Rps K S H vs ds → vs.length = ds.length
  | _, _, .nil => rfl
  | _, _, .cons _ r => by rw [List.length_cons, List.length_cons, Rps.length r]
theorem Rps.get : ∀ {vs : List V} {ds : List D} {i : Nat} {d : D}, Rps K S H vs ds → ds[i]? = some d → ∃ v, vs[i]? = some v ∧ Rp K S H v d
  | _, _, i, d, .nil, e => by simp at e
  | _, _, 0, d, .cons h _, e => by simp at e; subst e; exact ⟨_, rfl, h⟩
  | _, _, i + 1, d, .cons _ r, e => by
    obtain ⟨v, h1, h2⟩ := Rps.get (i := i) (d := d) r (by simpa using e)
    exact ⟨v, by simpa using h1, h2⟩
theorem Rps.getV : ∀ {vs : List V} {ds : List D} {i : Nat} {v : V}, Rps K S H vs ds → vs[i]? = some v → ∃ d, ds[i]? = some d ∧ Rp K S H v d
  | _, _, i, d, .nil, e => by simp at e
  | _, _, 0, d, .cons h _, e => by simp at e; subst e; exact ⟨_, rfl, h⟩
  | _, _, i + 1, d, .cons _ r, e => by
    obtain ⟨v, h1, h2⟩ := Rps.getV (i := i) (v := d) r (by simpa using e)
    exact ⟨v, by simpa using h1, h2⟩
theorem Rps.append : ∀ {vs us : List V} {ds es : List D}, Rps K S H vs ds → Rps K S H us es → Rps K S H (vs ++ us) (ds ++ es)
  | _, _, _, _, .nil, r => r
  | _, _, _, _, .cons h t, r => .cons h (Rps.append t r)
theorem Rps.take : ∀ {vs : List V} {ds : List D} (n : Nat), Rps K S H vs ds → Rps K S H (vs.take n) (ds.take n)
  | _, _, 0, _ => .nil
  | _, _, _ + 1, .nil => .nil
  | _, _, n + 1, .cons h r => .cons h (Rps.take n r)
theorem Rps.drop : ∀ {vs : List V} {ds : List D} (n : Nat), Rps K S H vs ds → Rps K S H (vs.drop n) (ds.drop n)
  | _, _, 0, r => r
  | _, _, _ + 1, .nil => .nil
  | _, _, n + 1, .cons _ r => Rps.drop n r
theorem Rps.set {v : V} {d : D} (h : Rp K S H v d) : ∀ {vs : List V} {ds : List D} (n : Nat), Rps K S H vs ds → Rps K S H (vs.set n v) (ds.set n d)
  | _, _, _, .nil => .nil
  | _, _, 0, .cons _ r => .cons h r
  | _, _, n + 1, .cons q r => .cons q (Rps.set h n r)
theorem Rps.cut {vs : List V} {ds : List D} (r : Rps K S H vs ds) (lo hi : Option Int) : Rps K S H (cutV vs lo hi) (cut ds lo hi) := by
  unfold cutV DL.cut
  rw [r.length]
  exact (r.drop _).take _
theorem Rps.intsD : ∀ {vs : List V} {ds : List D} {ns : List Int}, Rps K S H vs ds → intsD ds = some ns → vs = ns.map V.int
  | _, _, ns, .nil, e => by cases e; rfl
  | _, _, ns, .cons (.int i) r, e => by
    rename_i vs ds
    have e : (DL.intsD ds).map (i :: ·) = some ns := e
    cases q : DL.intsD ds with
    | none => rw [q] at e; cases e
    | some ms => rw [q] at e; cases e; rw [Rps.intsD r q]; rfl
  | _, _, ns, .cons .non r, e => by cases e
  | _, _, ns, .cons (.bl _) r, e => by cases e
  | _, _, ns, .cons (.str _) r, e => by cases e
  | _, _, ns, .cons (.tup _ _) r, e => by cases e
  | _, _, ns, .cons (.lst _ _) r, e => by cases e
  | _, _, ns, .cons (.scr _ _) r, e => by cases e
  | _, _, ns, .cons (.obj _ _ _ _ _) r, e => by cases e
  | _, _, ns, .cons (.emp _ _) r, e => by cases e
theorem Rps.boolsD : ∀ {vs : List V} {ds : List D} {ns : List Bool}, Rps K S H vs ds → boolsD ds = some ns → vs = ns.map V.bl
  | _, _, ns, .nil, e => by cases e; rfl
  | _, _, ns, .cons (.bl i) r, e => by
    rename_i vs ds
    have e : (DL.boolsD ds).map (i :: ·) = some ns := e
    cases q : DL.boolsD ds with
    | none => rw [q] at e; cases e
    | some ms => rw [q] at e; cases e; rw [Rps.boolsD r q]; rfl
  | _, _, ns, .cons .non r, e => by cases e
  | _, _, ns, .cons (.int _) r, e => by cases e
  | _, _, ns, .cons (.str _) r, e => by cases e
  | _, _, ns, .cons (.tup _ _) r, e => by cases e
  | _, _, ns, .cons (.lst _ _) r, e => by cases e
  | _, _, ns, .cons (.scr _ _) r, e => by cases e
  | _, _, ns, .cons (.obj _ _ _ _ _) r, e => by cases e
  | _, _, ns, .cons (.emp _ _) r, e => by cases e
theorem boolsD_map : ∀ (ns : List Bool), boolsD (ns.map D.bl) = some ns
  | [] => rfl
  | n :: r => by show (boolsD (r.map D.bl)).map (n :: ·) = _; rw [boolsD_map r]; rfl
/-- what may be read now as d -/
inductive Vd (K : PySem.W.Frag) (S : Addr → Prop) (H : Hp) (v : V) : D → Prop
  | fz {d : D} : Rp K S H v d → Vd K S H v d
  | ls {a : Addr} {vs : List V} {xs : List D} : v = .ref a → H a = some (.lst vs) → Rps K S H vs xs → Vd K S H v (.lst xs)
variable {v : V}
theorem Vd.dp {d : D} (h : Vd K S H v d) (p : pureD d = true) : Dp K H v (toPy d) := by
  cases h with
  | fz h => exact h.dp p
  | ls e h r => subst e; exact .lst (.inl (.inl h)) (r.dp p)
theorem Vd.dq {d : D} (h : Vd K S H v d) (p : pureR d = true) : Dq K H v (toPy d) := by
  cases h with
  | fz h => exact h.dq p
  | ls e h r => subst e; exact .lst (.inl (.inl h)) (r.dq p)
theorem Vd.e (h : Vd K S H v .emp) : ∃ a, v = .ref a ∧ H a = some (.dK []) := by
  cases h with
  | fz h => cases h with | emp s h => exact ⟨_, rfl, h⟩
theorem Vd.i {i : Int} (h : Vd K S H v (.int i)) : v = .int i := by
  cases h with
  | fz h => cases h; rfl
theorem Vd.b {i : Bool} (h : Vd K S H v (.bl i)) : v = .bl i := by
  cases h with
  | fz h => cases h; rfl
theorem Vd.n (h : Vd K S H v .non) : v = .non := by
  cases h with
  | fz h => cases h; rfl
theorem Vd.s {i : Str} (h : Vd K S H v (.str i)) : v = .str i := by
  cases h with
  | fz h => cases h; rfl
theorem Vd.t {xs : List D} (h : Vd K S H v (.tup xs)) : ∃ a vs, v = .ref a ∧ SqT K H a vs ∧ Rps K S H vs xs := by
  cases h with
  | fz h => cases h with | tup h r => exact ⟨_, _, rfl, h.sq, r⟩
theorem Vd.tf {xs : List D} (h : Vd K S H v (.tup xs)) : Rp K S H v (.tup xs) := by
  cases h with
  | fz h => exact h
theorem Vd.l {xs : List D} (h : Vd K S H v (.lst xs)) : ∃ a vs, v = .ref a ∧ H a = some (.lst vs) ∧ Rps K S H vs xs := by
  cases h with
  | fz h => cases h with | lst h r => exact ⟨_, _, rfl, h.2, r⟩
  | ls e h r => exact ⟨_, _, e, h, r⟩
theorem Vd.c {xs : List D} (h : Vd K S H v (.scr xs)) : ∃ a vs, v = .ref a ∧ SqL K H a vs ∧ Rps K S H vs xs := by
  cases h with
  | fz h => cases h with | scr h r => exact ⟨_, _, rfl, h.sq, r⟩
theorem Vd.mono {d : D} (k : ∀ a o, H a = some o → (nt : NT o := by intro _ z; cases z) → H' a = some o) (kS : ∀ a, S a → S' a) (h : Vd K S H v d) : Vd K S' H' v d := by
  cases h with
  | fz h => exact .fz (h.mono ⟨kS, fun a o _ h nt => k a o h nt⟩)
  | ls e h r => exact .ls e (k _ _ h) (r.mono ⟨kS, fun a o _ h nt => k a o h nt⟩)
end
/-- the entries of a dict of ints -/
inductive RdK (K : PySem.W.Frag) (S : Addr → Prop) (H : Hp) : List (Key × V) → List D → Prop
  | nil : RdK K S H [] []
  | cons {i : Int} {v : V} {d : D} {kvs : List (Key × V)} {xs : List D} : Rp K S H v d → RdK K S H kvs xs → RdK K S H ((.inl i, v) :: kvs) (.tup [.int i, d] :: xs)
theorem RdK.mono {K : PySem.W.Frag} {S S' : Addr → Prop} {H H' : Hp} (k : Ke S H S' H') {kvs : List (Key × V)} {xs : List D} (h : RdK K S H kvs xs) : RdK K S' H' kvs xs := by
  induction h with
  | nil => exact .nil
  | cons a _ ih => exact .cons (a.mono k) ih
/-- the addresses of the lists that slots hold -/
def Own (ρ : Ev) (σ : St) (a : Addr) : Prop := ∃ (i : Nat) (k : Lk) (xs : List D), ρ[i]? = some (.ls k xs) ∧ σ[i]? = some (some (V.ref a))
def SlotOk (K : PySem.W.Frag) (S : Addr → Prop) (H : Hp) : Sl → Option V → Prop
  | .un, _ => True
  | .fz d, ov => ∃ v, ov = some v ∧ Rp K S H v d
  | .ls k xs, ov => ∃ a, ov = some (V.ref a) ∧ ¬ S a ∧ ((k ≠ .dic ∧ ∃ vs, H a = some (.lst vs) ∧ Rps K S H vs xs) ∨ (k = .dic ∧ ∃ kvs, H a = some (.dK kvs) ∧ RdK K S H kvs xs))
theorem SlotOk.mkL {K : PySem.W.Frag} {S : Addr → Prop} {H : Hp} {k : Lk} {xs : List D} {ov : Option V} {a : Addr} {vs : List V} (hk : k ≠ .dic) (e : ov = some (V.ref a)) (h : H a = some (.lst vs)) (n : ¬ S a) (r : Rps K S H vs xs) : SlotOk K S H (.ls k xs) ov := ⟨a, e, n, .inl ⟨hk, vs, h, r⟩⟩
theorem hold_mono {K : PySem.W.Frag} {S S' : Addr → Prop} {H H' : Hp} {k : Lk} {xs : List D} {a : Addr} (h : (k ≠ .dic ∧ ∃ vs, H a = some (.lst vs) ∧ Rps K S H vs xs) ∨ (k = .dic ∧ ∃ kvs, H a = some (.dK kvs) ∧ RdK K S H kvs xs)) (g : ∀ o, H a = some o → NT o → H' a = some o) (ke : Ke S H S' H') :
    (k ≠ .dic ∧ ∃ vs, H' a = some (.lst vs) ∧ Rps K S' H' vs xs) ∨ (k = .dic ∧ ∃ kvs, H' a = some (.dK kvs) ∧ RdK K S' H' kvs xs) :=
  h.imp (fun ⟨q, vs, h1, h3⟩ => ⟨q, vs, g _ h1 (by intro _ z; cases z), h3.mono ke⟩) fun ⟨q, vs, h1, h3⟩ => ⟨q, vs, g _ h1 (by intro _ z; cases z), h3.mono ke⟩
theorem hold_some {K : PySem.W.Frag} {S : Addr → Prop} {H : Hp} {k : Lk} {xs : List D} {a : Addr} (h : (k ≠ .dic ∧ ∃ vs, H a = some (.lst vs) ∧ Rps K S H vs xs) ∨ (k = .dic ∧ ∃ kvs, H a = some (.dK kvs) ∧ RdK K S H kvs xs)) : H a ≠ none := by
  rcases h with ⟨_, vs, h, _⟩ | ⟨_, vs, h, _⟩ <;> rw [h] <;> simp
structure Rel (K : PySem.W.Frag) (S : Addr → Prop) (ρ : Ev) (σ : St) (H : Hp) : Prop where
  len : ρ.length = σ.length
  ok : ∀ (i : Nat) (s : Sl) (ov : Option V), ρ[i]? = some s → σ[i]? = some ov → SlotOk K S H s ov
  inj : ∀ (i j : Nat) (k l : Lk) (xs ys : List D) (a : Addr), ρ[i]? = some (.ls k xs) → ρ[j]? = some (.ls l ys) → σ[i]? = some (some (V.ref a)) → σ[j]? = some (some (V.ref a)) → i = j
  dom : ∀ a, S a → H a ≠ none
  tb : LTb H
section
variable {K : PySem.W.Frag} {S S' : Addr → Prop} {H H' : Hp} {ρ ρ' : Ev} {σ σ' : St}
theorem Rel.at (r : Rel K S ρ σ H) {i : Nat} {s : Sl} (e : ρ[i]? = some s) : ∃ ov, σ[i]? = some ov ∧ SlotOk K S H s ov := by
  have h : i < σ.length := by rw [← r.len]; exact (List.getElem?_eq_some_iff.mp e).1
  exact ⟨σ[i], List.getElem?_eq_getElem h, r.ok i s _ e (List.getElem?_eq_getElem h)⟩
theorem Rel.atL (r : Rel K S ρ σ H) {i : Nat} {k : Lk} {xs : List D} (e : ρ[i]? = some (.ls k xs)) (hk : k ≠ .dic := by decide) : ∃ a vs, σ[i]? = some (some (V.ref a)) ∧ H a = some (.lst vs) ∧ ¬ S a ∧ Rps K S H vs xs := by
  obtain ⟨ov, e1, a, e2, n, h | h⟩ := r.at e
  · obtain ⟨_, vs, h, r⟩ := h
    subst e2
    exact ⟨a, vs, e1, h, n, r⟩
  · exact absurd h.1 hk
theorem Rel.atK (r : Rel K S ρ σ H) {i : Nat} {xs : List D} (e : ρ[i]? = some (.ls .dic xs)) : ∃ a kvs, σ[i]? = some (some (V.ref a)) ∧ H a = some (.dK kvs) ∧ ¬ S a ∧ RdK K S H kvs xs := by
  obtain ⟨ov, e1, a, e2, n, h | h⟩ := r.at e
  · exact absurd rfl h.1
  · obtain ⟨_, kvs, h, r⟩ := h
    subst e2
    exact ⟨a, kvs, e1, h, n, r⟩
theorem Rel.atN (r : Rel K S ρ σ H) {i : Nat} {k : Lk} {xs : List D} (e : ρ[i]? = some (.ls k xs)) : ∃ a o, σ[i]? = some (some (V.ref a)) ∧ H a = some o ∧ ¬ S a := by
  obtain ⟨ov, e1, a, e2, n, ⟨_, vs, h, r⟩ | ⟨_, vs, h, r⟩⟩ := r.at e
  · subst e2; exact ⟨a, _, e1, h, n⟩
  · subst e2; exact ⟨a, _, e1, h, n⟩
theorem Rel.atF (r : Rel K S ρ σ H) {i : Nat} {d : D} (e : ρ[i]? = some (.fz d)) : ∃ v, σ[i]? = some (some v) ∧ Rp K S H v d := by
  obtain ⟨ov, e1, v, e2, h⟩ := r.at e
  subst e2
  exact ⟨v, e1, h⟩
theorem Rel.own_lst (r : Rel K S ρ σ H) {a : Addr} (h : Own ρ σ a) : ∃ o, H a = some o := by
  obtain ⟨i, k, xs, e1, e2⟩ := h
  obtain ⟨b, vs, e3, e4, _⟩ := r.atN e1
  rw [e2] at e3; cases e3
  exact ⟨vs, e4⟩
theorem Rel.own_ns (r : Rel K S ρ σ H) {a : Addr} (h : Own ρ σ a) : ¬ S a := by
  obtain ⟨i, k, xs, e1, e2⟩ := h
  obtain ⟨b, vs, e3, _, e4⟩ := r.atN e1
  rw [e2] at e3; cases e3
  exact e4
/-- what a run may change -/
structure Go (S : Addr → Prop) (ρ : Ev) (σ : St) (H : Hp) (S' : Addr → Prop) (ρ' : Ev) (σ' : St) (H' : Hp) : Prop where
  sub : ∀ a, S a → S' a
  new : ∀ a, S' a → S a ∨ H a = none ∨ Own ρ σ a
  own : ∀ a, Own ρ' σ' a → H a = none ∨ Own ρ σ a
  keep : ∀ a o, H a = some o → ¬ Own ρ σ a → (nt : NT o := by intro _ z; cases z) → H' a = some o
  stay : ∀ a, H' a = none → H a = none
  fix : ∀ (i : Nat) (k : Lk) (xs : List D), ρ[i]? = some (.ls k xs) → k ≠ .own → ∃ ys, ρ'[i]? = some (.ls k ys) ∧ σ'[i]? = σ[i]? ∧ (k = .lck → ys = xs)
theorem Go.refl : Go S ρ σ H S ρ σ H := ⟨fun _ h => h, fun _ h => .inl h, fun _ h => .inr h, fun _ _ h _ _ => h, fun _ h => h, fun _ _ xs h _ => ⟨xs, h, rfl, fun _ => rfl⟩⟩
theorem Go.kp (g : Go S ρ σ H S' ρ' σ' H') : ∀ a o, H a = some o → ¬ Own ρ σ a → NT o → H' a = some o := fun a o h n nt => g.keep a o h n nt
variable {S'' : Addr → Prop} {H'' : Hp} {ρ'' : Ev} {σ'' : St}
theorem Go.trans (a : Go S ρ σ H S' ρ' σ' H') (b : Go S' ρ' σ' H' S'' ρ'' σ'' H'') : Go S ρ σ H S'' ρ'' σ'' H'' where
  sub := fun x h => b.sub x (a.sub x h)
  new := fun x h => by
    rcases b.new x h with h | h | h
    · exact a.new x h
    · exact .inr (.inl (a.stay x h))
    · exact .inr (a.own x h)
  own := fun x h => by
    rcases b.own x h with h | h
    · exact .inl (a.stay x h)
    · exact a.own x h
  keep := fun x o h n nt => b.keep x o (a.keep x o h n nt) (nt := nt) fun h' => (a.own x h').elim (fun z => by rw [z] at h; cases h) n
  stay := fun x h => a.stay x (b.stay x h)
  fix := fun i k xs h n => by
    obtain ⟨ys, e1, e2, e5⟩ := a.fix i k xs h n
    obtain ⟨zs, e3, e4, e6⟩ := b.fix i k ys e1 n
    exact ⟨zs, e3, e4.trans e2, fun e => (e6 e).trans (e5 e)⟩
theorem Go.ke (r : Rel K S ρ σ H) (g : Go S ρ σ H S' ρ' σ' H') : Ke S H S' H' := ⟨g.sub, fun a o s h nt => g.keep a o h (nt := nt) fun w => r.own_ns w s⟩
/-- only new things: nothing that stood is changed -/
structure Gn (S : Addr → Prop) (H : Hp) (S' : Addr → Prop) (H' : Hp) : Prop where
  sub : ∀ a, S a → S' a
  new : ∀ a, S' a → S a ∨ H a = none
  keep : ∀ a o, H a = some o → (nt : NT o := by intro _ z; cases z) → H' a = some o
  dom : (∀ a, S a → H a ≠ none) → ∀ a, S' a → H' a ≠ none
  stay : ∀ a, H' a = none → H a = none
  tb : LTb H → LTb H'
theorem Gn.refl : Gn S H S H := ⟨fun _ h => h, fun _ h => .inl h, fun _ _ h _ => h, fun h => h, fun _ h => h, fun h => h⟩
theorem Gn.ke (g : Gn S H S' H') : Ke S H S' H' := ⟨g.sub, fun a o _ h nt => g.keep a o h nt⟩
theorem Gn.kp (g : Gn S H S' H') : Kp H H' := ⟨fun b o h n => g.keep b o h n, g.stay, g.tb⟩
theorem Gn.trans (a : Gn S H S' H') (b : Gn S' H' S'' H'') : Gn S H S'' H'' :=
  ⟨fun x h => b.sub x (a.sub x h), fun x h => (b.new x h).elim (a.new x) fun h => .inr (a.stay x h), fun x o h nt => b.keep x o (a.keep x o h nt) nt, fun h => b.dom (a.dom h), fun x h => a.stay x (b.stay x h), fun h => b.tb (a.tb h)⟩
theorem Gn.go (g : Gn S H S' H') : Go S ρ σ H S' ρ σ H' :=
  ⟨g.sub, fun a h => (g.new a h).imp id .inl, fun _ h => .inr h, fun a o h _ nt => g.keep a o h nt, g.stay, fun _ _ xs h _ => ⟨xs, h, rfl, fun _ => rfl⟩⟩
theorem SlotOk.gn (g : Gn S H S' H') (tr : ∀ a, Own ρ σ a → H a ≠ none) {i : Nat} {s : Sl} {ov : Option V} (e : ρ[i]? = some s) (e2 : σ[i]? = some ov) (h : SlotOk K S H s ov) : SlotOk K S' H' s ov := by
  cases s with
  | un => trivial
  | fz d => obtain ⟨v, e, h⟩ := h; exact ⟨v, e, h.mono g.ke⟩
  | ls k xs =>
    obtain ⟨a, e1, h2, h⟩ := h
    subst e1
    refine ⟨a, rfl, fun z => (g.new a z).elim h2 (tr a ⟨i, k, xs, e, e2⟩), ?_⟩
    exact h.imp (fun ⟨q, vs, h1, h3⟩ => ⟨q, vs, g.keep a _ h1, h3.mono g.ke⟩) fun ⟨q, vs, h1, h3⟩ => ⟨q, vs, g.keep a _ h1, h3.mono g.ke⟩
theorem Rel.gn (r : Rel K S ρ σ H) (g : Gn S H S' H') : Rel K S' ρ σ H' :=
  ⟨r.len, fun i s ov e e2 => (r.ok i s ov e e2).gn g (fun a h => by obtain ⟨vs, e⟩ := r.own_lst h; rw [e]; simp) e e2, r.inj, g.dom r.dom, g.tb r.tb⟩
theorem upd_stay {p : Addr} {o : HO} (a : Addr) (h : upd H p o a = none) : H a = none := by
  by_cases e : a = p
  · rw [e, upd_same] at h; cases h
  · rw [upd_ne e] at h; exact h
theorem Gn.tup {p : Addr} {vs : List V} (hp : H p = none) : Gn S H (fun a => S a ∨ a = p) (upd H p (.tup vs)) :=
  ⟨fun _ h => .inl h, fun a h => h.imp id fun e => by rw [e]; exact hp, fun a o h _ => by rw [upd_ne (ne_of_none h hp)]; exact h, fun d a h => by
    by_cases e : a = p
    · rw [e, upd_same]; simp
    · rw [upd_ne e]; exact d a (h.resolve_right e), upd_stay, fun t => t.new hp⟩
theorem Gn.one {p : Addr} {o : HO} (hp : H p = none) : Gn S H (fun a => S a ∨ a = p) (upd H p o) :=
  ⟨fun _ h => .inl h, fun a h => h.imp id fun e => by rw [e]; exact hp, fun a o h _ => by rw [upd_ne (ne_of_none h hp)]; exact h, fun d a h => by
    by_cases e : a = p
    · rw [e, upd_same]; simp
    · rw [upd_ne e]; exact d a (h.resolve_right e), upd_stay, fun t => t.new hp⟩
theorem Gn.lst {p : Addr} {o : HO} (hp : H p = none) : Gn S H S (upd H p o) :=
  ⟨fun _ h => h, fun a h => .inl h, fun a o h _ => by rw [upd_ne (ne_of_none h hp)]; exact h, fun d a h => by
    have : a ≠ p := fun e => d a h (by rw [e]; exact hp)
    rw [upd_ne this]; exact d a h, upd_stay, fun t => t.new hp⟩
/-- a tuple is made -/
theorem Rp.mkTup {p : Addr} {vs : List V} {ds : List D} (hp : H p = none) (r : Rps K S H vs ds) : Rp K (fun a => S a ∨ a = p) (upd H p (.tup vs)) (.ref p) (.tup ds) :=
  .tup (.inl ⟨.inr rfl, .inl upd_same⟩) (r.mono (Gn.tup hp).ke)
/-- a result of an operation that only makes new things: H the heap ahead -/
def Rn (K : PySem.W.Frag) (S' : Addr → Prop) (H H' : Hp) (v : V) : R → Prop
  | .fz d => Rp K S' H' v d
  | .fr xs => ∃ a vs, v = .ref a ∧ H a = none ∧ H' a = some (.lst vs) ∧ ¬ S' a ∧ Rps K S' H' vs xs
  | .rf _ => False
theorem Rn.mkLst {p : Addr} {vs : List V} {ds : List D} (hp : H p = none) (hd : ∀ a, S a → H a ≠ none) (r : Rps K S H vs ds) : Rn K S H (upd H p (.lst vs)) (.ref p) (.fr ds) :=
  ⟨p, vs, rfl, hp, upd_same, fun h => hd p h hp, r.mono (Gn.lst hp).ke⟩
/-- a result as things stand; H₀: the heap ahead -/
def Rv (K : PySem.W.Frag) (S : Addr → Prop) (H₀ : Hp) (ρ : Ev) (σ : St) (H : Hp) (v : V) : R → Prop
  | .fz d => Rp K S H v d
  | .fr xs => ∃ a vs, v = .ref a ∧ H₀ a = none ∧ H a = some (.lst vs) ∧ ¬ S a ∧ ¬ Own ρ σ a ∧ Rps K S H vs xs
  | .rf i => σ[i]? = some (some v)
variable {H₀ : Hp} {v : V} {r : R}
theorem Rv.go (rel : Rel K S ρ σ H) (g : Go S ρ σ H S' ρ' σ H') (h : Rv K S H₀ ρ σ H v r) : Rv K S' H₀ ρ' σ H' v r := by
  cases r with
  | fz d => exact Rp.mono (g.ke rel) h
  | fr xs =>
    obtain ⟨a, vs, e, h0, h1, h2, h3, h4⟩ := h
    refine ⟨a, vs, e, h0, g.keep a _ h1 h3, fun z => ?_, fun z => ?_, h4.mono (g.ke rel)⟩
    · rcases g.new a z with q | q | q
      · exact h2 q
      · rw [h1] at q; cases q
      · exact h3 q
    · rcases g.own a z with q | q
      · rw [h1] at q; cases q
      · exact h3 q
  | rf i => exact h
theorem Rv.base {H₁ : Hp} (st : ∀ a, H₁ a = none → H₀ a = none) (h : Rv K S H₁ ρ σ H v r) : Rv K S H₀ ρ σ H v r := by
  cases r with
  | fz d => exact h
  | fr xs => obtain ⟨a, vs, e, h0, h⟩ := h; exact ⟨a, vs, e, st a h0, h⟩
  | rf i => exact h
theorem Rv.view {d : D} (rel : Rel K S ρ σ H) (h : Rv K S H₀ ρ σ H v r) (e : view ρ r = some d) : Vd K S H v d := by
  cases r with
  | fz d' => cases e; exact .fz h
  | fr xs => cases e; obtain ⟨a, vs, e, h0, h1, h2, h3, h4⟩ := h; exact .ls e h1 h4
  | rf i =>
    have e : (match ρ[i]? with | some (.ls .dic _) => none | some (.ls _ xs) => some (D.lst xs) | _ => none) = some d := e
    split at e
    · cases e
    · rename_i k xs nk q
      cases e
      obtain ⟨a, vs, e1, e2, _, e3⟩ := rel.atL q (by simpa using nk)
      have h : σ[i]? = some (some v) := h
      rw [h] at e1; cases e1
      exact .ls rfl e2 e3
    · cases e
theorem Rn.rv (rel : Rel K S ρ σ H) (h : Rn K S' H H' v r) : Rv K S' H ρ σ H' v r := by
  cases r with
  | fz d => exact h
  | fr xs =>
    obtain ⟨a, vs, e, h0, h1, h2, h3⟩ := h
    exact ⟨a, vs, e, h0, h1, h2, (fun z => by
      obtain ⟨us, e'⟩ := rel.own_lst z
      rw [e'] at h0
      cases h0), h3⟩
  | rf i => exact h.elim
end
end DL
end
section
set_option autoImplicit false
/-! DLc: expressions: the model's run does what the language's meaning says. -/
namespace DL
open PySem L2
variable [LTabs]
theorem peImp {X : Cx} {e : Expr} {t t' : TE} (h : PE X e t) (i : ∀ σ H Q, t' σ H Q → t σ H Q) : PE X e t' := ⟨fun pins s σ H Q I q => h.run pins s σ H Q I (i _ _ _ q)⟩
theorem ptImp {X : Cx} {e : Expr} {t t' : TT} (h : PT X e t) (i : ∀ σ H Q, t' σ H Q → t σ H Q) : PT X e t' := ⟨fun pins s σ H Q I q => h.run pins s σ H Q I (i _ _ _ q)⟩
theorem pwImp {X : Cx} {e : Expr} {t t' : TT} (h : PW X e t) (i : ∀ σ H Q, t' σ H Q → t σ H Q) : PW X e t' := ⟨fun wh pins s σ H Q I q => h.run wh pins s σ H Q I (i _ _ _ q)⟩
theorem paImp {X : Cx} {e : List Expr} {t t' : TA} (h : PA X e t) (i : ∀ σ H Q, t' σ H Q → t σ H Q) : PA X e t' := ⟨fun p pins s σ H Q I q => h.run p pins s σ H Q I (i _ _ _ q)⟩
/-- the meaning of a run m, as a reading: P says how a value lies -/
def tG {α β : Type} (K : PySem.W.Frag) (P : (Addr → Prop) → Hp → Ev → St → Hp → β → α → Prop) (m : M α) : St → Hp → (β → Hp → Prop) → Prop := fun σ H Q =>
  ∃ S ρ a ρ', Rel K S ρ σ H ∧ m ρ = .ok a ρ' ∧ ∀ S' b H', Go S ρ σ H S' ρ' σ H' → Rel K S' ρ' σ H' → P S' H ρ' σ H' b a → Q b H'
abbrev tD (K : PySem.W.Frag) (m : M R) : TE := tG K (Rv K) m
abbrev tT (K : PySem.W.Frag) (m : M Bool) : TT := tG K (fun _ _ _ _ _ b a => b = a) m
/-- all that is known while a run goes on: from the start (S, ρ, H) to (S1, ρ1, H1) -/
structure At (K : PySem.W.Frag) (S : Addr → Prop) (ρ : Ev) (σ : St) (H : Hp) (S1 : Addr → Prop) (ρ1 : Ev) (H1 : Hp) : Prop where
  go : Go S ρ σ H S1 ρ1 σ H1
  rel : Rel K S1 ρ1 σ H1
section
variable {K : PySem.W.Frag} {S S1 S2 : Addr → Prop} {ρ ρ1 ρ2 : Ev} {σ : St} {H H1 H2 : Hp}
theorem At.start (r : Rel K S ρ σ H) : At K S ρ σ H S ρ H := ⟨.refl, r⟩
theorem At.trans (a : At K S ρ σ H S1 ρ1 H1) (b : At K S1 ρ1 σ H1 S2 ρ2 H2) : At K S ρ σ H S2 ρ2 H2 := ⟨a.go.trans b.go, b.rel⟩
theorem At.gn (a : At K S ρ σ H S1 ρ1 H1) (g : Gn S1 H1 S2 H2) : At K S ρ σ H S2 ρ1 H2 := ⟨a.go.trans g.go, a.rel.gn g⟩
/-- an operation's result, at the end -/
theorem At.fin {Q : VK} {r : R} (hQ : ∀ S' v H', Go S ρ σ H S' ρ1 σ H' → Rel K S' ρ1 σ H' → Rv K S' H ρ1 σ H' v r → Q v H') (a : At K S ρ σ H S1 ρ1 H1) :
    ∀ S' v H', Gn S1 H1 S' H' → Rn K S' H1 H' v r → Q v H' := fun S' v H' g n =>
  hQ S' v H' (a.go.trans g.go) (a.rel.gn g) ((n.rv a.rel).base a.go.stay)
/-- a value that makes nothing -/
theorem At.val {Q : VK} {d : D} {v : V} (hQ : ∀ S' v H', Go S ρ σ H S' ρ1 σ H' → Rel K S' ρ1 σ H' → Rv K S' H ρ1 σ H' v (.fz d) → Q v H') (a : At K S ρ σ H S1 ρ1 H1) (h : Rp K S1 H1 v d) : Q v H1 :=
  hQ S1 v H1 a.go a.rel h
end
theorem vw_eq {r : R} {ρ ρ' : Ev} {d : D} (h : vw r ρ = .ok d ρ') : view ρ r = some d ∧ ρ' = ρ := by
  unfold vw at h
  split at h
  · rename_i e; cases h; exact ⟨e, rfl⟩
  · cases h
theorem ret_eq {α : Type} {a b : α} {ρ ρ' : Ev} (h : ret a ρ = .ok b ρ') : b = a ∧ ρ' = ρ := by cases h; exact ⟨rfl, rfl⟩
theorem shp {d : D} (h : shapedD d = true) : pureD d = true ∧ SeqAt.shaped (toPy d) = true := Bool.and_eq_true _ _ |>.mp h
/-! ### operators, by values -/
section
variable {X : Cx}
abbrev Dom (S : Addr → Prop) (H : Hp) : Prop := ∀ a, S a → H a ≠ none
def Dm (S : Addr → Prop) (H : Hp) : Prop := Dom S H ∧ LTb H
def rB (K : PySem.W.Frag) (o : Bop) : R2 := fun x y H Q => ∃ S d e r, Dom S H ∧ Vd K S H x d ∧ Vd K S H y e ∧ binD o d e = some r ∧ ∀ S' v H', Gn S H S' H' → Rn K S' H H' v r → Q v H'
def rC (K : PySem.W.Frag) (o : Cop) : R2 := fun x y H Q => ∃ S d e c, Dom S H ∧ Vd K S H x d ∧ Vd K S H y e ∧ cmpD o d e = some c ∧ Q (.bl c) H
theorem rbI {K : PySem.W.Frag} {S : Addr → Prop} {H : Hp} {Q : VK} {i : Int} (q : ∀ S' v H', Gn S H S' H' → Rn K S' H H' v (.fz (.int i)) → Q v H') : Q (.int i) H := q S _ H .refl (.int i)
theorem op_addD : OpR X (binaryOp .Add) (rB X.K .add) := by
  intro pins s σ H x y v u Q I rx ry h
  obtain ⟨S, d, e, r, dom, hx, hy, hb, q⟩ := h
  cases d <;> cases e <;> (try (cases hb; done))
  · rename_i i j
    cases hb
    exact op_add pins s σ H x y v u Q I rx ry ⟨i, j, hx.i, hy.i, rbI q⟩
  · rename_i i j
    have hb : (if i.length + j.length ≤ sizeLine then some (R.fz (.str (i ++ j))) else none) = some r := hb
    split at hb
    · rename_i hz
      cases hb
      exact op_add_str pins s σ H x y v u Q I rx ry ⟨i, j, hx.s, hy.s, hz, q S _ H .refl (.str _)⟩
    · cases hb
  · rename_i xs ys
    have hb : (if xs.length + ys.length ≤ sizeLine then some (R.fz (.tup (xs ++ ys))) else none) = some r := hb
    split at hb
    · rename_i hz
      cases hb
      obtain ⟨a, vs, ea, ha, ra⟩ := hx.t
      obtain ⟨b, us, eb, hb, rb⟩ := hy.t
      refine op_catA pins s σ H x y v u Q I rx ry ⟨a, b, vs, us, ea, eb, ha, hb, by rw [ra.length, rb.length]; exact hz, fun e => ?_, fun _ e => ?_, fun _ _ p hp => ?_⟩
      · subst e
        cases ra
        rw [← eb]
        exact q S _ H .refl (show Rp X.K S H y _ from hy.tf)
      · subst e
        cases rb
        rw [← ea]
        refine q S _ H .refl ?_
        rw [List.append_nil]
        exact (show Rp X.K S H x _ from hx.tf)
      · exact q _ _ _ (.tup hp) (Rp.mkTup hp (ra.append rb))
    · cases hb
  · rename_i xs ys
    have hb : (if xs.length + ys.length ≤ sizeLine then some (R.fr (xs ++ ys)) else none) = some r := hb
    split at hb
    · rename_i hz
      cases hb
      obtain ⟨a, vs, ea, ha, ra⟩ := hx.l
      obtain ⟨b, us, eb, hb, rb⟩ := hy.l
      exact op_cat pins s σ H x y v u Q I rx ry ⟨a, b, vs, us, ea, eb, ha, hb, by rw [ra.length, rb.length]; exact hz, fun p hp => q _ _ _ (.lst hp) (.mkLst hp dom (ra.append rb))⟩
    · cases hb
theorem op_subD : OpR X (binaryOp .Sub) (rB X.K .sub) := by
  intro pins s σ H x y v u Q I rx ry h
  obtain ⟨S, d, e, r, dom, hx, hy, hb, q⟩ := h
  cases d <;> cases e <;> (try (cases hb; done))
  rename_i i j
  cases hb
  exact op_sub pins s σ H x y v u Q I rx ry ⟨i, j, hx.i, hy.i, rbI q⟩
theorem rep_rps {K : PySem.W.Frag} {S : Addr → Prop} {H : Hp} {vs : List V} {ds : List D} (r : Rps K S H vs ds) : ∀ n : Nat, Rps K S H (List.replicate n vs).flatten (repl ds n)
  | 0 => .nil
  | n + 1 => by
    unfold repl
    rw [List.replicate_succ, List.replicate_succ, List.flatten_cons, List.flatten_cons]
    exact r.append (rep_rps r n)
theorem mulOk_small {z : Str} {k : Int} (h0 : 0 ≤ k) (h1 : k ≤ 1000) (h2 : z.length ≤ 1000) : PySem.MulOk z k := by
  refine ⟨?_, fun h3 _ => ?_, fun h3 _ => ?_⟩
  · rw [Bool.or_eq_false_iff]
    exact ⟨decide_eq_false (by omega), decide_eq_false (by omega)⟩
  · have h4 : (1000 : Int) ≤ (2 ^ 63 - 1) / k := (Int.le_ediv_iff_mul_le (by omega)).mpr (by omega)
    omega
  · show decide (z.length * k.toNat > sizeLine) = false
    have : z.length * k.toNat ≤ 1000 * 1000 := Nat.mul_le_mul h2 (by omega)
    refine decide_eq_false ?_
    rw [sizeLine_eq]
    omega
theorem op_mulD : OpR X (binaryOp .Mult) (rB X.K .mul) := by
  intro pins s σ H x y v u Q I rx ry h
  obtain ⟨S, d, e, r, dom, hx, hy, hb, q⟩ := h
  cases d <;> cases e <;> (try (cases hb; done))
  · rename_i i j
    have hb : (if (small64 i || small64 j || (wide i && wide j)) = true then some (R.fz (.int (i * j))) else none) = some r := hb
    split at hb
    · rename_i hz
      cases hb
      rcases Bool.or_eq_true _ _ |>.mp hz with hz | hz
      · refine op_mul pins s σ H x y v u Q I rx ry ⟨i, j, hx.i, hy.i, ?_, rbI q⟩
        rcases Bool.or_eq_true _ _ |>.mp hz with h | h
        · exact .inl (by simpa [small64] using h)
        · exact .inr (by simpa [small64] using h)
      · obtain ⟨h1, h2⟩ := Bool.and_eq_true _ _ |>.mp hz
        have h1 := of_decide_eq_true h1
        have h2 := of_decide_eq_true h2
        exact op_mulW pins s σ H x y v u Q I rx ry ⟨i, j, hx.i, hy.i, wide_mul h1 h2 (by decide) (by decide) (by decide), rbI q⟩
    · cases hb
  · rename_i z k
    have hb : (if 0 ≤ k ∧ k ≤ 1000 ∧ z.length ≤ 1000 then some (R.fz (.str (Txt.mul z k))) else none) = some r := hb
    split at hb
    · rename_i hz
      cases hb
      have e1 := hx.s
      have e2 := hy.i
      subst e1 e2
      obtain ⟨t1, rfl⟩ := rx
      obtain ⟨t2, rfl⟩ := ry
      exact PySem.SB.mul (mulOk_small hz.1 hz.2.1 hz.2.2) fun t' k' => ⟨.str _, H, I.tok k', ⟨t', rfl⟩, q _ _ _ .refl (.str _)⟩
    · cases hb
  · rename_i xs k
    have hb : (if 2 ≤ k ∧ k ≤ 1000 ∧ 1 ≤ xs.length ∧ xs.length ≤ 1000 then some (R.fz (.tup (repl xs k.toNat))) else if (k ≤ 1 ∨ xs.isEmpty = true) ∧ -(2 ^ 63) ≤ k ∧ k < 2 ^ 63 then some (R.fz (.tup (repl xs k.toNat))) else none) = some r := hb
    split at hb
    · rename_i hz
      cases hb
      obtain ⟨a, vs, ea, ha, ra⟩ := hx.t
      have hl := ra.length
      exact op_repT pins s σ H x y v u Q I rx ry ⟨a, k, vs, ea, hy.i, ha, fun z => by rw [z] at hl; simp at hl; omega, hz.1, hz.2.1, by omega, fun p hp => q _ _ _ (.tup hp) (Rp.mkTup hp (rep_rps ra _))⟩
    · split at hb
      · rename_i hz
        cases hb
        obtain ⟨a, vs, ea, ha, ra⟩ := hx.t
        have hl := ra.length
        have one : xs = [] ∨ k = 1 → repl xs k.toNat = xs := fun h => by
          rcases h with rfl | rfl
          · unfold repl
            generalize k.toNat = m
            induction m with
            | zero => rfl
            | succ m ih => rw [List.replicate_succ, List.flatten_cons, ih]; rfl
          · show (List.replicate 1 xs).flatten = xs
            rw [List.replicate_one, List.flatten_cons, List.flatten_nil, List.append_nil]
        by_cases h1 : xs = [] ∨ k = 1
        · rw [one h1] at q
          exact op_rep1 pins s σ H x y v u Q I rx ry ⟨a, k, vs, ea, hy.i, ha, h1.imp (fun z => by rw [z] at hl; exact List.eq_nil_of_length_eq_zero hl) id, hz.2.1, hz.2.2, q _ _ _ .refl (by rw [← ea]; exact hx.tf)⟩
        · have hx0 : xs ≠ [] := fun z => h1 (.inl z)
          have hk : k ≤ 0 := by
            rcases hz.1 with h | h
            · have : k ≠ 1 := fun z => h1 (.inr z)
              omega
            · cases xs with
              | nil => exact absurd rfl hx0
              | cons _ _ => cases h
          have e0 : repl xs k.toNat = [] := by
            rw [show k.toNat = 0 from by omega]; rfl
          rw [e0] at q
          exact op_rep0 pins s σ H x y v u Q I rx ry ⟨a, k, vs, ea, hy.i, ha, fun z => by rw [z] at hl; exact hx0 (List.eq_nil_of_length_eq_zero hl.symm), hk, hz.2.1, fun p hp => q _ _ _ (.tup hp) (Rp.mkTup hp .nil)⟩
      · cases hb
  · rename_i xs k
    have hb : (if -(2 ^ 63) ≤ k ∧ k < 2 ^ 63 ∧ xs.length * k.toNat ≤ sizeLine then some (R.fr (repl xs k.toNat)) else none) = some r := hb
    split at hb
    · rename_i hz
      cases hb
      obtain ⟨a, vs, ea, ha, ra⟩ := hx.l
      exact op_rep pins s σ H x y v u Q I rx ry ⟨a, k, vs, ea, hy.i, ha, hz.1, hz.2.1, by rw [ra.length]; exact hz.2.2, fun p hp => q _ _ _ (.lst hp) (.mkLst hp dom (rep_rps ra _))⟩
    · cases hb
theorem op_fdivD : OpR X (binaryOp .FloorDiv) (rB X.K .fdiv) := by
  intro pins s σ H x y v u Q I rx ry h
  obtain ⟨S, d, e, r, dom, hx, hy, hb, q⟩ := h
  cases d <;> cases e <;> (try (cases hb; done))
  rename_i i j
  have hb : (if j ≠ 0 ∧ j.natAbs < 1073741824 then some (R.fz (.int (i.fdiv j))) else none) = some r := hb
  split at hb
  · rename_i hz
    cases hb
    exact op_fdivN pins s σ H x y v u Q I rx ry ⟨i, j, hx.i, hy.i, hz, rbI q⟩
  · cases hb
theorem op_modD : OpR X (binaryOp .Mod) (rB X.K .mod) := by
  intro pins s σ H x y v u Q I rx ry h
  obtain ⟨S, d, e, r, dom, hx, hy, hb, q⟩ := h
  cases d <;> cases e <;> (try (cases hb; done))
  rename_i i j
  have hb : (if j ≠ 0 then some (R.fz (.int (i.fmod j))) else none) = some r := hb
  split at hb
  · rename_i hz
    cases hb
    exact op_modN pins s σ H x y v u Q I rx ry ⟨i, j, hx.i, hy.i, hz, rbI q⟩
  · cases hb
theorem op_powD : OpR X (binaryOp .Pow) (rB X.K .pow) := by
  intro pins s σ H x y v u Q I rx ry h
  obtain ⟨S, d, e, r, dom, hx, hy, hb, q⟩ := h
  cases d <;> cases e <;> (try (cases hb; done))
  rename_i i j
  have hb : (if 0 ≤ j ∧ j ≤ 1000000 ∧ i.natAbs < 2 ^ 64 then some (R.fz (.int (i ^ j.toNat))) else none) = some r := hb
  split at hb
  · rename_i hz
    cases hb
    exact op_pow pins s σ H x y v u Q I rx ry ⟨i, j, hx.i, hy.i, hz, rbI q⟩
  · cases hb
theorem lexAt_I : ∀ (ns ms : List Int) (i : Nat) (e r : Nat → Bool), (∀ j, e (i + j) = decide (ns.getD j 0 = ms.getD j 0)) → (∀ j, r (i + j) = decide (ns.getD j 0 < ms.getD j 0)) → Ob.lexAt e r (decide (ns.length < ms.length)) i (min ns.length ms.length) = lexLtI ns ms
  | [], [], _, _, _, _, _ => rfl
  | [], y :: ys, _, _, _, _, _ => by rw [List.length_nil, Nat.zero_min, Ob.lexAt_zero]; rfl
  | x :: xs, [], _, _, _, _, _ => by rw [List.length_nil, Nat.min_zero, Ob.lexAt_zero]; rfl
  | x :: xs, y :: ys, i, e, r, he, hr => by
    have h0 := he 0
    have r0 := hr 0
    rw [Nat.add_zero] at h0 r0
    have h0 : e i = decide (x = y) := h0
    have r0 : r i = decide (x < y) := r0
    rw [List.length_cons, List.length_cons, Nat.succ_min_succ, Ob.lexAt_succ, h0, r0]
    have hd : decide (xs.length + 1 < ys.length + 1) = decide (xs.length < ys.length) := decide_eq_decide.mpr (by omega)
    have ih := lexAt_I xs ys (i + 1) e r (fun j => by
      have := he (j + 1)
      rw [show i + 1 + j = i + (j + 1) from by omega]
      exact this) (fun j => by
      have := hr (j + 1)
      rw [show i + 1 + j = i + (j + 1) from by omega]
      exact this)
    rw [hd, ih]
    show _ = if x = y then lexLtI xs ys else decide (x < y)
    by_cases q : x = y
    · rw [if_pos (decide_eq_true q), if_pos q]
    · rw [if_neg (by rw [decide_eq_false q]; exact Bool.false_ne_true), if_neg q]
theorem op_ltTup (hu : X.A.units + 64 < cLine) {pins : List (Addr × Obj)} {s : Shared} {σ : St} {H : Hp} {Q : VK} {a b : Addr} {ns ms : List Int} (I : Inv X pins σ H s) (ha : SqT X.K H a (ns.map V.int)) (hb : SqT X.K H b (ms.map V.int)) (q : Q (.bl (lexLtI ns ms)) H) :
    wpAny (model X.prog X.w) X.A (compareOp .Lt (.ref a) (.ref b)) (EP X pins σ Q) X.xe s := by
  obtain ⟨its, r1, p1, _⟩ := I.tuple ha
  obtain ⟨its2, r2, p2, _⟩ := I.tuple hb
  have i1 : PyProof.Rows.IntsAre its ns := Vals.ints r1
  have i2 : PyProof.Rows.IntsAre its2 ms := Vals.ints r2
  have e1 : its.toArray.size = ns.length := by rw [List.size_toArray]; exact i1.length
  have e2 : its2.toArray.size = ms.length := by rw [List.size_toArray]; exact i2.length
  have at1 : ∀ j (h1 : j < its.toArray.size), ∃ t, its.toArray[j] = .int (ns.getD j 0) t := fun j h1 => PyProof.Rows.IntsAre.int_at i1 _ _ (by simp at h1; simp [h1])
  have at2 : ∀ j (h1 : j < its2.toArray.size), ∃ t, its2.toArray[j] = .int (ms.getD j 0) t := fun j h1 => PyProof.Rows.IntsAre.int_at i2 _ _ (by simp at h1; simp [h1])
  have R := Ob.RcOp.tuples_lt (A := X.A) (s := s) (e := fun j => decide (ns.getD j 0 = ms.getD j 0)) (r := fun j => decide (ns.getD j 0 < ms.getD j 0)) p1 p2 (by omega) (fun j h1 h2 => by
    obtain ⟨t, et⟩ := at1 j h1
    obtain ⟨t', et'⟩ := at2 j h2
    rw [et, et']
    have z : (ns.getD j 0 == ms.getD j 0) = decide (ns.getD j 0 = ms.getD j 0) := by
      by_cases q : ns.getD j 0 = ms.getD j 0
      · rw [decide_eq_true q]; exact beq_iff_eq.mpr q
      · rw [decide_eq_false q]; exact beq_eq_false_iff_ne.mpr q
    rw [← z]
    exact SeqAt.EqAt.int_int _ _ _ _) (fun j h1 h2 _ => by
    obtain ⟨t, et⟩ := at1 j h1
    obtain ⟨t', et'⟩ := at2 j h2
    rw [et, et']
    exact Ob.RcOp.lt_int _ _ _ _)
  rw [e1, e2, lexAt_I ns ms 0 _ _ (fun j => by rw [Nat.zero_add]) (fun j => by rw [Nat.zero_add])] at R
  have z : wpAny (model X.prog X.w) X.A (compareOp .Lt (.ref a) (.ref b)) (EP X pins σ Q) X.xe s := R X.prog X.w X.xe (EP X pins σ Q) ⟨.bl _, H, I, rfl, q⟩
  exact z
theorem op_ltD (hu : X.A.units + 64 < cLine) : OpR X (compareOp .Lt) (rC X.K .lt) := by
  intro pins s σ H x y v u Q I rx ry h
  obtain ⟨S, d, e, c, dom, hx, hy, hb, q⟩ := h
  have key : (∃ i j, d = .int i ∧ e = .int j ∧ c = decide (i < j)) ∨ (∃ xs ys ns ms, d = .tup xs ∧ e = .tup ys ∧ intsD xs = some ns ∧ intsD ys = some ms ∧ c = lexLtI ns ms) := by
    cases d <;> cases e <;> first | exact .inl ⟨_, _, rfl, rfl, (Option.some.inj hb).symm⟩ | (cases hb; done) | skip
    rename_i xs ys
    have hb : ((intsD xs).bind fun ns => (intsD ys).map fun ms => lexLtI ns ms) = some c := hb
    cases e1 : intsD xs with
    | none => rw [e1] at hb; cases hb
    | some ns =>
      rw [e1] at hb
      cases e2 : intsD ys with
      | none => rw [e2] at hb; cases hb
      | some ms =>
        rw [e2] at hb
        exact .inr ⟨xs, ys, ns, ms, rfl, rfl, e1, e2, (Option.some.inj hb).symm⟩
  rcases key with ⟨i, j, rfl, rfl, rfl⟩ | ⟨xs, ys, ns, ms, rfl, rfl, e1, e2, rfl⟩
  · exact op_lt pins s σ H x y v u Q I rx ry ⟨i, j, hx.i, hy.i, q⟩
  · obtain ⟨p, vs, rfl, hp, rp⟩ := hx.t
    obtain ⟨p2, vs2, rfl, hp2, rp2⟩ := hy.t
    have ev1 := Rps.intsD rp e1
    have ev2 := Rps.intsD rp2 e2
    subst ev1 ev2
    cases rx
    cases ry
    exact op_ltTup hu I hp hp2 q
theorem op_leD : OpR X (compareOp .LtE) (rC X.K .le) := by
  intro pins s σ H x y v u Q I rx ry h
  obtain ⟨S, d, e, c, dom, hx, hy, hb, q⟩ := h
  cases d <;> cases e <;> (try (cases hb; done))
  rename_i i j
  cases hb
  exact op_le pins s σ H x y v u Q I rx ry ⟨i, j, hx.i, hy.i, q⟩
theorem op_gtD : OpR X (compareOp .Gt) (rC X.K .gt) := by
  intro pins s σ H x y v u Q I rx ry h
  obtain ⟨S, d, e, c, dom, hx, hy, hb, q⟩ := h
  cases d <;> cases e <;> (try (cases hb; done))
  rename_i i j
  cases hb
  exact op_gt pins s σ H x y v u Q I rx ry ⟨i, j, hx.i, hy.i, q⟩
theorem op_geD : OpR X (compareOp .GtE) (rC X.K .ge) := by
  intro pins s σ H x y v u Q I rx ry h
  obtain ⟨S, d, e, c, dom, hx, hy, hb, q⟩ := h
  cases d <;> cases e <;> (try (cases hb; done))
  rename_i i j
  cases hb
  exact op_ge pins s σ H x y v u Q I rx ry ⟨i, j, hx.i, hy.i, q⟩
theorem op_eqDD (hu : X.A.units + 64 < cLine) : OpR X (compareOp .Eq) (rC X.K .eq) := by
  intro pins s σ H x y v u Q I rx ry h
  obtain ⟨S, d, e, c, dom, hx, hy, hb, q⟩ := h
  have key : (∃ i j, d = .int i ∧ e = .int j ∧ c = decide (i = j)) ∨ (∃ a b, d = .str a ∧ e = .str b ∧ c = decide (a = b)) ∨ (if (shapedD d && shapedD e) = true then some ((toPy d).eqv (toPy e)) else if lenNe d e = true then some false else none) = some c := by
    cases d <;> cases e <;> first | exact .inl ⟨_, _, rfl, rfl, (Option.some.inj hb).symm⟩ | exact .inr (.inl ⟨_, _, rfl, rfl, (Option.some.inj hb).symm⟩) | exact .inr (.inr hb)
  rcases key with ⟨i, j, rfl, rfl, rfl⟩ | ⟨i, j, rfl, rfl, rfl⟩ | hb
  · have ex := hx.i
    have ey := hy.i
    subst ex ey
    refine op_eq pins s σ H _ _ v u Q I rx ry ⟨rfl, ?_⟩
    have e : decide (V.int i = V.int j) = decide (i = j) := decide_eq_decide.mpr ⟨fun z => V.int.inj z, fun z => by rw [z]⟩
    rw [e]
    exact q
  · have ex := hx.s
    have ey := hy.s
    subst ex ey
    refine op_eq pins s σ H _ _ v u Q I rx ry ⟨rfl, ?_⟩
    have e : decide (V.str i = V.str j) = decide (i = j) := decide_eq_decide.mpr ⟨fun z => V.str.inj z, fun z => by rw [z]⟩
    rw [e]
    exact q
  split at hb
  · rename_i hz
    cases hb
    obtain ⟨h1, h2⟩ := Bool.and_eq_true _ _ |>.mp hz
    exact op_eqD hu pins s σ H x y v u Q I rx ry ⟨_, _, hx.dp (shp h1).1, hy.dp (shp h2).1, (shp h1).2, (shp h2).2, q⟩
  · rename_i hs0
    split at hb
    · rename_i hz
      cases hb
      cases d <;> cases e <;> (try (cases hz; done))
      rename_i xs ys
      obtain ⟨a, vs, ea, ha, ra⟩ := hx.l
      obtain ⟨b, ws, eb, hb, rb⟩ := hy.l
      subst ea eb
      cases rx
      cases ry
      obtain ⟨z1, its, n, r1, e1⟩ := (show ObjOk X.prog X.w H s.heap a (.lst vs) from I.hok a _ ha)
      obtain ⟨z2, its2, n2, r2, e2⟩ := (show ObjOk X.prog X.w H s.heap b (.lst ws) from I.hok b _ hb)
      have hz : (xs.length != ys.length) = true := hz
      exact SeqAt.RcAt.lists_lengths ⟨_, e1, rfl, n, rfl⟩ ⟨_, e2, rfl, n2, rfl⟩ (by rw [List.size_toArray, List.size_toArray, ← r1.length, ← r2.length, ra.length, rb.length]; exact hz) (by omega) X.prog X.w _ _ ⟨.bl false, H, I, rfl, q⟩
    · cases hb
theorem op_neDD (hu : X.A.units + 64 < cLine) : OpR X (compareOp .NotEq) (rC X.K .ne) := by
  intro pins s σ H x y v u Q I rx ry h
  obtain ⟨S, d, e, c, dom, hx, hy, hb, q⟩ := h
  have key : (∃ i j, d = .int i ∧ e = .int j ∧ c = !decide (i = j)) ∨ (∃ a b, d = .str a ∧ e = .str b ∧ c = !decide (a = b)) ∨ (if (shapedD d && shapedD e) = true then some (!(toPy d).eqv (toPy e)) else none) = some c := by
    cases d <;> cases e <;> first | exact .inl ⟨_, _, rfl, rfl, (Option.some.inj hb).symm⟩ | exact .inr (.inl ⟨_, _, rfl, rfl, (Option.some.inj hb).symm⟩) | exact .inr (.inr hb)
  rcases key with ⟨i, j, rfl, rfl, rfl⟩ | ⟨i, j, rfl, rfl, rfl⟩ | hb
  · have ex := hx.i
    have ey := hy.i
    subst ex ey
    refine op_ne pins s σ H _ _ v u Q I rx ry ⟨rfl, ?_⟩
    have e : decide (V.int i = V.int j) = decide (i = j) := decide_eq_decide.mpr ⟨fun z => V.int.inj z, fun z => by rw [z]⟩
    rw [e]
    exact q
  · have ex := hx.s
    have ey := hy.s
    subst ex ey
    refine op_ne pins s σ H _ _ v u Q I rx ry ⟨rfl, ?_⟩
    have e : decide (V.str i = V.str j) = decide (i = j) := decide_eq_decide.mpr ⟨fun z => V.str.inj z, fun z => by rw [z]⟩
    rw [e]
    exact q
  split at hb
  · rename_i hz
    cases hb
    obtain ⟨h1, h2⟩ := Bool.and_eq_true _ _ |>.mp hz
    exact op_neD hu pins s σ H x y v u Q I rx ry ⟨_, _, hx.dp (shp h1).1, hy.dp (shp h2).1, (shp h1).2, (shp h2).2, q⟩
  · cases hb
theorem Vd.non_iff {K : PySem.W.Frag} {S : Addr → Prop} {H : Hp} {v : V} {d : D} (h : Vd K S H v d) : decide (v = .non) = isNonD d := by
  cases h with
  | fz h => cases h <;> rfl
  | ls e1 h r => rw [e1]; rfl
theorem op_isND : OpR X (compareOp .Is) (rC X.K .isN) := by
  intro pins s σ H x y v u Q I rx ry h
  obtain ⟨S, d, e, c, dom, hx, hy, hb, q⟩ := h
  cases e <;> (try (cases d <;> cases hb; done))
  case bl b =>
    cases d <;> (try (cases hb; done))
    rename_i a
    cases hb
    exact op_is_bl pins s σ H x y v u Q I rx ry ⟨a, b, hx.b, hy.b, q⟩
  have hb : some (isNonD d) = some c := by cases d <;> exact hb
  refine op_isN pins s σ H x y v u Q I rx ry ⟨hy.n, ?_⟩
  rw [hx.non_iff]
  cases hb
  exact q
theorem op_notND : OpR X (compareOp .IsNot) (rC X.K .notN) := by
  intro pins s σ H x y v u Q I rx ry h
  obtain ⟨S, d, e, c, dom, hx, hy, hb, q⟩ := h
  cases e <;> (try (cases d <;> cases hb; done))
  case bl b =>
    cases d <;> (try (cases hb; done))
    rename_i a
    cases hb
    exact op_isnot_bl pins s σ H x y v u Q I rx ry ⟨a, b, hx.b, hy.b, q⟩
  have hb : some (!isNonD d) = some c := by cases d <;> exact hb
  refine op_notN pins s σ H x y v u Q I rx ry ⟨hy.n, ?_⟩
  rw [hx.non_iff]
  cases hb
  exact q
theorem tru_d {K : PySem.W.Frag} {S : Addr → Prop} {H : Hp} {v : V} {d : D} {k : Bool} (h : Vd K S H v d) (e : truthD d = some k) : TruV K v H k := by
  cases d with
  | non => cases e; rw [h.n]; rfl
  | bl b => cases e; rw [h.b]; rfl
  | int i => cases e; rw [h.i]; rfl
  | str z =>
    have e : (if z.length ≤ sizeLine then some (z.length != 0) else none) = some k := e
    split at e
    · rename_i hz; cases e; rw [h.s]; exact ⟨hz, by rw [Bool.eq_iff_iff]; simp⟩
    · cases e
  | tup xs =>
    cases e
    obtain ⟨a, vs, ea, ha, ra⟩ := h.t
    rw [ea]
    refine .inr (.inl ⟨vs, ha, ?_⟩)
    cases ra <;> rfl
  | lst xs =>
    cases e
    obtain ⟨a, vs, ea, ha, ra⟩ := h.l
    rw [ea]
    refine .inl ⟨vs, .inl (.inl ha), ?_⟩
    cases ra <;> rfl
  | obj _ _ => cases e
  | emp =>
    cases e
    obtain ⟨a, ea, ha⟩ := h.e
    rw [ea]
    exact .inr (.inr ⟨_, ha, rfl⟩)
  | scr xs =>
    cases e
    obtain ⟨a, vs, ea, ha, ra⟩ := h.c
    rw [ea]
    refine .inl ⟨vs, ha, ?_⟩
    cases ra <;> rfl
end
/-! ### expressions -/
section
variable {X : Cx} {Φ : Calls} {a b c : Expr} {pos : Pos} {ia ib ic : E}
theorem de_var {i : Nat} {e : Expr} (h : PE X e (tVar i)) : PE X e (tD X.K (ev Φ (.var i))) := peImp h fun σ H Q q => by
  obtain ⟨S, ρ, r, ρ', rel, e, q⟩ := q
  simp only [ev] at e
  split at e
  · rename_i d e1
    cases e
    obtain ⟨v, e2, h⟩ := rel.atF e1
    exact ⟨v, e2, q S v H .refl rel h⟩
  · cases e
  · rename_i k xs nk e1
    cases e
    obtain ⟨a, vs, e2, _⟩ := rel.atN e1
    exact ⟨_, e2, q S _ H .refl rel e2⟩
  · cases e
theorem de_cst {v : V} {d : D} {e : Expr} (h : PE X e (tC v)) (r : ∀ S H, Rp X.K S H v d) : PE X e (tD X.K (ev Φ (.cst d))) := peImp h fun σ H Q q => by
  obtain ⟨S, ρ, x, ρ', rel, e, q⟩ := q
  obtain ⟨rfl, rfl⟩ := ret_eq (by simpa only [ev] using e)
  exact q S v H .refl rel (r S H)
theorem de_int {i : Int} {j} : PE X (.Constant (.int i) j pos) (tD X.K (ev Φ (.cst (.int i)))) := de_cst pe_int fun _ _ => .int i
theorem de_bl {i : Bool} {j} : PE X (.Constant (.bool i) j pos) (tD X.K (ev Φ (.cst (.bl i)))) := de_cst pe_bl fun _ _ => .bl i
theorem de_non {j} : PE X (.Constant .none j pos) (tD X.K (ev Φ (.cst .non))) := de_cst pe_non fun _ _ => .non
theorem de_str {i : Str} {j} : PE X (.Constant (.str i) j pos) (tD X.K (ev Φ (.cst (.str i)))) := de_cst pe_str fun _ _ => .str i
theorem de_glob {x : Str} {i : Int} {t : Tok} (hg : Gl X x) (hm : X.mg x = some (.int i t)) (hd : (x == ("__debug__" : Str)) = false := by decide) : PE X (.Name x pos) (tD X.K (ev Φ (.cst (.int i)))) := de_cst (pe_glob (v := .int i) hg hm ⟨t, rfl⟩ hd) fun _ _ => .int i
theorem vw2_split {α : Type} {x y : R} {g : D → D → M α} {ρ ρ' : Ev} {r : α} (h : bnd (vw x) (fun d => bnd (vw y) fun e => g d e) ρ = .ok r ρ') : ∃ d e, view ρ x = some d ∧ view ρ y = some e ∧ g d e ρ = .ok r ρ' := by
  obtain ⟨d, ρ1, e1, h1⟩ := bnd_eq h
  obtain ⟨v1, q1⟩ := vw_eq e1
  rw [q1] at h1
  obtain ⟨e, ρ2, e2, h2⟩ := bnd_eq h1
  obtain ⟨v2, q2⟩ := vw_eq e2
  rw [q2] at h2
  exact ⟨d, e, v1, v2, h2⟩
theorem vw1_split {α : Type} {x : R} {g : D → M α} {ρ ρ' : Ev} {r : α} (h : bnd (vw x) g ρ = .ok r ρ') : ∃ d, view ρ x = some d ∧ g d ρ = .ok r ρ' := by
  obtain ⟨d, ρ1, e1, h1⟩ := bnd_eq h
  obtain ⟨v1, q1⟩ := vw_eq e1
  rw [q1] at h1
  exact ⟨d, v1, h1⟩
theorem ofO_split {α β : Type} {o : Option β} {g : β → M α} {ρ ρ' : Ev} {r : α} (h : bnd (ofO o) g ρ = .ok r ρ') : ∃ b, o = some b ∧ g b ρ = .ok r ρ' := by
  obtain ⟨d, ρ1, e1, h1⟩ := bnd_eq h
  obtain ⟨v1, q1⟩ := ofO_eq e1
  rw [q1] at h1
  exact ⟨d, v1, h1⟩
theorem bin_split {o : Bop} {ρ ρ' : Ev} {r : R} (h : ev Φ (.bin o ia ib) ρ = .ok r ρ') : ∃ x ρ1 y d f, ev Φ ia ρ = .ok x ρ1 ∧ ev Φ ib ρ1 = .ok y ρ' ∧ view ρ' x = some d ∧ view ρ' y = some f ∧ binD o d f = some r := by
  simp only [ev] at h
  obtain ⟨x, ρ1, e1, h1⟩ := bnd_eq h
  obtain ⟨y, ρ2, e2, h2⟩ := bnd_eq h1
  obtain ⟨d, f, v1, v2, h3⟩ := vw2_split h2
  obtain ⟨e5, q⟩ := ofO_eq h3
  rw [q]
  exact ⟨x, ρ1, y, d, f, e1, e2, v1, v2, e5⟩
theorem cmp_split {o : Cop} {ρ ρ' : Ev} {r : R} (h : ev Φ (.cmp o ia ib) ρ = .ok r ρ') : ∃ x ρ1 y d f k, ev Φ ia ρ = .ok x ρ1 ∧ ev Φ ib ρ1 = .ok y ρ' ∧ view ρ' x = some d ∧ view ρ' y = some f ∧ cmpD o d f = some k ∧ r = .fz (.bl k) := by
  simp only [ev] at h
  obtain ⟨x, ρ1, e1, h1⟩ := bnd_eq h
  obtain ⟨y, ρ2, e2, h2⟩ := bnd_eq h1
  obtain ⟨d, f, v1, v2, h3⟩ := vw2_split h2
  obtain ⟨k, e5, h4⟩ := ofO_split h3
  obtain ⟨q1, q⟩ := ret_eq h4
  rw [q]
  exact ⟨x, ρ1, y, d, f, k, e1, e2, v1, v2, e5, q1⟩
/-- the truth of a value -/
theorem tru_split {m : M R} {g : R → Bool → M R} {ρ ρ' : Ev} {r : R} (h : bnd m (fun x => bnd (vw x) fun d => bnd (ofO (truthD d)) fun k => g x k) ρ = .ok r ρ') : ∃ x ρ1 d k, m ρ = .ok x ρ1 ∧ view ρ1 x = some d ∧ truthD d = some k ∧ g x k ρ1 = .ok r ρ' := by
  obtain ⟨x, ρ1, e1, h1⟩ := bnd_eq h
  obtain ⟨d, v1, h2⟩ := vw1_split h1
  obtain ⟨k, e5, h4⟩ := ofO_split h2
  exact ⟨x, ρ1, d, k, e1, v1, e5, h4⟩
/-- two in a row -/
theorem seq2 {K : PySem.W.Frag} {ma mb : M R} {G : V → V → Hp → Prop} {S : Addr → Prop} {ρ ρ1 ρ2 : Ev} {σ : St} {H : Hp} {x y : R} (rel : Rel K S ρ σ H) (ea : ma ρ = .ok x ρ1) (eb : mb ρ1 = .ok y ρ2)
    (h : ∀ S2 H2 v u, At K S ρ σ H S2 ρ2 H2 → Rv K S2 H ρ2 σ H2 v x → Rv K S2 H ρ2 σ H2 u y → G v u H2) :
    tD K ma σ H fun v H1 => tD K mb σ H1 fun u H2 => G v u H2 :=
  ⟨S, ρ, x, ρ1, rel, ea, fun S1 v H1 g1 rel1 r1 => ⟨S1, ρ1, y, ρ2, rel1, eb, fun S2 u H2 g2 rel2 r2 => h S2 H2 v u ⟨g1.trans g2, rel2⟩ (r1.go rel1 g2) (r2.base g1.stay)⟩⟩
theorem de_bin {op : Operator} {o : Bop} (ho : OpR X (binaryOp op) (rB X.K o)) (ha : PE X a (tD X.K (ev Φ ia))) (hb : PE X b (tD X.K (ev Φ ib))) : PE X (.BinOp a op b pos) (tD X.K (ev Φ (.bin o ia ib))) :=
  peImp (pe_op ho ha hb) fun σ H Q q => by
    obtain ⟨S, ρ, r, ρ', rel, e, q⟩ := q
    obtain ⟨x, ρ1, y, d, f, e1, e2, v1, v2, e5⟩ := bin_split e
    exact seq2 rel e1 e2 fun S2 H2 v u at2 r1 r2 => ⟨S2, d, f, r, at2.rel.dom, r1.view at2.rel v1, r2.view at2.rel v2, e5, at2.fin q⟩
theorem de_cmp {op : CmpOp} {o : Cop} (ho : OpR X (compareOp op) (rC X.K o)) (ha : PE X a (tD X.K (ev Φ ia))) (hb : PE X b (tD X.K (ev Φ ib))) (hm : behindInMarks op b = false) : PE X (.Compare a [op] [b] pos) (tD X.K (ev Φ (.cmp o ia ib))) :=
  peImp (pe_cmpR ho ha hb hm) fun σ H Q q => by
    obtain ⟨S, ρ, r, ρ', rel, e, q⟩ := q
    obtain ⟨x, ρ1, y, d, f, k, e1, e2, v1, v2, e5, er⟩ := cmp_split e
    subst er
    exact seq2 rel e1 e2 fun S2 H2 v u at2 r1 r2 => ⟨S2, d, f, k, at2.rel.dom, r1.view at2.rel v1, r2.view at2.rel v2, e5, q S2 _ H2 at2.go at2.rel (.bl _)⟩
/-- a test's meaning -/
def evt (Φ : Calls) (e : E) : M Bool := bnd (ev Φ e) fun x => bnd (vw x) fun d => ofO (truthD d)
theorem evt_split {e : E} {ρ ρ' : Ev} {k : Bool} (h : evt Φ e ρ = .ok k ρ') : ∃ x d, ev Φ e ρ = .ok x ρ' ∧ view ρ' x = some d ∧ truthD d = some k := by
  obtain ⟨x, ρ1, e1, h1⟩ := bnd_eq h
  obtain ⟨d, v1, h2⟩ := vw1_split h1
  obtain ⟨e5, q⟩ := ofO_eq h2
  rw [q]
  exact ⟨x, d, e1, v1, e5⟩
theorem evt_mk {e : E} {ρ ρ' : Ev} {x : R} {d : D} {k : Bool} (e1 : ev Φ e ρ = .ok x ρ') (e2 : view ρ' x = some d) (e3 : truthD d = some k) : evt Φ e ρ = .ok k ρ' := by
  show (ev Φ e ρ).then _ = _
  rw [e1]
  show (vw x ρ').then _ = _
  unfold vw
  rw [e2]
  show ofO (truthD d) ρ' = _
  rw [e3]
  rfl
theorem dt_val (ha : PE X a (tD X.K (ev Φ ia))) (hp : ∀ (whole : Sem Value), PySem.isTrue a X.env whole = (do let v ← whole; standAt a.pos; holding [v] (truthy v))) : PT X a (tT X.K (evt Φ ia)) :=
  ptImp (pt_truth ha hp) fun σ H Q q => by
    obtain ⟨S, ρ, r, ρ', rel, e, q⟩ := q
    obtain ⟨x, d, e1, v1, e5⟩ := evt_split e
    exact ⟨S, ρ, x, _, rel, e1, fun S1 v H1 g1 rel1 r1 => ⟨r, tru_d (r1.view rel1 v1) e5, q S1 _ H1 g1 rel1 rfl⟩⟩
theorem dt_cmp {op : CmpOp} {o : Cop} (ho : OpR X (compareOp op) (rC X.K o)) (ha : PE X a (tD X.K (ev Φ ia))) (hb : PE X b (tD X.K (ev Φ ib))) (hm : behindInMarks op b = false) : PT X (.Compare a [op] [b] pos) (tT X.K (evt Φ (.cmp o ia ib))) :=
  ptImp (pt_cmpR ho ha hb hm) fun σ H Q q => by
    obtain ⟨S, ρ, r, ρ', rel, e, q⟩ := q
    obtain ⟨z, d0, e0, v0, t0⟩ := evt_split e
    obtain ⟨x, ρ1, y, d, f, k, e1, e2, v1, v2, e5, er⟩ := cmp_split e0
    subst er
    cases v0
    cases t0
    exact seq2 rel e1 e2 fun S2 H2 v u at2 r1 r2 => ⟨S2, d, f, r, at2.rel.dom, r1.view at2.rel v1, r2.view at2.rel v2, e5, r, rfl, q S2 _ H2 at2.go at2.rel rfl⟩
theorem dt_not (ha : PT X a (tT X.K (evt Φ ia))) : PT X (.UnaryOp .Not a pos) (tT X.K (evt Φ (.not ia))) :=
  ptImp (pt_not ha) fun σ H Q q => by
    obtain ⟨S, ρ, r, ρ', rel, e, q⟩ := q
    obtain ⟨z, d0, e0, v0, t0⟩ := evt_split e
    simp only [ev] at e0
    obtain ⟨x, ρ1, d, k, e1, v1, e5, h1⟩ := tru_split e0
    obtain ⟨q1, q2⟩ := ret_eq h1
    subst q1 q2
    cases v0
    cases t0
    exact ⟨S, ρ, k, _, rel, evt_mk e1 v1 e5, fun S1 b H1 g1 rel1 r1 => by subst r1; exact q S1 _ H1 g1 rel1 rfl⟩
theorem dw_one {op : BoolOp} (ha : PT X a (tT X.K (evt Φ ia))) (h : op = .And ∨ op = .Or) : PW X (.BoolOp op [a] pos) (tT X.K (evt Φ ia)) := by
  rcases h with rfl | rfl
  · exact pw_and1 ha
  · exact pw_or1 ha
theorem dw_and {rest : List Expr} (ha : PT X a (tT X.K (evt Φ ia))) (hb : PW X (.BoolOp .And (b :: rest) pos) (tT X.K (evt Φ ib))) : PW X (.BoolOp .And (a :: b :: rest) pos) (tT X.K (evt Φ (.and ia ib))) :=
  pwImp (pw_and ha hb) fun σ H Q q => by
    obtain ⟨S, ρ, r, ρ', rel, e, q⟩ := q
    obtain ⟨z, d0, e0, v0, t0⟩ := evt_split e
    simp only [ev] at e0
    obtain ⟨x, ρ1, d, k, e1, v1, e5, h1⟩ := tru_split e0
    refine ⟨S, ρ, k, _, rel, evt_mk e1 v1 e5, fun S1 b H1 g1 rel1 r1 => ?_⟩
    subst r1
    cases b with
    | true =>
      exact iteT ⟨S1, _, r, ρ', rel1, evt_mk h1 v0 t0, fun S2 b2 H2 g2 rel2 r2 => q S2 b2 H2 (g1.trans g2) rel2 r2⟩
    | false =>
      obtain ⟨q1, q2⟩ := ret_eq h1
      subst q1 q2
      rw [v1] at v0
      cases v0
      rw [e5] at t0
      cases t0
      exact iteF (q S1 _ H1 g1 rel1 rfl)
theorem dw_or {rest : List Expr} (ha : PT X a (tT X.K (evt Φ ia))) (hb : PW X (.BoolOp .Or (b :: rest) pos) (tT X.K (evt Φ ib))) : PW X (.BoolOp .Or (a :: b :: rest) pos) (tT X.K (evt Φ (.or ia ib))) :=
  pwImp (pw_or ha hb) fun σ H Q q => by
    obtain ⟨S, ρ, r, ρ', rel, e, q⟩ := q
    obtain ⟨z, d0, e0, v0, t0⟩ := evt_split e
    simp only [ev] at e0
    obtain ⟨x, ρ1, d, k, e1, v1, e5, h1⟩ := tru_split e0
    refine ⟨S, ρ, k, _, rel, evt_mk e1 v1 e5, fun S1 b H1 g1 rel1 r1 => ?_⟩
    subst r1
    cases b with
    | false =>
      exact iteF ⟨S1, _, r, ρ', rel1, evt_mk h1 v0 t0, fun S2 b2 H2 g2 rel2 r2 => q S2 b2 H2 (g1.trans g2) rel2 r2⟩
    | true =>
      obtain ⟨q1, q2⟩ := ret_eq h1
      subst q1 q2
      rw [v1] at v0
      cases v0
      rw [e5] at t0
      cases t0
      exact iteT (q S1 _ H1 g1 rel1 rfl)
theorem de_one {op : BoolOp} (ha : PE X a (tD X.K (ev Φ ia))) : PE X (.BoolOp op [a] pos) (tD X.K (ev Φ ia)) := pe_one ha
theorem de_and {rest : List Expr} (ha : PE X a (tD X.K (ev Φ ia))) (hb : PE X (.BoolOp .And (b :: rest) pos) (tD X.K (ev Φ ib))) : PE X (.BoolOp .And (a :: b :: rest) pos) (tD X.K (ev Φ (.and ia ib))) :=
  peImp (pe_andT ha hb) fun σ H Q q => by
    obtain ⟨S, ρ, r, ρ', rel, e, q⟩ := q
    simp only [ev] at e
    obtain ⟨x, ρ1, d, k, e1, v1, e5, h1⟩ := tru_split e
    refine ⟨S, ρ, x, _, rel, e1, fun S1 v H1 g1 rel1 r1 => ⟨k, tru_d (r1.view rel1 v1) e5, ?_⟩⟩
    cases k with
    | true => exact iteT ⟨S1, _, r, ρ', rel1, h1, fun S2 b2 H2 g2 rel2 r2 => q S2 b2 H2 (g1.trans g2) rel2 (r2.base g1.stay)⟩
    | false =>
      obtain ⟨q1, q2⟩ := ret_eq h1
      subst q1 q2
      exact iteF (q S1 _ H1 g1 rel1 r1)
theorem de_or {rest : List Expr} (ha : PE X a (tD X.K (ev Φ ia))) (hb : PE X (.BoolOp .Or (b :: rest) pos) (tD X.K (ev Φ ib))) : PE X (.BoolOp .Or (a :: b :: rest) pos) (tD X.K (ev Φ (.or ia ib))) :=
  peImp (pe_orT ha hb) fun σ H Q q => by
    obtain ⟨S, ρ, r, ρ', rel, e, q⟩ := q
    simp only [ev] at e
    obtain ⟨x, ρ1, d, k, e1, v1, e5, h1⟩ := tru_split e
    refine ⟨S, ρ, x, _, rel, e1, fun S1 v H1 g1 rel1 r1 => ⟨k, tru_d (r1.view rel1 v1) e5, ?_⟩⟩
    cases k with
    | false => exact iteF ⟨S1, _, r, ρ', rel1, h1, fun S2 b2 H2 g2 rel2 r2 => q S2 b2 H2 (g1.trans g2) rel2 (r2.base g1.stay)⟩
    | true =>
      obtain ⟨q1, q2⟩ := ret_eq h1
      subst q1 q2
      exact iteT (q S1 _ H1 g1 rel1 r1)
theorem de_not (ha : PE X a (tD X.K (ev Φ ia))) : PE X (.UnaryOp .Not a pos) (tD X.K (ev Φ (.not ia))) :=
  peImp (pe_notT ha) fun σ H Q q => by
    obtain ⟨S, ρ, r, ρ', rel, e, q⟩ := q
    simp only [ev] at e
    obtain ⟨x, ρ1, d, k, e1, v1, e5, h1⟩ := tru_split e
    obtain ⟨q1, q2⟩ := ret_eq h1
    subst q1 q2
    exact ⟨S, ρ, x, _, rel, e1, fun S1 v H1 g1 rel1 r1 => ⟨k, tru_d (r1.view rel1 v1) e5, q S1 _ H1 g1 rel1 (.bl _)⟩⟩
theorem de_ite (hc : PT X c (tT X.K (evt Φ ic))) (ha : PE X a (tD X.K (ev Φ ia))) (hb : PE X b (tD X.K (ev Φ ib))) : PE X (.IfExp c a b pos) (tD X.K (ev Φ (.ite ic ia ib))) :=
  peImp (pe_ifExp hc ha hb) fun σ H Q q => by
    obtain ⟨S, ρ, r, ρ', rel, e, q⟩ := q
    simp only [ev] at e
    obtain ⟨x, ρ1, d, k, e1, v1, e5, h1⟩ := tru_split e
    refine ⟨S, ρ, k, _, rel, evt_mk e1 v1 e5, fun S1 v H1 g1 rel1 r1 => ?_⟩
    subst r1
    cases v with
    | true => exact iteT ⟨S1, _, r, ρ', rel1, h1, fun S2 b2 H2 g2 rel2 r2 => q S2 b2 H2 (g1.trans g2) rel2 (r2.base g1.stay)⟩
    | false => exact iteF ⟨S1, _, r, ρ', rel1, h1, fun S2 b2 H2 g2 rel2 r2 => q S2 b2 H2 (g1.trans g2) rel2 (r2.base g1.stay)⟩
end
end DL
end
section
set_option autoImplicit false
/-! DLd: chains, displays, indices, slices, built-in calls. -/
namespace DL
open PySem L2
variable [LTabs]
section
variable {K : PySem.W.Frag} {S S1 S2 : Addr → Prop} {ρ ρ1 ρ2 : Ev} {σ : St} {H H1 H2 : Hp}
/-- a result is shared: its list, if it is one, is frozen -/
theorem At.share {v : V} {x : R} {d : D} (a : At K S ρ σ H S1 ρ1 H1) (r : Rv K S1 H ρ1 σ H1 v x) (e : DL.share x ρ1 = .ok d ρ2) : ∃ S2, At K S ρ σ H S2 ρ2 H1 ∧ Rp K S2 H1 v d ∧ Ke S1 H1 S2 H1 := by
  cases x with
  | fz d' =>
    obtain ⟨q1, q2⟩ := ret_eq e
    subst q1 q2
    exact ⟨S1, a, r, fun _ h => h, fun _ _ _ h _ => h⟩
  | fr xs =>
    obtain ⟨q1, q2⟩ := ret_eq e
    subst q1 q2
    obtain ⟨p, vs, ev, h0, h1, h2, h3, h4⟩ := r
    have ke : Ke S1 H1 (fun z => S1 z ∨ z = p) H1 := ⟨fun _ h => .inl h, fun _ _ _ h _ => h⟩
    refine ⟨fun z => S1 z ∨ z = p, ⟨⟨fun z h => .inl (a.go.sub z h), fun z h => ?_, a.go.own, a.go.kp, a.go.stay, a.go.fix⟩, ⟨a.rel.len, fun i s ov e1 e2 => ?_, a.rel.inj, fun z h => ?_, a.rel.tb⟩⟩, ?_, ke⟩
    · rcases h with h | h
      · exact a.go.new z h
      · rw [h]; exact .inr (.inl h0)
    · have q := a.rel.ok i s ov e1 e2
      cases s with
      | un => trivial
      | fz d => obtain ⟨w, ew, hw⟩ := q; exact ⟨w, ew, hw.mono ke⟩
      | ls k ys =>
        obtain ⟨b, eb, nb, hb⟩ := q
        subst eb
        exact ⟨b, rfl, fun z => z.elim nb fun z => h3 (z ▸ ⟨i, k, ys, e1, e2⟩), hold_mono hb (fun _ h _ => h) ke⟩
    · rcases h with h | h
      · exact a.rel.dom z h
      · rw [h, h1]; simp
    · rw [ev]
      exact .lst ⟨.inr rfl, h1⟩ (h4.mono ke)
  | rf i =>
    have e : (match ρ1[i]? with | some (.ls .own xs) => Out.ok (D.lst xs) (ρ1.set i (.fz (.lst xs))) | _ => .stk) = .ok d ρ2 := e
    split at e
    · rename_i xs q
      cases e
      obtain ⟨p, vs, ep, h1, h2, h4⟩ := a.rel.atL q
      have r : σ[i]? = some (some v) := r
      rw [r] at ep
      cases ep
      have hi : i < ρ1.length := (List.getElem?_eq_some_iff.mp q).1
      have ke : Ke S1 H1 (fun z => S1 z ∨ z = p) H1 := ⟨fun _ h => .inl h, fun _ _ _ h _ => h⟩
      have own : ∀ z, Own (ρ1.set i (.fz (.lst xs))) σ z → Own ρ1 σ z ∧ z ≠ p := fun z ⟨j, k, ys, e1, e2⟩ => by
        by_cases hj : i = j
        · subst hj
          rw [List.getElem?_set_self hi] at e1
          cases e1
        · rw [List.getElem?_set_ne hj] at e1
          exact ⟨⟨j, k, ys, e1, e2⟩, fun z => hj (a.rel.inj i j .own k xs ys p q e1 r (z ▸ e2))⟩
      refine ⟨fun z => S1 z ∨ z = p, ⟨⟨fun z h => .inl (a.go.sub z h), fun z h => ?_, fun z h => a.go.own z (own z h).1, a.go.kp, a.go.stay, fun j k ys e1 n => ?_⟩, ⟨by rw [List.length_set]; exact a.rel.len, fun j s ov e1 e2 => ?_, fun j l k k' ys zs b e1 e2 e3 e4 => ?_, fun z h => ?_, a.rel.tb⟩⟩, .lst ⟨.inr rfl, h1⟩ (h4.mono ke), ke⟩
      · rcases h with h | h
        · exact a.go.new z h
        · rw [h]; exact .inr (a.go.own p ⟨i, .own, xs, q, r⟩)
      · obtain ⟨zs, z1, z2, z3⟩ := a.go.fix j k ys e1 n
        have hj : i ≠ j := fun z => by rw [← z, q] at z1; cases z1; exact n rfl
        exact ⟨zs, by rw [List.getElem?_set_ne hj]; exact z1, z2, z3⟩
      · by_cases hj : i = j
        · subst hj
          rw [List.getElem?_set_self hi] at e1
          cases e1
          rw [r] at e2
          cases e2
          exact ⟨_, rfl, .lst ⟨.inr rfl, h1⟩ (h4.mono ke)⟩
        · rw [List.getElem?_set_ne hj] at e1
          have w := a.rel.ok j s ov e1 e2
          cases s with
          | un => trivial
          | fz d => obtain ⟨w, ew, hw⟩ := w; exact ⟨w, ew, hw.mono ke⟩
          | ls k ys =>
            obtain ⟨b, eb, nb, hb⟩ := w
            subst eb
            exact ⟨b, rfl, fun z => z.elim nb fun z => hj (a.rel.inj i j .own k xs ys p q e1 r (z ▸ e2)), hold_mono hb (fun _ h _ => h) ke⟩
      · by_cases hj : i = j
        · subst hj
          rw [List.getElem?_set_self hi] at e1
          cases e1
        · by_cases hl : i = l
          · subst hl
            rw [List.getElem?_set_self hi] at e2
            cases e2
          · rw [List.getElem?_set_ne hj] at e1
            rw [List.getElem?_set_ne hl] at e2
            exact a.rel.inj j l k k' ys zs b e1 e2 e3 e4
      · rcases h with h | h
        · exact a.rel.dom z h
        · rw [h, h1]; simp
    · cases e
/-- values to be shared, from the left -/
abbrev tPs (K : PySem.W.Frag) (m : M (List D)) : TA := tG K (fun S' _ _ _ H' vs ds => Rps K S' H' vs ds) m
inductive Rvs (K : PySem.W.Frag) (S : Addr → Prop) (H₀ : Hp) (ρ : Ev) (σ : St) (H : Hp) : List V → List R → Prop
  | nil : Rvs K S H₀ ρ σ H [] []
  | cons {v : V} {vs : List V} {r : R} {rs : List R} : Rv K S H₀ ρ σ H v r → Rvs K S H₀ ρ σ H vs rs → Rvs K S H₀ ρ σ H (v :: vs) (r :: rs)
abbrev tRs (K : PySem.W.Frag) (m : M (List R)) : TA := tG K (Rvs K) m
theorem Rvs.base {H₀ H₁ : Hp} (st : ∀ a, H₁ a = none → H₀ a = none) : ∀ {vs : List V} {rs : List R}, Rvs K S H₁ ρ σ H vs rs → Rvs K S H₀ ρ σ H vs rs
  | _, _, .nil => .nil
  | _, _, .cons h r => .cons (h.base st) (r.base st)
inductive Vds (K : PySem.W.Frag) (S : Addr → Prop) (H : Hp) : List V → List D → Prop
  | nil : Vds K S H [] []
  | cons {v : V} {vs : List V} {r : D} {rs : List D} : Vd K S H v r → Vds K S H vs rs → Vds K S H (v :: vs) (r :: rs)
theorem Rvs.views {H₀ : Hp} (rel : Rel K S ρ σ H) : ∀ {vs : List V} {rs : List R} {ds : List D}, Rvs K S H₀ ρ σ H vs rs → rs.mapM (view ρ) = some ds → Vds K S H vs ds
  | _, _, _, .nil, e => by cases e; exact .nil
  | _, _, ds, .cons (rs := rs) (r := r) h t, e => by
    rw [List.mapM_cons] at e
    cases e1 : view ρ r with
    | none => rw [e1] at e; cases e
    | some d =>
      rw [e1] at e
      cases e2 : rs.mapM (view ρ) with
      | none => rw [e2] at e; cases e
      | some es =>
        rw [e2] at e
        cases e
        exact .cons (h.view rel e1) (Rvs.views rel t e2)
end
section
variable {X : Cx} {Φ : Calls} {a b c : Expr} {es : List Expr} {pos : Pos} {ia ib ic : E} {ies : Es}
theorem da_nil : PA X [] (tPs X.K (evs Φ .nil)) := paImp pa_nil fun σ H Q q => by
  obtain ⟨S, ρ, r, ρ', rel, e, q⟩ := q
  simp only [evs] at e
  obtain ⟨q1, q2⟩ := ret_eq e
  subst q1 q2
  exact q S [] H .refl rel .nil
theorem da_cons (ha : PE X a (tD X.K (ev Φ ia))) (hr : PA X es (tPs X.K (evs Φ ies))) (hs : starEach (a :: es) X.env = (false, eval a X.env) :: starEach es X.env := by rfl) : PA X (a :: es) (tPs X.K (evs Φ (.cons ia ies))) :=
  paImp (pa_cons ha hr hs) fun σ H Q q => by
    obtain ⟨S, ρ, r, ρ', rel, e, q⟩ := q
    simp only [evs] at e
    obtain ⟨x, ρ1, e1, h1⟩ := bnd_eq e
    obtain ⟨d, ρ2, e2, h2⟩ := bnd_eq h1
    obtain ⟨ds, ρ3, e3, h3⟩ := bnd_eq h2
    obtain ⟨q1, q2⟩ := ret_eq h3
    subst q1 q2
    refine ⟨S, ρ, x, ρ1, rel, e1, fun S1 v H1 g1 rel1 r1 => ?_⟩
    obtain ⟨S2, at2, rp, _⟩ := At.share ⟨g1, rel1⟩ r1 e2
    exact ⟨S2, ρ2, ds, _, at2.rel, e3, fun S3 vs H3 g3 rel3 r3 => q S3 _ H3 (at2.go.trans g3) rel3 (.cons (rp.mono (g3.ke at2.rel)) r3)⟩
theorem dr_nil : PA X [] (tRs X.K (evrs Φ .nil)) := paImp pa_nil fun σ H Q q => by
  obtain ⟨S, ρ, r, ρ', rel, e, q⟩ := q
  simp only [evrs] at e
  obtain ⟨q1, q2⟩ := ret_eq e
  subst q1 q2
  exact q S [] H .refl rel .nil
theorem dr_cons (ha : PE X a (tD X.K (ev Φ ia))) (hr : PA X es (tRs X.K (evrs Φ ies))) (hs : starEach (a :: es) X.env = (false, eval a X.env) :: starEach es X.env := by rfl) : PA X (a :: es) (tRs X.K (evrs Φ (.cons ia ies))) :=
  paImp (pa_cons ha hr hs) fun σ H Q q => by
    obtain ⟨S, ρ, r, ρ', rel, e, q⟩ := q
    simp only [evrs] at e
    obtain ⟨x, ρ1, e1, h1⟩ := bnd_eq e
    obtain ⟨ds, ρ3, e3, h3⟩ := bnd_eq h1
    obtain ⟨q1, q2⟩ := ret_eq h3
    subst q1 q2
    exact ⟨S, ρ, x, ρ1, rel, e1, fun S1 v H1 g1 rel1 r1 => ⟨S1, ρ1, ds, _, rel1, e3, fun S3 vs H3 g3 rel3 r3 => q S3 _ H3 (g1.trans g3) rel3 (.cons (r1.go rel1 g3) (r3.base g1.stay))⟩⟩
theorem de_tup {x1} (h : PA X es (tPs X.K (evs Φ ies))) : PE X (.Tuple es x1 pos) (tD X.K (ev Φ (.tup ies))) :=
  peImp (pe_tup h) fun σ H Q q => by
    obtain ⟨S, ρ, r, ρ', rel, e, q⟩ := q
    simp only [ev] at e
    obtain ⟨ds, ρ1, e1, h1⟩ := bnd_eq e
    split at h1
    · rename_i hz
      obtain ⟨q1, q2⟩ := ret_eq h1
      subst q1 q2
      exact ⟨S, ρ, ds, _, rel, e1, fun S1 vs H1 g1 rel1 r1 => ⟨by rw [r1.length]; exact hz, fun p hp => At.fin q ⟨g1, rel1⟩ _ _ _ (.tup hp) (Rp.mkTup hp r1)⟩⟩
    · cases h1
theorem de_emp : PE X (.Dict [] [] pos) (tD X.K (ev Φ (.cst .emp))) := peImp pe_dnewK fun σ H Q q => by
  obtain ⟨S, ρ, r, ρ', rel, e, q⟩ := q
  simp only [ev] at e
  obtain ⟨q1, q2⟩ := ret_eq e
  subst q1 q2
  exact fun p hp => At.fin q ⟨.refl, rel⟩ _ _ _ (Gn.one hp) (Rp.emp (.inr rfl) upd_same)
theorem de_lst (h : PA X es (tPs X.K (evs Φ ies))) : PE X (.List es pos) (tD X.K (ev Φ (.lst ies))) :=
  peImp (pe_lst h) fun σ H Q q => by
    obtain ⟨S, ρ, r, ρ', rel, e, q⟩ := q
    simp only [ev] at e
    obtain ⟨ds, ρ1, e1, h1⟩ := bnd_eq e
    split at h1
    · rename_i hz
      obtain ⟨q1, q2⟩ := ret_eq h1
      subst q1 q2
      exact ⟨S, ρ, ds, _, rel, e1, fun S1 vs H1 g1 rel1 r1 => ⟨by rw [r1.length]; exact hz, fun p hp => At.fin q ⟨g1, rel1⟩ _ _ _ (.lst hp) (.mkLst hp rel1.dom r1)⟩⟩
    · cases h1
theorem atI_rp {K : PySem.W.Frag} {S : Addr → Prop} {H : Hp} {vs : List V} {ds : List D} {i : Int} {d : D} (r : Rps K S H vs ds) (e : atD ds i = some d) : ∃ v, atI vs i = some v ∧ Rp K S H v d := by
  unfold atD atI at e
  unfold atI
  rw [r.length]
  cases q : ixN ds.length i with
  | none => rw [q] at e; cases e
  | some j => rw [q] at e; exact r.get e
theorem de_idx (ha : PE X a (tD X.K (ev Φ ia))) (hb : PE X b (tD X.K (ev Φ ib))) (hp : PlainIx b) : PE X (.Subscript a b pos) (tD X.K (ev Φ (.idx ia ib))) :=
  peImp (pe_ix ix_seq ha hb hp) fun σ H Q q => by
    obtain ⟨S, ρ, r, ρ', rel, e, q⟩ := q
    simp only [ev] at e
    obtain ⟨x, ρ1, e1, h1⟩ := bnd_eq e
    obtain ⟨y, ρ2, e2, h2⟩ := bnd_eq h1
    obtain ⟨d, f, v1, v2, h3⟩ := vw2_split h2
    obtain ⟨g, e5, h4⟩ := ofO_split h3
    obtain ⟨q1, q2⟩ := ret_eq h4
    subst q1 q2
    refine seq2 rel e1 e2 fun S2 H2 v u at2 r1 r2 => ?_
    have w1 := r1.view at2.rel v1
    have w2 := r2.view at2.rel v2
    cases d <;> cases f <;> (try (cases e5; done))
    · rename_i z k
      have e5 : (if z.length ≤ sizeLine then (atI z.cps.toList k).map fun c => D.str ⟨#[c]⟩ else none) = some g := e5
      split at e5
      · rename_i hz
        cases e6 : atI z.cps.toList k with
        | none => rw [e6] at e5; cases e5
        | some c =>
          rw [e6] at e5
          cases e5
          exact .inr (.inr ⟨z, k, c, w1.s, w2.i, hz, e6, q S2 _ H2 at2.go at2.rel (.str _)⟩)
      · cases e5
    · obtain ⟨p, vs, ep, hp, rp⟩ := w1.t
      obtain ⟨z, ez, rz⟩ := atI_rp rp e5
      exact .inr (.inl ⟨p, vs, _, z, ep, w2.i, hp, ez, q S2 _ H2 at2.go at2.rel rz⟩)
    · obtain ⟨p, vs, ep, hp, rp⟩ := w1.l
      obtain ⟨z, ez, rz⟩ := atI_rp rp e5
      exact .inl ⟨p, vs, _, z, ep, w2.i, .inl (.inl hp), ez, q S2 _ H2 at2.go at2.rel rz⟩
    · obtain ⟨p, vs, ep, hp, rp⟩ := w1.c
      obtain ⟨z, ez, rz⟩ := atI_rp rp e5
      exact .inl ⟨p, vs, _, z, ep, w2.i, hp, ez, q S2 _ H2 at2.go at2.rel rz⟩
/-- an optional part of a slice -/
abbrev tO (K : PySem.W.Frag) (m : M (Option Int)) : TO := tG K (fun _ _ _ _ _ b a => b = a) m
theorem poImp {X : Cx} {e : Option Expr} {t t' : TO} (h : PO X e t) (i : ∀ σ H Q, t' σ H Q → t σ H Q) : PO X e t' := ⟨fun pins s σ H Q I q => h.run pins s σ H Q I (i _ _ _ q)⟩
theorem do_none : PO X none (tO X.K (evo Φ .none)) := poImp po_none fun σ H Q q => by
  obtain ⟨S, ρ, r, ρ', rel, e, q⟩ := q
  simp only [evo] at e
  obtain ⟨q1, q2⟩ := ret_eq e
  subst q1 q2
  exact q S _ H .refl rel rfl
theorem do_some (ha : PE X a (tD X.K (ev Φ ia))) : PO X (some a) (tO X.K (evo Φ (.some ia))) := poImp (po_some ha) fun σ H Q q => by
  obtain ⟨S, ρ, r, ρ', rel, e, q⟩ := q
  simp only [evo] at e
  obtain ⟨x, ρ1, e1, h1⟩ := bnd_eq e
  obtain ⟨d, v1, h2⟩ := vw1_split h1
  cases d <;> (try (cases h2; done))
  rename_i i
  obtain ⟨q1, q2⟩ := ret_eq h2
  subst q1 q2
  exact ⟨S, ρ, x, _, rel, e1, fun S1 v H1 g1 rel1 r1 => ⟨i, (r1.view rel1 v1).i, q S1 _ H1 g1 rel1 rfl⟩⟩
def rSl (K : PySem.W.Frag) : V → Option Int → Option Int → Hp → VK → Prop := fun x lo hi H Q => ∃ S d r, Dom S H ∧ Vd K S H x d ∧ slcD d lo hi = some r ∧ ∀ S' v H', Gn S H S' H' → Rn K S' H H' v r → Q v H'
theorem sl_D : SlR X (rSl X.K) := by
  intro pins s σ H x v vl vu lo hi sl Q I rx hs pl pu h
  obtain ⟨S, d, r, dom, hx, hb, q⟩ := h
  cases d <;> (try (cases hb; done))
  · rename_i z
    have hb : (if z.length ≤ sizeLine then some (R.fz (.str (cutS z lo hi))) else none) = some r := hb
    split at hb
    · rename_i hz
      cases hb
      exact sl_str pins s σ H x v vl vu lo hi sl Q I rx hs pl pu ⟨z, hx.s, hz, q S _ H .refl (.str _)⟩
    · cases hb
  · rename_i ds
    cases hb
    obtain ⟨p, vs, ep, hp, rp⟩ := hx.t
    refine sl_tupA pins s σ H x v vl vu lo hi sl Q I rx hs pl pu ⟨p, vs, ep, hp, fun hw => ?_, fun _ t ht => q _ _ _ (.tup ht) (Rp.mkTup ht (rp.cut lo hi))⟩
    rw [← ep]
    refine q S _ H .refl ?_
    have hc : cut ds lo hi = ds := by
      unfold cut
      rw [← rp.length, hw.1, hw.2, rp.length]
      simp
    rw [hc]
    exact (show Rp X.K S H x _ from hx.tf)
  · rename_i ds
    cases hb
    obtain ⟨p, vs, ep, hp, rp⟩ := hx.l
    exact sl_list pins s σ H x v vl vu lo hi sl Q I rx hs pl pu ⟨p, vs, ep, .inl (.inl hp), fun t ht => q _ _ _ (.lst ht) (.mkLst ht dom (rp.cut lo hi))⟩
  · rename_i ds
    cases hb
    obtain ⟨p, vs, ep, hp, rp⟩ := hx.c
    exact sl_list pins s σ H x v vl vu lo hi sl Q I rx hs pl pu ⟨p, vs, ep, hp, fun t ht => q _ _ _ (.lst ht) (.mkLst ht dom (rp.cut lo hi))⟩
theorem de_slc {lo hi : Option Expr} {p2 : Pos} {il ih : Eo} (ha : PE X a (tD X.K (ev Φ ia))) (hl : PO X lo (tO X.K (evo Φ il))) (hh : PO X hi (tO X.K (evo Φ ih))) : PE X (.Subscript a (.Slice lo hi none p2) pos) (tD X.K (ev Φ (.slc ia il ih))) :=
  peImp (pe_slice sl_D ha hl hh) fun σ H Q q => by
    obtain ⟨S, ρ, r, ρ', rel, e, q⟩ := q
    simp only [ev] at e
    obtain ⟨x, ρ1, e1, h1⟩ := bnd_eq e
    obtain ⟨l, ρ2, e2, h2⟩ := bnd_eq h1
    obtain ⟨h, ρ3, e3, h3⟩ := bnd_eq h2
    obtain ⟨d, v1, h4⟩ := vw1_split h3
    obtain ⟨e5, q1⟩ := ofO_eq h4
    subst q1
    exact ⟨S, ρ, x, ρ1, rel, e1, fun S1 v H1 g1 rel1 r1 => ⟨S1, ρ1, l, ρ2, rel1, e2, fun S2 l2 H2 g2 rel2 r2 => by
      subst r2
      exact ⟨S2, ρ2, h, _, rel2, e3, fun S3 h3 H3 g3 rel3 r3 => by
        subst r3
        exact ⟨S3, d, r, rel3.dom, ((r1.go rel1 g2).go rel2 g3).view rel3 v1, e5, At.fin q ⟨(g1.trans g2).trans g3, rel3⟩⟩⟩⟩⟩
theorem chn_split {o p : Cop} {ρ ρ' : Ev} {r : R} (h : ev Φ (.chn o p ia ib ic) ρ = .ok r ρ') : ∃ x ρ1 y ρ2 d f k, ev Φ ia ρ = .ok x ρ1 ∧ ev Φ ib ρ1 = .ok y ρ2 ∧ view ρ2 x = some d ∧ view ρ2 y = some f ∧ cmpD o d f = some k ∧
    ((k = true ∧ ∃ z f g k2, ev Φ ic ρ2 = .ok z ρ' ∧ view ρ' y = some f ∧ view ρ' z = some g ∧ cmpD p f g = some k2 ∧ r = .fz (.bl k2)) ∨ (k = false ∧ r = .fz (.bl false) ∧ ρ' = ρ2)) := by
  simp only [ev] at h
  obtain ⟨x, ρ1, e1, h1⟩ := bnd_eq h
  obtain ⟨y, ρ2, e2, h2⟩ := bnd_eq h1
  obtain ⟨d, f, v1, v2, h3⟩ := vw2_split h2
  obtain ⟨k, e5, h4⟩ := ofO_split h3
  refine ⟨x, ρ1, y, ρ2, d, f, k, e1, e2, v1, v2, e5, ?_⟩
  cases k with
  | true =>
    obtain ⟨z, ρ3, e6, h5⟩ := bnd_eq (show bnd (ev Φ ic) _ ρ2 = _ from h4)
    obtain ⟨f2, g, v3, v4, h6⟩ := vw2_split h5
    obtain ⟨k2, e7, h7⟩ := ofO_split h6
    obtain ⟨q1, q2⟩ := ret_eq h7
    subst q1 q2
    exact .inl ⟨rfl, z, f2, g, k2, e6, v3, v4, e7, rfl⟩
  | false =>
    obtain ⟨q1, q2⟩ := ret_eq (show ret _ ρ2 = _ from h4)
    exact .inr ⟨rfl, q1, q2⟩
theorem chn_read {o p : Cop} {σ : St} {H : Hp} {Q : VK} (q : tD X.K (ev Φ (.chn o p ia ib ic)) σ H Q) : tChain (rC X.K o) (rC X.K p) (tD X.K (ev Φ ia)) (tD X.K (ev Φ ib)) (tD X.K (ev Φ ic)) σ H Q := by
  obtain ⟨S, ρ, r, ρ', rel, e, q⟩ := q
  obtain ⟨x, ρ1, y, ρ2, d, f, k, e1, e2, v1, v2, e5, h⟩ := chn_split e
  refine seq2 rel e1 e2 fun S2 H2 v u at2 r1 r2 => ⟨S2, d, f, k, at2.rel.dom, r1.view at2.rel v1, r2.view at2.rel v2, e5, k, rfl, ?_⟩
  rcases h with ⟨rfl, z, f2, g, k2, e6, v3, v4, e7, rfl⟩ | ⟨rfl, rfl, rfl⟩
  · exact iteT ⟨S2, ρ2, z, ρ', at2.rel, e6, fun S3 w H3 g3 rel3 r3 => ⟨S3, f2, g, k2, rel3.dom, (r2.go at2.rel g3).view rel3 v3, r3.view rel3 v4, e7, q S3 _ H3 (at2.go.trans g3) rel3 (.bl _)⟩⟩
  · exact iteF (q S2 _ H2 at2.go at2.rel (.bl _))
theorem de_chn {op op' : CmpOp} {o p : Cop} (ho : OpR X (compareOp op) (rC X.K o)) (ho' : OpR X (compareOp op') (rC X.K p)) (ha : PE X a (tD X.K (ev Φ ia))) (hb : PE X b (tD X.K (ev Φ ib))) (hc : PE X c (tD X.K (ev Φ ic))) (hm : lastMarks [op, op'] [b, c] = false := by rfl) :
    PE X (.Compare a [op, op'] [b, c] pos) (tD X.K (ev Φ (.chn o p ia ib ic))) := peImp (pe_chain ho ho' ha hb hc hm) fun σ H Q q => chn_read q
end
end DL
end
section
set_option autoImplicit false
/-! DLe: calls of built-ins, methods of lists. -/
namespace DL
open PySem L2
variable [LTabs]
def rK (K : PySem.W.Frag) (b : Bi) : List V → Hp → VK → Prop := fun vs H Q => ∃ S ds r, Dom S H ∧ Vds K S H vs ds ∧ biD b ds = some r ∧ ∀ S' v H', Gn S H S' H' → Rn K S' H H' v r → Q v H'
section
variable {X : Cx} {Φ : Calls} {a b c : Expr} {es : List Expr} {pos : Pos} {ia ib ic : E} {ies : Es}
theorem bi_split {b : Bi} {ρ ρ' : Ev} {r : R} (h : ev Φ (.bi b ies) ρ = .ok r ρ') : ∃ rs ds, evrs Φ ies ρ = .ok rs ρ' ∧ rs.mapM (view ρ') = some ds ∧ biD b ds = some r := by
  simp only [ev] at h
  obtain ⟨rs, ρ1, e1, h1⟩ := bnd_eq h
  split at h1
  · rename_i ds e2
    obtain ⟨e3, q⟩ := ofO_eq h1
    subst q
    exact ⟨rs, ds, e1, e2, e3⟩
  · cases h1
theorem bi_read {b : Bi} {σ : St} {H : Hp} {Q : VK} (q : tD X.K (ev Φ (.bi b ies)) σ H Q) : tCB (rK X.K b) (tRs X.K (evrs Φ ies)) σ H Q := by
  obtain ⟨S, ρ, r, ρ', rel, e, q⟩ := q
  obtain ⟨rs, ds, e1, e2, e3⟩ := bi_split e
  exact ⟨S, ρ, rs, ρ', rel, e1, fun S1 vs H1 g1 rel1 r1 => ⟨S1, ds, r, rel1.dom, Rvs.views rel1 r1 e2, e3, At.fin q ⟨g1, rel1⟩⟩⟩
theorem de_bi {b : Bi} {id : String} {x : Str} {p : Pos} {e : Expr} (hc : CallR X (.builtin id) (rK X.K b)) (hg : Gl X x) (hm : X.mg x = none) (hv : bootBuiltins x = some (.builtin id)) (ha : PA X (e :: es) (tRs X.K (evrs Φ ies))) (hn : x ≠ "__name__" := by decide) (hdb : (x == ("__debug__" : Str)) = false := by decide)
    (he : starEach (e :: es) X.env = (false, eval e X.env) :: starEach es X.env := by rfl) (hpl : (PySem.backTo pos (starEach es X.env)).any (·.1) = false := by rfl) : PE X (.Call (.Name x p) (e :: es) [] pos) (tD X.K (ev Φ (.bi b ies))) :=
  peImp (pe_callB hc hg hm hv ha hn hdb he hpl) fun σ H Q q => bi_read q
theorem de_ty {b : Bi} {id : String} {x : Str} {p : Pos} {e : Expr} (hc : CallR X (.type id) (rK X.K b)) (hg : Gl X x) (hm : X.mg x = none) (hv : bootBuiltins x = some (.type id)) (ha : PA X (e :: es) (tRs X.K (evrs Φ ies))) (hn : x ≠ "__name__" := by decide) (hdb : (x == ("__debug__" : Str)) = false := by decide)
    (he : starEach (e :: es) X.env = (false, eval e X.env) :: starEach es X.env := by rfl) (hpl : (PySem.backTo pos (starEach es X.env)).any (·.1) = false := by rfl) : PE X (.Call (.Name x p) (e :: es) [] pos) (tD X.K (ev Φ (.bi b ies))) :=
  peImp (pe_callTy hc hg hm hv ha hn hdb he hpl) fun σ H Q q => bi_read q
theorem vds1 {K : PySem.W.Frag} {S : Addr → Prop} {H : Hp} {vs : List V} {d : D} (h : Vds K S H vs [d]) : ∃ v, vs = [v] ∧ Vd K S H v d := by
  cases h with | cons h r => cases r; exact ⟨_, rfl, h⟩
theorem vds2 {K : PySem.W.Frag} {S : Addr → Prop} {H : Hp} {vs : List V} {d e : D} (h : Vds K S H vs [d, e]) : ∃ v u, vs = [v, u] ∧ Vd K S H v d ∧ Vd K S H u e := by
  cases h with | cons h r => cases r with | cons h2 r => cases r; exact ⟨_, _, rfl, h, h2⟩
theorem cr_lenD : CallR X (.builtin "len") (rK X.K .len) := by
  intro pins s σ H vs us Q I r h
  obtain ⟨S, ds, x, dom, hv, hb, q⟩ := h
  match ds, hv, hb with
  | [.tup xs], hv, hb =>
    cases hb
    obtain ⟨v, rfl, w⟩ := vds1 hv
    obtain ⟨p, ws, ep, hp, rp⟩ := w.t
    subst ep
    refine call_len pins s σ H _ us Q I r ⟨_, ws.length, rfl, .inr ⟨ws, hp, rfl⟩, ?_⟩
    rw [rp.length]
    exact q S _ H .refl (.int _)
  | [.lst xs], hv, hb =>
    cases hb
    obtain ⟨v, rfl, w⟩ := vds1 hv
    obtain ⟨p, ws, ep, hp, rp⟩ := w.l
    subst ep
    refine call_len pins s σ H _ us Q I r ⟨_, ws.length, rfl, .inl ⟨ws, .inl (.inl hp), rfl⟩, ?_⟩
    rw [rp.length]
    exact q S _ H .refl (.int _)
  | [.scr xs], hv, hb =>
    cases hb
    obtain ⟨v, rfl, w⟩ := vds1 hv
    obtain ⟨p, ws, ep, hp, rp⟩ := w.c
    subst ep
    refine call_len pins s σ H _ us Q I r ⟨_, ws.length, rfl, .inl ⟨ws, hp, rfl⟩, ?_⟩
    rw [rp.length]
    exact q S _ H .refl (.int _)
  | [.str z], hv, hb =>
    have hb : (if z.length ≤ sizeLine then some (R.fz (.int z.length)) else none) = some x := hb
    split at hb
    · rename_i hz
      cases hb
      obtain ⟨v, rfl, w⟩ := vds1 hv
      have e := w.s
      subst e
      exact call_len pins s σ H _ us Q I r ⟨_, z.length, rfl, ⟨hz, rfl⟩, q S _ H .refl (.int _)⟩
    · cases hb
theorem cr_absD : CallR X (.builtin "abs") (rK X.K .abs) := by
  intro pins s σ H vs us Q I r h
  obtain ⟨S, ds, x, dom, hv, hb, q⟩ := h
  match ds, hv, hb with
  | [.int i], hv, hb =>
    cases hb
    obtain ⟨v, rfl, w⟩ := vds1 hv
    have e := w.i
    subst e
    exact call_abs pins s σ H _ us Q I r ⟨i, rfl, q S _ H .refl (.int _)⟩
theorem cr_intD : CallR X (.type "int") (rK X.K .int1) := by
  intro pins s σ H vs us Q I r h
  obtain ⟨S, ds, x, dom, hv, hb, q⟩ := h
  match ds, hv, hb with
  | [.int i], hv, hb =>
    cases hb
    obtain ⟨v, rfl, w⟩ := vds1 hv
    have e := w.i
    subst e
    exact call_int1 pins s σ H _ us Q I r (.inl ⟨i, rfl, q S _ H .refl (.int _)⟩)
  | [.str z], hv, hb =>
    have hb : (if z.length ≤ 640 then (PySem.intText? z).map fun n => R.fz (.int n) else none) = some x := hb
    split at hb
    · rename_i hz
      cases e6 : PySem.intText? z with
      | none => rw [e6] at hb; cases hb
      | some n =>
        rw [e6] at hb
        cases hb
        obtain ⟨v, rfl, w⟩ := vds1 hv
        have e := w.s
        subst e
        exact call_int_str pins s σ H _ us Q I r ⟨z, n, rfl, e6, hz, q S _ H .refl (.int _)⟩
    · cases hb
  | [.bl i], hv, hb =>
    cases hb
    obtain ⟨v, rfl, w⟩ := vds1 hv
    have e := w.b
    subst e
    exact call_int1 pins s σ H _ us Q I r (.inr ⟨i, rfl, q S _ H .refl (.int _)⟩)
theorem cr_tupleD : CallR X (.type "tuple") (rK X.K .tuple) := by
  intro pins s σ H vs us Q I r h
  obtain ⟨S, ds, x, dom, hv, hb, q⟩ := h
  match ds, hv, hb with
  | [.tup xs], hv, hb =>
    cases hb
    obtain ⟨v, rfl, w⟩ := vds1 hv
    obtain ⟨p, ws, ep, hp, rp⟩ := w.t
    have tf := w.tf
    subst ep
    exact call_tuple_of pins s σ H _ us Q I r ⟨p, ws, rfl, .inr ⟨hp, q S _ H .refl tf⟩⟩
  | [.lst xs], hv, hb =>
    cases hb
    obtain ⟨v, rfl, w⟩ := vds1 hv
    obtain ⟨p, ws, ep, hp, rp⟩ := w.l
    subst ep
    exact call_tuple_of pins s σ H _ us Q I r ⟨p, ws, rfl, .inl ⟨.inl (.inl hp), fun l hl => q _ _ _ (.tup hl) (Rp.mkTup hl rp)⟩⟩
theorem cr_listD : CallR X (.type "list") (rK X.K .list) := by
  intro pins s σ H vs us Q I r h
  obtain ⟨S, ds, x, dom, hv, hb, q⟩ := h
  match ds, hv, hb with
  | [.tup xs], hv, hb =>
    cases hb
    obtain ⟨v, rfl, w⟩ := vds1 hv
    obtain ⟨p, ws, ep, hp, rp⟩ := w.t
    subst ep
    exact call_list_of pins s σ H _ us Q I r ⟨p, ws, rfl, .inr hp, fun l hl => q _ _ _ (.lst hl) (.mkLst hl dom rp)⟩
  | [.lst xs], hv, hb =>
    cases hb
    obtain ⟨v, rfl, w⟩ := vds1 hv
    obtain ⟨p, ws, ep, hp, rp⟩ := w.l
    subst ep
    exact call_list_of pins s σ H _ us Q I r ⟨p, ws, rfl, .inl (.inl (.inl hp)), fun l hl => q _ _ _ (.lst hl) (.mkLst hl dom rp)⟩
  | [.scr xs], hv, hb =>
    cases hb
    obtain ⟨v, rfl, w⟩ := vds1 hv
    obtain ⟨p, ws, ep, hp, rp⟩ := w.c
    subst ep
    exact call_list_of pins s σ H _ us Q I r ⟨p, ws, rfl, .inl hp, fun l hl => q _ _ _ (.lst hl) (.mkLst hl dom rp)⟩
theorem cr_max2D (hc : X.calm = true) : CallR X (.builtin "max") (rK X.K .max2) := by
  intro pins s σ H vs us Q I r h
  obtain ⟨S, ds, x, dom, hv, hb, q⟩ := h
  match ds, hv, hb with
  | [.int i, .int j], hv, hb =>
    cases hb
    obtain ⟨v, u, rfl, w1, w2⟩ := vds2 hv
    have e1 := w1.i
    have e2 := w2.i
    subst e1 e2
    exact call_max2 hc pins s σ H _ us Q I r ⟨i, j, rfl, q S _ H .refl (.int _)⟩
theorem cr_min2D (hc : X.calm = true) : CallR X (.builtin "min") (rK X.K .min2) := by
  intro pins s σ H vs us Q I r h
  obtain ⟨S, ds, x, dom, hv, hb, q⟩ := h
  match ds, hv, hb with
  | [.int i, .int j], hv, hb =>
    cases hb
    obtain ⟨v, u, rfl, w1, w2⟩ := vds2 hv
    have e1 := w1.i
    have e2 := w2.i
    subst e1 e2
    exact call_min2 hc pins s σ H _ us Q I r ⟨i, j, rfl, q S _ H .refl (.int _)⟩
theorem cr_sumD (hc : X.calm = true) : CallR X (.builtin "sum") (rK X.K .sum) := by
  intro pins s σ H vs us Q I r h
  obtain ⟨S, ds, x, dom, hv, hb, q⟩ := h
  match ds, hv, hb with
  | [.lst xs], hv, hb =>
    have hb : (DL.intsD xs).map (fun ns => R.fz (.int ns.sum)) = some x := hb
    cases e1 : DL.intsD xs with
    | none => rw [e1] at hb; cases hb
    | some ns =>
      rw [e1] at hb
      cases hb
      obtain ⟨v, rfl, w⟩ := vds1 hv
      obtain ⟨p, ws, ep, hp, rp⟩ := w.l
      subst ep
      have e3 := rp.intsD e1
      subst e3
      exact cr_sum hc pins s σ H _ us Q I r ⟨p, ns, rfl, .inl (.inl hp), q S _ H .refl (.int _)⟩
  | [.tup xs], hv, hb =>
    have hb : (DL.intsD xs).map (fun ns => R.fz (.int ns.sum)) = some x := hb
    cases e1 : DL.intsD xs with
    | none => rw [e1] at hb; cases hb
    | some ns =>
      rw [e1] at hb
      cases hb
      obtain ⟨v, rfl, w⟩ := vds1 hv
      obtain ⟨p, ws, ep, hp, rp⟩ := w.t
      subst ep
      have e3 := rp.intsD e1
      subst e3
      obtain ⟨its, rv, pl, hz⟩ := I.tuple hp
      rw [Vals.ref1 r]
      have hi := rv.ints
      obtain ⟨xs', e⟩ := hi.allInts.items
      have hn : PySem.numsOf (intItems xs').toList = ns := by rw [← e]; exact hi.numsOf
      rw [nums_intItems] at hn
      obtain ⟨o, ho, hcl, n0, hd⟩ := pl
      have ht : s.heap.IsTuple p (intItems xs') := ⟨o, ho, hcl, n0, by rw [hd, e]⟩
      refine PySem.W.ktm_sumG (I.ok.hd hc) ht fun h' tk t' hk => ?_
      rw [preSum_eq, List.take_of_length_le (by simp), hn]
      exact ⟨.int _, H, I.kept hk, ⟨_, rfl⟩, q S _ H .refl (.int _)⟩
theorem cr_allD (hc : X.calm = true) : CallR X (.builtin "all") (rK X.K .all) := by
  intro pins s σ H vs us Q I r h
  obtain ⟨S, ds, x, dom, hv, hb, q⟩ := h
  match ds, hv, hb with
  | [.lst xs], hv, hb =>
    have hb : (DL.boolsD xs).map (fun ns => R.fz (.bl (ns.all id))) = some x := hb
    cases e1 : DL.boolsD xs with
    | none => rw [e1] at hb; cases hb
    | some ns =>
      rw [e1] at hb
      cases hb
      obtain ⟨v, rfl, w⟩ := vds1 hv
      obtain ⟨p, ws, ep, hp, rp⟩ := w.l
      subst ep
      have e3 := rp.boolsD e1
      subst e3
      exact cr_all hc pins s σ H _ us Q I r ⟨p, ns, rfl, .inl (.inl hp), q S _ H .refl (.bl _)⟩
theorem cr_divmodD : CallR X (.builtin "divmod") (rK X.K .divmod) := by
  intro pins s σ H vs us Q I r h
  obtain ⟨S, ds, x, dom, hv, hb, q⟩ := h
  match ds, hv, hb with
  | [.int i, .int j], hv, hb =>
    have hb : (if 0 < j ∧ j < 1000000000000000000000000000000000000000000000000000000000000 then some (R.fz (.tup [.int (i / j), .int (i % j)])) else none) = some x := hb
    split at hb
    · rename_i hz
      cases hb
      obtain ⟨v, u, rfl, w1, w2⟩ := vds2 hv
      have e1 := w1.i
      have e2 := w2.i
      subst e1 e2
      have hw : (2 : Nat) ^ 200 < 2 ^ 201 := by decide +kernel
      have hj : j.natAbs < 2 ^ 200 := Nat.lt_of_lt_of_le (show j.natAbs < 1000000000000000000000000000000000000000000000000000000000000 by omega) (by decide +kernel)
      have hl : j.natAbs.log2 < 9000 := (wide_div (i := 0) hz.1 hj (by decide) (by decide)).2
      exact call_divmodW pins s σ H _ us Q I r ⟨i, j, rfl, ⟨hz.1, PyProof.noPylong_of_log2 hl⟩, fun p hp => q _ _ _ (.tup hp) (Rp.mkTup hp (.cons (.int _) (.cons (.int _) .nil)))⟩
    · cases hb
end
/-! ### repr where empty dicts may be inside -/
mutual
inductive Rdq (h : Heap) : Value → PyData → Prop
  | none : Rdq h .none .none
  | bool (b : Bool) : Rdq h (.bool b) (.bool b)
  | int (i : Int) (t : Tok) : Rdq h (.int i t) (.int i)
  | str (x : Str) (t : Tok) : Rdq h (.str x t) (.str x)
  | list {a : Addr} {o : Obj} {vs : Array Value} {n : Nat} {xs : List PyData} : h.get? a = some o → o.cls = .type "list" → o.data = .seq vs n → RdqA h vs.toList xs → Rdq h (.ref a) (.list xs)
  | tuple {a : Addr} {o : Obj} {vs : Array Value} {n : Nat} {xs : List PyData} : h.get? a = some o → o.cls = .type "tuple" → o.data = .seq vs n → RdqA h vs.toList xs → Rdq h (.ref a) (.tuple xs)
  | emp {a : Addr} {o : Obj} {es : Array DictEntry} {n : Nat} : h.get? a = some o → o.cls = .type "dict" → o.data = .dict es n → es.toList = [] → (a == sysModules) = false → Rdq h (.ref a) (.dict [])
inductive RdqA (h : Heap) : List Value → List PyData → Prop
  | nil : RdqA h [] []
  | cons {v : Value} {vs : List Value} {d : PyData} {ds : List PyData} : Rdq h v d → RdqA h vs ds → RdqA h (v :: vs) (d :: ds)
end
mutual
theorem Rdq.reads {h : Heap} : ∀ {v : Value} {d : PyData}, Rdq h v d → ∃ as, Reads h v d as
  | _, _, .none => ⟨_, .none⟩
  | _, _, .bool b => ⟨_, .bool b⟩
  | _, _, .int i t => ⟨_, .int i t⟩
  | _, _, .str x t => ⟨_, .str x t⟩
  | _, _, .list h1 h2 h3 h4 => by
    obtain ⟨as, q⟩ := RdqA.reads h4
    exact ⟨_, .list h1 h2 h3 q⟩
  | _, _, .tuple h1 h2 h3 h4 => by
    obtain ⟨as, q⟩ := RdqA.reads h4
    exact ⟨_, .tuple h1 h2 h3 q⟩
  | _, _, .emp h1 h2 h3 h4 h5 => ⟨_, .dict (kvs := []) (as := []) (bs := []) h1 h2 h3 (by rw [h4]; exact .nil) (by rw [h4]; exact .nil)⟩
theorem RdqA.reads {h : Heap} : ∀ {v : List Value} {d : List PyData}, RdqA h v d → ∃ as, ReadsAll h v d as
  | _, _, .nil => ⟨_, .nil⟩
  | _, _, .cons a b => by
    obtain ⟨as, q⟩ := Rdq.reads a
    obtain ⟨bs, r⟩ := RdqA.reads b
    exact ⟨_, .cons q r⟩
end
section
variable {prog : Program} {w : World} {h₀ : Heap}
mutual
theorem Rdq.reprK : ∀ {v : Value} {d : PyData}, Rdq h₀ v d → d.showable = true → d.shown.length ≤ sizeLine → ∃ bs, ReadAtMost h₀ d.depth bs ∧ ReprK prog w bs h₀ d.depth v d.shown
  | _, _, .none, _, _ => ⟨[], (fun _ h => nomatch h), by simp only [PyData.shown]; exact .of_is ReprIs.none _ _ _⟩
  | _, _, .bool b, _, _ => ⟨[], (fun _ h => nomatch h), by simp only [PyData.shown]; exact .of_is (ReprIs.bool b) _ _ _⟩
  | _, _, .int i t, hs, _ => ⟨[], (fun _ h => nomatch h), by simp only [PyData.shown]; exact .of_is (ReprIs.int t (by simpa [PyData.showable] using hs)) _ _ _⟩
  | _, _, .str x t, _, hz => ⟨[], (fun _ h => nomatch h), by simp only [PyData.shown]; exact .of_is (ReprIs.str x t (by simpa only [PyData.shown] using hz)) _ _ _⟩
  | _, _, .list (a := a) (vs := vs) (xs := xs) h1 h2 h3 h4, hs, hz => by
    have hz' : (listText (PyData.shownAll xs)).length ≤ sizeLine := by simpa only [PyData.shown] using hz
    obtain ⟨bs, hb, hk⟩ := RdqA.reprK h4 (by simpa [PyData.showable] using hs) (fun t ht => Nat.le_trans (listText_mem_le ht) hz')
    obtain ⟨as, ra⟩ := RdqA.reads h4
    have r : Reads h₀ (.ref a) (.list xs) _ := .list h1 h2 h3 ra
    have hna : a ∉ bs := not_mem_of_deeper r (by simp only [PyData.depth]; omega) hb
    refine ⟨a :: bs, ReadAtMost.cons r (by simp only [PyData.depth]; omega) hb, ?_⟩
    simp only [PyData.depth, PyData.shown]
    obtain ⟨l⟩ := vs
    cases l with
    | nil =>
      have h4' : RdqA h₀ [] xs := h4
      cases h4'
      simp only [PyData.shownAll, listText_nil]
      exact ReprK.listEmpty h1 h2 h3
    | cons x l => exact ReprK.list h1 h2 h3 hna (by simpa using hk.length_eq) (fun i y e => hk.item i y (by simpa using e))
  | _, _, .tuple (a := a) (xs := xs) h1 h2 h3 h4, hs, hz => by
    have hz' : (tupleText (PyData.shownAll xs)).length ≤ sizeLine := by simpa only [PyData.shown] using hz
    obtain ⟨bs, hb, hk⟩ := RdqA.reprK h4 (by simpa [PyData.showable] using hs) (fun t ht => Nat.le_trans (tupleText_mem_le ht) hz')
    obtain ⟨as, ra⟩ := RdqA.reads h4
    have r : Reads h₀ (.ref a) (.tuple xs) _ := .tuple h1 h2 h3 ra
    have hna : a ∉ bs := not_mem_of_deeper r (by simp only [PyData.depth]; omega) hb
    refine ⟨a :: bs, ReadAtMost.cons r (by simp only [PyData.depth]; omega) hb, ?_⟩
    simp only [PyData.depth, PyData.shown]
    exact ReprK.tuple h1 h2 h3 hna hk
  | _, _, .emp (a := a) (es := es) h1 h2 h3 h4 h5, _, _ => by
    obtain ⟨as, r⟩ := Rdq.reads (.emp h1 h2 h3 h4 h5)
    refine ⟨a :: [], ReadAtMost.cons r (n := 0) (Nat.zero_le _) (fun _ h => nomatch h), ?_⟩
    simp only [PyData.depth, PyData.shown, PyData.shownKv_eq]
    exact ReprK.dict h1 h2 h3 h5 (fun h => nomatch h) (by rw [h4]; exact .nil)
theorem RdqA.reprK : ∀ {vs : List Value} {ds : List PyData}, RdqA h₀ vs ds → PyData.showableAll ds = true → (∀ t ∈ PyData.shownAll ds, t.length ≤ sizeLine) →
    ∃ bs, ReadAtMost h₀ (PyData.depthAll ds) bs ∧ ReprAllK prog w bs h₀ (PyData.depthAll ds) vs (PyData.shownAll ds)
  | _, _, .nil, _, _ => ⟨[], (fun _ h => nomatch h), by simp only [PyData.shownAll]; exact .nil⟩
  | _, _, .cons (d := d) (ds := ds) r rs, hs, hz => by
    have hs' : d.showable = true ∧ PyData.showableAll ds = true := by simpa [PyData.showableAll] using hs
    obtain ⟨b1, hb1, k1⟩ := Rdq.reprK r hs'.1 (hz _ (by simp only [PyData.shownAll]; exact List.mem_cons_self ..))
    obtain ⟨b2, hb2, k2⟩ := RdqA.reprK rs hs'.2 (fun t ht => hz t (by simp only [PyData.shownAll]; exact List.mem_cons_of_mem _ ht))
    refine ⟨b1 ++ b2, ?_, ?_⟩
    · intro b hm
      simp only [PyData.depthAll]
      rcases List.mem_append.mp hm with hm | hm
      · obtain ⟨d', as', r', hd'⟩ := hb1 b hm
        exact ⟨d', as', r', Nat.le_trans hd' (Nat.le_max_left _ _)⟩
      · obtain ⟨d', as', r', hd'⟩ := hb2 b hm
        exact ⟨d', as', r', Nat.le_trans hd' (Nat.le_max_right _ _)⟩
    · simp only [PyData.depthAll, PyData.shownAll]
      exact .cons ((k1.more fun b hb => List.mem_append_left _ hb).level_le (Nat.le_max_left _ _)) (k2.more_le (fun b hb => List.mem_append_right _ hb) (Nat.le_max_right _ _))
end
variable {a : Addr} {d : PyData}
theorem showsBy_of_rq (r : Rdq h₀ (.ref a) d) (hs : d.showable = true) (hsz : d.shown.length ≤ sizeLine) : ∃ T idr, ShowsBy prog w h₀ a d T idr := by
  have r0 := r
  cases r with
  | list h1 h2 h3 h4 =>
    rename_i o vs n xs
    have hz' : (listText (PyData.shownAll xs)).length ≤ sizeLine := by simpa only [PyData.shown] using hsz
    obtain ⟨bs, hb, hk⟩ := RdqA.reprK (prog := prog) (w := w) h4 (by simpa [PyData.showable] using hs) (fun t ht => Nat.le_trans (listText_mem_le ht) hz')
    obtain ⟨as, ra⟩ := RdqA.reads h4
    have hna : a ∉ bs := not_mem_of_deeper (.list h1 h2 h3 ra) (by simp only [PyData.depth]; omega) hb
    refine ⟨"list", "list.__repr__", F.slot_list_repr.toG, F.slot_list_str, F.slot_list_format, fun s hk0 => ⟨o, hk0 _ _ h1, h2⟩, fun A E s Q hg hu hk0 hQ => ?_⟩
    simp only [PyData.depth] at hu
    simp only [PyData.shown] at hQ
    obtain ⟨l⟩ := vs
    cases l with
    | nil =>
      have h4' : RdqA h₀ [] xs := h4
      cases h4'
      simp only [PyData.shownAll, listText_nil] at hQ
      exact call_list_repr_empty ⟨o, hk0 _ _ h1, h2⟩ (hk0 _ _ h1) h3 (hQ s.heap _ _ fun _ _ e => e)
    | cons x l =>
      exact call_list_reprK h1 h2 h3 hna (by simpa using hk.length_eq) (fun i y e => hk.item i y (by simpa using e)) hg (fun b _ => Clear.nil b) hu hk0 hQ hz'
  | tuple h1 h2 h3 h4 =>
    rename_i o vs n xs
    have hz' : (tupleText (PyData.shownAll xs)).length ≤ sizeLine := by simpa only [PyData.shown] using hsz
    obtain ⟨bs, hb, hk⟩ := RdqA.reprK (prog := prog) (w := w) h4 (by simpa [PyData.showable] using hs) (fun t ht => Nat.le_trans (tupleText_mem_le ht) hz')
    obtain ⟨as, ra⟩ := RdqA.reads h4
    have hna : a ∉ bs := not_mem_of_deeper (.tuple h1 h2 h3 ra) (by simp only [PyData.depth]; omega) hb
    refine ⟨"tuple", "tuple.__repr__", F.slot_tuple_repr, F.slot_tuple_str, F.slot_tuple_format, fun s hk0 => ⟨o, hk0 _ _ h1, h2⟩, fun A E s Q hg hu hk0 hQ => ?_⟩
    simp only [PyData.depth] at hu
    simp only [PyData.shown] at hQ
    exact call_tuple_reprK h1 h2 h3 hna hk hg (fun b _ => Clear.nil b) hu hk0 hQ hz'
  | emp h1 h2 h3 h4 h5 =>
    rename_i o es n
    obtain ⟨as, r⟩ := Rdq.reads r0
    refine ⟨"dict", "dict.__repr__", F.slot_dict_repr, F.slot_dict_str, F.slot_dict_format, fun s hk0 => ⟨o, hk0 _ _ h1, h2⟩, fun A E s Q hg hu hk0 hQ => ?_⟩
    have hz' : (dictText (PyData.shownKv [])).length ≤ sizeLine := by simpa only [PyData.shown] using hsz
    simp only [PyData.depth] at hu
    simp only [PyData.shown, PyData.shownKv_eq] at hQ
    exact call_dict_reprK (as := []) h1 h2 h3 h5 (fun h => nomatch h) (by rw [h4]; exact .nil) hg (fun b _ => Clear.nil b) hu hk0 hQ (by rw [← PyData.shownKv_eq]; exact hz')
theorem repr_of_rq {A : Around} {E : Value → Shared → Prop} {s : Shared} {Q : Value → Shared → Prop} (r : Rdq h₀ (.ref a) d) (hs : d.showable = true) (hg : A.guards = some []) (hu : A.units + (d.depth + 1) < cLine) (hk0 : ∀ b o, h₀.get? b = some o → s.heap.get? b = some o)
    (hQ : ∀ h' u tk, (∀ b o, s.heap.get? b = some o → h'.get? b = some o) → Q (.str d.shown u) { s with heap := h', toks := tk })
    (hsz : d.shown.length ≤ sizeLine) : wpAny (model prog w) A (call (.builtin "repr") [.ref a]) Q E s := by
  obtain ⟨T, idr, S⟩ := showsBy_of_rq (prog := prog) (w := w) r hs hsz
  exact call_repr_slot (by omega) (S.typeIs s hk0) S.slotRepr (S.call A.in1 E s _ hg (by show A.units + 1 + d.depth < cLine; omega) hk0 fun h' u tk hk => ⟨_, _, rfl, hQ h' u tk hk⟩)
end
section
variable {X : Cx} {pins : List (Addr × Obj)} {σ : St} {H : Hp} {s : Shared}
mutual
theorem Dq.rq (I : L2.Inv X pins σ H s) : ∀ (d : PyData) (v : V) (u : Value), Dq X.K H v d → RelV v u → Rdq s.heap u d
  | .none, _, _, h, r => by
    cases h
    cases r
    exact .none
  | .bool b, _, _, h, r => by
    cases h
    cases r
    exact .bool b
  | .int i, _, _, h, r => by
    cases h
    obtain ⟨t, rfl⟩ := r
    exact .int i t
  | .str x, _, _, h, r => by
    cases h
    obtain ⟨t, rfl⟩ := r
    exact .str x t
  | .list ds, _, _, h, r => by
    cases h with
    | lst hs ha =>
      cases r
      obtain ⟨its, rv, ⟨o, n, ho, hc, _, hd⟩, _⟩ := I.list hs
      exact .list ho hc hd (Dqs.rq I ds _ its ha rv)
  | .tuple ds, _, _, h, r => by
    cases h with
    | tup hs ha =>
      cases r
      obtain ⟨its, rv, ⟨o, ho, hc, n, hd⟩, _⟩ := I.tuple hs
      exact .tuple ho hc hd (Dqs.rq I ds _ its ha rv)
  | .dict _, _, _, h, r => by
    cases h with
    | emp e =>
      cases r
      obtain ⟨_, hs, vs, rk, o, es, ep, h1, h2, h3, h4, h5, _⟩ := dk_of I.hok e
      cases rk
      exact .emp h1 h2.1 h3 (by generalize es.toList = l at h5; cases h5; rfl) hs
theorem Dqs.rq (I : L2.Inv X pins σ H s) : ∀ (ds : List PyData) (vs : List V) (us : List Value), Dqs X.K H vs ds → Vals vs us → RdqA s.heap us ds
  | [], _, _, h, r => by
    cases h
    cases r
    exact .nil
  | d :: ds, _, _, h, r => by
    cases h with
    | cons h1 h2 =>
      cases r with
      | cons r1 r2 => exact .cons (Dq.rq I d _ _ h1 r1) (Dqs.rq I ds _ _ h2 r2)
end
end
section
variable {X : Cx} {Φ : Calls} {a b c : Expr} {es : List Expr} {pos : Pos} {ia ib ic : E} {ies : Es}
theorem cr_reprD (hg : X.A.guards = some []) (hu : X.A.units + 70 < cLine) : CallR X (.builtin "repr") (rK X.K .repr) := by
  intro pins s σ H vs us Q I r h
  obtain ⟨S, ds, x, dom, hv, hb, q⟩ := h
  match ds, hv, hb with
  | [d], hv, hb =>
    have hb : (if (pureR d && (toPy d).showable && decide ((toPy d).depth ≤ 64) && decide ((toPy d).shown.length ≤ sizeLine)) = true then some (R.fz (.str (toPy d).shown)) else none) = some x := by
      cases d <;> exact hb
    split at hb
    · rename_i hz
      cases hb
      obtain ⟨hz, z4⟩ := Bool.and_eq_true _ _ |>.mp hz
      obtain ⟨hz, z3⟩ := Bool.and_eq_true _ _ |>.mp hz
      obtain ⟨zp, z1⟩ := Bool.and_eq_true _ _ |>.mp hz
      have z3 := of_decide_eq_true z3
      have z4 := of_decide_eq_true z4
      obtain ⟨v, rfl, w⟩ := vds1 hv
      obtain ⟨u, rfl, ru⟩ := vals1 r
      have fin : ∀ (h' : Heap) (t : Tok) (tk : Nat), (∀ b o, s.heap.get? b = some o → h'.get? b = some o) → EP X pins σ Q (.str (toPy d).shown t) { s with heap := h', toks := tk } := fun h' t tk hk =>
        ⟨.str _, H, I.kept (t' := tk) hk, ⟨t, rfl⟩, q S _ H .refl (.str _)⟩
      cases d with
      | non =>
        have e := w.n
        subst e
        cases ru
        exact PySem.P.repr_of_none (fin s.heap _ _ fun _ _ h => h)
      | bl b =>
        have e := w.b
        subst e
        cases ru
        refine PySem.P.repr_of_bool ?_
        have q2 := fin s.heap s.toks (s.toks + 1) fun _ _ h => h
        cases b <;> exact q2
      | int i =>
        have e := w.i
        subst e
        obtain ⟨t, rfl⟩ := ru
        have hz : i.natAbs.log2 < 1920 := by simpa [toPy, PyData.showable] using z1
        exact PySem.P.repr_of_int hz (fin s.heap _ _ fun _ _ h => h)
      | str y =>
        have e := w.s
        subst e
        obtain ⟨t, rfl⟩ := ru
        exact PySem.P.repr_of_str (fin s.heap _ _ fun _ _ h => h) z4
      | tup xs =>
        obtain ⟨p, ws, ep, hp, rp⟩ := w.t
        have ra := Dq.rq I _ _ _ (w.dq zp) ru
        subst ep
        cases ru
        exact repr_of_rq ra z1 hg (by omega) (fun _ _ h => h) (fun h' t tk hk => fin h' t tk hk) z4
      | lst xs =>
        obtain ⟨p, ws, ep, hp, rp⟩ := w.l
        have ra := Dq.rq I _ _ _ (w.dq zp) ru
        subst ep
        cases ru
        exact repr_of_rq ra z1 hg (by omega) (fun _ _ h => h) (fun h' t tk hk => fin h' t tk hk) z4
      | obj _ _ => cases zp
      | emp =>
        obtain ⟨p, ep, hp⟩ := w.e
        have ra := Dq.rq I _ _ _ (w.dq zp) ru
        subst ep
        cases ru
        exact repr_of_rq ra z1 hg (by omega) (fun _ _ h => h) (fun h' t tk hk => fin h' t tk hk) z4
      | scr xs =>
        obtain ⟨p, ws, ep, hp, rp⟩ := w.c
        have ra := Dq.rq I _ _ _ (w.dq zp) ru
        subst ep
        cases ru
        exact repr_of_rq ra z1 hg (by omega) (fun _ _ h => h) (fun h' t tk hk => fin h' t tk hk) z4
    · cases hb
theorem Vds.length {K : PySem.W.Frag} {S : Addr → Prop} {H : Hp} : ∀ {vs : List V} {ds : List D}, Vds K S H vs ds → vs.length = ds.length
  | _, _, .nil => rfl
  | _, _, .cons _ r => congrArg (· + 1) (Vds.length r)
/-- tuple(range(..)) -/
theorem rgV_rps {K : PySem.W.Frag} {S : Addr → Prop} {H : Hp} (a b : Int) : Rps K S H (rgV a b) (rngL a b) := by
  unfold rgV rngL
  generalize (List.range (b - a).toNat) = l
  induction l with
  | nil => exact .nil
  | cons x r ih => exact .cons (.int _) ih
end
end DL
end
section
set_option autoImplicit false
/-! DLf: isinstance, the calls of defs. -/
namespace DL
open PySem L2
variable [LTabs]
def tyN : D → String
  | .non => "NoneType" | .bl _ => "bool" | .int _ => "int" | .str _ => "str" | .tup _ => "tuple" | .lst _ => "list" | .scr _ => "list" | .obj _ _ => "object" | .emp => "dict"
def noObj : D → Bool
  | .obj _ _ => false
  | _ => true
def Ty.nm : Ty → String
  | .int => "int" | .bool => "bool" | .tuple => "tuple" | .list => "list" | .str => "str"
theorem kit_tab : ∀ (a : String) (t : Ty), a ∈ ["NoneType", "bool", "int", "str", "tuple", "list", "dict"] → L2.kitB a t.nm = some (match t with | .int => a == "int" || a == "bool" | .bool => a == "bool" | .tuple => a == "tuple" | .list => a == "list" | .str => a == "str") := by
  intro a t ha
  simp only [List.mem_cons, List.not_mem_nil, or_false] at ha
  rcases ha with rfl | rfl | rfl | rfl | rfl | rfl | rfl <;> cases t <;> decide +kernel
theorem kit_d (d : D) (t : Ty) (n : noObj d = true) : L2.kitB (tyN d) t.nm = some (isD d t) := by
  rw [kit_tab (tyN d) t (by cases d <;> first | (simp [tyN]; done) | cases n)]
  cases d <;> first | (cases n; done) | (cases t <;> rfl)
theorem ty_d {K : PySem.W.Frag} {S : Addr → Prop} {H : Hp} {v : V} {d : D} (h : Vd K S H v d) (n : noObj d = true) : TyX K H v (.type (tyN d)) := by
  cases h with
  | ls e h r => subst e; exact .base (.lst h)
  | fz h =>
    cases h with
    | non => exact .base .non
    | bl b => exact .base (.bl b)
    | int b => exact .base (.int b)
    | str b => exact .base (.str b)
    | lst h r => exact .base (.lst h.2)
    | tup h r =>
      rcases h with ⟨_, h | ⟨o, h⟩⟩ | ⟨o, its, n, h1, h2, _⟩
      · exact .base (.tup h)
      · exact .fTuple h
      · exact .kTuple h1 h2
    | obj _ _ _ _ _ => cases n
    | emp s h => exact .base (.dK h)
    | scr h r =>
      rcases h with ⟨_, h | ⟨o, h⟩⟩ | ⟨o, its, n, h1, h2, _⟩
      · exact .base (.lst h)
      · exact .base (.frz h)
      · exact .kList h1 h2
section
variable {X : Cx} {Φ : Calls} {a b c : Expr} {es : List Expr} {pos : Pos} {ia ib ic : E} {ies : Es}
theorem de_isi (t : Ty) {p : Pos} (hg : Gl X "isinstance") (hm : X.mg "isinstance" = none) (hT : PE X b (tC (.ty t.nm))) (ha : PE X a (tD X.K (ev Φ ia)))
    (he : starEach [a, b] X.env = (false, eval a X.env) :: starEach [b] X.env := by rfl) (he2 : starEach [b] X.env = (false, eval b X.env) :: starEach [] X.env := by rfl) (hpl : (PySem.backTo pos (starEach [b] X.env)).any (·.1) = false := by rfl) :
    PE X (.Call (.Name "isinstance" p) [a, b] [] pos) (tD X.K (ev Φ (.bi (.isi t) (.cons ia .nil)))) :=
  peImp (pe_callB call_isi hg hm (by decide +kernel) (pa_cons ha (pa_cons hT pa_nil he2) he) (by decide) (by decide) he hpl) fun σ H Q q => by
    obtain ⟨S, ρ, r, ρ', rel, e, q⟩ := q
    obtain ⟨rs, ds, e1, e2, e3⟩ := bi_split e
    simp only [evrs] at e1
    obtain ⟨y, ρ1, e4, h1⟩ := bnd_eq e1
    obtain ⟨zs, ρ3, e5, h3⟩ := bnd_eq h1
    obtain ⟨q1, q2⟩ := ret_eq e5
    subst q1 q2
    obtain ⟨q1, q2⟩ := ret_eq h3
    subst q1 q2
    obtain ⟨d, v1, e6⟩ : ∃ d, view ρ' y = some d ∧ ds = [d] := by
      rw [List.mapM_cons, List.mapM_nil] at e2
      cases q : view ρ' y with
      | none => rw [q] at e2; cases e2
      | some d => rw [q] at e2; exact ⟨d, rfl, (Option.some.inj e2).symm⟩
    subst e6
    have hn : noObj d = true := by cases d <;> first | rfl | cases e3
    have e3 : some (R.fz (.bl (isD d t))) = some r := by cases d <;> first | exact e3 | cases hn
    cases e3
    exact ⟨S, ρ, y, ρ', rel, e4, fun S1 v H1 g1 rel1 r1 => ⟨v, _, _, _, _, rfl, .ty _, ty_d (r1.view rel1 v1) hn, kit_ty (kit_d d t hn), q S1 _ H1 g1 rel1 (.bl _)⟩⟩
theorem de_tupRg2 {p : Pos} (hc : X.calm = true) (hg : Gl X "tuple") (hm : X.mg "tuple" = none) (hg2 : Gl X "range") (hm2 : X.mg "range" = none) {p2 pos2 : Pos} (ha : PE X a (tD X.K (ev Φ ia))) (hb : PE X b (tD X.K (ev Φ ib)))
    (na1 : starEach [a, b] X.env = (false, eval a X.env) :: starEach [b] X.env := by rfl) (na2 : starEach [b] X.env = (false, eval b X.env) :: starEach [] X.env := by rfl) (hp : (PySem.backTo pos2 (starEach [b] X.env)).any (·.1) = false := by rfl)
    (na : starEach [.Call (.Name "range" p2) [a, b] [] pos2] X.env = (false, eval (.Call (.Name "range" p2) [a, b] [] pos2) X.env) :: starEach [] X.env := by rfl) :
    PE X (.Call (.Name "tuple" p) [.Call (.Name "range" p2) [a, b] [] pos2] [] pos) (tD X.K (ev Φ (.bi .tupRng2 (.cons ia (.cons ib .nil))))) :=
  peImp (pe_tupRg hc hg hm (prg_2 hg2 hm2 ha hb na1 na2 hp) na) fun σ H Q q => by
    obtain ⟨S, ρ, r, ρ', rel, e, q⟩ := q
    obtain ⟨rs, ds, e1, e2, e3⟩ := bi_split e
    simp only [evrs] at e1
    obtain ⟨y, ρ1, e4, h1⟩ := bnd_eq e1
    obtain ⟨ys, ρ2, e5, h2⟩ := bnd_eq h1
    obtain ⟨z, ρ3, e6, h3⟩ := bnd_eq e5
    obtain ⟨zs, ρ4, e7, h4⟩ := bnd_eq h3
    obtain ⟨q1, q2⟩ := ret_eq e7
    subst q1 q2
    obtain ⟨q1, q2⟩ := ret_eq h4
    subst q1 q2
    obtain ⟨q1, q2⟩ := ret_eq h2
    subst q1 q2
    obtain ⟨d, f, v1, v2, e8⟩ : ∃ d f, view ρ' y = some d ∧ view ρ' z = some f ∧ ds = [d, f] := by
      rw [List.mapM_cons, List.mapM_cons, List.mapM_nil] at e2
      cases q : view ρ' y with
      | none => rw [q] at e2; cases e2
      | some d =>
        rw [q] at e2
        cases q3 : view ρ' z with
        | none => rw [q3] at e2; cases e2
        | some f => rw [q3] at e2; exact ⟨d, f, rfl, rfl, (Option.some.inj e2).symm⟩
    subst e8
    cases d <;> (try (cases e3; done))
    cases f <;> (try (cases e3; done))
    rename_i i j
    have e3 : (if (small62 i && small62 j && decide ((j - i).toNat ≤ 16777216)) = true then some (R.fz (.tup (rngL i j))) else none) = some r := e3
    split at e3
    · rename_i hz
      cases e3
      obtain ⟨z1, z2⟩ := Bool.and_eq_true _ _ |>.mp hz
      obtain ⟨z0, z1⟩ := Bool.and_eq_true _ _ |>.mp z1
      obtain ⟨z3, z4⟩ : -(2 ^ 62) ≤ j ∧ j < 2 ^ 62 := by simpa [small62] using z1
      obtain ⟨z5, z6⟩ : -(2 ^ 62) ≤ i ∧ i < 2 ^ 62 := by simpa [small62] using z0
      have z2 := of_decide_eq_true z2
      exact seq2 rel e4 e6 fun S2 H2 v u at2 r1 r2 => ⟨i, j, (r1.view at2.rel v1).i, (r2.view at2.rel v2).i, ⟨z5, z6, z3, z4, z2⟩, fun p hp => At.fin q at2 _ _ _ (.tup hp) (Rp.mkTup hp (rgV_rps i j))⟩
    · cases e3
end
/-! ### the calls of defs -/
/-- a def's promise, where nothing is being shown -/
structure FnG (P : Program) (w : World) (K : PySem.W.Frag) (mg : Str → Option Value) (base : Heap) (CX : CXT) (k : Nat) (f : Addr) (fd : FuncData) (ps : List Str) (sp : Sp) : Prop where
  len : ∀ vs H Q E, sp vs H Q E → vs.length = ps.length
  run : ∀ (A : Around) (outer : List Env) (s : Shared) (H : Hp) (args : Args) (us : List Value) (vs : List V) (Q : VK) (E : XK), Room k A → Gok A →
    Env0 P w K mg base A outer s H → BindsTo s fd args (ps.zip us) → Vals vs us → sp vs H Q E → codeAny (model P w) A (.call (.ref f) args) (CR CX outer P w H s Q E) s
/-- what a call of the table's def f promises: Φ says it -/
def spD (K : PySem.W.Frag) (Φ : Calls) (f : Nat) : Sp := fun vs H Q _ => ∃ S as r as', Rel K S as (vs.map some) H ∧ Φ f as = some (r, as') ∧ (∀ (i : Nat) (k : Lk) (xs : List D), as[i]? = some (Sl.ls k xs) → k = Lk.bor) ∧
  ∀ S' v H', Go S as (vs.map some) H S' as' (vs.map some) H' → Rel K S' as' (vs.map some) H' → Rn K S' H H' v r → Q v H'
theorem pick_cons {α : Type} {j : Nat} {p : List Nat} {l : List α} {zs : List α} (h : pick (j :: p) l = some zs) : ∃ z r, l[j]? = some z ∧ pick p l = some r ∧ zs = z :: r := by
  unfold pick at h
  rw [List.mapM_cons] at h
  cases e : l[j]? with
  | none => rw [e] at h; cases h
  | some z =>
    rw [e] at h
    cases e2 : pick p l with
    | none =>
      have e3 : List.mapM (fun j => l[j]?) p = none := e2
      rw [e3] at h; cases h
    | some r =>
      have e3 : List.mapM (fun j => l[j]?) p = some r := e2
      rw [e3] at h
      exact ⟨z, r, rfl, rfl, (Option.some.inj h).symm⟩
theorem pick_vals {vs : List V} {us : List Value} (r : Vals vs us) : ∀ {p : List Nat} {zs : List V}, pick p vs = some zs → ∃ ws, pick p us = some ws ∧ Vals zs ws
  | [], zs, h => by cases h; exact ⟨[], rfl, .nil⟩
  | j :: p, zs, h => by
    obtain ⟨z, rr, e1, e2, rfl⟩ := pick_cons h
    obtain ⟨u, eu, ru⟩ := r.get e1
    obtain ⟨ws, ew, rw'⟩ := pick_vals r e2
    refine ⟨u :: ws, ?_, .cons ru rw'⟩
    unfold pick
    rw [List.mapM_cons, eu]
    have e3 : List.mapM (fun j => us[j]?) p = some ws := ew
    show (Option.bind (some u) fun a => (List.mapM (fun j => us[j]?) p).bind fun b => some (a :: b)) = _
    rw [e3] <;> rfl
/-- how a call of n positional arguments and keywords ks binds: perm puts them in the parameters' order -/
def BindP (K : PySem.W.Frag) (fd : FuncData) (ps : List Str) (n : Nat) (ks : List Str) (perm : List Nat) : Prop :=
  ∀ (s : Shared) (us ws zs : List Value), K.In s.heap → us.length = n → ws.length = ks.length → pick perm (us ++ ws) = some zs → BindsTo s fd ⟨us, ks.zip ws⟩ (ps.zip zs)
section
variable {X : Cx} {CX : CXT} {k : Nat} {f : Addr} {fd : FuncData} {ps ks : List Str} {sp : Sp} {x : Str} {p pos : Pos} {e : Expr} {es : List Expr} {kws : List Keyword} {t tk : TA} {perm : List Nat} {n : Nat}
theorem run_fnG {pins : List (Addr × Obj)} {σ : St} {H : Hp} {s : Shared} {Q : VK} {us ws : List Value} {vs ys zs : List V} (F : FnG X.prog X.w X.K X.mg X.base CX k f fd ps sp) (hr : Room k X.A) (hgd : Gok X.A) (hb : BindP X.K fd ps n ks perm) (hx : Passes CX X E0)
    (I : L2.Inv X pins σ H s) (r : Vals vs us) (rz : Vals ys ws) (h1 : us.length = n) (h2 : ws.length = ks.length) (hp : pick perm (vs ++ ys) = some zs) (h : sp zs H Q E0) : wpAny (model X.prog X.w) X.A (call (.ref f) us (ks.zip ws)) (EP X pins σ Q) X.xe s := by
  obtain ⟨qs, eq, rq⟩ := pick_vals (r.append rz) hp
  refine wpAny_call (codeAny_mono (F.run X.A X.stack s H ⟨us, ks.zip ws⟩ qs zs Q E0 hr hgd I.env0 (hb s us ws qs I.kIn h1 h2 eq) rq h) fun r s' hq => ?_)
  cases r with
  | error e => exact hx pins σ H s e s' I hq
  | ok fl => cases fl with
    | ret u => exact I.after hq
    | next => exact False.elim hq
    | brk => exact False.elim hq
    | cont => exact False.elim hq
def tCallP (sp : Sp) (perm : List Nat) (n m : Nat) (t tk : TA) : TE := fun σ H Q => t σ H fun vs H1 => tk σ H1 fun ys H2 => vs.length = n ∧ ys.length = m ∧ ∃ zs, pick perm (vs ++ ys) = some zs ∧ sp zs H2 Q E0
theorem pe_callG (F : FnG X.prog X.w X.K X.mg X.base CX k f fd ps sp) (hr : Room k X.A) (hgd : Gok X.A) (hg : Gl X x) (hm : X.mg x = some (.ref f)) (hk : PySem.W.keepIn X.K (.ref f) = true) (hb : BindP X.K fd ps n [] perm) (hx : Passes CX X E0)
    (ha : PA X (e :: es) t) (hdb : (x == ("__debug__" : Str)) = false := by decide) (he : starEach (e :: es) X.env = (false, eval e X.env) :: starEach es X.env := by rfl) (hpl : (PySem.backTo pos (starEach es X.env)).any (·.1) = false := by rfl) :
    PE X (.Call (.Name x p) (e :: es) [] pos) (tCallP sp perm n 0 t tNil) := by
  refine ⟨fun pins s σ H Q I h => ?_⟩
  refine wpAny_Call_Name_kw (ld_glob I hg hm ?_ hdb)
  refine PySem.W.callWith_K (h₀ := X.base) I.ok.mod.kin hk (thn (ha.run pos pins s σ H _ I h) fun us s1 ⟨vs, H1, I1, r, l1, _, zs, hp, q⟩ => ⟨I1.kIn, ?_⟩) he hpl
  exact run_fnG (us := us) (ks := []) (ws := []) (ys := []) F hr hgd hb hx I1 r .nil (by rw [← r.length]; exact l1) rfl hp q
theorem pe_callG0 (F : FnG X.prog X.w X.K X.mg X.base CX k f fd ps sp) (hr : Room k X.A) (hgd : Gok X.A) (hg : Gl X x) (hm : X.mg x = some (.ref f)) (hk : PySem.W.keepIn X.K (.ref f) = true) (hb : BindP X.K fd ps 0 [] perm) (hx : Passes CX X E0)
    (hdb : (x == ("__debug__" : Str)) = false := by decide) : PE X (.Call (.Name x p) [] [] pos) (tCallP sp perm 0 0 tNil tNil) := by
  refine ⟨fun pins s σ H Q I h => ?_⟩
  obtain ⟨_, _, zs, hp, q⟩ := h
  refine wpAny_Call_Name_kw (ld_glob I hg hm ?_ hdb)
  exact PySem.W.callWith_K0 I.kIn hk (run_fnG (us := []) (vs := []) (ks := []) (ws := []) (ys := []) F hr hgd hb hx I .nil .nil rfl rfl hp q)
theorem pe_callGk0 (F : FnG X.prog X.w X.K X.mg X.base CX k f fd ps sp) (hr : Room k X.A) (hgd : Gok X.A) (hg : Gl X x) (hm : X.mg x = some (.ref f)) (hk : PySem.W.keepIn X.K (.ref f) = true) (hb : BindP X.K fd ps 0 ks perm) (hx : Passes CX X E0)
    (hkw : PK X kws tk) (hall : (backToKw pos (keywordEach kws X.env)).all (·.1.isSome) = true := by rfl) (hks : (backToKw pos (keywordEach kws X.env)).filterMap (·.1) = ks := by rfl)
    (hdb : (x == ("__debug__" : Str)) = false := by decide) (hpl : ((PySem.backTo pos (starEach [] X.env)).any (·.1) || (backToKw pos (keywordEach kws X.env)).any (·.1.isNone)) = false := by rfl) :
    PE X (.Call (.Name x p) [] kws pos) (tCallP sp perm 0 ks.length tNil tk) := by
  refine ⟨fun pins s σ H Q I h => ?_⟩
  refine wpAny_Call_Name_kw (ld_glob I hg hm ?_ hdb)
  refine PySem.W.callWith_KW0 (h₀ := X.base) I.ok.mod.kin hk hall ?_ hpl
  refine thn (hkw.run pos pins s σ H _ I h) fun ws s2 ⟨ys, H2, I2, rz, l1, l2, zs, hp, q2⟩ => ⟨I2.kIn, ?_⟩
  rw [hks]
  exact run_fnG (us := []) (vs := []) F hr hgd hb hx I2 .nil rz rfl (by rw [← rz.length]; exact l2) hp q2
end
end DL
end
section
set_option autoImplicit false
/-! DLg: arguments, and what a call does to the slots. -/
namespace DL
open PySem L2
variable [LTabs]
/-- an evaluated argument -/
def Ra (K : PySem.W.Frag) (S : Addr → Prop) (H₀ : Hp) (ρ : Ev) (σ : St) (H : Hp) (v : V) : A → Prop
  | .val d => Rp K S H v d
  | .rf i => σ[i]? = some (some v)
  | .fr xs => ∃ a vs, v = .ref a ∧ H₀ a = none ∧ H a = some (.lst vs) ∧ ¬ S a ∧ ¬ Own ρ σ a ∧ Rps K S H vs xs
inductive Ras (K : PySem.W.Frag) (S : Addr → Prop) (H₀ : Hp) (ρ : Ev) (σ : St) (H : Hp) : List V → List A → Prop
  | nil : Ras K S H₀ ρ σ H [] []
  | cons {v : V} {vs : List V} {r : A} {rs : List A} : Ra K S H₀ ρ σ H v r → Ras K S H₀ ρ σ H vs rs → Ras K S H₀ ρ σ H (v :: vs) (r :: rs)
abbrev tAs (K : PySem.W.Frag) (m : M (List A)) : TA := tG K (Ras K) m
section
variable {K : PySem.W.Frag} {S S' S1 : Addr → Prop} {ρ ρ' ρ1 ρ2 : Ev} {σ : St} {H H' H1 H₀ : Hp}
theorem Ra.go {v : V} {r : A} (rel : Rel K S ρ σ H) (g : Go S ρ σ H S' ρ' σ H') (h : Ra K S H₀ ρ σ H v r) : Ra K S' H₀ ρ' σ H' v r := by
  cases r with
  | val d => exact Rp.mono (g.ke rel) h
  | fr xs => exact (Rv.go (r := .fr xs) rel g h)
  | rf i => exact h
theorem Ra.base {v : V} {r : A} (st : ∀ a, H₀ a = none → H1 a = none) (h : Ra K S H₀ ρ σ H v r) : Ra K S H1 ρ σ H v r := by
  cases r with
  | val d => exact h
  | fr xs => exact (Rv.base (r := .fr xs) st h)
  | rf i => exact h
theorem Ras.base (st : ∀ a, H₀ a = none → H1 a = none) : ∀ {vs : List V} {rs : List A}, Ras K S H₀ ρ σ H vs rs → Ras K S H1 ρ σ H vs rs
  | _, _, .nil => .nil
  | _, _, .cons h r => .cons (h.base st) (r.base st)
theorem Ras.get : ∀ {vs : List V} {rs : List A} {i : Nat} {r : A}, Ras K S H₀ ρ σ H vs rs → rs[i]? = some r → ∃ v, vs[i]? = some v ∧ Ra K S H₀ ρ σ H v r
  | _, _, i, d, .nil, e => by simp at e
  | _, _, 0, d, .cons h _, e => by simp at e; subst e; exact ⟨_, rfl, h⟩
  | _, _, i + 1, d, .cons _ r, e => by
    obtain ⟨v, h1, h2⟩ := Ras.get (i := i) (r := d) r (by simpa using e)
    exact ⟨v, by simpa using h1, h2⟩
theorem Ras.pick {vs : List V} {rs : List A} (h : Ras K S H₀ ρ σ H vs rs) : ∀ {p : List Nat} {qs : List A}, pick p rs = some qs → ∃ zs, DL.pick p vs = some zs ∧ Ras K S H₀ ρ σ H zs qs
  | [], qs, e => by cases e; exact ⟨[], rfl, .nil⟩
  | j :: p, qs, e => by
    obtain ⟨q, r, e1, e2, rfl⟩ := pick_cons e
    obtain ⟨v, e3, h3⟩ := h.get e1
    obtain ⟨zs, e4, h4⟩ := h.pick e2
    refine ⟨v :: zs, ?_, .cons h3 h4⟩
    unfold DL.pick
    rw [List.mapM_cons, e3]
    have e5 : List.mapM (fun j => vs[j]?) p = some zs := e4
    show (Option.bind (some v) fun a => (List.mapM (fun j => vs[j]?) p).bind fun b => some (a :: b)) = _
    rw [e5] <;> rfl
theorem Ras.length : ∀ {vs : List V} {rs : List A}, Ras K S H₀ ρ σ H vs rs → vs.length = rs.length
  | _, _, .nil => rfl
  | _, _, .cons _ r => congrArg (· + 1) r.length
/-- the slots that the arguments make -/
theorem slots_at : ∀ {as : List A} {ss : List Sl} {i : Nat} {a : A}, slotsOf ρ as = some ss → as[i]? = some a → ∃ s, ss[i]? = some s ∧ slotOf ρ a = some s
  | [], _, i, _, _, e => by simp at e
  | x :: r, ss, i, a, h, e => by
    unfold slotsOf at h
    cases e1 : slotOf ρ x with
    | none => rw [e1] at h; cases h
    | some s =>
      rw [e1] at h
      cases e2 : slotsOf ρ r with
      | none => rw [e2] at h; cases h
      | some r' =>
        rw [e2] at h
        cases h
        cases i with
        | zero => simp at e; subst e; exact ⟨s, rfl, e1⟩
        | succ i => simp at e; simpa using slots_at (i := i) e2 e
theorem slots_len : ∀ {as : List A} {ss : List Sl}, slotsOf ρ as = some ss → ss.length = as.length
  | [], _, h => by cases h; rfl
  | x :: r, ss, h => by
    unfold slotsOf at h
    cases e1 : slotOf ρ x with
    | none => rw [e1] at h; cases h
    | some s =>
      rw [e1] at h
      cases e2 : slotsOf ρ r with
      | none => rw [e2] at h; cases h
      | some r' => rw [e2] at h; cases h; exact congrArg (· + 1) (slots_len e2)
theorem slotOf_rf {i : Nat} {s : Sl} (h : slotOf ρ (.rf i) = some s) : ∃ k xs, ρ[i]? = some (.ls k xs) ∧ s = .ls .bor xs ∧ k ≠ .lck ∧ k ≠ .dic := by
  have h : (match ρ[i]? with | some (.ls .own xs) => some (Sl.ls .bor xs) | some (.ls .bor xs) => some (.ls .bor xs) | _ => none) = some s := h
  split at h
  · rename_i xs e; cases h; exact ⟨_, xs, e, rfl, by simp⟩
  · rename_i xs e; cases h; exact ⟨_, xs, e, rfl, by simp⟩
  · cases h
theorem refs_mem : ∀ {as : List A} {i : Nat}, i ∈ refs as ↔ ∃ j : Nat, as[j]? = some (A.rf i)
  | [], i => by simp [refs]
  | .rf j :: r, i => by
    have ih := refs_mem (as := r) (i := i)
    constructor
    · intro h
      rcases List.mem_cons.mp h with rfl | h
      · exact ⟨0, rfl⟩
      · obtain ⟨j, e⟩ := ih.mp h; exact ⟨j + 1, by simpa using e⟩
    · rintro ⟨j, e⟩
      cases j with
      | zero => cases e; exact List.mem_cons_self
      | succ j => exact List.mem_cons_of_mem _ (ih.mpr ⟨j, by simpa using e⟩)
  | .val d :: r, i => by
    have ih := refs_mem (as := r) (i := i)
    constructor
    · intro h; obtain ⟨j, e⟩ := ih.mp h; exact ⟨j + 1, by simpa using e⟩
    · rintro ⟨j, e⟩
      cases j with
      | zero => cases e
      | succ j => exact ih.mpr ⟨j, by simpa using e⟩
  | .fr d :: r, i => by
    have ih := refs_mem (as := r) (i := i)
    constructor
    · intro h; obtain ⟨j, e⟩ := ih.mp h; exact ⟨j + 1, by simpa using e⟩
    · rintro ⟨j, e⟩
      cases j with
      | zero => cases e
      | succ j => exact ih.mpr ⟨j, by simpa using e⟩
theorem refs_inj : ∀ {as : List A} {i j l : Nat}, (refs as).Nodup → as[j]? = some (A.rf i) → as[l]? = some (A.rf i) → j = l
  | [], i, j, l, _, e, _ => by simp at e
  | x :: r, i, 0, 0, _, _, _ => rfl
  | x :: r, i, 0, l + 1, n, e1, e2 => by
    simp at e1; subst e1
    exact absurd (refs_mem.mpr ⟨l, by simpa using e2⟩) (List.nodup_cons.mp n).1
  | x :: r, i, j + 1, 0, n, e1, e2 => by
    simp at e2; subst e2
    exact absurd (refs_mem.mpr ⟨j, by simpa using e1⟩) (List.nodup_cons.mp n).1
  | x :: r, i, j + 1, l + 1, n, e1, e2 => by
    have n' : (refs r).Nodup := by
      cases x with
      | val d => exact n
      | fr d => exact n
      | rf k => exact (List.nodup_cons.mp n).2
    exact congrArg (· + 1) (refs_inj (as := r) (i := i) n' (by simpa using e1) (by simpa using e2))
theorem frs_pos : ∀ {as : List A} {j : Nat} {xs : List D}, as[j]? = some (A.fr xs) → 1 ≤ frs as
  | [], j, _, e => by simp at e
  | x :: r, 0, xs, e => by simp at e; subst e; exact Nat.le_add_left _ _
  | x :: r, j + 1, xs, e => by
    have := frs_pos (as := r) (j := j) (by simpa using e)
    cases x with
    | fr _ => exact Nat.le_add_left _ _
    | val _ => exact this
    | rf _ => exact this
theorem frs_inj : ∀ {as : List A} {j l : Nat} {xs ys : List D}, frs as ≤ 1 → as[j]? = some (A.fr xs) → as[l]? = some (A.fr ys) → j = l
  | [], j, l, _, _, _, e, _ => by simp at e
  | x :: r, 0, 0, _, _, _, _, _ => rfl
  | x :: r, 0, l + 1, xs, ys, n, e1, e2 => by
    simp at e1; subst e1
    have := frs_pos (as := r) (j := l) (by simpa using e2)
    have n : frs r + 1 ≤ 1 := n
    omega
  | x :: r, j + 1, 0, xs, ys, n, e1, e2 => by
    simp at e2; subst e2
    have := frs_pos (as := r) (j := j) (by simpa using e1)
    have n : frs r + 1 ≤ 1 := n
    omega
  | x :: r, j + 1, l + 1, xs, ys, n, e1, e2 => by
    have n' : frs r ≤ 1 := by
      cases x with
      | val d => exact n
      | fr d => exact Nat.le_trans (Nat.le_succ _) n
      | rf k => exact n
    exact congrArg (· + 1) (frs_inj (as := r) (xs := xs) (ys := ys) n' (by simpa using e1) (by simpa using e2))
theorem back_len : ∀ {as : List A} {ss : List Sl} {ρ : Ev}, (putBack as ss ρ).length = ρ.length
  | [], ss, ρ => by unfold putBack; rfl
  | a :: r, [], ρ => by
    cases a <;> (unfold putBack; rfl)
  | .val d :: r, s :: ss, ρ => by
    show (putBack r ss ρ).length = _
    exact back_len
  | .fr d :: r, s :: ss, ρ => by
    show (putBack r ss ρ).length = _
    exact back_len
  | .rf i :: r, .un :: ss, ρ => by
    show (putBack r ss ρ).length = _
    exact back_len
  | .rf i :: r, .fz d :: ss, ρ => by
    show (putBack r ss ρ).length = _
    exact back_len
  | .rf i :: r, .ls k xs :: ss, ρ => by
    show (putBack r ss (match ρ[i]? with | some (.ls k _) => ρ.set i (.ls k xs) | _ => ρ)).length = _
    rw [back_len]
    split
    · rw [List.length_set]
    · rfl
theorem back_out : ∀ {as : List A} {ss : List Sl} {ρ : Ev} {i : Nat}, i ∉ refs as → (putBack as ss ρ)[i]? = ρ[i]?
  | [], ss, ρ, i, _ => by unfold putBack; rfl
  | a :: r, [], ρ, i, _ => by
    cases a <;> (unfold putBack; rfl)
  | .val d :: r, s :: ss, ρ, i, h => by
    show (putBack r ss ρ)[i]? = _
    exact back_out h
  | .fr d :: r, s :: ss, ρ, i, h => by
    show (putBack r ss ρ)[i]? = _
    exact back_out h
  | .rf j :: r, .un :: ss, ρ, i, h => by
    show (putBack r ss ρ)[i]? = _
    exact back_out fun z => h (List.mem_cons_of_mem _ z)
  | .rf j :: r, .fz d :: ss, ρ, i, h => by
    show (putBack r ss ρ)[i]? = _
    exact back_out fun z => h (List.mem_cons_of_mem _ z)
  | .rf j :: r, .ls k xs :: ss, ρ, i, h => by
    show (putBack r ss (match ρ[j]? with | some (.ls k _) => ρ.set j (.ls k xs) | _ => ρ))[i]? = _
    rw [back_out fun z => h (List.mem_cons_of_mem _ z)]
    have hji : j ≠ i := fun z => h (by rw [← z]; exact List.mem_cons_self)
    split
    · rw [List.getElem?_set_ne hji]
    · rfl
theorem back_in : ∀ {as : List A} {ss : List Sl} {ρ : Ev} {i j : Nat} {k l : Lk} {xs ys : List D}, (refs as).Nodup → as[j]? = some (A.rf i) → ss[j]? = some (.ls l ys) → ρ[i]? = some (.ls k xs) → (putBack as ss ρ)[i]? = some (.ls k ys)
  | [], _, _, _, j, _, _, _, _, _, e, _, _ => by simp at e
  | a :: r, [], _, _, j, _, _, _, _, _, _, e, _ => by simp at e
  | .val d :: r, s :: ss, ρ, i, j, k, l, xs, ys, n, e1, e2, e3 => by
    show (putBack r ss ρ)[i]? = _
    cases j with
    | zero => cases e1
    | succ j => exact back_in n (by simpa using e1) (by simpa using e2) e3
  | .fr d :: r, s :: ss, ρ, i, j, k, l, xs, ys, n, e1, e2, e3 => by
    show (putBack r ss ρ)[i]? = _
    cases j with
    | zero => cases e1
    | succ j => exact back_in n (by simpa using e1) (by simpa using e2) e3
  | .rf i' :: r, .un :: ss, ρ, i, j, k, l, xs, ys, n, e1, e2, e3 => by
    show (putBack r ss ρ)[i]? = _
    cases j with
    | zero => cases e2
    | succ j => exact back_in (List.nodup_cons.mp n).2 (by simpa using e1) (by simpa using e2) e3
  | .rf i' :: r, .fz d :: ss, ρ, i, j, k, l, xs, ys, n, e1, e2, e3 => by
    show (putBack r ss ρ)[i]? = _
    cases j with
    | zero => cases e2
    | succ j => exact back_in (List.nodup_cons.mp n).2 (by simpa using e1) (by simpa using e2) e3
  | .rf i' :: r, .ls k' zs :: ss, ρ, i, j, k, l, xs, ys, n, e1, e2, e3 => by
    show (putBack r ss (match ρ[i']? with | some (.ls k _) => ρ.set i' (.ls k zs) | _ => ρ))[i]? = _
    obtain ⟨n1, n2⟩ := List.nodup_cons.mp n
    cases j with
    | zero =>
      cases e1
      cases e2
      rw [back_out n1, e3]
      exact List.getElem?_set_self (List.getElem?_eq_some_iff.mp e3).1
    | succ j =>
      have e1' : r[j]? = some (.rf i) := by simpa using e1
      refine back_in n2 e1' (by simpa using e2) (xs := xs) ?_
      have : i' ≠ i := fun z => n1 (z ▸ refs_mem.mpr ⟨j, e1'⟩)
      split
      · rw [List.getElem?_set_ne this]; exact e3
      · exact e3
end
section
variable {K : PySem.W.Frag} {Φ : Calls} {S S1 : Addr → Prop} {ρ ρ1 ρ2 : Ev} {σ : St} {H H1 : Hp}
/-- THE CALL: from the arguments' values the promise's premise; and back -/
theorem At.call {Q : VK} {f : Nat} {perm : List Nat} {as : List A} {vs : List V} {r : R} (at1 : At K S ρ σ H S1 ρ1 H1) (ra : Ras K S1 H ρ1 σ H1 vs as) (e : callM Φ f perm as ρ1 = .ok r ρ2)
    (hQ : ∀ S' v H', Go S ρ σ H S' ρ2 σ H' → Rel K S' ρ2 σ H' → Rv K S' H ρ2 σ H' v r → Q v H') : ∃ zs, pick perm vs = some zs ∧ spD K Φ f zs H1 Q E0 := by
  unfold callM at e
  cases ep : pick perm as with
  | none => simp only [ep] at e; cases e
  | some bs =>
    simp only [ep] at e
    split at e
    · rename_i hz
      obtain ⟨hn, hf⟩ := hz
      cases es : slotsOf ρ1 bs with
      | none => simp only [es] at e; cases e
      | some ss =>
        simp only [es] at e
        cases eΦ : Φ f ss with
        | none => simp only [eΦ] at e; cases e
        | some rr =>
          obtain ⟨r0, ss'⟩ := rr
          simp only [eΦ] at e
          cases e
          obtain ⟨zs, ez, rz⟩ := ra.pick ep
          refine ⟨zs, ez, S1, ss, r, ss', ?_, eΦ, ?_, ?_⟩
          · -- the arguments stand
            have atZ : ∀ (i : Nat) (s : Sl), ss[i]? = some s → ∃ a v, bs[i]? = some a ∧ zs[i]? = some v ∧ slotOf ρ1 a = some s ∧ Ra K S1 H ρ1 σ H1 v a := fun i s e => by
              have hi : i < bs.length := by rw [← slots_len es]; exact (List.getElem?_eq_some_iff.mp e).1
              obtain ⟨s', e1, e2⟩ := slots_at es (List.getElem?_eq_getElem hi)
              rw [e] at e1; cases e1
              obtain ⟨v, e3, h3⟩ := rz.get (List.getElem?_eq_getElem hi)
              exact ⟨_, v, List.getElem?_eq_getElem hi, e3, e2, h3⟩
            refine ⟨by rw [List.length_map, rz.length, slots_len es], fun i s ov e1 e2 => ?_, fun i j k l xs ys a e1 e2 e3 e4 => ?_, at1.rel.dom, at1.rel.tb⟩
            · obtain ⟨b, v, eb, ev, hs, hv⟩ := atZ i s e1
              rw [List.getElem?_map, ev] at e2
              cases e2
              cases b with
              | val d => cases hs; exact ⟨v, rfl, hv⟩
              | fr xs =>
                cases hs
                obtain ⟨p, ws, ep, h0, h1, h2, h3, h4⟩ := hv
                subst ep
                exact .mkL (by decide) rfl h1 h2 h4
              | rf l =>
                obtain ⟨k, xs, el, rfl, nl⟩ := slotOf_rf hs
                obtain ⟨p, ws, ep, h1, h2, h4⟩ := at1.rel.atL el nl.2
                have hv : σ[l]? = some (some v) := hv
                rw [hv] at ep
                cases ep
                exact .mkL (by decide) rfl h1 h2 h4
            · obtain ⟨b, v, eb, ev, hs, hv⟩ := atZ i _ e1
              obtain ⟨b2, v2, eb2, ev2, hs2, hv2⟩ := atZ j _ e2
              rw [List.getElem?_map, ev] at e3
              rw [List.getElem?_map, ev2] at e4
              cases e3
              cases e4
              cases b with
              | val d => cases hs
              | fr xs' =>
                obtain ⟨p, ws, ep, h0, h1, h2, h3, h4⟩ := hv
                cases ep
                cases b2 with
                | val d => cases hs2
                | fr ys' => exact frs_inj hf eb eb2
                | rf l' =>
                  obtain ⟨k', xs'', el, _, _⟩ := slotOf_rf hs2
                  exact absurd ⟨l', k', xs'', el, hv2⟩ h3
              | rf l =>
                obtain ⟨k', xs'', el, _, _⟩ := slotOf_rf hs
                cases b2 with
                | val d => cases hs2
                | fr ys' =>
                  obtain ⟨p, ws, ep, h0, h1, h2, h3, h4⟩ := hv2
                  cases ep
                  exact absurd ⟨l, k', xs'', el, hv⟩ h3
                | rf l' =>
                  obtain ⟨k3, xs3, el3, _, _⟩ := slotOf_rf hs2
                  have := at1.rel.inj l l' _ _ _ _ _ el el3 hv hv2
                  subst this
                  exact refs_inj hn eb eb2
          · intro i k xs e1
            have hi : i < bs.length := by rw [← slots_len es]; exact (List.getElem?_eq_some_iff.mp e1).1
            obtain ⟨s', e2, e3⟩ := slots_at es (List.getElem?_eq_getElem hi)
            rw [e1] at e2; cases e2
            cases q : bs[i] with
            | val d => rw [q] at e3; cases e3
            | fr d => rw [q] at e3; cases e3; rfl
            | rf l =>
              rw [q] at e3
              obtain ⟨_, _, _, z, _⟩ := slotOf_rf e3
              cases z
              rfl
          · intro S' v H' g rel' rn
            -- facts of the callee's slots
            have hcal : ∀ a, Own ss (zs.map some) a → (∃ i k xs, i ∈ refs bs ∧ ρ1[i]? = some (.ls k xs) ∧ σ[i]? = some (some (V.ref a)) ∧ k ≠ .lck) ∨ (H a = none ∧ ¬ Own ρ1 σ a) := fun a ⟨j, k, xs, e1, e2⟩ => by
              have hi : j < bs.length := by rw [← slots_len es]; exact (List.getElem?_eq_some_iff.mp e1).1
              obtain ⟨s', e3, e4⟩ := slots_at es (List.getElem?_eq_getElem hi)
              rw [e1] at e3; cases e3
              obtain ⟨v', e5, h5⟩ := rz.get (List.getElem?_eq_getElem hi)
              rw [List.getElem?_map, e5] at e2
              cases e2
              cases q : bs[j] with
              | val d => rw [q] at e4; cases e4
              | fr d =>
                rw [q] at h5
                obtain ⟨p, ws, ep, h0, h1, h2, h3, h4⟩ := h5
                cases ep
                exact .inr ⟨h0, h3⟩
              | rf l =>
                rw [q] at h5 e4
                obtain ⟨k', xs', el, _, nl⟩ := slotOf_rf e4
                exact .inl ⟨l, k', xs', refs_mem.mpr ⟨j, by rw [← q]; exact List.getElem?_eq_getElem hi⟩, el, h5, nl.1⟩
            have hbor : ∀ (j : Nat) (k : Lk) (xs : List D), ss[j]? = some (.ls k xs) → ∃ ys, ss'[j]? = some (.ls .bor ys) := fun j k xs e1 => by
              have hk : k = .bor := by
                have hi : j < bs.length := by rw [← slots_len es]; exact (List.getElem?_eq_some_iff.mp e1).1
                obtain ⟨s', e2, e3⟩ := slots_at es (List.getElem?_eq_getElem hi)
                rw [e1] at e2; cases e2
                cases q : bs[j] with
                | val d => rw [q] at e3; cases e3
                | fr d => rw [q] at e3; cases e3; rfl
                | rf l =>
                  rw [q] at e3
                  obtain ⟨_, _, _, z, _⟩ := slotOf_rf e3
                  cases z
                  rfl
              subst hk
              obtain ⟨ys, e2, _, _⟩ := g.fix j .bor xs e1 (by simp)
              exact ⟨ys, e2⟩
            have nS' : ∀ a, Own ss (zs.map some) a → ¬ S' a := fun a ⟨j, k, xs, e1, e2⟩ => by
              obtain ⟨ys, e3⟩ := hbor j k xs e1
              exact rel'.own_ns ⟨j, .bor, ys, e3, e2⟩
            have nC : ∀ a, H1 a ≠ none → S' a → S1 a := fun a n h => by
              rcases g.new a h with q | q | q
              · exact q
              · exact absurd q n
              · exact absurd h (nS' a q)
            have relC : Rel K S1 ss (zs.map some) H1 → True := fun _ => trivial
            have noC : ∀ a, S1 a → ¬ Own ss (zs.map some) a := fun a h q => by
              rcases hcal a q with ⟨i, k, xs, _, e1, e2, _⟩ | ⟨h0, h1⟩
              · exact at1.rel.own_ns ⟨i, k, xs, e1, e2⟩ h
              · exact nS' a q (g.sub a h)
            have ke : Ke S1 H1 S' H' := ⟨g.sub, fun a o h e1 nt => g.keep a o e1 (noC a h) nt⟩
            -- the caller's slots
            have inv : ∀ (i : Nat) (k : Lk) (xs : List D), (putBack bs ss' ρ1)[i]? = some (.ls k xs) → ∃ ys, ρ1[i]? = some (.ls k ys) := fun i k xs e1 => by
              by_cases hi : i ∈ refs bs
              · obtain ⟨j, ej⟩ := refs_mem.mp hi
                obtain ⟨s, e2, e3⟩ := slots_at es ej
                obtain ⟨k', zs', e4, rfl, _⟩ := slotOf_rf e3
                obtain ⟨ys, e5⟩ := hbor j _ _ e2
                rw [back_in hn ej e5 e4] at e1
                cases e1
                exact ⟨zs', e4⟩
              · rw [back_out hi] at e1
                exact ⟨xs, e1⟩
            have fwd : ∀ (i : Nat) (k : Lk) (xs : List D), ρ1[i]? = some (.ls k xs) → ∃ ys, (putBack bs ss' ρ1)[i]? = some (.ls k ys) ∧ (k = .lck → ys = xs) := fun i k xs e1 => by
              by_cases hi : i ∈ refs bs
              · obtain ⟨j, ej⟩ := refs_mem.mp hi
                obtain ⟨s, e2, e3⟩ := slots_at es ej
                obtain ⟨k', zs', e4, rfl, nl⟩ := slotOf_rf e3
                obtain ⟨ys, e5⟩ := hbor j _ _ e2
                rw [e1] at e4
                cases e4
                exact ⟨ys, back_in hn ej e5 e1, fun z => absurd z nl.1⟩
              · exact ⟨xs, by rw [back_out hi]; exact e1, fun _ => rfl⟩
            have own : ∀ a, Own (putBack bs ss' ρ1) σ a → Own ρ1 σ a := fun a ⟨i, k, xs, e1, e2⟩ => let ⟨ys, e3⟩ := inv i k xs e1; ⟨i, k, ys, e3, e2⟩
            have go2 : Go S ρ σ H S' (putBack bs ss' ρ1) σ H' := ⟨fun a h => g.sub a (at1.go.sub a h), fun a h => ?_, fun a h => at1.go.own a (own a h), fun a o e1 n nt => ?_, fun a h => at1.go.stay a (g.stay a h), fun i k xs e1 n => ?_⟩
            · refine hQ S' v H' go2 ⟨by rw [back_len]; exact at1.rel.len, fun i s ov e1 e2 => ?_, fun i j k l xs ys a e1 e2 e3 e4 => ?_, rel'.dom, rel'.tb⟩ ?_
              · by_cases hi : i ∈ refs bs
                · obtain ⟨j, ej⟩ := refs_mem.mp hi
                  obtain ⟨s2, e3, e4⟩ := slots_at es ej
                  obtain ⟨k', zs', e5, rfl, nl4⟩ := slotOf_rf e4
                  obtain ⟨ys, e6⟩ := hbor j _ _ e3
                  rw [back_in hn ej e6 e5] at e1
                  cases e1
                  obtain ⟨v', e7, h7⟩ := rz.get ej
                  have h7 : σ[i]? = some (some v') := h7
                  rw [h7] at e2
                  cases e2
                  obtain ⟨p, ws, ep, h1, h2, h4⟩ := rel'.atL e6
                  rw [List.getElem?_map, e7] at ep
                  cases ep
                  exact .mkL nl4.2 rfl h1 h2 h4
                · rw [back_out hi] at e1
                  have w := at1.rel.ok i s ov e1 e2
                  cases s with
                  | un => trivial
                  | fz d => obtain ⟨z, ez, hz⟩ := w; exact ⟨z, ez, hz.mono ke⟩
                  | ls k xs =>
                    obtain ⟨p, ep, h2, h1⟩ := w
                    subst ep
                    have no : ¬ Own ss (zs.map some) p := fun q => by
                      rcases hcal p q with ⟨i', k', xs', hm, q1, q2, _⟩ | ⟨_, q2⟩
                      · have := at1.rel.inj i i' k k' xs xs' p e1 q1 e2 q2
                        exact hi (this ▸ hm)
                      · exact q2 ⟨i, k, xs, e1, e2⟩
                    exact ⟨p, rfl, fun z => h2 (nC p (hold_some h1) z), hold_mono h1 (fun o h nt => g.keep p o h no nt) ke⟩
              · obtain ⟨ys1, q1⟩ := inv i k xs e1
                obtain ⟨ys2, q2⟩ := inv j l ys e2
                exact at1.rel.inj i j k l _ _ a q1 q2 e3 e4
              · cases r with
                | fz d => exact rn
                | rf _ => exact rn.elim
                | fr xs =>
                  obtain ⟨p, ws, ep, h0, h1, h2, h3⟩ := rn
                  refine ⟨p, ws, ep, at1.go.stay p h0, h1, h2, fun q => ?_, h3⟩
                  obtain ⟨us, eu⟩ := at1.rel.own_lst (own p q)
                  rw [eu] at h0
                  cases h0
            · rcases g.new a h with q | q | q
              · exact at1.go.new a q
              · exact .inr (.inl (at1.go.stay a q))
              · exact absurd h (nS' a q)
            · have n1 : ¬ Own ρ1 σ a := fun q => (at1.go.own a q).elim (fun z => by rw [z] at e1; cases e1) n
              refine g.keep a o (at1.go.keep a o e1 n nt) (nt := nt) fun q => ?_
              rcases hcal a q with ⟨i, k, xs, _, q1, q2, _⟩ | ⟨q1, _⟩
              · exact n1 ⟨i, k, xs, q1, q2⟩
              · rw [q1] at e1; cases e1
            · obtain ⟨ys, q1, q2, q3⟩ := at1.go.fix i k xs e1 n
              obtain ⟨zs', q4, q5⟩ := fwd i k ys q1
              exact ⟨zs', q4, q2, fun z => (q5 z).trans (q3 z)⟩
    · cases e
end
end DL
end
section
set_option autoImplicit false
/-! DLh: calls as expressions; append, extend. -/
namespace DL
open PySem L2
variable [LTabs]
section
variable {X : Cx} {Φ : Calls} {a b c : Expr} {es : List Expr} {pos : Pos} {ia ib ic : E} {ies iks : As} {kws : List Keyword}
theorem pkImp {t t' : TA} (h : PK X kws t) (i : ∀ σ H Q, t' σ H Q → t σ H Q) : PK X kws t' := ⟨fun p pins s σ H Q I q => h.run p pins s σ H Q I (i _ _ _ q)⟩
theorem args_nil_read {σ : St} {H : Hp} {Q : List V → Hp → Prop} (q : tAs X.K (evas Φ .nil) σ H Q) : Q [] H := by
  obtain ⟨S, ρ, r, ρ', rel, e, q⟩ := q
  simp only [evas] at e
  obtain ⟨q1, q2⟩ := ret_eq e
  subst q1 q2
  exact q S [] H .refl rel .nil
/-- two parts of an argument list -/
theorem Ras.step {K : PySem.W.Frag} {S S' : Addr → Prop} {H₀ H H' : Hp} {ρ ρ' : Ev} {σ : St} (rel : Rel K S ρ σ H) (g : Go S ρ σ H S' ρ' σ H') : ∀ {vs : List V} {rs : List A}, Ras K S H₀ ρ σ H vs rs → Ras K S' H₀ ρ' σ H' vs rs
  | _, _, .nil => .nil
  | _, _, .cons h r => .cons (h.go rel g) (r.step rel g)
theorem Ras.append {K : PySem.W.Frag} {S : Addr → Prop} {H₀ H : Hp} {ρ : Ev} {σ : St} : ∀ {vs us : List V} {rs ts : List A}, Ras K S H₀ ρ σ H vs rs → Ras K S H₀ ρ σ H us ts → Ras K S H₀ ρ σ H (vs ++ us) (rs ++ ts)
  | _, _, _, _, .nil, s => s
  | _, _, _, _, .cons h r, s => .cons h (r.append s)
theorem val_read {te : TE} {tr : TA} {σ : St} {H : Hp} {Q : List V → Hp → Prop} (q : tAs X.K (evas Φ (.val ia ies)) σ H Q) (h1 : te = tD X.K (ev Φ ia)) (h2 : tr = tAs X.K (evas Φ ies)) : tCons te tr σ H Q := by
  subst h1 h2
  obtain ⟨S, ρ, r, ρ', rel, e, q⟩ := q
  simp only [evas] at e
  obtain ⟨x, ρ1, e1, h1⟩ := bnd_eq e
  obtain ⟨d, ρ2, e2, h2⟩ := bnd_eq h1
  obtain ⟨ds, ρ3, e3, h3⟩ := bnd_eq h2
  obtain ⟨q1, q2⟩ := ret_eq h3
  subst q1 q2
  refine ⟨S, ρ, x, ρ1, rel, e1, fun S1 v H1 g1 rel1 r1 => ?_⟩
  obtain ⟨S2, at2, rp, _⟩ := At.share ⟨g1, rel1⟩ r1 e2
  exact ⟨S2, ρ2, ds, _, at2.rel, e3, fun S3 vs H3 g3 rel3 r3 => q S3 _ H3 (at2.go.trans g3) rel3 (.cons (show Ra X.K S3 H _ σ H3 v (.val d) from rp.mono (g3.ke at2.rel)) (r3.base at2.go.stay))⟩
theorem ref_read {te : TE} {tr : TA} {σ : St} {H : Hp} {Q : List V → Hp → Prop} (q : tAs X.K (evas Φ (.ref ia ies)) σ H Q) (h1 : te = tD X.K (ev Φ ia)) (h2 : tr = tAs X.K (evas Φ ies)) : tCons te tr σ H Q := by
  subst h1 h2
  obtain ⟨S, ρ, r, ρ', rel, e, q⟩ := q
  simp only [evas] at e
  obtain ⟨x, ρ1, e1, h1⟩ := bnd_eq e
  obtain ⟨d, e2, h2⟩ := ofO_split h1
  obtain ⟨ds, ρ3, e3, h3⟩ := bnd_eq h2
  obtain ⟨q1, q2⟩ := ret_eq h3
  subst q1 q2
  refine ⟨S, ρ, x, ρ1, rel, e1, fun S1 v H1 g1 rel1 r1 => ?_⟩
  have w : Ra X.K S1 H ρ1 σ H1 v d := by
    cases x with
    | fz _ => cases e2
    | fr _ => cases e2; exact r1
    | rf _ => cases e2; exact r1
  exact ⟨S1, ρ1, ds, _, rel1, e3, fun S3 vs H3 g3 rel3 r3 => q S3 _ H3 (g1.trans g3) rel3 (.cons (w.go rel1 g3) (r3.base g1.stay))⟩
theorem daa_nil : PA X [] (tAs X.K (evas Φ .nil)) := paImp pa_nil fun σ H Q q => args_nil_read q
theorem daa_val (ha : PE X a (tD X.K (ev Φ ia))) (hr : PA X es (tAs X.K (evas Φ ies))) (hs : starEach (a :: es) X.env = (false, eval a X.env) :: starEach es X.env := by rfl) : PA X (a :: es) (tAs X.K (evas Φ (.val ia ies))) :=
  paImp (pa_cons ha hr hs) fun σ H Q q => val_read q rfl rfl
theorem daa_ref (ha : PE X a (tD X.K (ev Φ ia))) (hr : PA X es (tAs X.K (evas Φ ies))) (hs : starEach (a :: es) X.env = (false, eval a X.env) :: starEach es X.env := by rfl) : PA X (a :: es) (tAs X.K (evas Φ (.ref ia ies))) :=
  paImp (pa_cons ha hr hs) fun σ H Q q => ref_read q rfl rfl
theorem dk_nil : PK X [] (tAs X.K (evas Φ .nil)) := pkImp pk_nil fun σ H Q q => args_nil_read q
theorem dk_val {nm : Option Str} {kpos : Pos} (ha : PE X a (tD X.K (ev Φ ia))) (hr : PK X kws (tAs X.K (evas Φ iks))) : PK X (⟨nm, a, kpos⟩ :: kws) (tAs X.K (evas Φ (.val ia iks))) :=
  pkImp (pk_cons ha hr) fun σ H Q q => val_read q rfl rfl
theorem evas_len : ∀ {as : As} {ρ ρ' : Ev} {rs : List A}, evas Φ as ρ = .ok rs ρ' → rs.length = as.len
  | .nil, ρ, ρ', rs, e => by simp only [evas] at e; obtain ⟨q1, _⟩ := ret_eq e; subst q1; rfl
  | .val ia r, ρ, ρ', rs, e => by
    simp only [evas] at e
    obtain ⟨x, ρ1, e1, h1⟩ := bnd_eq e
    obtain ⟨d, ρ2, e2, h2⟩ := bnd_eq h1
    obtain ⟨ds, ρ3, e3, h3⟩ := bnd_eq h2
    obtain ⟨q1, _⟩ := ret_eq h3
    subst q1
    exact congrArg (· + 1) (evas_len e3)
  | .ref ia r, ρ, ρ', rs, e => by
    simp only [evas] at e
    obtain ⟨x, ρ1, e1, h1⟩ := bnd_eq e
    obtain ⟨d, e2, h2⟩ := ofO_split h1
    obtain ⟨ds, ρ3, e3, h3⟩ := bnd_eq h2
    obtain ⟨q1, _⟩ := ret_eq h3
    subst q1
    exact congrArg (· + 1) (evas_len e3)
theorem call_read {f : Nat} {perm : List Nat} {n m : Nat} {σ : St} {H : Hp} {Q : VK} (hn : ies.len = n) (hm : iks.len = m) (q : tD X.K (ev Φ (.call f perm ies iks)) σ H Q) : tCallP (spD X.K Φ f) perm n m (tAs X.K (evas Φ ies)) (tAs X.K (evas Φ iks)) σ H Q := by
  obtain ⟨S, ρ, r, ρ', rel, e, q⟩ := q
  simp only [ev] at e
  obtain ⟨as, ρ1, e1, h1⟩ := bnd_eq e
  obtain ⟨ks, ρ2, e2, h2⟩ := bnd_eq h1
  refine ⟨S, ρ, as, ρ1, rel, e1, fun S1 vs H1 g1 rel1 r1 => ⟨S1, ρ1, ks, ρ2, rel1, e2, fun S2 ys H2 g2 rel2 r2 => ⟨by rw [r1.length, evas_len e1]; exact hn, by rw [r2.length, evas_len e2]; exact hm, ?_⟩⟩⟩
  exact At.call ⟨g1.trans g2, rel2⟩ ((r1.step rel1 g2).append (r2.base g1.stay)) h2 q
variable {CX : CXT} {k : Nat} {f : Addr} {fi : Nat} {fd : FuncData} {ps ks : List Str} {x : Str} {p : Pos} {e : Expr} {perm : List Nat} {n : Nat}
theorem de_call (F : FnG X.prog X.w X.K X.mg X.base CX k f fd ps (spD X.K Φ fi)) (hr : Room k X.A) (hgd : Gok X.A) (hm : X.mg x = some (.ref f)) (hk : PySem.W.keepIn X.K (.ref f) = true) (hb : BindP X.K fd ps n [] perm) (hx : Passes CX X E0) (hg : Gl X x) (ha : PA X (e :: es) (tAs X.K (evas Φ ies))) (hn : ies.len = n := by rfl)
    (hdb : (x == ("__debug__" : Str)) = false := by decide) (he : starEach (e :: es) X.env = (false, eval e X.env) :: starEach es X.env := by rfl) (hpl : (PySem.backTo pos (starEach es X.env)).any (·.1) = false := by rfl) :
    PE X (.Call (.Name x p) (e :: es) [] pos) (tD X.K (ev Φ (.call fi perm ies .nil))) :=
  peImp (pe_callG F hr hgd hg hm hk hb hx ha hdb he hpl) fun σ H Q q => by
    obtain ⟨S, ρ, r, ρ', rel, e, q⟩ := call_read (n := n) (m := 0) hn rfl q
    exact ⟨S, ρ, r, ρ', rel, e, fun S' vs H' g rel' r' => args_nil_read (q S' vs H' g rel' r')⟩
theorem de_call0 (F : FnG X.prog X.w X.K X.mg X.base CX k f fd ps (spD X.K Φ fi)) (hr : Room k X.A) (hgd : Gok X.A) (hm : X.mg x = some (.ref f)) (hk : PySem.W.keepIn X.K (.ref f) = true) (hb : BindP X.K fd ps 0 [] perm) (hx : Passes CX X E0) (hg : Gl X x)
    (hdb : (x == ("__debug__" : Str)) = false := by decide) : PE X (.Call (.Name x p) [] [] pos) (tD X.K (ev Φ (.call fi perm .nil .nil))) :=
  peImp (pe_callG0 F hr hgd hg hm hk hb hx hdb) fun σ H Q q => args_nil_read (args_nil_read (call_read (n := 0) (m := 0) rfl rfl q))
theorem de_callk0 (F : FnG X.prog X.w X.K X.mg X.base CX k f fd ps (spD X.K Φ fi)) (hr : Room k X.A) (hgd : Gok X.A) (hm : X.mg x = some (.ref f)) (hk : PySem.W.keepIn X.K (.ref f) = true) (hb : BindP X.K fd ps 0 ks perm) (hx : Passes CX X E0) (hg : Gl X x) (hkw : PK X kws (tAs X.K (evas Φ iks)))
    (hl : iks.len = ks.length := by rfl) (hall : (backToKw pos (keywordEach kws X.env)).all (·.1.isSome) = true := by rfl) (hks : (backToKw pos (keywordEach kws X.env)).filterMap (·.1) = ks := by rfl)
    (hdb : (x == ("__debug__" : Str)) = false := by decide) (hpl : ((PySem.backTo pos (starEach [] X.env)).any (·.1) || (backToKw pos (keywordEach kws X.env)).any (·.1.isNone)) = false := by rfl) :
    PE X (.Call (.Name x p) [] kws pos) (tD X.K (ev Φ (.call fi perm .nil iks))) :=
  peImp (pe_callGk0 F hr hgd hg hm hk hb hx hkw hall hks hdb hpl) fun σ H Q q => args_nil_read (call_read (n := 0) rfl hl q)
end
/-! ### a list is changed in place -/
section
variable {K : PySem.W.Frag} {S S1 : Addr → Prop} {ρ ρ1 ρ2 : Ev} {σ : St} {H H1 : Hp}
theorem putL_eq {i : Nat} {xs : List D} {u : Unit} (h : putL i xs ρ = .ok u ρ1) : ∃ k ys, ρ[i]? = some (.ls k ys) ∧ (k ≠ .lck ∧ k ≠ .dic) ∧ ρ1 = ρ.set i (.ls k xs) := by
  unfold putL at h
  split at h
  · rename_i ys e; cases h; exact ⟨_, ys, e, by simp, rfl⟩
  · rename_i ys e; cases h; exact ⟨_, ys, e, by simp, rfl⟩
  · cases h
theorem getL_eq {i : Nat} {xs : List D} (h : getL i ρ = .ok xs ρ1) : ρ1 = ρ ∧ ∃ k, k ≠ .dic ∧ ρ[i]? = some (.ls k xs) := by
  unfold getL at h
  split at h
  · cases h
  · rename_i k ys nk e; cases h; exact ⟨rfl, k, by simpa using nk, e⟩
  · cases h
/-- the list of slot i gets the items xs; its object vs -/
theorem At.put {i : Nat} {k : Lk} {ys xs : List D} {a : Addr} {vs : List V} (at1 : At K S ρ σ H S1 ρ1 H1) (e : ρ1[i]? = some (.ls k ys)) (nk : k ≠ .lck ∧ k ≠ .dic) (ea : σ[i]? = some (some (V.ref a))) (hv : Rps K S1 H1 vs xs) :
    At K S ρ σ H S1 (ρ1.set i (.ls k xs)) (upd H1 a (.lst vs)) := by
  have hi : i < ρ1.length := (List.getElem?_eq_some_iff.mp e).1
  obtain ⟨b, us, eb, h1, h2, h4⟩ := at1.rel.atL e nk.2
  rw [ea] at eb; cases eb
  have na : ∀ b, S1 b → b ≠ a := fun b h z => h2 (z ▸ h)
  have ke : Ke S1 H1 S1 (upd H1 a (.lst vs)) := ⟨fun _ h => h, fun b o h e _ => by rw [upd_ne (na b h)]; exact e⟩
  have inv : ∀ (j : Nat) (l : Lk) (zs : List D), (ρ1.set i (.ls k xs))[j]? = some (.ls l zs) → ∃ zs', ρ1[j]? = some (.ls l zs') := fun j l zs e1 => by
    by_cases hj : i = j
    · subst hj
      rw [List.getElem?_set_self hi] at e1
      cases e1
      exact ⟨ys, e⟩
    · rw [List.getElem?_set_ne hj] at e1
      exact ⟨zs, e1⟩
  have own : ∀ b, Own (ρ1.set i (.ls k xs)) σ b → Own ρ1 σ b := fun b ⟨j, l, zs, e1, e2⟩ => let ⟨zs', e3⟩ := inv j l zs e1; ⟨j, l, zs', e3, e2⟩
  have oa : Own ρ1 σ a := ⟨i, k, ys, e, ea⟩
  refine ⟨⟨at1.go.sub, at1.go.new, fun b h => at1.go.own b (own b h), fun b o h n nt => ?_, fun b h => ?_, fun j l zs e1 n => ?_⟩, ⟨by rw [List.length_set]; exact at1.rel.len, fun j s ov e1 e2 => ?_, fun j j' l l' zs zs' b e1 e2 e3 e4 => ?_, fun b h => ?_, at1.rel.tb.set h1⟩⟩
  · have hb : b ≠ a := fun z => by
      subst z
      exact (at1.go.own b oa).elim (fun z => by rw [z] at h; cases h) n
    rw [upd_ne hb]
    exact at1.go.keep b o h n nt
  · by_cases hb : b = a
    · rw [hb, upd_same] at h; cases h
    · rw [upd_ne hb] at h; exact at1.go.stay b h
  · obtain ⟨ws, q1, q2, q3⟩ := at1.go.fix j l zs e1 n
    by_cases hj : i = j
    · subst hj
      rw [e] at q1
      cases q1
      exact ⟨xs, by rw [List.getElem?_set_self hi], q2, fun z => absurd z nk.1⟩
    · exact ⟨ws, by rw [List.getElem?_set_ne hj]; exact q1, q2, q3⟩
  · by_cases hj : i = j
    · subst hj
      rw [List.getElem?_set_self hi] at e1
      cases e1
      rw [ea] at e2
      cases e2
      exact .mkL nk.2 rfl upd_same h2 (hv.mono ke)
    · rw [List.getElem?_set_ne hj] at e1
      have w := at1.rel.ok j s ov e1 e2
      cases s with
      | un => trivial
      | fz d => obtain ⟨z, ez, hz⟩ := w; exact ⟨z, ez, hz.mono ke⟩
      | ls l zs =>
        obtain ⟨b, eb, q2, q1⟩ := w
        subst eb
        have hb : b ≠ a := fun z => hj (at1.rel.inj i j k l ys zs a e e1 ea (z ▸ e2))
        exact ⟨b, rfl, q2, hold_mono q1 (fun o h _ => by rw [upd_ne hb]; exact h) ke⟩
  · obtain ⟨z1, q1⟩ := inv j l zs e1
    obtain ⟨z2, q2⟩ := inv j' l' zs' e2
    exact at1.rel.inj j j' l l' _ _ b q1 q2 e3 e4
  · by_cases hb : b = a
    · rw [hb, upd_same]; simp
    · rw [upd_ne hb]; exact at1.rel.dom b h
end
section
variable {X : Cx} {Φ : Calls} {a b : Expr} {ia ib : E} {apos cpos : Pos}
theorem Rel.ls {K : PySem.W.Frag} {S : Addr → Prop} {ρ : Ev} {σ : St} {H : Hp} {i : Nat} {xs : List D} {ρ1 : Ev} (rel : Rel K S ρ σ H) (e : getL i ρ = .ok xs ρ1) : ρ1 = ρ ∧ ∃ p ws k, σ[i]? = some (some (V.ref p)) ∧ H p = some (.lst ws) ∧ ¬ S p ∧ Rps K S H ws xs ∧ ρ[i]? = some (.ls k xs) := by
  obtain ⟨q, k, nk, e1⟩ := getL_eq e
  obtain ⟨p, ws, e2, h1, h2, h3⟩ := rel.atL e1 nk
  exact ⟨q, p, ws, k, e2, h1, h2, h3, e1⟩
theorem de_app {i : Nat} (ha : PE X a (tVar i)) (hb : PE X b (tD X.K (ev Φ ib)))
    (hbase : attributeBase a "append" X.env (eval a X.env) = eval a X.env := by rfl)
    (h1 : ((((PySem.backTo cpos (starEach [b] X.env)).all fun x => !x.1) && (backToKw cpos (keywordEach [] X.env)).all fun x => x.1.isSome) && decide (([b].length + ([] : List Keyword).length + if ([] : List Keyword).isEmpty = true then 0 else 1) < 30)) = true := by rfl)
    (h2 : (apos.endLine == cpos.line) = true := by rfl) (h3 : starEach [b] X.env = (false, eval b X.env) :: starEach [] X.env := by rfl) (h4 : ((PySem.backTo cpos (starEach [] X.env)).any fun x => x.1) = false := by rfl) :
    PE X (.Call (.Attribute a "append" apos) [b] [] cpos) (tD X.K (ev Φ (.app i ib))) :=
  peImp (pe_bm PySem.F.plainAttrs_list PySem.F.slot_list_append PySem.F.type_list_append mt_append ha (pa_cons hb pa_nil h3) hbase h1 h2 h3 h4) fun σ H Q q => by
    obtain ⟨S, ρ, r, ρ', rel, e, q⟩ := q
    simp only [ev] at e
    obtain ⟨x0, ρ1, e1, k1⟩ := bnd_eq e
    obtain ⟨q0, p, ws, k0, e0, g0, _, _, _⟩ := rel.ls e1
    subst q0
    obtain ⟨y, ρ2, e2, k2⟩ := bnd_eq k1
    obtain ⟨d, ρ3, e3, k3⟩ := bnd_eq k2
    obtain ⟨xs, ρ4, e4, k4⟩ := bnd_eq k3
    obtain ⟨q4, kk, nkk, e4'⟩ := getL_eq e4
    subst q4
    split at k4
    · rename_i hz
      obtain ⟨u, ρ5, e5, k5⟩ := bnd_eq k4
      obtain ⟨l, ys, e6, nk, q5⟩ := putL_eq e5
      subst q5
      obtain ⟨q1, q2⟩ := ret_eq k5
      subst q1 q2
      rw [e4'] at e6
      cases e6
      refine ⟨_, e0, .inl ⟨rfl, ws, .inl (.inl g0)⟩, S, ρ1, y, ρ2, rel, e2, fun S2 u2 H2 g2 rel2 r2 => ?_⟩
      obtain ⟨S3, at3, rp, ke⟩ := At.share ⟨g2, rel2⟩ r2 e3
      obtain ⟨p3, ws3, ep3, h3', _, rr3⟩ := at3.rel.atL e4' nkk
      rw [e0] at ep3
      cases ep3
      have fin := at3.put e4' nk e0 (rr3.append (.cons rp .nil))
      exact ⟨p, ws3, u2, rfl, rfl, h3', by rw [rr3.length]; exact hz, q S3 _ _ fin.go fin.rel .non⟩
    · cases k4
end
end DL
end
section
set_option autoImplicit false
/-! DLi: targets. -/
namespace DL
open PySem L2
variable [LTabs]
section
variable {K : PySem.W.Frag} {S S1 : Addr → Prop} {ρ ρ1 ρ2 : Ev} {σ : St} {H H1 : Hp}
/-- a slot that may be written -/
def Wr (ρ : Ev) (i : Nat) : Prop := ∃ s, ρ[i]? = some s ∧ ∀ k xs, s = .ls k xs → k = .own
theorem setD_eq {i : Nat} {d : D} {u : Unit} (h : setD i d ρ = .ok u ρ1) : Wr ρ i ∧ ρ1 = ρ.set i (.fz d) := by
  unfold setD at h
  split at h
  · rename_i e; cases h; exact ⟨⟨_, e, fun k xs z => (nomatch z)⟩, rfl⟩
  · rename_i e; cases h; exact ⟨⟨_, e, fun k xs z => (nomatch z)⟩, rfl⟩
  · rename_i e; cases h; exact ⟨⟨_, e, fun k xs z => by cases z; rfl⟩, rfl⟩
  · cases h
theorem setL_eq {i : Nat} {d : List D} {u : Unit} (h : setL i d ρ = .ok u ρ1) : Wr ρ i ∧ ρ1 = ρ.set i (.ls .own d) := by
  unfold setL at h
  split at h
  · rename_i e; cases h; exact ⟨⟨_, e, fun k xs z => (nomatch z)⟩, rfl⟩
  · rename_i e; cases h; exact ⟨⟨_, e, fun k xs z => (nomatch z)⟩, rfl⟩
  · rename_i e; cases h; exact ⟨⟨_, e, fun k xs z => by cases z; rfl⟩, rfl⟩
  · cases h
/-- the state, the slots turning too -/
structure Ac (K : PySem.W.Frag) (S : Addr → Prop) (ρ : Ev) (σ : St) (H : Hp) (S1 : Addr → Prop) (ρ1 : Ev) (σ1 : St) (H1 : Hp) : Prop where
  go : Go S ρ σ H S1 ρ1 σ1 H1
  rel : Rel K S1 ρ1 σ1 H1
theorem Ac.start (r : Rel K S ρ σ H) : Ac K S ρ σ H S ρ σ H := ⟨.refl, r⟩
theorem At.ac (a : At K S ρ σ H S1 ρ1 H1) : Ac K S ρ σ H S1 ρ1 σ H1 := ⟨a.go, a.rel⟩
variable {σ1 σ2 : St} {S2 : Addr → Prop} {H2 : Hp}
theorem Ac.trans (a : Ac K S ρ σ H S1 ρ1 σ1 H1) (b : Ac K S1 ρ1 σ1 H1 S2 ρ2 σ2 H2) : Ac K S ρ σ H S2 ρ2 σ2 H2 := ⟨a.go.trans b.go, b.rel⟩
/-- a name gets frozen data -/
theorem Ac.setD {i : Nat} {d : D} {v : V} (at1 : Ac K S ρ σ H S1 ρ1 σ1 H1) (w : Wr ρ1 i) (r : Rp K S1 H1 v d) : Ac K S ρ σ H S1 (ρ1.set i (.fz d)) (σ1.set i (some v)) H1 := by
  obtain ⟨s, es, hs⟩ := w
  have hi : i < ρ1.length := (List.getElem?_eq_some_iff.mp es).1
  have hj : i < σ1.length := by rw [← at1.rel.len]; exact hi
  have inv : ∀ (j : Nat) (k : Lk) (xs : List D) (a : Addr), (ρ1.set i (.fz d))[j]? = some (.ls k xs) → (σ1.set i (some v))[j]? = some (some (V.ref a)) → i ≠ j ∧ ρ1[j]? = some (.ls k xs) ∧ σ1[j]? = some (some (V.ref a)) := fun j k xs a e1 e2 => by
    by_cases h : i = j
    · subst h
      rw [List.getElem?_set_self hi] at e1
      cases e1
    · rw [List.getElem?_set_ne h] at e1 e2
      exact ⟨h, e1, e2⟩
  have own : ∀ a, Own (ρ1.set i (.fz d)) (σ1.set i (some v)) a → Own ρ1 σ1 a := fun a ⟨j, k, xs, e1, e2⟩ => let ⟨_, q1, q2⟩ := inv j k xs a e1 e2; ⟨j, k, xs, q1, q2⟩
  refine ⟨⟨at1.go.sub, at1.go.new, fun a h => at1.go.own a (own a h), at1.go.kp, at1.go.stay, fun j k xs e1 n => ?_⟩, ⟨by rw [List.length_set, List.length_set]; exact at1.rel.len, fun j s' ov e1 e2 => ?_, fun j l k k' xs ys a e1 e2 e3 e4 => ?_, at1.rel.dom, at1.rel.tb⟩⟩
  · obtain ⟨ys, q1, q2, q3⟩ := at1.go.fix j k xs e1 n
    have h : i ≠ j := fun z => by rw [← z, es] at q1; cases q1; exact n (hs _ _ rfl)
    exact ⟨ys, by rw [List.getElem?_set_ne h]; exact q1, by rw [List.getElem?_set_ne h]; exact q2, q3⟩
  · by_cases h : i = j
    · subst h
      rw [List.getElem?_set_self hi] at e1
      rw [List.getElem?_set_self hj] at e2
      cases e1
      cases e2
      exact ⟨v, rfl, r⟩
    · rw [List.getElem?_set_ne h] at e1 e2
      exact at1.rel.ok j s' ov e1 e2
  · obtain ⟨_, q1, q2⟩ := inv j k xs a e1 e3
    obtain ⟨_, q3, q4⟩ := inv l k' ys a e2 e4
    exact at1.rel.inj j l k k' xs ys a q1 q3 q2 q4
/-- a name gets a fresh list -/
theorem Ac.setL {i : Nat} {xs : List D} {v : V} (at1 : Ac K S ρ σ H S1 ρ1 σ1 H1) (w : Wr ρ1 i) (r : Rv K S1 H ρ1 σ1 H1 v (.fr xs)) : Ac K S ρ σ H S1 (ρ1.set i (.ls .own xs)) (σ1.set i (some v)) H1 := by
  obtain ⟨s, es, hs⟩ := w
  have hi : i < ρ1.length := (List.getElem?_eq_some_iff.mp es).1
  have hj : i < σ1.length := by rw [← at1.rel.len]; exact hi
  obtain ⟨p, vs, ev, h0, h1, h2, h3, h4⟩ := r
  subst ev
  have inv : ∀ (j : Nat) (k : Lk) (ys : List D) (a : Addr), (ρ1.set i (.ls .own xs))[j]? = some (.ls k ys) → (σ1.set i (some (V.ref p)))[j]? = some (some (V.ref a)) → (i = j ∧ a = p) ∨ (i ≠ j ∧ ρ1[j]? = some (.ls k ys) ∧ σ1[j]? = some (some (V.ref a))) := fun j k ys a e1 e2 => by
    by_cases h : i = j
    · subst h
      rw [List.getElem?_set_self hj] at e2
      cases e2
      exact .inl ⟨rfl, rfl⟩
    · rw [List.getElem?_set_ne h] at e1 e2
      exact .inr ⟨h, e1, e2⟩
  refine ⟨⟨at1.go.sub, at1.go.new, fun a ⟨j, k, ys, e1, e2⟩ => ?_, at1.go.kp, at1.go.stay, fun j k xs e1 n => ?_⟩, ⟨by rw [List.length_set, List.length_set]; exact at1.rel.len, fun j s' ov e1 e2 => ?_, fun j l k k' xs ys a e1 e2 e3 e4 => ?_, at1.rel.dom, at1.rel.tb⟩⟩
  · rcases inv j k ys a e1 e2 with ⟨_, rfl⟩ | ⟨_, q1, q2⟩
    · exact .inl h0
    · exact at1.go.own a ⟨j, k, ys, q1, q2⟩
  · obtain ⟨ys, q1, q2, q3⟩ := at1.go.fix j k xs e1 n
    have h : i ≠ j := fun z => by rw [← z, es] at q1; cases q1; exact n (hs _ _ rfl)
    exact ⟨ys, by rw [List.getElem?_set_ne h]; exact q1, by rw [List.getElem?_set_ne h]; exact q2, q3⟩
  · by_cases h : i = j
    · subst h
      rw [List.getElem?_set_self hi] at e1
      rw [List.getElem?_set_self hj] at e2
      cases e1
      cases e2
      exact .mkL (by decide) rfl h1 h2 h4
    · rw [List.getElem?_set_ne h] at e1 e2
      exact at1.rel.ok j s' ov e1 e2
  · rcases inv j k xs a e1 e3 with ⟨z1, z2⟩ | ⟨n1, q1, q2⟩
    · rcases inv l k' ys a e2 e4 with ⟨z3, _⟩ | ⟨n3, q3, q4⟩
      · exact z1.symm.trans z3
      · subst z2
        exact absurd ⟨l, k', ys, q3, q4⟩ h3
    · rcases inv l k' ys a e2 e4 with ⟨z3, z4⟩ | ⟨n3, q3, q4⟩
      · subst z4
        exact absurd ⟨j, k, xs, q1, q2⟩ h3
      · exact at1.rel.inj j l k k' xs ys a q1 q3 q2 q4
/-- sharing, with slots that have turned -/
theorem Ac.share {v : V} {x : R} {d : D} (a : Ac K S ρ σ H S1 ρ1 σ1 H1) (r : Rv K S1 H ρ1 σ1 H1 v x) (e : DL.share x ρ1 = .ok d ρ2) : ∃ S2, Ac K S ρ σ H S2 ρ2 σ1 H1 ∧ Rp K S2 H1 v d ∧ Ke S1 H1 S2 H1 := by
  -- the part from the last state on, over the heap at the start for what is new
  cases x with
  | fz d' =>
    obtain ⟨q1, q2⟩ := ret_eq e
    subst q1 q2
    exact ⟨S1, a, r, fun _ h => h, fun _ _ _ h _ => h⟩
  | fr xs =>
    obtain ⟨q1, q2⟩ := ret_eq e
    subst q1 q2
    obtain ⟨p, vs, ev, h0, h1, h2, h3, h4⟩ := r
    have ke : Ke S1 H1 (fun z => S1 z ∨ z = p) H1 := ⟨fun _ h => .inl h, fun _ _ _ h _ => h⟩
    refine ⟨fun z => S1 z ∨ z = p, ⟨⟨fun z h => .inl (a.go.sub z h), fun z h => ?_, a.go.own, a.go.kp, a.go.stay, a.go.fix⟩, ⟨a.rel.len, fun i s ov e1 e2 => ?_, a.rel.inj, fun z h => ?_, a.rel.tb⟩⟩, ?_, ke⟩
    · rcases h with h | h
      · exact a.go.new z h
      · rw [h]; exact .inr (.inl h0)
    · have q := a.rel.ok i s ov e1 e2
      cases s with
      | un => trivial
      | fz d => obtain ⟨w, ew, hw⟩ := q; exact ⟨w, ew, hw.mono ke⟩
      | ls k ys =>
        obtain ⟨b, eb, nb, hb⟩ := q
        subst eb
        exact ⟨b, rfl, fun z => z.elim nb fun z => h3 (z ▸ ⟨i, k, ys, e1, e2⟩), hold_mono hb (fun _ h _ => h) ke⟩
    · rcases h with h | h
      · exact a.rel.dom z h
      · rw [h, h1]; simp
    · rw [ev]
      exact .lst ⟨.inr rfl, h1⟩ (h4.mono ke)
  | rf i =>
    -- the slot's own step
    obtain ⟨S2, at2, rp, ke⟩ := At.share (At.start a.rel) (x := .rf i) r e
    exact ⟨S2, a.trans at2.ac, rp, ke⟩
end
/-- only these slots have turned -/
def Sw (sl : List Nat) (σ σ' : St) : Prop := σ'.length = σ.length ∧ ∀ j, j ∉ sl → σ'[j]? = σ[j]?
/-- a target that gets frozen data -/
def gD (K : PySem.W.Frag) (sl : List Nat) (m : D → M Unit) : TG := fun v σ H Q => ∃ S ρ d ρ', Rel K S ρ σ H ∧ Rp K S H v d ∧ m d ρ = .ok () ρ' ∧
  ∀ S' σ' H', Ac K S ρ σ H S' ρ' σ' H' → Sw sl σ σ' → Q σ' H'
def gDs (K : PySem.W.Frag) (sl : List Nat) (m : List D → M Unit) : TGs := fun vs σ H Q => ∃ S ρ ds ρ', Rel K S ρ σ H ∧ Rps K S H vs ds ∧ m ds ρ = .ok () ρ' ∧
  ∀ S' σ' H', Ac K S ρ σ H S' ρ' σ' H' → Sw sl σ σ' → Q σ' H'
theorem pgImp {X : Cx} {e : Expr} {t t' : TG} (h : PG X e t) (i : ∀ v σ H Q, t' v σ H Q → t v σ H Q) : PG X e t' := ⟨fun pins s σ H v u Q I r q => h.run pins s σ H v u Q I r (i _ _ _ _ q)⟩
theorem pgsImp {X : Cx} {e : List Expr} {t t' : TGs} (h : PGs X e t) (i : ∀ v σ H Q, t' v σ H Q → t v σ H Q) : PGs X e t' := ⟨fun pins s σ H v u Q I r q => h.run pins s σ H v u Q I r (i _ _ _ _ q)⟩
section
variable {X : Cx} {Φ : Calls} {a b : Expr} {es : List Expr} {pos : Pos} {ib : E} {tg : Tg} {tgs : Tgs}
theorem dg_nm {i : Nat} {e : Expr} (h : PG X e (gName i)) : PG X e (gD X.K (Tg.nm i).slots (asgn Φ (.nm i))) := pgImp h fun v σ H Q q => by
  obtain ⟨S, ρ, d, ρ', rel, r, e, q⟩ := q
  simp only [asgn] at e
  obtain ⟨w, q1⟩ := setD_eq e
  subst q1
  refine q S _ H ((Ac.start rel).setD w r) ⟨List.length_set, fun j hj => ?_⟩
  have : i ≠ j := fun z => hj (by rw [z]; exact List.mem_singleton.mpr rfl)
  rw [List.getElem?_set_ne this]
theorem dg_sub {i : Nat} (ha : PE X a (tVar i)) (hb : PE X b (tD X.K (ev Φ ib)))
    (hp : ∀ (v : Value), assign (.Subscript a b pos) X.env v = (do
      let ov ← holding [v] (eval a X.env)
      let iv ← holding [v, ov] (eval b X.env)
      standAt pos
      holding [v, ov, iv] (setItem ov iv v)
      release [v, ov, iv] []) := by intro _; rfl) : PG X (.Subscript a b pos) (gD X.K (Tg.sub i ib).slots (asgn Φ (.sub i ib))) := pgImp (pg_sub ha hb set_list hp) fun v σ H Q q => by
  obtain ⟨S, ρ, d, ρ', rel, r, e, q⟩ := q
  simp only [asgn] at e
  obtain ⟨x0, ρ1, e1, k1⟩ := bnd_eq e
  obtain ⟨q0, p, ws, k0, e0, g0, _, _, _⟩ := rel.ls e1
  subst q0
  obtain ⟨y, ρ2, e2, k2⟩ := bnd_eq k1
  obtain ⟨d2, v1, k3⟩ := vw1_split k2
  cases d2 <;> (try (cases k3; done))
  rename_i kx
  obtain ⟨xs, ρ4, e4, k4⟩ := bnd_eq k3
  obtain ⟨q4, kk, nkk, e4'⟩ := getL_eq e4
  subst q4
  cases ej : ixN xs.length kx with
  | none => rw [ej] at k4; cases k4
  | some j =>
    rw [ej] at k4
    obtain ⟨l, ys, e6, nk, q5⟩ := putL_eq k4
    subst q5
    rw [e4'] at e6
    cases e6
    refine ⟨_, e0, S, ρ1, y, _, rel, e2, fun S2 u2 H2 g2 rel2 r2 => ?_⟩
    obtain ⟨p3, ws3, ep3, h3', _, rr3⟩ := rel2.atL e4' nkk
    rw [e0] at ep3
    cases ep3
    have fin := At.put ⟨g2, rel2⟩ e4' nk e0 (Rps.set (r.mono (g2.ke rel)) j rr3)
    exact ⟨p, ws3, kx, j, rfl, (r2.view rel2 v1).i, h3', by rw [rr3.length]; exact ej, q S2 _ _ fin.ac ⟨rfl, fun _ _ => rfl⟩⟩
theorem dgs_nil : PGs X [] (gDs X.K Tgs.nil.slots (asgns Φ .nil)) := pgsImp pgs_nil fun v σ H Q q => by
  obtain ⟨S, ρ, ds, ρ', rel, r, e, q⟩ := q
  cases r with
  | nil =>
    simp only [asgns] at e
    obtain ⟨_, q2⟩ := ret_eq e
    subst q2
    exact ⟨rfl, q S _ H (Ac.start rel) ⟨rfl, fun _ _ => rfl⟩⟩
  | cons h t => simp only [asgns] at e; cases e
theorem dgs_cons (ha : PG X a (gD X.K tg.slots (asgn Φ tg))) (hb : PGs X es (gDs X.K tgs.slots (asgns Φ tgs)))
    (hx : (assignEach (a :: es) X.env).map (·.2) = assign a X.env :: (assignEach es X.env).map (·.2) := by rfl) : PGs X (a :: es) (gDs X.K (Tgs.cons tg tgs).slots (asgns Φ (.cons tg tgs))) := pgsImp (pgs_cons ha hb hx) fun v σ H Q q => by
  obtain ⟨S, ρ, ds, ρ', rel, r, e, q⟩ := q
  cases r with
  | nil => simp only [asgns] at e; cases e
  | cons h t =>
    simp only [asgns] at e
    obtain ⟨u, ρ1, e1, k1⟩ := bnd_eq e
    refine ⟨_, _, rfl, S, ρ, _, ρ1, rel, h, e1, fun S1 σ1 H1 a1 s1 => ⟨S1, ρ1, _, ρ', a1.rel, t.mono (a1.go.ke rel), k1, fun S2 σ2 H2 a2 s2 => q S2 σ2 H2 (a1.trans a2) ⟨s2.1.trans s1.1, fun j hj => ?_⟩⟩⟩
    have hj : j ∉ tg.slots ++ tgs.slots := hj
    rw [s2.2 j fun z => hj (List.mem_append_right _ z), s1.2 j fun z => hj (List.mem_append_left _ z)]
theorem dg_tp {k : Nat} {n : Nat} (hc : X.calm = true) (h : PGs X es (gDs X.K tgs.slots (asgns Φ tgs))) (h1 : (assignEach es X.env).length = n := by rfl) (h2 : (assignEach es X.env).findIdx? (fun x => x.1) = none := by rfl)
    (hl : ∀ (ds : List D) (ρ ρ' : Ev), asgns Φ tgs ds ρ = .ok () ρ' → ds.length = n) : PG X (.Tuple es k pos) (gD X.K (Tg.tp tgs).slots (asgn Φ (.tp tgs))) := pgImp (pg_or (pg_tup hc h h1 h2) (pg_unl hc h h1 h2)) fun v σ H Q q => by
  obtain ⟨S, ρ, d, ρ', rel, r, e, q⟩ := q
  cases r with
  | tup hr hs =>
    simp only [asgn] at e
    exact .inl ⟨_, _, rfl, hr.sq, by rw [hs.length]; exact hl _ _ _ e, S, ρ, _, ρ', rel, hs, e, q⟩
  | non => simp only [asgn] at e; cases e
  | bl _ => simp only [asgn] at e; cases e
  | int _ => simp only [asgn] at e; cases e
  | str _ => simp only [asgn] at e; cases e
  | lst hr hs =>
    simp only [asgn] at e
    exact .inr ⟨_, _, rfl, hr.sq, by rw [hs.length]; exact hl _ _ _ e, S, ρ, _, ρ', rel, hs, e, q⟩
  | scr _ _ => simp only [asgn] at e; cases e
  | obj _ _ _ _ _ => simp only [asgn] at e; cases e
  | emp _ _ => simp only [asgn] at e; cases e
def Tgs.len : Tgs → Nat
  | .nil => 0
  | .cons _ r => r.len + 1
theorem asgns_len : ∀ {ts : Tgs} (ds : List D) (ρ ρ' : Ev), asgns Φ ts ds ρ = .ok () ρ' → ds.length = ts.len
  | .nil, [], _, _, _ => rfl
  | .nil, _ :: _, _, _, e => by simp only [asgns] at e; cases e
  | .cons t r, [], _, _, e => by simp only [asgns] at e; cases e
  | .cons t r, d :: ds, ρ, ρ', e => by
    simp only [asgns] at e
    obtain ⟨u, ρ1, e1, k1⟩ := bnd_eq e
    exact congrArg (· + 1) (asgns_len (ts := r) ds ρ1 ρ' k1)
end
end DL
end
section
set_option autoImplicit false
/-! DLi2: slots forgotten. -/
namespace DL
open PySem L2
variable [LTabs]
theorem wipeS_len (ρ : Ev) : ∀ vs : List Nat, (wipeS ρ vs).length = ρ.length
  | [] => rfl
  | v :: vs => by show ((wipeS ρ vs).set v .un).length = _; rw [List.length_set, wipeS_len ρ vs]
theorem wipeS_out {ρ : Ev} {i : Nat} : ∀ {vs : List Nat}, i ∉ vs → (wipeS ρ vs)[i]? = ρ[i]?
  | [], _ => rfl
  | v :: vs, h => by
    show ((wipeS ρ vs).set v .un)[i]? = _
    have hv : v ≠ i := fun z => h (by rw [z]; exact List.mem_cons_self)
    rw [List.getElem?_set_ne hv]
    exact wipeS_out fun z => h (List.mem_cons_of_mem _ z)
theorem wipeS_in {ρ : Ev} {i : Nat} {s : Sl} : ∀ {vs : List Nat}, i ∈ vs → (wipeS ρ vs)[i]? = some s → s = .un
  | v :: vs, h, e => by
    have e : ((wipeS ρ vs).set v .un)[i]? = some s := e
    by_cases hv : v = i
    · subst hv
      by_cases hl : v < (wipeS ρ vs).length
      · rw [List.getElem?_set_self hl] at e; cases e; rfl
      · rw [List.getElem?_eq_none (by rw [List.length_set]; omega)] at e; cases e
    · rw [List.getElem?_set_ne hv] at e
      rcases List.mem_cons.mp h with z | z
      · exact absurd z.symm hv
      · exact wipeS_in z e
theorem backS_len (ρ ρ' : Ev) : ∀ vs : List Nat, (backS ρ ρ' vs).length = ρ'.length
  | [] => rfl
  | v :: vs => by show ((backS ρ ρ' vs).set v _).length = _; rw [List.length_set, backS_len ρ ρ' vs]
theorem backS_out {ρ ρ' : Ev} {i : Nat} : ∀ {vs : List Nat}, i ∉ vs → (backS ρ ρ' vs)[i]? = ρ'[i]?
  | [], _ => rfl
  | v :: vs, h => by
    show ((backS ρ ρ' vs).set v _)[i]? = _
    have hv : v ≠ i := fun z => h (by rw [z]; exact List.mem_cons_self)
    rw [List.getElem?_set_ne hv]
    exact backS_out fun z => h (List.mem_cons_of_mem _ z)
theorem backS_in {ρ ρ' : Ev} {i : Nat} : ∀ {vs : List Nat}, i ∈ vs → i < ρ.length → i < ρ'.length → (backS ρ ρ' vs)[i]? = ρ[i]?
  | v :: vs, h, hl, hl' => by
    show ((backS ρ ρ' vs).set v (ρ.getD v .un))[i]? = _
    by_cases hv : v = i
    · subst hv
      rw [List.getElem?_set_self (by rw [backS_len]; exact hl')]
      rw [List.getD_eq_getElem?_getD, List.getElem?_eq_getElem hl]
      rfl
    · rw [List.getElem?_set_ne hv]
      rcases List.mem_cons.mp h with z | z
      · exact absurd z.symm hv
      · exact backS_in z hl hl'
theorem wipeV_out {σ : St} {i : Nat} : ∀ {vs : List Nat}, i ∉ vs → (wipe σ vs)[i]? = σ[i]?
  | [], _ => rfl
  | v :: vs, h => by
    show ((wipe σ vs).set v none)[i]? = _
    have hv : v ≠ i := fun z => h (by rw [z]; exact List.mem_cons_self)
    rw [List.getElem?_set_ne hv]
    exact wipeV_out fun z => h (List.mem_cons_of_mem _ z)
theorem wipeV_in {σ : St} {i : Nat} : ∀ {vs : List Nat}, i ∈ vs → i < σ.length → (wipe σ vs)[i]? = some none
  | v :: vs, h, hl => by
    show ((wipe σ vs).set v none)[i]? = _
    by_cases hv : v = i
    · subst hv
      rw [List.getElem?_set_self (by rw [wipe_length]; exact hl)]
    · rw [List.getElem?_set_ne hv]
      rcases List.mem_cons.mp h with z | z
      · exact absurd z.symm hv
      · exact wipeV_in z hl
theorem wipeV_eq {σ σ' : St} {vs : List Nat} (hl : σ'.length = σ.length) (h : ∀ j, j ∉ vs → σ'[j]? = (wipe σ vs)[j]?) : wipe σ' vs = wipe σ vs := by
  refine List.ext_getElem? fun i => ?_
  by_cases hi : i ∈ vs
  · by_cases h1 : i < σ.length
    · rw [wipeV_in hi (by rw [hl]; exact h1), wipeV_in hi h1]
    · rw [List.getElem?_eq_none (by rw [wipe_length]; omega), List.getElem?_eq_none (by rw [wipe_length]; omega)]
  · rw [wipeV_out hi, h i hi]
theorem wipeM_eq {own : List Nat} {ρ ρ' : Ev} {u : Unit} (h : wipeM own ρ = .ok u ρ') : (∀ i ∈ own, ∀ k xs, ρ[i]? ≠ some (.ls k xs)) ∧ ρ' = wipeS ρ own := by
  unfold wipeM at h
  split at h
  · rename_i ho
    cases h
    refine ⟨fun i hi k xs e => ?_, rfl⟩
    have := List.all_eq_true.mp ho i hi
    rw [e] at this
    cases this
  · cases h
section
variable {K : PySem.W.Frag} {S S1 : Addr → Prop} {ρ ρ1 ρ2 : Ev} {σ σ1 : St} {H H1 : Hp} {own : List Nat}
theorem Own.wipe (no : ∀ i ∈ own, ∀ k xs, ρ[i]? ≠ some (.ls k xs)) {a : Addr} : Own (wipeS ρ own) (L2.wipe σ own) a ↔ Own ρ σ a := by
  constructor
  · rintro ⟨i, k, xs, e1, e2⟩
    by_cases hi : i ∈ own
    · cases wipeS_in hi e1
    · rw [wipeS_out hi] at e1
      rw [wipeV_out hi] at e2
      exact ⟨i, k, xs, e1, e2⟩
  · rintro ⟨i, k, xs, e1, e2⟩
    have hi : i ∉ own := fun z => no i z k xs e1
    exact ⟨i, k, xs, by rw [wipeS_out hi]; exact e1, by rw [wipeV_out hi]; exact e2⟩
theorem Rel.wipe (rel : Rel K S ρ σ H) (no : ∀ i ∈ own, ∀ k xs, ρ[i]? ≠ some (.ls k xs)) : Rel K S (wipeS ρ own) (L2.wipe σ own) H := by
  refine ⟨by rw [wipeS_len, wipe_length]; exact rel.len, fun i s ov e1 e2 => ?_, fun i j k l xs ys a e1 e2 e3 e4 => ?_, rel.dom, rel.tb⟩
  · by_cases hi : i ∈ own
    · cases wipeS_in hi e1
      trivial
    · rw [wipeS_out hi] at e1
      rw [wipeV_out hi] at e2
      exact rel.ok i s ov e1 e2
  · have h1 : i ∉ own := fun z => by cases wipeS_in z e1
    have h2 : j ∉ own := fun z => by cases wipeS_in z e2
    rw [wipeS_out h1] at e1
    rw [wipeS_out h2] at e2
    rw [wipeV_out h1] at e3
    rw [wipeV_out h2] at e4
    exact rel.inj i j k l xs ys a e1 e2 e3 e4
/-- the slots of the own names forgotten -/
theorem Go.wipe {S' : Addr → Prop} {H' : Hp} (g : Go S ρ σ H S' ρ1 σ1 H') (no : ∀ i ∈ own, ∀ k xs, ρ1[i]? ≠ some (.ls k xs)) (n0 : ∀ i ∈ own, ∀ k xs, ρ[i]? ≠ some (.ls k xs)) : Go S (wipeS ρ own) (L2.wipe σ own) H S' (wipeS ρ1 own) (L2.wipe σ1 own) H' :=
  ⟨g.sub, fun a h => (g.new a h).imp id (Or.imp id (Own.wipe n0).mpr), fun a h => (g.own a ((Own.wipe no).mp h)).imp id (Own.wipe n0).mpr, fun a o h n nt => g.keep a o h (nt := nt) fun w => n ((Own.wipe n0).mpr w), g.stay, fun i k xs e n => by
    have hi : i ∉ own := fun z => by cases wipeS_in z e
    rw [wipeS_out hi] at e
    obtain ⟨ys, q1, q2, q3⟩ := g.fix i k xs e n
    exact ⟨ys, by rw [wipeS_out hi]; exact q1, by rw [wipeV_out hi, wipeV_out hi]; exact q2, q3⟩⟩
end
end DL
end
section
set_option autoImplicit false
/-! DLj: what is walked. -/
namespace DL
open PySem L2
variable [LTabs]
abbrev SrcT := (Addr → Prop) → Ev → St → Hp → Prop
/-- J walks the items while Src stands -/
structure Wk (K : PySem.W.Frag) (J : L2.It) (Src : SrcT) (xs : List D) : Prop where
  stop : ∀ S ρ σ H, Rel K S ρ σ H → Src S ρ σ H → ∀ i, xs.length ≤ i → J.stop i H
  go : ∀ S ρ σ H, Rel K S ρ σ H → Src S ρ σ H → ∀ i, i < xs.length → J.go i H
  yld : ∀ S ρ σ H i d x H', Rel K S ρ σ H → Src S ρ σ H → xs[i]? = some d → J.yld i H x H' → ∃ S', Gn S H S' H' ∧ Rp K S' H' x d
  stay : ∀ S ρ σ H S' ρ' σ' H', Rel K S ρ σ H → Src S ρ σ H → Go S ρ σ H S' ρ' σ' H' → Rel K S' ρ' σ' H' → Src S' ρ' σ' H'
  wip : ∀ (own : List Nat) (S : Addr → Prop) (ρ : Ev) (σ : St) (H : Hp), (∀ i ∈ own, ∀ k xs, ρ[i]? ≠ some (.ls k xs)) → Src S ρ σ H → Src S (wipeS ρ own) (L2.wipe σ own) H
/-- the thing that is walked stands: r, of value v, its data d -/
def Held (K : PySem.W.Frag) (r : R) (d : D) (v : V) : SrcT := fun S ρ σ H => match r with
  | .rf i => ∃ xs, d = .lst xs ∧ ρ[i]? = some (.ls .lck xs) ∧ σ[i]? = some (some v)
  | .fz e => e = d ∧ Rp K S H v e
  | .fr xs => d = .lst xs ∧ Rv K S (fun _ => none) ρ σ H v (.fr xs)
section
variable {K : PySem.W.Frag} {S S' : Addr → Prop} {ρ ρ' : Ev} {σ σ' : St} {H H' : Hp} {r : R} {d : D} {v : V}
theorem Rv.go4 (rel : Rel K S ρ σ H) (g : Go S ρ σ H S' ρ' σ' H') {xs : List D} {H₀ : Hp} (h : Rv K S H₀ ρ σ H v (.fr xs)) : Rv K S' H₀ ρ' σ' H' v (.fr xs) := by
  obtain ⟨a, vs, e, h0, h1, h2, h3, h4⟩ := h
  refine ⟨a, vs, e, h0, g.keep a _ h1 h3, fun z => ?_, fun z => ?_, h4.mono (g.ke rel)⟩
  · rcases g.new a z with q | q | q
    · exact h2 q
    · rw [h1] at q; cases q
    · exact h3 q
  · rcases g.own a z with q | q
    · rw [h1] at q; cases q
    · exact h3 q
theorem Held.stay (rel : Rel K S ρ σ H) (h : Held K r d v S ρ σ H) (g : Go S ρ σ H S' ρ' σ' H') : Held K r d v S' ρ' σ' H' := by
  cases r with
  | fz e => exact ⟨h.1, h.2.mono (g.ke rel)⟩
  | fr xs => exact ⟨h.1, Rv.go4 rel g h.2⟩
  | rf i =>
    obtain ⟨xs, e0, e1, e2⟩ := h
    obtain ⟨ys, q1, q2, q3⟩ := g.fix i .lck xs e1 (by simp)
    rw [q3 rfl] at q1
    exact ⟨xs, e0, q1, q2.trans e2⟩
theorem Held.vd (rel : Rel K S ρ σ H) (h : Held K r d v S ρ σ H) : Vd K S H v d := by
  cases r with
  | fz e => obtain ⟨rfl, h⟩ := h; exact .fz h
  | fr xs => obtain ⟨rfl, a, vs, e, h0, h1, h2, h3, h4⟩ := h; exact .ls e h1 h4
  | rf i =>
    obtain ⟨xs, e0, e1, e2⟩ := h
    subst e0
    obtain ⟨a, vs, q1, q2, _, q3⟩ := rel.atL e1
    rw [e2] at q1; cases q1
    exact .ls rfl q2 q3
variable {own : List Nat}
theorem Held.wipe {r : R} {d : D} {v : V} (no : ∀ i ∈ own, ∀ k xs, ρ[i]? ≠ some (.ls k xs)) (h : Held K r d v S ρ σ H) : Held K r d v S (wipeS ρ own) (L2.wipe σ own) H := by
  cases r with
  | fz e => exact h
  | fr xs =>
    obtain ⟨e0, a, vs, e1, h0, h1, h2, h3, h4⟩ := h
    exact ⟨e0, a, vs, e1, h0, h1, h2, fun z => h3 ((Own.wipe no).mp z), h4⟩
  | rf i =>
    obtain ⟨xs, e0, e1, e2⟩ := h
    have hi : i ∉ own := fun z => no i z .lck xs e1
    exact ⟨xs, e0, by rw [wipeS_out hi]; exact e1, by rw [wipeV_out hi]; exact e2⟩
/-- the list, as HandS reads it -/
theorem Vd.sq {xs : List D} (h : Vd K S H v d) (e : itemsD d = some xs) (hn : ∀ ys, d ≠ .tup ys) : ∃ a vs, v = .ref a ∧ SqL K H a vs ∧ Rps K S H vs xs := by
  cases d with
  | lst ys => cases e; obtain ⟨a, vs, ea, h1, h2⟩ := h.l; exact ⟨a, vs, ea, .inl (.inl h1), h2⟩
  | scr ys => cases e; exact h.c
  | tup ys => exact absurd rfl (hn ys)
  | non => cases e
  | bl _ => cases e
  | int _ => cases e
  | obj _ _ => cases e
  | emp => cases e
  | str _ => cases e
variable {a : Addr} {xs : List D}
theorem ref_inj {p q : Addr} (h : V.ref p = V.ref q) : p = q := by cases h; rfl
theorem Wk.lst (e : itemsD d = some xs) (hn : ∀ ys, d ≠ .tup ys) : Wk K (Itl K a) (Held K r d (.ref a)) xs where
  stop := fun S ρ σ H rel h i hi => by
    obtain ⟨p, vs, ep, h1, h2⟩ := (h.vd rel).sq e hn
    cases ep
    exact ⟨vs, h1, by rw [h2.length]; exact hi⟩
  go := fun S ρ σ H rel h i hi => by
    obtain ⟨p, vs, ep, h1, h2⟩ := (h.vd rel).sq e hn
    cases ep
    have hi : i < vs.length := by rw [h2.length]; exact hi
    exact ⟨vs, vs[i], h1, List.getElem?_eq_getElem hi⟩
  yld := fun S ρ σ H i d' x H' rel h ei y => by
    obtain ⟨p, vs, ep, h1, h2⟩ := (h.vd rel).sq e hn
    cases ep
    obtain ⟨rfl, y⟩ := y
    obtain ⟨w, e1, h3⟩ := h2.get ei
    rw [y vs h1] at e1
    cases e1
    exact ⟨S, .refl, h3⟩
  stay := fun S ρ σ H S' ρ' σ' H' rel h g _ => h.stay rel g
  wip := fun own S ρ σ H no h => h.wipe no
theorem Wk.tup : Wk K (Itt K a) (Held K r (.tup xs) (.ref a)) xs where
  stop := fun S ρ σ H rel h i hi => by
    obtain ⟨p, vs, ep, h1, h2⟩ := (h.vd rel).t
    cases ep
    exact ⟨vs, h1, by rw [h2.length]; exact hi⟩
  go := fun S ρ σ H rel h i hi => by
    obtain ⟨p, vs, ep, h1, h2⟩ := (h.vd rel).t
    cases ep
    have hi : i < vs.length := by rw [h2.length]; exact hi
    exact ⟨vs, vs[i], h1, List.getElem?_eq_getElem hi⟩
  yld := fun S ρ σ H i d' x H' rel h ei y => by
    obtain ⟨p, vs, ep, h1, h2⟩ := (h.vd rel).t
    cases ep
    obtain ⟨rfl, y⟩ := y
    obtain ⟨w, e1, h3⟩ := h2.get ei
    rw [y vs h1] at e1
    cases e1
    exact ⟨S, .refl, h3⟩
  stay := fun S ρ σ H S' ρ' σ' H' rel h g _ => h.stay rel g
  wip := fun own S ρ σ H no h => h.wipe no
theorem enum_get : ∀ {xs : List D} {n i : Nat} {e : D}, (enumFrom n xs)[i]? = some e → ∃ d, xs[i]? = some d ∧ e = .tup [.int ((n + i : Nat) : Int), d]
  | [], n, i, e, h => by simp [enumFrom] at h
  | x :: xs, n, 0, e, h => by simp [enumFrom] at h; exact ⟨x, rfl, by rw [← h]; rfl⟩
  | x :: xs, n, i + 1, e, h => by
    obtain ⟨d, h1, h2⟩ := enum_get (xs := xs) (n := n + 1) (i := i) (e := e) (by simpa [enumFrom] using h)
    exact ⟨d, by simpa using h1, by rw [h2]; congr 4; omega⟩
theorem enum_len : ∀ (xs : List D) (n : Nat), (enumFrom n xs).length = xs.length
  | [], _ => rfl
  | x :: xs, n => congrArg (· + 1) (enum_len xs (n + 1))
theorem Wk.enum (e : itemsD d = some xs) (hn : ∀ ys, d ≠ .tup ys) : Wk K (Ite K a) (Held K r d (.ref a)) (enumFrom 0 xs) where
  stop := fun S ρ σ H rel h i hi => by
    obtain ⟨p, vs, ep, h1, h2⟩ := (h.vd rel).sq e hn
    cases ep
    exact ⟨vs, h1, by rw [h2.length]; rw [enum_len] at hi; exact hi⟩
  go := fun S ρ σ H rel h i hi => by
    obtain ⟨p, vs, ep, h1, h2⟩ := (h.vd rel).sq e hn
    cases ep
    rw [enum_len] at hi
    have hi : i < vs.length := by rw [h2.length]; exact hi
    exact ⟨vs, vs[i], h1, List.getElem?_eq_getElem hi⟩
  yld := fun S ρ σ H i d' x H' rel h ei y => by
    obtain ⟨p, vs, ep, h1, h2⟩ := (h.vd rel).sq e hn
    cases ep
    obtain ⟨T, z, rfl, nT, rfl, y⟩ := y
    obtain ⟨d2, e2, rfl⟩ := enum_get ei
    obtain ⟨w, e1, h3⟩ := h2.get e2
    rw [y vs h1] at e1
    cases e1
    rw [Nat.zero_add]
    exact ⟨_, .tup nT, Rp.mkTup nT (.cons (.int _) (.cons h3 .nil))⟩
  stay := fun S ρ σ H S' ρ' σ' H' rel h g _ => h.stay rel g
  wip := fun own S ρ σ H no h => h.wipe no
theorem Wk.rngD {lo hi : Int} {n : Nat} (hn : n = (lo - hi).toNat) : Wk K (Itc lo (-1) n) (fun _ _ _ _ => True) (rngDL lo hi) where
  stop := fun S ρ σ H rel _ i h => by
    show n ≤ i
    unfold rngDL at h
    rw [List.length_map, List.length_range] at h
    omega
  go := fun S ρ σ H rel _ i h => by
    show i < n
    unfold rngDL at h
    rw [List.length_map, List.length_range] at h
    omega
  yld := fun S ρ σ H i d x H' rel _ hd hy => by
    obtain ⟨e1, e2⟩ := hy
    subst e1 e2
    refine ⟨S, .refl, ?_⟩
    unfold rngDL at hd
    rw [List.getElem?_map] at hd
    cases q : (List.range (lo - hi).toNat)[i]? with
    | none => rw [q] at hd; cases hd
    | some k =>
      rw [q] at hd
      obtain ⟨h1, h2⟩ := List.getElem?_eq_some_iff.mp q
      rw [List.getElem_range] at h2
      subst h2
      cases hd
      rw [show lo + (i : Int) * -1 = lo - (i : Int) from by omega]
      exact .int _
  stay := fun _ _ _ _ _ _ _ _ _ _ _ _ => trivial
  wip := fun _ _ _ _ _ _ _ => trivial
theorem Wk.rng {lo hi : Int} {n : Nat} (hn : n = (hi - lo).toNat) : Wk K (Itr lo n) (fun _ _ _ _ => True) (rngL lo hi) where
  stop := fun S ρ σ H rel h i hi => by
    unfold rngL at hi
    rw [List.length_map, List.length_range] at hi
    rw [hn]; exact hi
  go := fun S ρ σ H rel h i hi => by
    unfold rngL at hi
    rw [List.length_map, List.length_range] at hi
    rw [hn]; exact hi
  yld := fun S ρ σ H i d' x H' rel h ei y => by
    obtain ⟨rfl, rfl⟩ := y
    unfold rngL at ei
    rw [List.getElem?_map] at ei
    cases q : (List.range (hi - lo).toNat)[i]? with
    | none => rw [q] at ei; cases ei
    | some j =>
      rw [q] at ei
      cases ei
      have : j = i := by
        obtain ⟨h1, h2⟩ := List.getElem?_eq_some_iff.mp q
        rw [List.getElem_range] at h2
        exact h2.symm
      subst this
      exact ⟨S, .refl, .int _⟩
  stay := fun _ _ _ _ _ _ _ _ _ _ _ _ => trivial
  wip := fun _ _ _ _ _ _ _ => trivial
end
/-- the environment while the walked list is locked -/
def locked (l : Option (Nat × Lk)) (ρ : Ev) : Ev := match l with
  | none => ρ
  | some (i, _) => match ρ[i]? with
    | some (.ls _ xs) => ρ.set i (.ls .lck xs)
    | _ => ρ
/-- a walk's reading -/
def iD (K : PySem.W.Frag) (m : M (Option (Nat × Lk) × List D)) : TI := fun σ H R => ∃ S ρ l xs ρ', Rel K S ρ σ H ∧ m ρ = .ok (l, xs) ρ' ∧
  ∀ S' H' J Src, At K S ρ σ H S' ρ' H' → Wk K J Src xs → Src S' (locked l ρ') σ H' → R J H'
theorem piImp {X : Cx} {tg e : Expr} {t t' : TI} (h : PI X tg e t) (i : ∀ σ H R, t' σ H R → t σ H R) : PI X tg e t' := ⟨fun pins s σ H R I q => h.run pins s σ H R I (i _ _ _ q)⟩
section
variable {X : Cx} {Φ : Calls} {a b tg : Expr} {pos : Pos} {ia ib : E}
/-- what stands behind the evaluation of a walked thing -/
theorem held_of {K : PySem.W.Frag} {S S' : Addr → Prop} {ρ ρ' : Ev} {σ : St} {H H' : Hp} {r : R} {d : D} {v : V} (at1 : At K S ρ σ H S' ρ' H') (rv : Rv K S' H ρ' σ H' v r) (e : view ρ' r = some d) : Held K r d v S' (locked (lockOf ρ' r) ρ') σ H' := by
  cases r with
  | fz d' => cases e; exact ⟨rfl, rv⟩
  | fr xs =>
    cases e
    obtain ⟨a, vs, e, h0, h⟩ := rv
    exact ⟨rfl, a, vs, e, rfl, h⟩
  | rf i =>
    have e : (match ρ'[i]? with | some (.ls .dic _) => none | some (.ls _ xs) => some (D.lst xs) | _ => none) = some d := e
    split at e
    · cases e
    · rename_i k xs nk q
      cases e
      have hl : lockOf ρ' (.rf i) = some (i, k) := by
        show (match ρ'[i]? with | some (.ls .dic _) => none | some (.ls k _) => some (i, k) | _ => none) = _
        rw [q]
        cases k <;> first | rfl | exact (nk rfl).elim | exact absurd nk (by simp)
      rw [hl]
      have hk : locked (some (i, k)) ρ' = ρ'.set i (.ls .lck xs) := by
        show (match ρ'[i]? with | some (.ls _ xs) => ρ'.set i (.ls .lck xs) | _ => ρ') = _
        rw [q]
      rw [hk]
      exact ⟨xs, rfl, List.getElem?_set_self (List.getElem?_eq_some_iff.mp q).1, rv⟩
    · cases e
theorem itv_split {f : Ev → List D → Option (Nat × Lk) × List D} {ρ ρ' : Ev} {l : Option (Nat × Lk)} {xs : List D} {m : M R} {g : R → List D → Option (Nat × Lk) × List D}
    (h : bnd m (fun x => bnd (vw x) fun d => fun ρ => bnd (ofO (itemsD d)) (fun xs => ret (lockOf ρ x, f ρ xs |>.2)) ρ) ρ = .ok (l, xs) ρ') : ∃ x d ys, m ρ = .ok x ρ' ∧ view ρ' x = some d ∧ itemsD d = some ys ∧ l = lockOf ρ' x ∧ xs = (f ρ' ys).2 := by
  obtain ⟨x, ρ1, e1, h1⟩ := bnd_eq h
  obtain ⟨d, v1, h2⟩ := vw1_split h1
  obtain ⟨ys, e2, h3⟩ := ofO_split h2
  obtain ⟨q1, q2⟩ := ret_eq h3
  cases q1
  subst q2
  exact ⟨x, d, ys, e1, v1, e2, rfl, rfl⟩
theorem di_val (ha : PE X a (tD X.K (ev Φ ia))) : PI X tg a (iD X.K (evit Φ (.val ia))) := ⟨fun pins s σ H R I q => by
  obtain ⟨S, ρ, l, xs, ρ', rel, e, q⟩ := q
  simp only [evit] at e
  obtain ⟨x, d, ys, e1, v1, e2, rfl, rfl⟩ := itv_split (f := fun _ xs => (none, xs)) (g := fun _ xs => (none, xs)) e
  by_cases ht : ∃ zs, d = .tup zs
  · obtain ⟨zs, rfl⟩ := ht
    cases e2
    refine (pi_tup ha).run pins s σ H R I ⟨S, ρ, x, ρ', rel, e1, fun S1 v H1 g1 rel1 r1 => ?_⟩
    obtain ⟨p, vs, ep, h1, h2⟩ := (r1.view rel1 v1).t
    have hd := held_of ⟨g1, rel1⟩ r1 v1
    subst ep
    exact ⟨p, rfl, ⟨vs, h1⟩, q S1 H1 _ _ ⟨g1, rel1⟩ .tup hd⟩
  · refine (pi_list ha).run pins s σ H R I ⟨S, ρ, x, ρ', rel, e1, fun S1 v H1 g1 rel1 r1 => ?_⟩
    have hn : ∀ ys, d ≠ .tup ys := fun ys z => ht ⟨ys, z⟩
    obtain ⟨p, vs, ep, h1, h2⟩ := (r1.view rel1 v1).sq e2 hn
    have hd := held_of ⟨g1, rel1⟩ r1 v1
    subst ep
    exact ⟨p, rfl, ⟨vs, h1⟩, q S1 H1 _ _ ⟨g1, rel1⟩ (.lst e2 hn) hd⟩⟩
theorem di_rng1 {p : Pos} (hg : Gl X "range") (hm : X.mg "range" = none) (ha : PE X a (tD X.K (ev Φ ia))) (hs : starEach [a] X.env = [(false, eval a X.env)] := by rfl) : PI X tg (.Call (.Name "range" p) [a] [] pos) (iD X.K (evit Φ (.rng1 ia))) :=
  piImp (pi_range1 hg hm (pa_cons ha pa_nil hs) hs) fun σ H R q => by
    obtain ⟨S, ρ, l, xs, ρ', rel, e, q⟩ := q
    simp only [evit] at e
    obtain ⟨x, ρ1, e1, h1⟩ := bnd_eq e
    obtain ⟨d, v1, h2⟩ := vw1_split h1
    cases d <;> (try (cases h2; done))
    rename_i j
    have h2 : (if small62 j = true then ret (none, rngL 0 j) else stuck) ρ1 = .ok (l, xs) ρ' := h2
    split at h2
    · rename_i hz
      obtain ⟨q1, q2⟩ := ret_eq h2
      cases q1
      subst q2
      obtain ⟨z3, z4⟩ : -(2 ^ 62) ≤ j ∧ j < 2 ^ 62 := by simpa [small62] using hz
      refine ⟨S, ρ, x, _, rel, e1, fun S1 v H1 g1 rel1 r1 => ⟨j, ?_, z3, z4, q S1 H1 _ _ ⟨g1, rel1⟩ (.rng (by rw [Int.sub_zero])) trivial⟩⟩
      rw [(r1.view rel1 v1).i]
    · cases h2
end
end DL
end
section
set_option autoImplicit false
/-! DLk: enumerate over tuples; zip, reversed. -/
namespace DL
open PySem L2
variable [LTabs]
section
/-- the tuple at a, each item in a new pair, counted from k -/
def IteT (K : PySem.W.Frag) (k : Int) (a : Addr) : L2.It :=
  ⟨fun i H => ∃ (xs : List V) (x : V), SqT K H a xs ∧ xs[i]? = some x,
   fun i H v H' => ∃ T x, v = .ref T ∧ H T = none ∧ H' = upd H T (.tup [.int (k + (i : Nat)), x]) ∧ ∀ xs, SqT K H a xs → xs[i]? = some x,
   fun i H => ∃ xs : List V, SqT K H a xs ∧ xs.length ≤ i⟩
theorem iter_ne {h : Heap} {e it t : Addr} {k : Int} {old : Value} {i : Nat} {items : Array Value} (he : IsEnum h e it k old) (hi : h.IsTupleIter it t i) (ht : h.IsTuple t items) : t ≠ e ∧ t ≠ it := by
  obtain ⟨o, e1, e2, _⟩ := ht
  refine ⟨fun z => ?_, fun z => ?_⟩
  · subst z
    have he : h.get? t = some _ := he
    rw [e1] at he
    rw [Option.some.inj he] at e2
    exact absurd (Value.type.inj e2) (by decide)
  · subst z
    obtain ⟨o2, e3, e4, _⟩ := hi
    rw [e1] at e3
    rw [← Option.some.inj e3, e2] at e4
    exact absurd (Value.type.inj e4) (by decide)
theorem turn_enumT {P : Program} {w : World} {K : PySem.W.Frag} {elts : List Expr} {kk : Nat} {tpos : Pos} (k : Int) (a e it : Addr) :
    Turn P w K (.Tuple elts kk tpos) (IteT K k a) [e, it] e (fun i h => (∃ old, IsEnum h e it (k + ((i : Nat) : Int)) old) ∧ h.IsTupleIter it a i ∧ e ≠ it) where
  mem := List.mem_cons_self
  obj := fun i h st b hb => by
    obtain ⟨⟨old, he⟩, ⟨o, ho, hc, hd⟩, _⟩ := st
    rcases List.mem_cons.mp hb with z | z
    · rw [z]; exact ⟨_, he, fun v q => nomatch q⟩
    · rw [List.mem_singleton.mp z]; exact ⟨o, ho, fun v q => by rw [hd] at q; cases q⟩
  keep := fun i h h' st kp => by
    obtain ⟨⟨old, he⟩, hi, hne⟩ := st
    exact ⟨⟨old, kp e List.mem_cons_self _ he⟩, hi.at fun o q => kp it (List.mem_cons_of_mem _ List.mem_cons_self) o q, hne⟩
  item := by
    intro X hP hw hK hc i pins s σ H E I hf st hg
    subst hP hw hK
    obtain ⟨⟨old, he⟩, hit, hne⟩ := st
    obtain ⟨xs, x, hq, hx⟩ := hg
    obtain ⟨its, rv, p, hz⟩ := I.tuple hq
    obtain ⟨u, hu, ru⟩ := rv.get hx
    obtain ⟨n1, n2⟩ := iter_ne he hit p
    have hel : e < s.heap.objs.size := Heap.lt_size he
    have hil : it < s.heap.objs.size := by obtain ⟨_, q, _⟩ := hit; exact Heap.lt_size q
    have hlen : i < its.toArray.size := by rw [List.size_toArray]; exact (List.getElem?_eq_some_iff.mp hu).1
    refine wpAny_pyNext_enum_itemC (Draws.tuple (A := X.A.in1) (I.ok.hd hc) it a n2 its.toArray) he ⟨hit, p⟩ hlen hne (fun z => ?_) fun y h' tk hy ho hst' hT hsz hk => ?_
    · rcases List.mem_cons.mp z with z | z
      · exact hne z
      · exact n1 (List.mem_singleton.mp z).symm
    · have hy : its.toArray[i]? = some y := hy
      have ey : y = u := by
        rw [List.getElem?_toArray, hu] at hy
        exact (Option.some.inj hy).symm
      subst ey
      refine ⟨_, rfl, wpAny_letOwnedTupleGo_enum (s := { s with heap := h', toks := tk + 1 }) ho fun h'' he' sb => ?_⟩
      have hT2 : h''.get? s.heap.objs.size = some { cls := .type "tuple", data := .seq #[.int (k + (i : Nat)) tk, y] } := (sb.2 _ (Nat.ne_of_gt hel)).trans hT
      have new : ObjOk X.prog X.w (upd H s.heap.objs.size (.tup [.int (k + (i : Nat)), x])) h'' s.heap.objs.size (.tup [.int (k + (i : Nat)), x]) :=
        ⟨(by decide : 2 ≤ sizeLine), [.int (k + (i : Nat)) tk, y], .cons ⟨_, rfl⟩ (.cons ru .nil), ⟨_, hT2, rfl, _, rfl⟩⟩
      have I1 : L2.Inv X pins σ (upd H s.heap.objs.size (.tup [.int (k + (i : Nat)), x])) { s with heap := h'', toks := tk + 1 } := by
        refine I.turnedNew (ch := [e, it]) (fun b ob hb q => ?_) hf (Nat.le_refl _) new
        have b1 : b ≠ e := fun z => hb (by rw [z]; exact List.mem_cons_self)
        have b2 : b ≠ it := fun z => hb (by rw [z]; exact List.mem_cons_of_mem _ List.mem_cons_self)
        exact (sb.2 b b1).trans (hk b ob b1 b2 q)
      refine ⟨.ref s.heap.objs.size, _, I1, rfl, ⟨_, x, rfl, I.hok.fresh (Nat.le_refl _), rfl, fun ys hy => by rw [I.tuple_inj hy hq]; exact hx⟩, ⟨⟨y, ?_⟩, hst'.1.at fun o q => (sb.2 it (Ne.symm hne)).trans q, hne⟩, fun b hb => ?_⟩
      · have e1 : k + ((i + 1 : Nat) : Int) = k + (i : Int) + 1 := by omega
        rw [e1]
        exact he'
      · have hb' : b < s.heap.objs.size := by
          rcases List.mem_cons.mp hb with z | z
          · rw [z]; exact hel
          · rw [List.mem_singleton.mp z]; exact hil
        rw [upd_ne (Nat.ne_of_lt hb')]
        exact (hf b hb).1
  done := by
    intro X hP hw hK hc i pins s σ H E I hf st hg
    subst hP hw hK
    obtain ⟨⟨old, he⟩, hit, hne⟩ := st
    obtain ⟨xs, hq, hx⟩ := hg
    obtain ⟨its, rv, p, hz⟩ := I.tuple hq
    obtain ⟨n1, n2⟩ := iter_ne he hit p
    have hmem : it ∈ [e, it] := List.mem_cons_of_mem _ List.mem_cons_self
    obtain ⟨f0, f1, f2, f3, f4, f5⟩ := hf it hmem
    have hl := rv.length
    have hgo : its.toArray[i]? = none := by
      rw [List.getElem?_toArray]
      exact List.getElem?_eq_none (by omega)
    have D : Draws X.prog X.w X.A.in1 it [it, a] i (fun i v => its.toArray[i]? = some v) (fun j h => j = i ∧ h.IsTupleIter it a j ∧ h.IsTuple a its.toArray) := {
      live := fun _ _ st => let ⟨o, ho, _⟩ := st.2.1; ⟨o, ho⟩
      frame := fun _ _ _ st hk => ⟨st.1, st.2.1.at fun o e => hk it List.mem_cons_self o e, st.2.2.at fun o e => hk a (List.mem_cons_of_mem _ List.mem_cons_self) o e⟩
      item := fun j s' Q E hj st hQ => absurd (st.1 ▸ hj) (Nat.lt_irrefl _)
      done := fun s' Q E st hE => wpAny_nextOf_tuple_end (I.ok.hd hc) st.2.1 st.2.2 hgo hE }
    exact wpAny_pyNext_enum_endD D he ⟨rfl, hit, p⟩ fun h' eb => ⟨rfl, I.turned (t' := s.toks) (fun b o hb q => eb b o hb q) f0 f1 f3 f4 f5⟩
  self := fun A i s Q E st h => let ⟨⟨_, he⟩, _⟩ := st; wpAny_pyIter_enum he h
/-- enumerate(v) of anything that begins -/
theorem meets_enum1 {v : Value} {o : Obj} {B : Heap → Prop} (b : Begins v o B) :
    Meets (Builtin.«enumerate.__new__» ⟨[.type "enumerate", v], []⟩) (fun _ R s => B s.heap ∧
      R (.ok (.ret (.ref (s.heap.push o).objs.size))) { s with heap := (s.heap.push o).push { cls := .type "enumerate", data := .fields #[.none, .bool false, .ref s.heap.objs.size, rawInt 0, .none, .none] } }) :=
  Meets.of_wp fun prog w A R s hh => by
    obtain ⟨hp, g, d, tk, os⟩ := s
    obtain ⟨h1, h⟩ := hh
    have hsub := sub_enumerate
    have q1 : ∀ {A' : Around} {E : Value → Shared → Prop} {Q : Value → Shared → Prop}, Q (.ref hp.objs.size) ⟨hp.push o, g, d, tk, os⟩ → wpAny (model prog w) A' (pyIter v) Q E ⟨hp, g, d, tk, os⟩ := fun q =>
      b.iter prog w _ _ ⟨hp, g, d, tk, os⟩ _ h1 q
    wp_walk using q1
    refine wpAny_stack_any fun st => wpAny_pure ?_
    split
    · rename_i c _ _ _ _ _
      cases (c == Value.type "enumerate") <;> (wp_walk using q1; exact ⟨_, rfl, h⟩)
    · (wp_walk using q1; exact ⟨_, rfl, h⟩)
theorem enum_begins1 {prog : Program} {w : World} {A : Around} {E : Value → Shared → Prop} {s : Shared} {v : Value} {o : Obj} {B : Heap → Prop} {Q : Value → Shared → Prop} (b : Begins v o B) (h1 : B s.heap)
    (h : ∀ h', IsEnum h' (s.heap.objs.size + 1) s.heap.objs.size 0 .none → h'.get? s.heap.objs.size = some o →
      (∀ c o', s.heap.get? c = some o' → h'.get? c = some o') → Q (.ref (s.heap.objs.size + 1)) { s with heap := h' }) :
    wpAny (model prog w) A (call (.type "enumerate") [v]) Q E s := by
  refine callType_new F.called_enumerate (by decide) (F.typeCall_enumerate_1 _) (F.newCall_enumerate_1 _) (fun obj => F.args_object_init_2 obj _) F.entry_enumerate_new (meets_enum1 b) ⟨h1, ?_⟩
  have hz : (s.heap.push o).objs.size = s.heap.objs.size + 1 := Heap.size_push ..
  show _ ∧ _
  rw [hz]
  have he : IsEnum ((s.heap.push o).push { cls := .type "enumerate", data := .fields #[.none, .bool false, .ref s.heap.objs.size, rawInt 0, .none, .none] }) (s.heap.objs.size + 1) s.heap.objs.size 0 .none := by
    have q := Heap.get?_push_size (s.heap.push o) (o := { cls := .type "enumerate", data := .fields #[.none, .bool false, .ref s.heap.objs.size, rawInt 0, .none, .none] }) rfl
    rw [hz] at q
    exact q
  exact ⟨⟨_, he, rfl⟩, h _ he (Heap.get?_push_of_some _ (Heap.get?_push_size _ b.free)) fun c o' x => Heap.get?_push_of_some _ (Heap.get?_push_of_some _ x)⟩
variable {X : Cx} {Φ : Calls} {a b tg : Expr} {pos : Pos} {ia ib : E}
def iEnumT (K : PySem.W.Frag) (ta : TA) : TI := fun σ H R => ta σ H fun vs H1 => ∃ a xs, vs = [.ref a] ∧ SqT K H1 a xs ∧ R (IteT K 0 a) H1
theorem pi_enumT {e : Expr} {ta : TA} {p tpos : Pos} {elts : List Expr} {kk : Nat} (hg : Gl X "enumerate") (hm : X.mg "enumerate" = none) (ha : PA X [e] ta) (hs : starEach [e] X.env = [(false, eval e X.env)] := by rfl) :
    PI X (.Tuple elts kk tpos) (.Call (.Name "enumerate" p) [e] [] pos) (iEnumT X.K ta) := ⟨fun pins s σ H R I h => by
  refine PyProof.Rows.Call_ (ld_blt I hg hm PyProof.Rows.boot_enumerate (PyProof.Rows.callWith_type1 (thn (ha.run pos pins s σ H _ I h) fun us s1 ⟨vs, H1, I1, r1, q1⟩ => ?_) hs rfl))
  obtain ⟨a, xs, ex, hq, q⟩ := q1
  subst ex
  cases r1 with
  | cons r rr =>
    cases rr
    cases r
    obtain ⟨its, rv, p', hz⟩ := I1.tuple hq
    refine enum_begins1 (begins_tuple a its.toArray) p' fun h' he hit hk => wpAny_pyIter_enum he ?_
    have I2 : L2.Inv X pins σ H1 { s1 with heap := h' } := I1.kept (t' := s1.toks) hk
    refine ⟨s1.heap.objs.size + 1, [s1.heap.objs.size + 1, s1.heap.objs.size], _, _, H1, rfl, I2, turn_enumT 0 a (s1.heap.objs.size + 1) s1.heap.objs.size, ⟨⟨.none, he⟩, ⟨_, hit, rfl, rfl⟩, Nat.succ_ne_self _⟩, fun c hc => ?_, q⟩
    have hle : s1.heap.objs.size ≤ c := by
      rcases List.mem_cons.mp hc with z | z
      · rw [z]; exact Nat.le_succ _
      · rw [List.mem_singleton.mp z]; exact Nat.le_refl _
    exact I1.fpOk hle (I1.hok.fresh hle)⟩
variable {K : PySem.W.Frag} {r : R} {d : D} {xs : List D}
theorem enum_getZ {k : Int} {xs : List D} {i : Nat} {e : D} (h : (enumFrom 0 xs)[i]? = some e) : ∃ d, xs[i]? = some d ∧ e = .tup [.int ((i : Nat) : Int), d] := by
  obtain ⟨d, h1, h2⟩ := enum_get h
  rw [Nat.zero_add] at h2
  exact ⟨d, h1, h2⟩
theorem Wk.enumT {a : Addr} : Wk K (IteT K 0 a) (Held K r (.tup xs) (.ref a)) (enumFrom 0 xs) where
  stop := fun S ρ σ H rel h i hi => by
    obtain ⟨p, vs, ep, h1, h2⟩ := (h.vd rel).t
    cases ep
    exact ⟨vs, h1, by rw [h2.length]; rw [enum_len] at hi; exact hi⟩
  go := fun S ρ σ H rel h i hi => by
    obtain ⟨p, vs, ep, h1, h2⟩ := (h.vd rel).t
    cases ep
    rw [enum_len] at hi
    have hi : i < vs.length := by rw [h2.length]; exact hi
    exact ⟨vs, vs[i], h1, List.getElem?_eq_getElem hi⟩
  yld := fun S ρ σ H i d' x H' rel h ei y => by
    obtain ⟨p, vs, ep, h1, h2⟩ := (h.vd rel).t
    cases ep
    obtain ⟨T, z, rfl, nT, rfl, y⟩ := y
    obtain ⟨d2, e2, rfl⟩ := enum_getZ (k := 0) ei
    obtain ⟨w, e1, h3⟩ := h2.get e2
    rw [y vs h1] at e1
    cases e1
    rw [Int.zero_add]
    exact ⟨_, .tup nT, Rp.mkTup nT (.cons (.int _) (.cons h3 .nil))⟩
  stay := fun S ρ σ H S' ρ' σ' H' rel h g _ => h.stay rel g
  wip := fun own S ρ σ H no h => h.wipe no
theorem di_enum {p tpos : Pos} {elts : List Expr} {kk : Nat} (hg : Gl X "enumerate") (hm : X.mg "enumerate" = none) (ha : PE X a (tD X.K (ev Φ ia))) (hs : starEach [a] X.env = [(false, eval a X.env)] := by rfl) :
    PI X (.Tuple elts kk tpos) (.Call (.Name "enumerate" p) [a] [] pos) (iD X.K (evit Φ (.enum ia))) := ⟨fun pins s σ H R I q => by
  obtain ⟨S, ρ, l, xs, ρ', rel, e, q⟩ := q
  simp only [evit] at e
  obtain ⟨x, d, ys, e1, v1, e2, rfl, rfl⟩ := itv_split (f := fun _ xs => (none, enumFrom 0 xs)) (g := fun _ xs => (none, xs)) e
  by_cases ht : ∃ zs, d = .tup zs
  · obtain ⟨zs, rfl⟩ := ht
    cases e2
    refine (pi_enumT hg hm (pa_cons ha pa_nil hs) hs).run pins s σ H R I ⟨S, ρ, x, ρ', rel, e1, fun S1 v H1 g1 rel1 r1 => ?_⟩
    obtain ⟨p, vs, ep, h1, h2⟩ := (r1.view rel1 v1).t
    have hd := held_of ⟨g1, rel1⟩ r1 v1
    subst ep
    exact ⟨p, vs, rfl, h1, q S1 H1 _ _ ⟨g1, rel1⟩ .enumT hd⟩
  · refine (pi_enum hg hm (pa_cons ha pa_nil hs) hs).run pins s σ H R I ⟨S, ρ, x, ρ', rel, e1, fun S1 v H1 g1 rel1 r1 => ?_⟩
    have hn : ∀ ys, d ≠ .tup ys := fun ys z => ht ⟨ys, z⟩
    obtain ⟨p, vs, ep, h1, h2⟩ := (r1.view rel1 v1).sq e2 hn
    have hd := held_of ⟨g1, rel1⟩ r1 v1
    subst ep
    exact ⟨p, vs, rfl, h1, q S1 H1 _ _ ⟨g1, rel1⟩ (.enum e2 hn) hd⟩⟩
end
end DL
end
section
set_option autoImplicit false
/-! DLl: statements. -/
namespace DL
open PySem L2
variable [LTabs]
/-- where a statement's end leads -/
def SEnd (K : PySem.W.Frag) (S : Addr → Prop) (ρ : Ev) (σ : St) (H : Hp) (ρ' : Ev) (D : Ends) : Fl → Prop
  | .nx => ∀ S' σ' H', Ac K S ρ σ H S' ρ' σ' H' → D.nx σ' H'
  | .bk => ∀ S' σ' H', Ac K S ρ σ H S' ρ' σ' H' → D.bk σ' H'
  | .ct => ∀ S' σ' H', Ac K S ρ σ H S' ρ' σ' H' → D.ct σ' H'
  | .rt r => ∀ S' σ' H' v, Ac K S ρ σ H S' ρ' σ' H' → Rv K S' H ρ' σ' H' v r → D.rt v H'
def tS (K : PySem.W.Frag) (m : M Fl) : TS := fun D σ H => ∃ S ρ fl ρ', Rel K S ρ σ H ∧ m ρ = .ok fl ρ' ∧ SEnd K S ρ σ H ρ' D fl
theorem psImp {X : Cx} {st : Stmt} {t t' : TS} (h : PS X st t) (i : ∀ D σ H, t' D σ H → t D σ H) : PS X st t' := ⟨fun pins s σ H D I q => h.run pins s σ H D I (i _ _ _ q)⟩
theorem pssImp {X : Cx} {st : List Stmt} {t t' : TS} (h : PSs X st t) (i : ∀ D σ H, t' D σ H → t D σ H) : PSs X st t' := ⟨fun pins s σ H D I q => h.run pins s σ H D I (i _ _ _ q)⟩
section
variable {K : PySem.W.Frag} {S S1 : Addr → Prop} {ρ ρ1 ρ2 : Ev} {σ σ1 : St} {H H1 : Hp} {D : Ends}
/-- an end, seen from an earlier point -/
theorem SEnd.from {fl : Fl} (a : Ac K S ρ σ H S1 ρ1 σ1 H1) (h : SEnd K S ρ σ H ρ2 D fl) : SEnd K S1 ρ1 σ1 H1 ρ2 D fl := by
  cases fl with
  | nx => exact fun S' σ' H' b => h S' σ' H' (a.trans b)
  | bk => exact fun S' σ' H' b => h S' σ' H' (a.trans b)
  | ct => exact fun S' σ' H' b => h S' σ' H' (a.trans b)
  | rt r => exact fun S' σ' H' v b rv => h S' σ' H' v (a.trans b) (rv.base a.go.stay)
/-- a name gets a result -/
theorem Ac.setR {i : Nat} {r : R} {v : V} {u : Unit} (a : Ac K S ρ σ H S1 ρ1 σ1 H1) (rv : Rv K S1 H ρ1 σ1 H1 v r) (e : DL.setR i r ρ1 = .ok u ρ2) : ∃ S2, Ac K S ρ σ H S2 ρ2 (σ1.set i (some v)) H1 ∧ Ke S1 H1 S2 H1 := by
  cases r with
  | fz d =>
    obtain ⟨w, q⟩ := setD_eq (show DL.setD i d ρ1 = Out.ok u ρ2 from e)
    subst q
    exact ⟨S1, a.setD w rv, fun _ h => h, fun _ _ _ h _ => h⟩
  | fr xs =>
    obtain ⟨w, q⟩ := setL_eq (show DL.setL i xs ρ1 = Out.ok u ρ2 from e)
    subst q
    exact ⟨S1, a.setL w rv, fun _ h => h, fun _ _ _ h _ => h⟩
  | rf j =>
    obtain ⟨d, ρ3, e1, e2⟩ := bnd_eq (show bnd (DL.share (.rf j)) (DL.setD i) ρ1 = Out.ok u ρ2 from e)
    obtain ⟨S2, a2, rp, ke⟩ := a.share rv e1
    obtain ⟨w, q⟩ := setD_eq e2
    subst q
    exact ⟨S2, a2.setD w rp, ke⟩
theorem Ac.setN {i : Nat} {r : R} {v : V} {u : Unit} (a : Ac K S ρ σ H S1 ρ1 σ1 H1) (hn : ∀ k, r ≠ .rf k) (rv : Rv K S1 H ρ1 σ1 H1 v r) (e : DL.setR i r ρ1 = .ok u ρ2) : Ac K S ρ σ H S1 ρ2 (σ1.set i (some v)) H1 := by
  cases r with
  | fz d =>
    obtain ⟨w, q⟩ := setD_eq (show DL.setD i d ρ1 = Out.ok u ρ2 from e)
    subst q
    exact a.setD w rv
  | fr xs =>
    obtain ⟨w, q⟩ := setL_eq (show DL.setL i xs ρ1 = Out.ok u ρ2 from e)
    subst q
    exact a.setL w rv
  | rf j => exact absurd rfl (hn j)
theorem unref_ok {H₀ : Hp} {v : V} {r t : R} (a : Ac K S ρ σ H S1 ρ1 σ1 H1) (rv : Rv K S1 H₀ ρ1 σ1 H1 v r) (e : unref r ρ1 = .ok t ρ2) : ∃ S2, Ac K S ρ σ H S2 ρ2 σ1 H1 ∧ Rv K S2 H₀ ρ2 σ1 H1 v t ∧ ∀ k, t ≠ .rf k := by
  cases r with
  | fz d =>
    obtain ⟨q1, q2⟩ := ret_eq (show DL.ret (R.fz d) ρ1 = .ok t ρ2 from e)
    subst q1 q2
    exact ⟨S1, a, rv, fun k z => nomatch z⟩
  | fr d =>
    obtain ⟨q1, q2⟩ := ret_eq (show DL.ret (R.fr d) ρ1 = .ok t ρ2 from e)
    subst q1 q2
    exact ⟨S1, a, rv, fun k z => nomatch z⟩
  | rf i =>
    obtain ⟨d, ρ3, e1, e2⟩ := bnd_eq (show bnd (DL.share (.rf i)) (fun d => DL.ret (R.fz d)) ρ1 = .ok t ρ2 from e)
    obtain ⟨q1, q2⟩ := ret_eq e2
    subst q1 q2
    obtain ⟨S2, at2, rp, ke⟩ := At.share (At.start a.rel) (x := .rf i) rv e1
    exact ⟨S2, a.trans at2.ac, rp, fun k z => nomatch z⟩
end
section
variable {X : Cx} {Φ : Calls} {a b c : Expr} {es : List Expr} {pos : Pos} {ia ib ic : E} {tg : Tg} {is js : Ss} {s1 : S} {st : Stmt} {sts : List Stmt}
theorem dss_nil : PSs X [] (tS X.K (execs Φ .nil)) := pssImp pss_nil fun D σ H q => by
  obtain ⟨S, ρ, fl, ρ', rel, e, q⟩ := q
  simp only [execs] at e
  obtain ⟨q1, q2⟩ := ret_eq e
  subst q1 q2
  exact q S σ H (Ac.start rel)
theorem dss_cons (h1 : PS X st (tS X.K (exec Φ s1))) (h2 : PSs X sts (tS X.K (execs Φ is))) : PSs X (st :: sts) (tS X.K (execs Φ (.cons s1 is))) := pssImp (pss_cons h1 h2) fun D σ H q => by
  obtain ⟨S, ρ, fl, ρ', rel, e, q⟩ := q
  simp only [execs] at e
  obtain ⟨f, ρ1, e1, k1⟩ := bnd_eq e
  refine ⟨S, ρ, f, ρ1, rel, e1, ?_⟩
  cases f with
  | nx => exact fun S1 σ1 H1 a1 => ⟨S1, ρ1, fl, ρ', a1.rel, k1, SEnd.from a1 q⟩
  | bk => obtain ⟨q1, q2⟩ := ret_eq k1; subst q1 q2; exact q
  | ct => obtain ⟨q1, q2⟩ := ret_eq k1; subst q1 q2; exact q
  | rt r => obtain ⟨q1, q2⟩ := ret_eq k1; subst q1 q2; exact q
theorem Ac.drop {K : PySem.W.Frag} {S : Addr → Prop} {ρ : Ev} {σ : St} {H : Hp} {ws : List Nat} (rel : Rel K S ρ σ H) (h : dropOk ρ ws = true) : Ac K S ρ σ H S (wipeS ρ ws) σ H := by
  have ls : ∀ (i : Nat) (k : Lk) (xs : List D), (wipeS ρ ws)[i]? = some (.ls k xs) → ρ[i]? = some (.ls k xs) := fun i k xs e => by
    by_cases hi : i ∈ ws
    · cases wipeS_in hi e
    · rw [wipeS_out hi] at e; exact e
  refine ⟨⟨fun _ h => h, fun _ h => .inl h, fun a ⟨i, k, xs, e1, e2⟩ => .inr ⟨i, k, xs, ls i k xs e1, e2⟩, fun _ _ h _ _ => h, fun _ h => h, fun i k xs e hk => ⟨xs, ?_, rfl, fun _ => rfl⟩⟩, ⟨?_, fun i s ov e e2 => ?_, fun i j k l xs ys a e1 e2 e3 e4 => rel.inj i j k l xs ys a (ls _ _ _ e1) (ls _ _ _ e2) e3 e4, rel.dom, rel.tb⟩⟩
  · by_cases hi : i ∈ ws
    · have := List.all_eq_true.mp h i hi
      rw [e] at this
      cases k with
      | own => exact absurd rfl hk
      | bor => cases this
      | lck => cases this
      | dic => cases this
    · rw [wipeS_out hi]; exact e
  · rw [wipeS_len]; exact rel.len
  · by_cases hi : i ∈ ws
    · cases wipeS_in hi e; exact True.intro
    · rw [wipeS_out hi] at e; exact rel.ok i s ov e e2
theorem dss_wip {ws : List Nat} (h2 : PSs X sts (tS X.K (execs Φ is))) : PSs X sts (tS X.K (execs Φ (.cons (.wip ws) is))) := pssImp h2 fun D σ H q => by
  obtain ⟨S, ρ, fl, ρ', rel, e, q⟩ := q
  simp only [execs, exec] at e
  obtain ⟨f, ρ1, e1, k1⟩ := bnd_eq e
  obtain ⟨_, ρ2, e2, k2⟩ := bnd_eq e1
  obtain ⟨q1, q2⟩ := ret_eq k2
  subst q1 q2
  have e2 : (if dropOk ρ ws then Out.ok () (wipeS ρ ws) else .stk) = .ok _ ρ1 := e2
  split at e2
  · rename_i hd
    cases e2
    have a1 := Ac.drop rel hd
    exact ⟨S, _, fl, ρ', a1.rel, k1, SEnd.from a1 q⟩
  · cases e2
theorem ds_ret (ha : PE X a (tD X.K (ev Φ ia))) : PS X (.Return (some a) pos) (tS X.K (exec Φ (.ret ia))) := psImp (ps_ret ha) fun D σ H q => by
  obtain ⟨S, ρ, fl, ρ', rel, e, q⟩ := q
  simp only [exec] at e
  obtain ⟨r, ρ1, e1, k1⟩ := bnd_eq e
  obtain ⟨q1, q2⟩ := ret_eq k1
  subst q1 q2
  exact ⟨S, ρ, r, _, rel, e1, fun S1 v H1 g1 rel1 r1 => q S1 σ H1 v ⟨g1, rel1⟩ r1⟩
theorem ds_ex (ha : PE X a (tD X.K (ev Φ ia))) (hs : swapsWith a none pos.line X.env = pure false := by rfl) : PS X (.Expr a pos) (tS X.K (exec Φ (.ex ia))) := psImp (ps_expr ha hs) fun D σ H q => by
  obtain ⟨S, ρ, fl, ρ', rel, e, q⟩ := q
  simp only [exec] at e
  obtain ⟨r, ρ1, e1, k1⟩ := bnd_eq e
  obtain ⟨q1, q2⟩ := ret_eq k1
  subst q1 q2
  exact ⟨S, ρ, r, _, rel, e1, fun S1 v H1 g1 rel1 r1 => q S1 σ H1 ⟨g1, rel1⟩⟩
theorem ds_if (hc : PT X c (tT X.K (evt Φ ic))) (h1 : PSs X sts (tS X.K (execs Φ is))) {ss2 : List Stmt} (h2 : PSs X ss2 (tS X.K (execs Φ js))) : PS X (.If c sts ss2 pos) (tS X.K (exec Φ (.ifs ic is js))) := psImp (ps_if hc h1 h2) fun D σ H q => by
  obtain ⟨S, ρ, fl, ρ', rel, e, q⟩ := q
  simp only [exec] at e
  obtain ⟨x, ρ1, e1, k1⟩ := bnd_eq e
  obtain ⟨d, v1, k2⟩ := vw1_split k1
  obtain ⟨k, e5, k3⟩ := ofO_split k2
  refine ⟨S, ρ, k, ρ1, rel, evt_mk e1 v1 e5, fun S1 b H1 g1 rel1 r1 => ?_⟩
  subst r1
  have a1 : Ac X.K S ρ σ H S1 ρ1 σ H1 := ⟨g1, rel1⟩
  cases b with
  | true => exact iteT ⟨S1, ρ1, fl, ρ', rel1, k3, SEnd.from a1 q⟩
  | false => exact iteF ⟨S1, ρ1, fl, ρ', rel1, k3, SEnd.from a1 q⟩
/-- x = e -/
theorem ds_nm {i : Nat} {t : Expr} (ht : PG X t (gName i)) (ha : PE X a (tD X.K (ev Φ ia))) (h1 : swapsWithSole [t] a pos.line X.env = pure false := by rfl) (h2 : swappedStores [t] a X.env = pure none := by rfl)
    (h3 : (assignEach [t] X.env).map (fun x => x.2) = [assign t X.env] := by rfl) : PS X (.Assign [t] a pos) (tS X.K (exec Φ (.asg (.nm i) ia))) := psImp (ps_asg ha ht h1 h2 h3) fun D σ H q => by
  obtain ⟨S, ρ, fl, ρ', rel, e, q⟩ := q
  simp only [exec] at e
  obtain ⟨r, ρ1, e1, k1⟩ := bnd_eq e
  obtain ⟨u, ρ2, e2, k2⟩ := bnd_eq k1
  obtain ⟨q1, q2⟩ := ret_eq k2
  subst q1 q2
  refine ⟨S, ρ, r, ρ1, rel, e1, fun S1 v H1 g1 rel1 r1 => ?_⟩
  obtain ⟨S2, a2, _⟩ := Ac.setR ⟨g1, rel1⟩ r1 (show setR i r ρ1 = .ok u _ from e2)
  exact q S2 _ H1 a2
/-- any other target -/
theorem ds_asg {t : Expr} (hn : ∀ i, tg ≠ .nm i) (ht : PG X t (gD X.K tg.slots (asgn Φ tg))) (ha : PE X a (tD X.K (ev Φ ia))) (h1 : swapsWithSole [t] a pos.line X.env = pure false := by rfl) (h2 : swappedStores [t] a X.env = pure none := by rfl)
    (h3 : (assignEach [t] X.env).map (fun x => x.2) = [assign t X.env] := by rfl) : PS X (.Assign [t] a pos) (tS X.K (exec Φ (.asg tg ia))) := psImp (ps_asg ha ht h1 h2 h3) fun D σ H q => by
  obtain ⟨S, ρ, fl, ρ', rel, e, q⟩ := q
  simp only [exec] at e
  obtain ⟨r, ρ1, e1, k1⟩ := bnd_eq e
  obtain ⟨u, ρ2, e2, k2⟩ := bnd_eq k1
  obtain ⟨q1, q2⟩ := ret_eq k2
  subst q1 q2
  have e2 : bnd (share r) (fun d => asgn Φ tg d) ρ1 = .ok u ρ' := by
    cases tg with
    | nm i => exact absurd rfl (hn i)
    | sub _ _ => exact e2
    | tp _ => exact e2
  obtain ⟨d, ρ3, e3, k3⟩ := bnd_eq e2
  refine ⟨S, ρ, r, ρ1, rel, e1, fun S1 v H1 g1 rel1 r1 => ?_⟩
  obtain ⟨S2, a2, rp, _⟩ := Ac.share ⟨g1, rel1⟩ r1 e3
  exact ⟨S2, ρ3, d, _, a2.rel, rp, k3, fun S3 σ3 H3 a3 _ => q S3 σ3 H3 (a2.trans a3)⟩
/-- x, y = e1, e2 -/
theorem ds_par {i j : Nat} {x y : Str} {px py pt pt2 : Pos} {kt k2 : Nat} (hc : X.calm = true) (hN : X.N.Nodup) (hi : X.N[i]? = some x) (hj : X.N[j]? = some y) (hij : i ≠ j) (lx : X.env.scope.names.lookup x = some .local) (ly : X.env.scope.names.lookup y = some .local)
    (ha : PE X a (tD X.K (ev Φ ia))) (hb : PE X b (tD X.K (ev Φ ib))) (h1 : starEach [a, b] X.env = (false, eval a X.env) :: starEach [b] X.env := by rfl) (h2 : starEach [b] X.env = (false, eval b X.env) :: starEach [] X.env := by rfl)
    (h3 : swappedStores [.Tuple [.Name x px, .Name y py] kt pt] (.Tuple [a, b] k2 pt2) X.env = pure (some [x, y]) := by rfl) (h4 : swapsWithSole [.Tuple [.Name x px, .Name y py] kt pt] (.Tuple [a, b] k2 pt2) pos.line X.env = pure false := by rfl) :
    PS X (.Assign [.Tuple [.Name x px, .Name y py] kt pt] (.Tuple [a, b] k2 pt2) pos) (tS X.K (exec Φ (.par i j ia ib))) := psImp (ps_par hc hN hi hj hij lx ly (pa_cons ha (pa_cons hb pa_nil h2) h1) h3 h4) fun D σ H q => by
  obtain ⟨S, ρ, fl, ρ', rel, e, q⟩ := q
  simp only [exec] at e
  obtain ⟨r1, ρ1, e1, k1⟩ := bnd_eq e
  obtain ⟨r2, ρ2, e2, k2⟩ := bnd_eq k1
  obtain ⟨t1, ρ3, e3, k3⟩ := bnd_eq k2
  obtain ⟨t2, ρ4, e4, k4⟩ := bnd_eq k3
  obtain ⟨u5, ρ5, e5, k5⟩ := bnd_eq k4
  obtain ⟨u6, ρ6, e6, k6⟩ := bnd_eq k5
  obtain ⟨q1, q2⟩ := ret_eq k6
  subst q1 q2
  refine ⟨S, ρ, r1, ρ1, rel, e1, fun S1 v H1 g1 rel1 w1 => ⟨S1, ρ1, r2, ρ2, rel1, e2, fun S2 u H2 g2 rel2 w2 => ⟨v, u, rfl, ?_⟩⟩⟩
  obtain ⟨S3, a3, x1, n1⟩ := unref_ok (Ac.start rel2) (w1.go rel1 g2) e3
  have y1 : Rv X.K S3 H1 ρ3 σ H2 u r2 := w2.go rel2 a3.go
  obtain ⟨S4, a4, y2, n2⟩ := unref_ok (Ac.start a3.rel) y1 e4
  have x2 := x1.go a3.rel a4.go
  have all4 : Ac X.K S ρ σ H S4 ρ4 σ H2 := ((⟨g1.trans g2, rel2⟩ : Ac X.K S ρ σ H S2 ρ2 σ H2).trans a3).trans a4
  have a5 := all4.setN n1 x2 e5
  -- the second value behind the first store
  have y3 : Rv X.K S4 H ρ5 (σ.set i (some v)) H2 u t2 := by
    cases t2 with
    | fz d => exact y2
    | rf k => exact absurd rfl (n2 k)
    | fr ys =>
      obtain ⟨p, vs, ep, h0, h1, h2, h3, h4⟩ := y2
      have own5 : ∀ z, Own ρ5 (σ.set i (some v)) z → Own ρ4 σ z ∨ H1 z ≠ none := fun z hz => by
        cases t1 with
        | rf k => exact absurd rfl (n1 k)
        | fz d =>
          obtain ⟨_, q⟩ := setD_eq (show setD i d ρ4 = .ok u5 ρ5 from e5)
          subst q
          obtain ⟨l, k, zs, z1, z2⟩ := hz
          by_cases h : i = l
          · subst h
            by_cases hb : i < ρ4.length
            · rw [List.getElem?_set_self hb] at z1; cases z1
            · rw [List.getElem?_eq_none (by rw [List.length_set]; omega)] at z1; cases z1
          · rw [List.getElem?_set_ne h] at z1 z2
            exact .inl ⟨l, k, zs, z1, z2⟩
        | fr xs =>
          obtain ⟨_, q⟩ := setL_eq (show setL i xs ρ4 = .ok u5 ρ5 from e5)
          subst q
          obtain ⟨l, k, zs, z1, z2⟩ := hz
          by_cases h : i = l
          · subst h
            by_cases hb : i < σ.length
            · rw [List.getElem?_set_self hb] at z2
              cases z2
              refine .inr ?_
              -- the first value stood ahead of the second's evaluation
              cases r1 with
              | fz d => cases (show ret (R.fz d) ρ2 = .ok (R.fr xs) ρ3 from e3)
              | rf k' =>
                obtain ⟨d, ρ9, f1, f2⟩ := bnd_eq (show bnd (share (.rf k')) (fun d => ret (.fz d)) ρ2 = .ok (R.fr xs) ρ3 from e3)
                obtain ⟨f3, _⟩ := ret_eq f2
                cases f3
              | fr xs' =>
                obtain ⟨p', vs', ep', _, h1', _⟩ := w1
                rw [ref_inj ep', h1']
                simp
            · rw [List.getElem?_eq_none (by rw [List.length_set]; omega)] at z2; cases z2
          · rw [List.getElem?_set_ne h] at z1 z2
            exact .inl ⟨l, k, zs, z1, z2⟩
      exact ⟨p, vs, ep, g1.stay p h0, h1, h2, fun z => (own5 p z).elim h3 fun n => n h0, h4⟩
  obtain ⟨S6, a6, _⟩ := a5.setR y3 e6
  exact q S6 _ H2 a6
/-- x += e, ints -/
theorem ds_aug {i : Nat} {x : Str} {op : Operator} {o : Bop} {f : Int → Int → Int} {pos' : Pos} (hN : X.N.Nodup) (hi : X.N[i]? = some x) (hx : L2.Loc X.env.scope x) (hop : PIp X op (ipI f)) (ho : ∀ i j, binD o (.int i) (.int j) = some (.fz (.int (f i j))))
    (ha : PE X a (tD X.K (ev Φ ia))) (hf : X.fn x = true ∨ X.env.scope.names.lookup x = some .local := by first | exact .inl rfl | exact .inr rfl) : PS X (.AugAssign (.Name x pos') op a pos) (tS X.K (exec Φ (.aug i o ia))) := psImp (ps_aug hN hi hx ha hop hf) fun D σ H q => by
  obtain ⟨S, ρ, fl, ρ', rel, e, q⟩ := q
  simp only [exec] at e
  obtain ⟨r1, ρ1, e1, k1⟩ := bnd_eq e
  obtain ⟨r2, ρ2, e2, k2⟩ := bnd_eq k1
  obtain ⟨d1, d2, v1, v2, k3⟩ := vw2_split k2
  cases d1 <;> (try (cases k3; done))
  cases d2 <;> (try (cases k3; done))
  rename_i m n
  obtain ⟨r3, e3, k4⟩ := ofO_split (show bnd (ofO (binD o (.int m) (.int n))) _ ρ2 = _ from k3)
  obtain ⟨u, ρ4, e4, k5⟩ := bnd_eq k4
  obtain ⟨q1, q2⟩ := ret_eq k5
  subst q1 q2
  rw [ho] at e3
  cases e3
  simp only [ev] at e1
  split at e1
  · rename_i d z
    cases e1
    cases v1
    obtain ⟨w, ew, rw'⟩ := rel.atF z
    cases rw'
    refine ⟨_, ew, S, _, r2, ρ2, rel, e2, fun S1 v H1 g1 rel1 w1 => ⟨m, n, rfl, (w1.view rel1 v2).i, ?_⟩⟩
    obtain ⟨wr, q3⟩ := setD_eq (show setD i (.int (f m n)) ρ2 = .ok u _ from e4)
    subst q3
    exact q S1 _ H1 ((⟨g1, rel1⟩ : Ac X.K S _ σ H S1 ρ2 σ H1).setD wr (.int _))
  · cases e1
  · rename_i k xs nk z
    cases e1
    have v1 : (match ρ2[i]? with | some (Sl.ls .dic _) => none | some (Sl.ls _ xs) => some (DL.D.lst xs) | _ => none) = some (DL.D.int m) := v1
    split at v1 <;> cases v1
  · cases e1
end
end DL
end
section
set_option autoImplicit false
/-! DLm: loops. -/
namespace DL
open PySem L2
variable [LTabs]
section
variable {K : PySem.W.Frag} {S S1 : Addr → Prop} {ρ ρ1 ρ2 : Ev} {σ σ1 : St} {H H1 : Hp} {D : Ends}
/-- the kind of a slot's list is turned -/
theorem Rel.kind {i : Nat} {k l : Lk} {xs : List DL.D} (rel : Rel K S ρ σ H) (e : ρ[i]? = some (.ls k xs)) (nk : k ≠ .dic) (nl : l ≠ .dic) : Rel K S (ρ.set i (.ls l xs)) σ H := by
  have hi : i < ρ.length := (List.getElem?_eq_some_iff.mp e).1
  have inv : ∀ (j : Nat) (m : Lk) (ys : List DL.D), (ρ.set i (.ls l xs))[j]? = some (.ls m ys) → ∃ m', ρ[j]? = some (.ls m' ys) := fun j m ys e1 => by
    by_cases h : i = j
    · subst h
      rw [List.getElem?_set_self hi] at e1
      cases e1
      exact ⟨k, e⟩
    · rw [List.getElem?_set_ne h] at e1
      exact ⟨m, e1⟩
  refine ⟨by rw [List.length_set]; exact rel.len, fun j s ov e1 e2 => ?_, fun j j' m m' ys zs a e1 e2 e3 e4 => ?_, rel.dom, rel.tb⟩
  · by_cases h : i = j
    · subst h
      rw [List.getElem?_set_self hi] at e1
      cases e1
      obtain ⟨p, ws, w1, w2, w3, w4⟩ := rel.atL e nk
      rw [w1] at e2
      cases e2
      exact .mkL nl rfl w2 w3 w4
    · rw [List.getElem?_set_ne h] at e1
      exact rel.ok j s ov e1 e2
  · obtain ⟨m1, q1⟩ := inv j m ys e1
    obtain ⟨m2, q2⟩ := inv j' m' zs e2
    exact rel.inj j j' m1 m2 ys zs a q1 q2 e3 e4
theorem Own.kind {i : Nat} {k l : Lk} {xs : List DL.D} (e : ρ[i]? = some (.ls k xs)) {a : Addr} : Own (ρ.set i (.ls l xs)) σ a ↔ Own ρ σ a := by
  have hi : i < ρ.length := (List.getElem?_eq_some_iff.mp e).1
  constructor
  · rintro ⟨j, m, ys, e1, e2⟩
    by_cases h : i = j
    · subst h
      rw [List.getElem?_set_self hi] at e1
      cases e1
      exact ⟨i, k, xs, e, e2⟩
    · rw [List.getElem?_set_ne h] at e1
      exact ⟨j, m, ys, e1, e2⟩
  · rintro ⟨j, m, ys, e1, e2⟩
    by_cases h : i = j
    · subst h
      rw [e] at e1
      cases e1
      exact ⟨i, l, xs, List.getElem?_set_self hi, e2⟩
    · exact ⟨j, m, ys, by rw [List.getElem?_set_ne h]; exact e1, e2⟩
/-- a run under a lock: opened again -/
theorem Ac.unlock {i : Nat} {k : Lk} {xs ys : List DL.D} (nk : k ≠ .dic) (e : ρ[i]? = some (.ls k xs)) (a : Ac K S (ρ.set i (.ls .lck xs)) σ H S1 ρ1 σ1 H1) (e1 : ρ1[i]? = some (.ls .lck ys)) : Ac K S ρ σ H S1 (ρ1.set i (.ls k ys)) σ1 H1 := by
  have hi : i < ρ.length := (List.getElem?_eq_some_iff.mp e).1
  have hi1 : i < ρ1.length := (List.getElem?_eq_some_iff.mp e1).1
  obtain ⟨zs, q1, q2, q3⟩ := a.go.fix i .lck xs (List.getElem?_set_self hi) (by simp)
  have ez : ys = xs := by
    rw [e1] at q1
    cases q1
    exact q3 rfl
  refine ⟨⟨a.go.sub, fun z h => (a.go.new z h).imp id (Or.imp id (Own.kind e).mp), fun z h => (a.go.own z ((Own.kind e1).mp h)).imp id (Own.kind e).mp, fun z o h n nt => a.go.keep z o h (nt := nt) fun w => n ((Own.kind e).mp w), a.go.stay, fun j m ws e2 n => ?_⟩, a.rel.kind e1 (by decide) nk⟩
  by_cases h : i = j
  · subst h
    rw [e] at e2
    cases e2
    exact ⟨ys, List.getElem?_set_self hi1, q2, fun _ => ez⟩
  · obtain ⟨us, w1, w2, w3⟩ := a.go.fix j m ws (by rw [List.getElem?_set_ne h]; exact e2) n
    exact ⟨us, by rw [List.getElem?_set_ne h]; exact w1, w2, w3⟩
theorem Rv.kind {i : Nat} {k l : Lk} {xs : List DL.D} {H₀ : Hp} {v : V} {r : R} (e : ρ[i]? = some (.ls k xs)) (h : Rv K S H₀ ρ σ H v r) : Rv K S H₀ (ρ.set i (.ls l xs)) σ H v r := by
  cases r with
  | fz d => exact h
  | fr ys => obtain ⟨a, vs, e1, h0, h1, h2, h3, h4⟩ := h; exact ⟨a, vs, e1, h0, h1, h2, fun z => h3 ((Own.kind e).mp z), h4⟩
  | rf j => exact h
/-- what withLock did -/
theorem lock_split {α : Type} {l : Option (Nat × Lk)} {m : M α} {x : α} (hl : ∀ i k, l = some (i, k) → ∃ xs, ρ[i]? = some (.ls k xs)) (h : withLock l m ρ = .ok x ρ2) :
    (l = none ∧ m ρ = .ok x ρ2) ∨ ∃ i k xs ys ρ1, l = some (i, k) ∧ ρ[i]? = some (.ls k xs) ∧ m (ρ.set i (.ls .lck xs)) = .ok x ρ1 ∧ (∃ k', ρ1[i]? = some (.ls k' ys)) ∧ ρ2 = ρ1.set i (.ls k ys) := by
  unfold withLock at h
  split at h
  · exact .inl ⟨rfl, h⟩
  · rename_i i k
    obtain ⟨xs, e⟩ := hl i k rfl
    rw [e] at h
    obtain ⟨a, ρ1, e1, h1⟩ := then_eq (show (m (ρ.set i (.ls .lck xs))).then _ = _ from h)
    split at h1
    · rename_i k' ys e2
      cases h1
      exact .inr ⟨i, k, xs, ys, ρ1, rfl, e, e1, ⟨k', e2⟩, rfl⟩
    · cases h1
theorem lockOf_ok {r : R} {i : Nat} {k : Lk} (h : lockOf ρ r = some (i, k)) : k ≠ .dic ∧ ∃ xs, ρ[i]? = some (.ls k xs) := by
  cases r with
  | fz _ => cases h
  | fr _ => cases h
  | rf j =>
    have h : (match ρ[j]? with | some (Sl.ls .dic _) => none | some (Sl.ls k _) => some (j, k) | _ => none) = some (i, k) := h
    split at h
    · cases h
    · rename_i k' xs nk e; cases h; exact ⟨by simpa using nk, xs, e⟩
    · cases h
end
/-- the kinds of walks lock what stands in a slot -/
theorem evit_lock {Φ : Calls} {it : DL.It} {ρ ρ' : Ev} {l : Option (Nat × Lk)} {xs : List DL.D} (h : evit Φ it ρ = .ok (l, xs) ρ') : ∀ i k, l = some (i, k) → k ≠ .dic ∧ ∃ xs, ρ'[i]? = some (.ls k xs) := by
  have one : ∀ {m : M R} {f : List DL.D → List DL.D}, bnd m (fun x => bnd (vw x) fun d => fun ρ => bnd (ofO (itemsD d)) (fun xs => ret (lockOf ρ x, f xs)) ρ) ρ = .ok (l, xs) ρ' → ∀ i k, l = some (i, k) → k ≠ .dic ∧ ∃ xs, ρ'[i]? = some (.ls k xs) := fun h i k e => by
    obtain ⟨x, d, ys, _, _, _, e1, _⟩ := itv_split (f := fun _ xs => (none, _)) (g := fun _ xs => (none, xs)) h
    exact lockOf_ok (e1.symm.trans e)
  have none_of : ∀ {m : M (Option (Nat × Lk) × List DL.D)}, (∀ ρ ρ' p, m ρ = .ok p ρ' → p.1 = none) → m ρ = .ok (l, xs) ρ' → ∀ i k, l = some (i, k) → k ≠ .dic ∧ ∃ xs, ρ'[i]? = some (.ls k xs) := fun hm h i k e => by
    have := hm _ _ _ h
    rw [show l = none from this] at e
    cases e
  cases it with
  | val e => simp only [evit] at h; exact one (f := id) h
  | enum e => simp only [evit] at h; exact one (f := enumFrom 0) h
  | rev e => simp only [evit] at h; exact one (f := List.reverse) h
  | rng1 e =>
    simp only [evit] at h
    intro i k e
    obtain ⟨x, ρ1, e1, h1⟩ := bnd_eq h
    obtain ⟨d, v1, h2⟩ := vw1_split h1
    cases d <;> (try (cases h2; done))
    rename_i j
    have h2 : (if small62 j = true then ret (none, rngL 0 j) else stuck) ρ1 = .ok (l, xs) ρ' := h2
    split at h2
    · obtain ⟨q1, _⟩ := ret_eq h2
      cases q1
      cases e
    · cases h2
  | rng2 a b =>
    simp only [evit] at h
    intro i k e
    obtain ⟨x, ρ1, e1, h1⟩ := bnd_eq h
    obtain ⟨y, ρ2, e2, h2⟩ := bnd_eq h1
    obtain ⟨d, f, v1, v2, h3⟩ := vw2_split h2
    cases d <;> (try (cases h3; done))
    cases f <;> (try (cases h3; done))
    rename_i m n
    have h3 : (if (small62 m && small62 n) = true then ret (none, rngL m n) else stuck) ρ2 = .ok (l, xs) ρ' := h3
    split at h3
    · obtain ⟨q1, _⟩ := ret_eq h3
      cases q1
      cases e
    · cases h3
  | rngD a b =>
    simp only [evit] at h
    intro i k e
    obtain ⟨x, ρ1, e1, h1⟩ := bnd_eq h
    obtain ⟨y, ρ2, e2, h2⟩ := bnd_eq h1
    obtain ⟨d, f, v1, v2, h3⟩ := vw2_split h2
    cases d <;> (try (cases h3; done))
    cases f <;> (try (cases h3; done))
    rename_i m n
    have h3 : (if (small62 m && small62 n) = true then ret (none, rngDL m n) else stuck) ρ2 = .ok (l, xs) ρ' := h3
    split at h3
    · obtain ⟨q1, _⟩ := ret_eq h3
      cases q1
      cases e
    · cases h3
  | enumZ a b =>
    simp only [evit] at h
    intro i k e
    obtain ⟨x, ρ1, e1, h1⟩ := bnd_eq h
    obtain ⟨d, ρ2, e2, h2⟩ := bnd_eq h1
    obtain ⟨y, ρ3, e3, h3⟩ := bnd_eq h2
    obtain ⟨f, ρ4, e4, h4⟩ := bnd_eq h3
    cases d <;> (try (cases h4; done))
    cases f <;> (try (cases h4; done))
    obtain ⟨q1, _⟩ := ret_eq h4
    cases q1
    cases e
  | zip a b =>
    simp only [evit] at h
    intro i k e
    obtain ⟨x, ρ1, e1, h1⟩ := bnd_eq h
    obtain ⟨d, ρ2, e2, h2⟩ := bnd_eq h1
    obtain ⟨y, ρ3, e3, h3⟩ := bnd_eq h2
    obtain ⟨f, ρ4, e4, h4⟩ := bnd_eq h3
    obtain ⟨zs, _, h5⟩ := ofO_split h4
    obtain ⟨q1, _⟩ := ret_eq h5
    cases q1
    cases e
  | zip3 a b c =>
    simp only [evit] at h
    intro i k e
    obtain ⟨x, ρ1, e1, h1⟩ := bnd_eq h
    obtain ⟨d, ρ2, e2, h2⟩ := bnd_eq h1
    obtain ⟨y, ρ3, e3, h3⟩ := bnd_eq h2
    obtain ⟨f, ρ4, e4, h4⟩ := bnd_eq h3
    obtain ⟨z, ρ5, e5, h5⟩ := bnd_eq h4
    obtain ⟨g, ρ6, e6, h6⟩ := bnd_eq h5
    cases d <;> (try (cases h6; done))
    cases f <;> (try (cases h6; done))
    cases g <;> (try (cases h6; done))
    obtain ⟨q1, _⟩ := ret_eq h6
    cases q1
    cases e
section
variable {X : Cx} {Φ : Calls} {a b c : Expr} {es : List Expr} {pos : Pos} {ia ib ic : E} {tg : Tg} {is js : Ss} {t iter : Expr} {it : DL.It} {body : List Stmt}
/-- the loop from some turn on -/
theorem for_loop {J : L2.It} {Src : SrcT} {xs : List DL.D} {g : TG} {tb : TS} {K : PySem.W.Frag} {S : Addr → Prop} {ρ ρ2 : Ev} {σ : St} {H : Hp} {D : Ends} {fl : Fl} {sl : List Nat} {m : DL.D → M Unit} {bd : M Fl} (w : Wk K J Src xs)
    (hg : ∀ v σ H Q, gD K sl m v σ H Q → g v σ H Q) (hb : ∀ D σ H, tS K bd D σ H → tb D σ H) (rel : Rel K S ρ σ H) (src : Src S ρ σ H)
    (e : forL (fun x => bnd (m x) fun _ => bd) xs ρ = .ok fl ρ2) (nb : fl = .nx ∨ ∃ r, fl = .rt r) (q : SEnd K S ρ σ H ρ2 D fl) :
    ∃ W : Nat → Nat → St → Hp → Prop, (∃ m, W 0 m σ H) ∧ ∀ i m σ' H', W i m σ' H' → (J.stop i H' ∧ D.nx σ' H') ∨ (J.go i H' ∧ ∃ N : St → Hp → Prop, (∀ σ2 H2, N σ2 H2 → ∃ m', m' < m ∧ W (i + 1) m' σ2 H2) ∧
      ∀ x H2, J.yld i H' x H2 → g x σ' H2 fun σ3 H3 => tb { nx := N, rt := D.rt, bk := D.nx, ct := N } σ3 H3) := by
  refine ⟨fun i n σ' H' => i + n = xs.length ∧ ∃ S' ρ', Ac K S ρ σ H S' ρ' σ' H' ∧ forL (fun x => bnd (m x) fun _ => bd) (xs.drop i) ρ' = .ok fl ρ2, ⟨xs.length, Nat.zero_add _, S, ρ, Ac.start rel, e⟩, fun i n σ' H' hW => ?_⟩
  obtain ⟨hn, S', ρ', ac, e'⟩ := hW
  have src' := w.stay _ _ _ _ _ _ _ _ rel src ac.go ac.rel
  by_cases hi : i < xs.length
  · refine .inr ⟨w.go _ _ _ _ ac.rel src' i hi, fun σ2 H2 => ∃ S2 ρ3, Ac K S ρ σ H S2 ρ3 σ2 H2 ∧ forL (fun x => bnd (m x) fun _ => bd) (xs.drop (i + 1)) ρ3 = .ok fl ρ2, fun σ2 H2 ⟨S2, ρ3, a2, e2⟩ => ⟨n - 1, by omega, by omega, S2, ρ3, a2, e2⟩, fun x H2 hy => ?_⟩
    have hd : xs[i]? = some xs[i] := List.getElem?_eq_getElem hi
    obtain ⟨S2, gn, rp⟩ := w.yld _ _ _ _ _ _ _ _ ac.rel src' hd hy
    have a2 : Ac K S ρ σ H S2 ρ' σ' H2 := ac.trans ⟨gn.go, ac.rel.gn gn⟩
    rw [List.drop_eq_getElem_cons hi] at e'
    obtain ⟨f, ρ4, e4, k4⟩ := bnd_eq (show bnd (bnd (m xs[i]) fun _ => bd) _ ρ' = _ from e')
    obtain ⟨u, ρ5, e5, k5⟩ := bnd_eq e4
    refine hg x σ' H2 _ ⟨S2, ρ', xs[i], ρ5, a2.rel, rp, e5, fun S3 σ3 H3 a3 _ => hb _ _ _ ⟨S3, ρ5, f, ρ4, a3.rel, k5, ?_⟩⟩
    have a23 := a2.trans a3
    cases f with
    | nx => exact fun S6 σ6 H6 a6 => ⟨S6, ρ4, a23.trans a6, k4⟩
    | ct => exact fun S6 σ6 H6 a6 => ⟨S6, ρ4, a23.trans a6, k4⟩
    | bk =>
      obtain ⟨q1, q2⟩ := ret_eq (show ret Fl.nx ρ4 = .ok fl ρ2 from k4)
      subst q1 q2
      exact fun S6 σ6 H6 a6 => q S6 σ6 H6 (a23.trans a6)
    | rt r =>
      obtain ⟨q1, q2⟩ := ret_eq (show ret (Fl.rt r) ρ4 = .ok fl ρ2 from k4)
      subst q1 q2
      exact fun S6 σ6 H6 v a6 rv => q S6 σ6 H6 v (a23.trans a6) (rv.base a23.go.stay)
  · refine .inl ⟨w.stop _ _ _ _ ac.rel src' i (by omega), ?_⟩
    rw [List.drop_eq_nil_of_le (by omega)] at e'
    obtain ⟨q1, q2⟩ := ret_eq (show ret Fl.nx ρ' = .ok fl ρ2 from e')
    subst q1 q2
    exact q S' σ' H' ac
theorem forL_end {step : DL.D → M Fl} : ∀ {xs : List DL.D} {ρ ρ' : Ev} {fl : Fl}, forL step xs ρ = .ok fl ρ' → fl = .nx ∨ ∃ r, fl = .rt r
  | [], ρ, ρ', fl, h => by obtain ⟨q, _⟩ := ret_eq (show ret Fl.nx ρ = .ok fl ρ' from h); exact .inl q
  | x :: r, ρ, ρ', fl, h => by
    obtain ⟨f, ρ1, e1, k1⟩ := bnd_eq (show bnd (step x) _ ρ = _ from h)
    cases f with
    | nx => exact forL_end (xs := r) k1
    | ct => exact forL_end (xs := r) k1
    | bk => obtain ⟨q, _⟩ := ret_eq (show ret Fl.nx ρ1 = .ok fl ρ' from k1); exact .inl q
    | rt r => obtain ⟨q, _⟩ := ret_eq (show ret (Fl.rt r) ρ1 = .ok fl ρ' from k1); exact .inr ⟨r, q⟩
/-- for t in iter: body -/
theorem ds_for (hp : PassesOwn (model X.prog X.w) X.A X.env X.xe) (hc : X.calm = true) (hi : PI X t iter (iD X.K (evit Φ it))) (ht : PG X t (gD X.K tg.slots (asgn Φ tg))) (hb : PSs X body (tS X.K (execs Φ is))) (hf : ∀ (x : Value), foldedSetIterable iter X.env x = pure x := by intro _; rfl) :
    PS X (.For t iter body [] pos) (tS X.K (exec Φ (.for_ tg it is))) := psImp (ps_for hp hc hi ht hb hf) fun D σ H q => by
  obtain ⟨S, ρ, fl, ρ', rel, e, q⟩ := q
  simp only [exec] at e
  obtain ⟨⟨l, xs⟩, ρ1, e1, k1⟩ := bnd_eq e
  refine ⟨S, ρ, l, xs, ρ1, rel, e1, fun S1 H1 J Src at1 w src => ?_⟩
  have a1 := at1.ac
  rcases lock_split (fun i k z => (evit_lock e1 i k z).2) (show withLock l _ ρ1 = _ from k1) with ⟨rfl, k2⟩ | ⟨i, k, ys, zs, ρ2, rfl, e2, k2, ⟨k', e3⟩, rfl⟩
  · exact for_loop w (fun _ _ _ _ h => h) (fun _ _ _ h => h) a1.rel src k2 (forL_end k2) (SEnd.from a1 q)
  · have hk : locked (some (i, k)) ρ1 = ρ1.set i (.ls .lck ys) := by
      show (match ρ1[i]? with | some (.ls _ xs) => ρ1.set i (.ls .lck xs) | _ => ρ1) = _
      rw [e2]
    rw [hk] at src
    have nd := (evit_lock e1 i k rfl).1
    have relL : Rel X.K S1 (ρ1.set i (.ls .lck ys)) σ H1 := a1.rel.kind e2 nd (by decide)
    have unl : ∀ {S' σ' H'}, Ac X.K S1 (ρ1.set i (.ls .lck ys)) σ H1 S' ρ2 σ' H' → Ac X.K S ρ σ H S' (ρ2.set i (.ls k zs)) σ' H' ∧ ρ2[i]? = some (.ls .lck zs) := fun {S' σ' H'} a => by
      obtain ⟨us, w1, _, _⟩ := a.go.fix i .lck ys (List.getElem?_set_self (List.getElem?_eq_some_iff.mp e2).1) (by simp)
      rw [e3] at w1
      cases w1
      exact ⟨a1.trans (a.unlock nd e2 e3), e3⟩
    have nb := forL_end k2
    refine for_loop w (fun _ _ _ _ h => h) (fun _ _ _ h => h) relL src k2 nb ?_
    rcases nb with rfl | ⟨r, rfl⟩
    · exact fun S' σ' H' a => q S' σ' H' (unl a).1
    · exact fun S' σ' H' v a rv => q S' σ' H' v (unl a).1 ((rv.base a1.go.stay).kind (unl a).2)
/-- while c: body -/
theorem ds_whl (hp : PassesOwn (model X.prog X.w) X.A X.env X.xe) (hc : PT X c (tT X.K (evt Φ ic))) (hb : PSs X body (tS X.K (execs Φ is))) : PS X (.While c body [] pos) (tS X.K (exec Φ (.whl ic is))) := psImp (ps_while hp hc hb) fun D σ H q => by
  obtain ⟨S, ρ, fl, ρ', rel, e, q⟩ := q
  simp only [exec] at e
  refine ⟨fun n σ' H' => ∃ S' ρ1, Ac X.K S ρ σ H S' ρ1 σ' H' ∧ whileN (evt Φ ic) (execs Φ is) n ρ1 = .ok fl ρ', ⟨fuelW, S, ρ, Ac.start rel, e⟩, fun n σ' H' hW => ?_⟩
  obtain ⟨S', ρ1, ac, e1⟩ := hW
  cases n with
  | zero => cases e1
  | succ n =>
    obtain ⟨k, ρ2, e2, k2⟩ := bnd_eq (show bnd (evt Φ ic) _ ρ1 = _ from e1)
    refine ⟨S', ρ1, k, ρ2, ac.rel, e2, fun S3 b H3 g3 rel3 r3 => ?_⟩
    subst r3
    have a3 : Ac X.K S ρ σ H S3 ρ2 σ' H3 := ac.trans ⟨g3, rel3⟩
    cases b with
    | true =>
      obtain ⟨f, ρ4, e4, k4⟩ := bnd_eq (show bnd (execs Φ is) _ ρ2 = _ from k2)
      refine iteT ⟨fun σ2 H2 => ∃ S2 ρ3, Ac X.K S ρ σ H S2 ρ3 σ2 H2 ∧ whileN (evt Φ ic) (execs Φ is) n ρ3 = .ok fl ρ', fun σ2 H2 h => ⟨n, Nat.lt_succ_self _, h⟩, S3, ρ2, f, ρ4, rel3, e4, ?_⟩
      cases f with
      | nx => exact fun S6 σ6 H6 a6 => ⟨S6, ρ4, a3.trans a6, k4⟩
      | ct => exact fun S6 σ6 H6 a6 => ⟨S6, ρ4, a3.trans a6, k4⟩
      | bk =>
        obtain ⟨q1, q2⟩ := ret_eq (show ret Fl.nx ρ4 = .ok fl ρ' from k4)
        subst q1 q2
        exact fun S6 σ6 H6 a6 => q S6 σ6 H6 (a3.trans a6)
      | rt r =>
        obtain ⟨q1, q2⟩ := ret_eq (show ret (Fl.rt r) ρ4 = .ok fl ρ' from k4)
        subst q1 q2
        exact fun S6 σ6 H6 v a6 rv => q S6 σ6 H6 v (a3.trans a6) (rv.base a3.go.stay)
    | false =>
      obtain ⟨q1, q2⟩ := ret_eq (show ret Fl.nx ρ2 = .ok fl ρ' from k2)
      subst q1 q2
      exact iteF (q S3 σ' H3 a3)
end
end DL
end
section
set_option autoImplicit false
/-! DLn: list comprehensions. -/
namespace DL
open PySem L2
variable [LTabs]
section
variable {X : Cx} {Φ : Calls} {a b c : Expr} {pos : Pos} {ie ic : E} {tg : Tg} {t iter elt : Expr} {it : DL.It} {own : List Nat}
/-- an optional test -/
theorem dts_none : PTs X [] (tT X.K (evc Φ .none)) := ⟨fun pins s σ H Q I q => by
  obtain ⟨S, ρ, r, ρ', rel, e, q⟩ := q
  simp only [evc] at e
  obtain ⟨q1, q2⟩ := ret_eq e
  subst q1 q2
  exact pts_nil.run pins s σ H Q I (q S _ H .refl rel rfl)⟩
/-- one turn's meaning -/
def compStep (Φ : Calls) (own : List Nat) (tg : Tg) (cond : Eo) (elt : E) : D → M (Option D) := fun x => bnd (asgn Φ tg x) fun _ => bnd (evc Φ cond) fun k =>
  if k then bnd (ev Φ elt) fun r => bnd (share r) fun y => bnd (wipeM own) fun _ => ret (some y) else bnd (wipeM own) fun _ => ret none
theorem Go.temp {S S' : Addr → Prop} {ρ ρ' : Ev} {σ σ' : St} {H H' : Hp} {Da : Addr} {o : HO} (g : Go S ρ σ H S' ρ' σ' H') (h0 : H Da = none) : Go S ρ σ H S' ρ' σ' (upd H' Da o) :=
  ⟨g.sub, g.new, g.own, fun a u h n nt => by rw [upd_ne (ne_of_none h h0)]; exact g.keep a u h n nt, fun a h => by
    by_cases e : a = Da
    · rw [e, upd_same] at h; cases h
    · rw [upd_ne e] at h; exact g.stay a h, g.fix⟩
theorem Rel.temp {K : PySem.W.Frag} {S : Addr → Prop} {ρ : Ev} {σ : St} {H : Hp} {Da : Addr} {o : HO} (rel : Rel K S ρ σ H) (h1 : ¬ S Da) (h2 : ¬ Own ρ σ Da) (tb : LTb (upd H Da o)) : Rel K S ρ σ (upd H Da o) := by
  have ke : Ke S H S (upd H Da o) := ⟨fun _ h => h, fun a u s h _ => by
    have na : a ≠ Da := fun z => h1 (by rw [← z]; exact s)
    rw [upd_ne na]; exact h⟩
  refine ⟨rel.len, fun i s ov e1 e2 => ?_, rel.inj, fun a h => ?_, tb⟩
  · have w := rel.ok i s ov e1 e2
    cases s with
    | un => trivial
    | fz d => obtain ⟨v, ev, hv⟩ := w; exact ⟨v, ev, hv.mono ke⟩
    | ls k xs =>
      obtain ⟨a, ea, q2, q1⟩ := w
      subst ea
      have na : a ≠ Da := fun z => h2 (by rw [← z]; exact ⟨i, k, xs, e1, e2⟩)
      exact ⟨a, rfl, q2, hold_mono q1 (fun o h _ => by rw [upd_ne na]; exact h) ke⟩
  · by_cases e : a = Da
    · exact absurd (e ▸ h) h1
    · rw [upd_ne e]; exact rel.dom a h
theorem wipeS_idem (ρ : Ev) (vs : List Nat) : wipeS (wipeS ρ vs) vs = wipeS ρ vs := by
  refine List.ext_getElem? fun i => ?_
  by_cases hi : i ∈ vs
  · cases e : (wipeS (wipeS ρ vs) vs)[i]? with
    | none =>
      have h := List.getElem?_eq_none_iff.mp e
      rw [wipeS_len] at h
      exact (List.getElem?_eq_none h).symm
    | some s =>
      cases wipeS_in hi e
      have h := (List.getElem?_eq_some_iff.mp e).1
      rw [wipeS_len] at h
      have e2 := List.getElem?_eq_getElem h
      have e3 := wipeS_in hi e2
      rw [e2, e3]
  · rw [wipeS_out hi]
theorem wipeV_idem (σ : St) (vs : List Nat) : wipe (wipe σ vs) vs = wipe σ vs := wipeV_eq (wipe_length σ vs) fun _ _ => rfl
theorem wipeS_ok {ρ : Ev} {own : List Nat} : ∀ i ∈ own, ∀ k zs, (wipeS ρ own)[i]? ≠ some (.ls k zs) := fun i hi k zs e => by cases wipeS_in hi e
/-- the turns from some place on, the list so far at Da -/
theorem comp_loop {K : PySem.W.Frag} {J : L2.It} {Src : SrcT} {xs ys : List D} {g : TG} {tt : TT} {te : TE} {S : Addr → Prop} {ρ ρ2 : Ev} {σ : St} {H : Hp} {cond : Eo} {elt : E} {Qd : Hp → Prop} {Da : Addr} (w : Wk K J Src xs)
    (hg : ∀ v σ H Q, gD K tg.slots (asgn Φ tg) v σ H Q → g v σ H Q) (ht : ∀ σ H Q, tT K (evc Φ cond) σ H Q → tt σ H Q) (he : ∀ σ H Q, tD K (ev Φ elt) σ H Q → te σ H Q) (hs : ∀ i ∈ tg.slots, i ∈ own)
    (rel : Rel K S (wipeS ρ own) (wipe σ own) H) (src : Src S (wipeS ρ own) (wipe σ own) H) (hD : H Da = none)
    (e : cmpL (compStep Φ own tg cond elt) xs [] (wipeS ρ own) = .ok ys ρ2)
    (q : ∀ S' H', Ac K S (wipeS ρ own) (wipe σ own) H S' ρ2 (wipe σ own) H' → Rv K S' (fun _ => none) ρ2 (wipe σ own) H' (.ref Da) (.fr ys) → Qd H') :
    ∃ W : Nat → Nat → Hp → Prop, (∃ m, W 0 m (upd H Da (.lst []))) ∧ ∀ i m H', W i m H' → (J.stop i H' ∧ Qd H') ∨ (J.go i H' ∧ ∃ Nx : Hp → Prop, (∀ H2, Nx H2 → ∃ m', m' < m ∧ W (i + 1) m' H2) ∧
      ∀ x H2, J.yld i H' x H2 → g x (wipe σ own) H2 fun σ3 H3 => wipe σ3 own = wipe σ own ∧ tt σ3 H3 fun b H4 => if b = true then te σ3 H4 fun y H5 => ∃ acc, H5 Da = some (.lst acc) ∧ acc.length < sizeLine ∧ Nx (upd H5 Da (.lst (acc ++ [y]))) else Nx H4) := by
  -- the state between the turns
  refine ⟨fun i n H' => i + n = xs.length ∧ ∃ S' ρ' ds, Ac K S (wipeS ρ own) (wipe σ own) H S' ρ' (wipe σ own) H' ∧ wipeS ρ' own = ρ' ∧ Rv K S' (fun _ => none) ρ' (wipe σ own) H' (.ref Da) (.fr ds) ∧
      cmpL (compStep Φ own tg cond elt) (xs.drop i) ds ρ' = .ok ys ρ2, ⟨xs.length, Nat.zero_add _, S, _, [], ⟨(Gn.lst hD).go, rel.gn (Gn.lst hD)⟩, wipeS_idem _ _, ⟨Da, [], rfl, rfl, upd_same, fun z => rel.dom Da z hD, (fun z => by
        obtain ⟨us, eu⟩ := rel.own_lst z
        rw [hD] at eu
        cases eu), .nil⟩, e⟩, fun i n H' hW => ?_⟩
  obtain ⟨hn, S', ρ', ds, ac1, wi, t1, e'⟩ := hW
  have src' := w.stay _ _ _ _ _ _ _ _ rel src ac1.go ac1.rel
  by_cases hi : i < xs.length
  · refine .inr ⟨w.go _ _ _ _ ac1.rel src' i hi, fun H2 => ∃ S2 ρ3 es, Ac K S (wipeS ρ own) (wipe σ own) H S2 ρ3 (wipe σ own) H2 ∧ wipeS ρ3 own = ρ3 ∧ Rv K S2 (fun _ => none) ρ3 (wipe σ own) H2 (.ref Da) (.fr es) ∧
        cmpL (compStep Φ own tg cond elt) (xs.drop (i + 1)) es ρ3 = .ok ys ρ2, fun H2 h => ⟨n - 1, by omega, by omega, h⟩, fun x H2 hy => ?_⟩
    have hd : xs[i]? = some xs[i] := List.getElem?_eq_getElem hi
    obtain ⟨S2, gn, rp⟩ := w.yld _ _ _ _ _ _ _ _ ac1.rel src' hd hy
    have rel2 := ac1.rel.gn gn
    have t2 := Rv.go4 ac1.rel (gn.go (ρ := ρ') (σ := wipe σ own)) t1
    rw [List.drop_eq_getElem_cons hi] at e'
    obtain ⟨o, ρ4, e4, k4⟩ := bnd_eq (show bnd (compStep Φ own tg cond elt xs[i]) _ ρ' = _ from e')
    obtain ⟨u, ρ5, e5, k5⟩ := bnd_eq (show bnd (asgn Φ tg xs[i]) _ ρ' = _ from e4)
    obtain ⟨bb, ρ6, e6, k6⟩ := bnd_eq k5
    refine hg x _ H2 _ ⟨S2, ρ', xs[i], ρ5, rel2, rp, e5, fun S3 σ3 H3 a3 s3 => ?_⟩
    have ws : wipe σ3 own = wipe σ own := wipeV_eq (s3.1.trans (wipe_length σ own)) fun j hj => s3.2 j fun z => hj (hs j z)
    have t3 := Rv.go4 rel2 a3.go t2
    refine ⟨ws, ht _ _ _ ⟨S3, ρ5, bb, ρ6, a3.rel, e6, fun S4 b H4 g4 rel4 eb => ?_⟩⟩
    subst eb
    have t4 := Rv.go4 a3.rel g4 t3
    have ac4 : Ac K S (wipeS ρ own) (wipe σ own) H S4 ρ6 σ3 H4 := (ac1.trans ⟨gn.go, rel2⟩).trans (a3.trans ⟨g4, rel4⟩)
    -- the next turn's state, from the end of this one
    have fin : ∀ {S7 : Addr → Prop} {ρ7 : Ev} {H7 : Hp} {es : List D}, Ac K S (wipeS ρ own) (wipe σ own) H S7 ρ7 σ3 H7 → Rv K S7 (fun _ => none) ρ7 σ3 H7 (.ref Da) (.fr es) → (∀ i ∈ own, ∀ k zs, ρ7[i]? ≠ some (.ls k zs)) →
        Ac K S (wipeS ρ own) (wipe σ own) H S7 (wipeS ρ7 own) (wipe σ own) H7 ∧ Rv K S7 (fun _ => none) (wipeS ρ7 own) (wipe σ own) H7 (.ref Da) (.fr es) := fun {S7 ρ7 H7 es} a7 t7 no => by
      have g7 := a7.go.wipe no wipeS_ok
      rw [wipeS_idem, wipeV_idem, ws] at g7
      have r7 := a7.rel.wipe no
      rw [ws] at r7
      obtain ⟨p, vs, ep, _, q1, q2, q3, q4⟩ := t7
      refine ⟨⟨g7, r7⟩, p, vs, ep, rfl, q1, q2, fun z => q3 ?_, q4⟩
      rw [← ws] at z
      exact (Own.wipe no).mp z
    cases b with
    | true =>
      obtain ⟨r, ρ7, e7, k7⟩ := bnd_eq (show bnd (ev Φ elt) _ ρ6 = _ from k6)
      obtain ⟨y, ρ8, e8, k8⟩ := bnd_eq k7
      obtain ⟨u9, ρ9, e9, k9⟩ := bnd_eq k8
      obtain ⟨q1, q2⟩ := ret_eq k9
      subst q1 q2
      obtain ⟨no, q9⟩ := wipeM_eq e9
      subst q9
      refine iteT (he _ _ _ ⟨S4, ρ6, r, ρ7, rel4, e7, fun S5 v H5 g5 rel5 r5 => ?_⟩)
      obtain ⟨S6, at6, rp6, _⟩ := At.share ⟨g5, rel5⟩ r5 e8
      have t6 := Rv.go4 rel4 at6.go t4
      obtain ⟨a6, t6⟩ := fin (ac4.trans at6.ac) t6 no
      obtain ⟨p, vs, ep, _, h1, h2, h3, h4⟩ := t6
      cases ep
      have k4 : (if ds.length < sizeLine then cmpL (compStep Φ own tg cond elt) (xs.drop (i + 1)) (ds ++ [y]) else stuck) (wipeS ρ8 own) = .ok ys ρ2 := k4
      split at k4
      · rename_i hz
        have ke : Ke S6 H5 S6 (upd H5 Da (.lst (vs ++ [v]))) := ⟨fun _ h => h, fun a u s h _ => by
          have na : a ≠ Da := fun z => h2 (by rw [← z]; exact s)
          rw [upd_ne na]; exact h⟩
        exact ⟨vs, h1, by rw [h4.length]; exact hz, S6, _, ds ++ [y], ⟨a6.go.temp hD, a6.rel.temp h2 h3 (a6.rel.tb.set h1)⟩, wipeS_idem _ _, ⟨Da, vs ++ [v], rfl, rfl, upd_same, h2, h3, (h4.append (.cons rp6 .nil)).mono ke⟩, k4⟩
      · cases k4
    | false =>
      obtain ⟨u9, ρ9, e9, k9⟩ := bnd_eq (show bnd (wipeM own) _ ρ6 = _ from k6)
      obtain ⟨q1, q2⟩ := ret_eq k9
      subst q1 q2
      obtain ⟨no, q9⟩ := wipeM_eq e9
      subst q9
      obtain ⟨a6, t6⟩ := fin ac4 t4 no
      exact iteF ⟨S4, _, ds, a6, wipeS_idem _ _, t6, k4⟩
  · refine .inl ⟨w.stop _ _ _ _ ac1.rel src' i (by omega), ?_⟩
    rw [List.drop_eq_nil_of_le (by omega)] at e'
    obtain ⟨q1, q2⟩ := ret_eq (show ret ds ρ' = .ok ys ρ2 from e')
    subst q1 q2
    exact q S' H' ac1 t1
/-- the own names' slots as they were -/
theorem Ac.back {K : PySem.W.Frag} {S S1 S2 : Addr → Prop} {ρ ρ1 ρ2 : Ev} {σ : St} {H H1 H2 : Hp} (a : Ac K S ρ σ H S1 ρ1 σ H1) (no : ∀ i ∈ own, ∀ k zs, ρ1[i]? ≠ some (.ls k zs)) (b : Ac K S1 (wipeS ρ1 own) (wipe σ own) H1 S2 ρ2 (wipe σ own) H2) :
    Ac K S ρ σ H S2 (backS ρ1 ρ2 own) σ H2 ∧ ∀ z, Own (backS ρ1 ρ2 own) σ z → Own ρ2 (wipe σ own) z := by
  have hl : ρ2.length = ρ1.length := by rw [b.rel.len, wipe_length, ← a.rel.len]
  have own1 : ∀ z, Own (backS ρ1 ρ2 own) σ z → Own ρ2 (wipe σ own) z := fun z ⟨i, k, xs, e1, e2⟩ => by
    by_cases hi : i ∈ own
    · have h1 : i < ρ1.length := by
        have := (List.getElem?_eq_some_iff.mp e1).1
        rw [backS_len, hl] at this
        exact this
      rw [backS_in hi h1 (by rw [hl]; exact h1)] at e1
      exact absurd e1 (no i hi k xs)
    · rw [backS_out hi] at e1
      exact ⟨i, k, xs, e1, by rw [wipeV_out hi]; exact e2⟩
  have ownw : ∀ z, Own (wipeS ρ1 own) (wipe σ own) z ↔ Own ρ1 σ z := fun z => Own.wipe no
  have go1 : Go S1 ρ1 σ H1 S2 (backS ρ1 ρ2 own) σ H2 := ⟨b.go.sub, fun z h => (b.go.new z h).imp id (Or.imp id (ownw z).mp), fun z h => (b.go.own z (own1 z h)).imp id (ownw z).mp, fun z o h n nt => b.go.keep z o h (nt := nt) fun w => n ((ownw z).mp w), b.go.stay, fun i k xs e n => by
    have hi : i ∉ own := fun z => no i z k xs e
    obtain ⟨ys, q1, q2, q3⟩ := b.go.fix i k xs (by rw [wipeS_out hi]; exact e) n
    exact ⟨ys, by rw [backS_out hi]; exact q1, rfl, q3⟩⟩
  refine ⟨⟨a.go.trans go1, ⟨by rw [backS_len, hl]; exact a.rel.len, fun i s ov e1 e2 => ?_, fun i j k l xs ys z e1 e2 e3 e4 => ?_, b.rel.dom, b.rel.tb⟩⟩, own1⟩
  · by_cases hi : i ∈ own
    · have h1 : i < ρ1.length := by
        have := (List.getElem?_eq_some_iff.mp e1).1
        rw [backS_len, hl] at this
        exact this
      rw [backS_in hi h1 (by rw [hl]; exact h1)] at e1
      have w := a.rel.ok i s ov e1 e2
      cases s with
      | un => trivial
      | fz d => obtain ⟨v, ev, hv⟩ := w; exact ⟨v, ev, hv.mono (go1.ke a.rel)⟩
      | ls k xs => exact absurd e1 (no i hi k xs)
    · rw [backS_out hi] at e1
      exact b.rel.ok i s ov e1 (by rw [wipeV_out hi]; exact e2)
  · have f : ∀ (i : Nat) (k : Lk) (xs : List D), (backS ρ1 ρ2 own)[i]? = some (.ls k xs) → i ∉ own := fun i k xs e hi => by
      have h1 : i < ρ1.length := by
        have := (List.getElem?_eq_some_iff.mp e).1
        rw [backS_len, hl] at this
        exact this
      rw [backS_in hi h1 (by rw [hl]; exact h1)] at e
      exact no i hi k xs e
    have f1 := f i k xs e1
    have f2 := f j l ys e2
    rw [backS_out f1] at e1
    rw [backS_out f2] at e2
    exact b.rel.inj i j k l xs ys z e1 e2 (by rw [wipeV_out f1]; exact e3) (by rw [wipeV_out f2]; exact e4)
theorem comp_read {wi : TI} {g : TG} {tt : TT} {te : TE} {cond : Eo} {ielt : E} {σ : St} {H : Hp} {Q : VK} (hi : wi = iD X.K (evit Φ it)) (hg : g = gD X.K tg.slots (asgn Φ tg)) (ht : tt = tT X.K (evc Φ cond)) (he : te = tD X.K (ev Φ ielt))
    (hs : ∀ i ∈ tg.slots, i ∈ own) (q : tD X.K (ev Φ (.comp own tg it cond ielt)) σ H Q) : tLc wi g tt te own σ H Q := by
  subst hi hg ht he
  obtain ⟨S, ρ, r, ρ', rel, e, q⟩ := q
  simp only [ev] at e
  obtain ⟨⟨l, xs⟩, ρ1, e1, k1⟩ := bnd_eq e
  obtain ⟨ys, ρ2, k2, k3⟩ := then_eq (show Out.then _ _ = _ from k1)
  cases k3
  obtain ⟨u, ρ3, e3, k4⟩ := bnd_eq k2
  obtain ⟨no, q3⟩ := wipeM_eq e3
  subst q3
  refine ⟨S, ρ, l, xs, ρ1, rel, e1, fun S1 H1 J Src at1 w src Da hD => ?_⟩
  have a1 := at1.ac
  have relw := a1.rel.wipe no
  have lk := evit_lock e1
  -- what is left at the end
  have fin : ∀ {S' : Addr → Prop} {H' : Hp} {ρ4 : Ev}, Ac X.K S1 (wipeS ρ1 own) (wipe σ own) H1 S' ρ4 (wipe σ own) H' → Rv X.K S' (fun _ => none) ρ4 (wipe σ own) H' (.ref Da) (.fr ys) → ρ4 = ρ2 → Q (.ref Da) H' := fun {S' H' ρ4} a t e4 => by
    subst e4
    obtain ⟨b, ob⟩ := a1.back no a
    obtain ⟨p, vs, ep, _, h1, h2, h3, h4⟩ := t
    cases ep
    exact q S' _ H' b.go b.rel ⟨Da, vs, rfl, at1.go.stay Da hD, h1, h2, fun z => h3 (ob Da z), h4⟩
  have lkw : ∀ i k, l = some (i, k) → ∃ xs, (wipeS ρ1 own)[i]? = some (.ls k xs) := fun i k z => by
    obtain ⟨zs, ez⟩ := (lk i k z).2
    have hi : i ∉ own := fun h => no i h k zs ez
    exact ⟨zs, by rw [wipeS_out hi]; exact ez⟩
  rcases lock_split lkw (show withLock l _ (wipeS ρ1 own) = _ from k4) with ⟨rfl, k5⟩ | ⟨i, k, us, zs, ρ5, rfl, e2, k5, ⟨k', e5⟩, q5⟩
  · exact comp_loop w (fun _ _ _ _ h => h) (fun _ _ _ h => h) (fun _ _ _ h => h) hs relw (w.wip own _ _ _ _ no src) hD k5 fun S' H' a t => fin a t rfl
  · have hi : i ∉ own := fun h => by cases wipeS_in h e2
    have e2' : ρ1[i]? = some (.ls k us) := by rw [← wipeS_out hi]; exact e2
    have hk : locked (some (i, k)) ρ1 = ρ1.set i (.ls .lck us) := by
      show (match ρ1[i]? with | some (.ls _ xs) => ρ1.set i (.ls .lck xs) | _ => ρ1) = _
      rw [e2']
    rw [hk] at src
    have sw : wipeS (ρ1.set i (.ls .lck us)) own = (wipeS ρ1 own).set i (.ls .lck us) := by
      refine List.ext_getElem? fun j => ?_
      by_cases hj : j ∈ own
      · have hij : i ≠ j := fun z => hi (z ▸ hj)
        rw [List.getElem?_set_ne hij]
        cases z1 : (wipeS (ρ1.set i (.ls .lck us)) own)[j]? with
        | none =>
          have z2 := List.getElem?_eq_none_iff.mp z1
          rw [wipeS_len, List.length_set] at z2
          exact (List.getElem?_eq_none (by rw [wipeS_len]; exact z2)).symm
        | some s =>
          cases wipeS_in hj z1
          have z2 := (List.getElem?_eq_some_iff.mp z1).1
          rw [wipeS_len, List.length_set] at z2
          have z3 := List.getElem?_eq_getElem (l := wipeS ρ1 own) (i := j) (by rw [wipeS_len]; exact z2)
          rw [z3, wipeS_in hj z3]
      · rw [wipeS_out hj]
        by_cases hij : i = j
        · subst hij
          rw [List.getElem?_set_self (List.getElem?_eq_some_iff.mp e2').1, List.getElem?_set_self (List.getElem?_eq_some_iff.mp e2).1]
        · rw [List.getElem?_set_ne hij, List.getElem?_set_ne hij, wipeS_out hj]
    have noL : ∀ j ∈ own, ∀ k zs, (ρ1.set i (.ls .lck us))[j]? ≠ some (.ls k zs) := fun j hj k zs z => by
      have hij : i ≠ j := fun z => hi (z ▸ hj)
      rw [List.getElem?_set_ne hij] at z
      exact no j hj k zs z
    have src2 := w.wip own _ _ _ _ noL src
    have relL : Rel X.K S1 (wipeS (ρ1.set i (.ls .lck us)) own) (wipe σ own) H1 := by
      rw [sw]
      exact relw.kind e2 (lk i k rfl).1 (by decide)
    rw [← sw] at k5
    refine comp_loop w (fun _ _ _ _ h => h) (fun _ _ _ h => h) (fun _ _ _ h => h) hs relL src2 hD k5 fun S' H' a t => ?_
    rw [sw] at a
    obtain ⟨ws, w1, _, _⟩ := a.go.fix i .lck us (List.getElem?_set_self (List.getElem?_eq_some_iff.mp e2).1) (by simp)
    rw [e5] at w1
    cases w1
    have a2 := a.unlock (lk i k rfl).1 e2 e5
    exact fin a2 (t.kind e5) q5.symm
end
end DL
end
section
set_option autoImplicit false
/-! DLo: comprehensions as a value and as a name's new value; a def by its body. -/
namespace DL
open PySem L2
variable [LTabs]
section
variable {X : Cx} {Φ : Calls} {pos : Pos} {ielt : E} {ic : Eo} {tg t : Tg} {tx iter elt : Expr} {ifs : List Expr} {it : DL.It} {own : List (Str × Nat)} {scope : Scope}
theorem de_comp (hc : X.calm = true) (hN : X.N.Nodup) (ok : blkC X.N X.env.scope scope own = true) (hs : ∀ i ∈ tg.slots, i ∈ own.map (·.2)) (hi : PI X tx iter (iD X.K (evit Φ it)))
    (hg : ∀ (s : Shared) (H : Hp) (C : Addr) (cl : List (Str × Addr)) (fp : List Addr), PG (X.blk s H scope (compEnvC scope cl C X.env) fp) tx (gD X.K tg.slots (asgn Φ tg)))
    (ht : ∀ (s : Shared) (H : Hp) (C : Addr) (cl : List (Str × Addr)) (fp : List Addr), PTs (X.blk s H scope (compEnvC scope cl C X.env) fp) ifs (tT X.K (evc Φ ic)))
    (he : ∀ (s : Shared) (H : Hp) (C : Addr) (cl : List (Str × Addr)) (fp : List Addr), PE (X.blk s H scope (compEnvC scope cl C X.env) fp) elt (tD X.K (ev Φ ielt)))
    (hf : ∀ x, foldedSetIterable iter X.env x = pure x := by intro _; rfl) : PE X (.ListComp elt [⟨tx, iter, ifs, 0⟩] scope pos) (tD X.K (ev Φ (.comp (own.map (·.2)) tg it ic ielt))) :=
  peImp (pe_lc hc hN hi (blkOk_by ok) hg ht he hf) fun σ H Q q => comp_read (it := it) (own := own.map (·.2)) rfl rfl rfl rfl hs q
end
/-! ### defs -/
/-- a def (a method) as it stands behind the top; dV: its defaults -/
structure FunW (K : PySem.W.Frag) (x qual : Str) (st : Stmt) (f : Addr) (fd : FuncData) (dV : Value) : Prop where
  ex : ∃ (oc : Value) (od : Option Addr) (kV doc pm : Value) (an : Option Addr) (cdv ct : Value) (osl : Array (Option Value)),
    fd = PySem.W.fnOf x qual (defArgs st) (defBody st) (defScope st) dV kV doc pm an cdv ct ∧ K.lookup f = some ⟨oc, od, .func fd, osl⟩ ∧ PySem.W.codeIn K cdv qual = true
  kp : PySem.W.keepIn K (.ref f) = true
end DL
end
section
set_option autoImplicit false
/-! DLo2: zip of two lists or of two tuples; reversed. -/
namespace DL
open PySem L2
variable [LTabs]
section
variable {K : PySem.W.Frag} {S S' : Addr → Prop} {ρ ρ' : Ev} {σ σ' : St} {H H' : Hp} {r : R} {d : D} {v : V} {a b : Addr} {xs ys : List D}
theorem zip_get : ∀ {xs ys : List D} {i : Nat} {d : D}, (zipD xs ys)[i]? = some d → ∃ x y, xs[i]? = some x ∧ ys[i]? = some y ∧ d = .tup [x, y]
  | [], _, _, _, h => by unfold zipD at h; cases h
  | _ :: _, [], _, _, h => by unfold zipD at h; cases h
  | x :: xs, y :: ys, 0, d, h => by cases h; exact ⟨x, y, rfl, rfl, rfl⟩
  | x :: xs, y :: ys, i + 1, d, h => zip_get (xs := xs) (ys := ys) h
theorem zip_len : ∀ (xs ys : List D), (zipD xs ys).length = min xs.length ys.length
  | [], ys => by simp [zipD]
  | _ :: _, [] => by simp [zipD]
  | _ :: xs, _ :: ys => by
    show (zipD xs ys).length + 1 = _
    rw [zip_len xs ys, List.length_cons, List.length_cons]
    omega
/-- two frozen things -/
def Two (K : PySem.W.Frag) (u v : V) (d e : D) : SrcT := fun S _ _ H => Rp K S H u d ∧ Rp K S H v e
theorem Two.stay {u v : V} {d e : D} (rel : Rel K S ρ σ H) (h : Two K u v d e S ρ σ H) (g : Go S ρ σ H S' ρ' σ' H') : Two K u v d e S' ρ' σ' H' := ⟨h.1.mono (g.ke rel), h.2.mono (g.ke rel)⟩
end
end DL
end
section
set_option autoImplicit false
/-! DLp: a call's meaning is its body's. -/
namespace DL
open PySem L2
variable [LTabs]
theorem behind_len : ∀ (as : List Sl) (ρ : Ev), (behind as ρ).length = as.length
  | [], _ => rfl
  | .ls _ _ :: as, s :: ρ => by show (behind as ρ).length + 1 = as.length + 1; rw [behind_len as ρ]
  | .ls _ _ :: as, [] => by show (behind as _).length + 1 = as.length + 1; rw [behind_len as _]
  | .un :: as, ρ => by
    cases ρ <;> (show (behind as _).length + 1 = as.length + 1; rw [behind_len as _])
  | .fz _ :: as, ρ => by
    cases ρ <;> (show (behind as _).length + 1 = as.length + 1; rw [behind_len as _])
theorem behind_get : ∀ (as : List Sl) (ρ : Ev) (i : Nat), (behind as ρ)[i]? = match as[i]? with | some (.ls k xs) => some (ρ[i]?.getD (.ls k xs)) | o => o
  | [], _, _ => rfl
  | .ls _ _ :: as, s :: ρ, 0 => rfl
  | .ls _ _ :: as, s :: ρ, i + 1 => behind_get as ρ i
  | .ls _ _ :: as, [], 0 => rfl
  | .ls _ _ :: as, [], i + 1 => by
    refine (behind_get as [] i).trans ?_
    show _ = match as[i]? with | some (.ls k xs) => _ | o => o
    rfl
  | .un :: as, [], 0 => rfl
  | .un :: as, _ :: _, 0 => rfl
  | .un :: as, [], i + 1 => behind_get as [] i
  | .un :: as, _ :: ρ, i + 1 => behind_get as ρ i
  | .fz _ :: as, [], 0 => rfl
  | .fz _ :: as, _ :: _, 0 => rfl
  | .fz _ :: as, [], i + 1 => behind_get as [] i
  | .fz _ :: as, _ :: ρ, i + 1 => behind_get as ρ i
section
variable {K : PySem.W.Frag} {S S' : Addr → Prop} {as : List Sl} {vs : List V} {H H' : Hp} {n m : Nat} {ρ' : Ev} {σ' : St}
theorem un_at {i : Nat} {k : Lk} {xs : List D} (h : (as ++ List.replicate n Sl.un)[i]? = some (.ls k xs)) : as[i]? = some (.ls k xs) := by
  by_cases hi : i < as.length
  · rw [List.getElem?_append_left hi] at h; exact h
  · rw [List.getElem?_append_right (by omega), List.getElem?_replicate] at h
    split at h <;> cases h
theorem at_un {i : Nat} {s : Sl} (h : as[i]? = some s) : (as ++ List.replicate n Sl.un)[i]? = some s := by
  rw [List.getElem?_append_left (List.getElem?_eq_some_iff.mp h).1]; exact h
theorem st_at {i : Nat} {s : Sl} (rel : Rel K S as (vs.map some) H) (h : as[i]? = some s) : (vs.map some ++ List.replicate m none)[i]? = (vs.map some)[i]? := by
  have := (List.getElem?_eq_some_iff.mp h).1
  rw [rel.len] at this
  rw [List.getElem?_append_left this]
theorem Rel.begin (rel : Rel K S as (vs.map some) H) (hn : n = m) : Rel K S (as ++ List.replicate n .un) (vs.map some ++ List.replicate m none) H := by
  subst hn
  refine ⟨by rw [List.length_append, List.length_append, rel.len, List.length_replicate, List.length_replicate], fun i s ov e1 e2 => ?_, fun i j k l xs ys a e1 e2 e3 e4 => ?_, rel.dom, rel.tb⟩
  · by_cases hi : i < as.length
    · have e : as[i]? = some s := by rw [List.getElem?_append_left hi] at e1; exact e1
      rw [st_at rel e] at e2
      exact rel.ok i s ov e e2
    · rw [List.getElem?_append_right (by omega), List.getElem?_replicate] at e1
      split at e1 <;> cases e1
      trivial
  · have f1 := un_at e1
    have f2 := un_at e2
    rw [st_at rel f1] at e3
    rw [st_at rel f2] at e4
    exact rel.inj i j k l xs ys a f1 f2 e3 e4
theorem Own.begin (rel : Rel K S as (vs.map some) H) {a : Addr} : Own (as ++ List.replicate n .un) (vs.map some ++ List.replicate m none) a ↔ Own as (vs.map some) a :=
  ⟨fun ⟨i, k, xs, e1, e2⟩ => ⟨i, k, xs, un_at e1, by rw [st_at rel (un_at e1)] at e2; exact e2⟩, fun ⟨i, k, xs, e1, e2⟩ => ⟨i, k, xs, at_un e1, by rw [st_at rel e1]; exact e2⟩⟩
/-- the end of a def's body, seen from its call -/
theorem Ac.over (rel : Rel K S as (vs.map some) H) (rel0 : Rel K S (as ++ List.replicate n .un) (vs.map some ++ List.replicate m none) H) (hb : ∀ (i : Nat) (k : Lk) (xs : List D), as[i]? = some (Sl.ls k xs) → k = Lk.bor) (a : Ac K S (as ++ List.replicate n .un) (vs.map some ++ List.replicate m none) H S' ρ' σ' H') :
    Go S as (vs.map some) H S' (behind as ρ') (vs.map some) H' ∧ Rel K S' (behind as ρ') (vs.map some) H' := by
  have fixA : ∀ (i : Nat) (k : Lk) (xs : List D), as[i]? = some (.ls k xs) → ∃ ys, ρ'[i]? = some (.ls k ys) ∧ σ'[i]? = (vs.map some)[i]? ∧ (behind as ρ')[i]? = some (.ls k ys) ∧ k = .bor := fun i k xs e => by
    have hk := hb i k xs e
    subst hk
    obtain ⟨ys, e1, e2, _⟩ := a.go.fix i .bor xs (at_un e) (by simp)
    refine ⟨ys, e1, by rw [e2, st_at rel e], ?_, rfl⟩
    rw [behind_get, e, e1]
    rfl
  have back : ∀ (i : Nat) (k : Lk) (ys : List D), (behind as ρ')[i]? = some (.ls k ys) → ρ'[i]? = some (.ls k ys) ∧ σ'[i]? = (vs.map some)[i]? ∧ ∃ xs, as[i]? = some (.ls k xs) := fun i k ys e => by
    rw [behind_get] at e
    cases q : as[i]? with
    | none => rw [q] at e; cases e
    | some s =>
      cases s with
      | un => rw [q] at e; cases e
      | fz d => rw [q] at e; cases e
      | ls k2 xs =>
        obtain ⟨zs, e1, e2, e3, e4⟩ := fixA i k2 xs q
        rw [q, e1] at e
        cases e
        exact ⟨e1, e2, xs, rfl⟩
  refine ⟨⟨a.go.sub, fun z h => (a.go.new z h).imp id (Or.imp id (Own.begin rel).mp), fun z ⟨i, k, xs, e1, e2⟩ => ?_, fun z o h no nt => a.go.keep z o h (nt := nt) fun w => no ((Own.begin rel).mp w), a.go.stay, fun i k xs e hk => ?_⟩, ⟨?_, fun i s ov e1 e2 => ?_, fun i j k l xs ys z e1 e2 e3 e4 => ?_, a.rel.dom, a.rel.tb⟩⟩
  · obtain ⟨_, _, xs, e3⟩ := back i k xs e1
    exact .inr ⟨i, k, xs, e3, e2⟩
  · obtain ⟨ys, e1, e2, e3, e4⟩ := fixA i k xs e
    exact ⟨ys, e3, rfl, fun z => by rw [e4] at z; cases z⟩
  · rw [behind_len, rel.len]
  · cases s with
    | un => trivial
    | ls k ys =>
      obtain ⟨e3, e4, _⟩ := back i k ys e1
      exact a.rel.ok i _ ov e3 (by rw [e4]; exact e2)
    | fz d =>
      rw [behind_get] at e1
      cases q : as[i]? with
      | none => rw [q] at e1; cases e1
      | some s =>
        cases s with
        | un => rw [q] at e1; cases e1
        | ls k xs =>
          obtain ⟨zs, e3, _⟩ := fixA i k xs q
          rw [q, e3] at e1
          cases e1
        | fz d2 =>
          rw [q] at e1
          cases e1
          obtain ⟨v, ev, hv⟩ := rel.ok i _ ov q e2
          exact ⟨v, ev, hv.mono (a.go.ke rel0)⟩
  · obtain ⟨f1, f2, _⟩ := back i k xs e1
    obtain ⟨f3, f4, _⟩ := back j l ys e2
    exact a.rel.inj i j k l xs ys z f1 f3 (by rw [f2]; exact e3) (by rw [f4]; exact e4)
theorem callN_split {T : List Df} {k f : Nat} {r : R} {as' : List Sl} {d0 : Df} (hd0 : T[f]? = some d0) (h : callN T (k + 1) f as = some (r, as')) : ∃ d fl ρ', T[f]? = some d ∧ as.length = d.np ∧ execs (callN T k) d.body (as ++ List.replicate (d.ns - d.np) .un) = .ok fl ρ' ∧ as' = behind as ρ' ∧
    ((∃ r0, fl = .rt r0 ∧ leave ρ' r0 = some r) ∨ (fl = .nx ∧ r = .fz .non)) := by
  unfold callN at h
  split at h
  · rename_i hd
    rw [hd0] at hd
    cases hd
  · rename_i d hd
    split at h
    · rename_i hl
      split at h
      · rename_i r0 ρ' he
        cases q : leave ρ' r0 with
        | none => rw [q] at h; cases h
        | some r1 => rw [q] at h; cases h; exact ⟨d, _, ρ', hd, hl, he, rfl, .inl ⟨r0, rfl, q⟩⟩
      · rename_i ρ' he
        cases h
        exact ⟨d, _, ρ', hd, hl, he, rfl, .inr ⟨rfl, rfl⟩⟩
      · cases h
    · cases h
/-- a call's promise, read at the def's entry -/
theorem read_fn {T : List Df} {k f : Nat} {d : Df} {N : List Str} {Q : VK} {E : XK} (hd : T[f]? = some d) (hN : N.length = d.ns) (h : spD K (callN T (k + 1)) f vs H Q E) :
    tS K (execs (callN T k) d.body) ⟨fun _ h => Q .non h, Q, fun _ _ => False, fun _ _ => False⟩ (start N vs) H := by
  obtain ⟨S, as, r, as', rel, e, hb, q⟩ := h
  obtain ⟨d2, fl, ρ', e1, hl, e2, rfl, e3⟩ := callN_split hd e
  rw [hd] at e1
  cases e1
  have hv : vs.length = d.np := by rw [← hl, rel.len, List.length_map]
  have eN : N.length - vs.length = d.ns - d.np := by rw [hN, hv]
  have rel0 := rel.begin (n := d.ns - d.np) (m := N.length - vs.length) eN.symm
  refine ⟨S, _, fl, ρ', rel0, e2, ?_⟩
  rcases e3 with ⟨r0, rfl, e4⟩ | ⟨rfl, rfl⟩
  · intro S' σ' H' v a rv
    obtain ⟨g, rl⟩ := Ac.over rel rel0 hb a
    refine q S' v H' g rl ?_
    cases r0 with
    | fz x => cases e4; exact rv
    | fr xs =>
      cases e4
      obtain ⟨p, ws, ev, h0, h1, h2, h3, h4⟩ := rv
      exact ⟨p, ws, ev, h0, h1, h2, h4⟩
    | rf i =>
      unfold leave at e4
      simp only at e4
      split at e4
      · rename_i xs e5
        cases e4
        have rv : σ'[i]? = some (some v) := rv
        obtain ⟨p, ws, ev, h1, h2, h3⟩ := a.rel.atL e5
        rw [rv] at ev
        cases ev
        refine ⟨p, ws, rfl, ?_, h1, h2, h3⟩
        rcases a.go.own p ⟨i, _, xs, e5, rv⟩ with z | z
        · exact z
        · obtain ⟨j, k2, zs, f1, f2⟩ := z
          have f3 := un_at f1
          have f4 := hb j k2 zs f3
          subst f4
          obtain ⟨ys, g1, g2, _⟩ := a.go.fix j .bor zs f1 (by simp)
          have f2 : (start N vs)[j]? = some (some (V.ref p)) := f2
          have := a.rel.inj i j _ _ _ _ p e5 g1 rv (g2.trans f2)
          subst this
          rw [e5] at g1
          cases g1
      · cases e4
  · intro S' σ' H' a
    obtain ⟨g, rl⟩ := Ac.over rel rel0 hb a
    exact q S' .non H' g rl .non
theorem spD_len {Φ : Calls} {f : Nat} {Q : VK} {E : XK} (h : spD K Φ f vs H Q E) : ∃ as : List Sl, ∃ r as', as.length = vs.length ∧ Φ f as = some (r, as') := by
  obtain ⟨S, as, r, as', rel, e, _⟩ := h
  exact ⟨as, r, as', by rw [rel.len, List.length_map], e⟩
theorem spD_np {T : List Df} {k f : Nat} {d : Df} {Q : VK} {E : XK} (hd : T[f]? = some d) (h : spD K (callN T k) f vs H Q E) : vs.length = d.np := by
  obtain ⟨as, r, as', hl, e⟩ := spD_len h
  cases k with
  | zero => cases e
  | succ k =>
    obtain ⟨d2, fl, ρ', e1, h2, _⟩ := callN_split hd e
    rw [hd] at e1
    cases e1
    rw [← hl, h2]
end
end DL
end
section
set_option autoImplicit false
/-! DLq: the table of defs; the law's end. -/
namespace DL
open PySem L2 PySem.Spec PyProof.Rows
variable [LTabs]
section
variable {P : Program} {w : World} {K : PySem.W.Frag} {mg : Str → Option Value} {base : Heap}
theorem fnG_zero {T : List Df} {j m : Nat} {fa : Addr} {fd : FuncData} {ps : List Str} : FnG P w K mg base L2.CX0 m fa fd ps (spD K (callN T 0) j) :=
  by
  constructor
  · intro vs H Q E h
    obtain ⟨_, _, _, _, e⟩ := spD_len h
    cases e
  · intro A out s H args us vs Q E _ _ _ _ _ h
    obtain ⟨_, _, _, _, e⟩ := spD_len h
    cases e
theorem rps_ints {S : Addr → Prop} {H : Hp} : ∀ ns : List Int, Rps K S H (ns.map V.int) (ns.map D.int)
  | [] => .nil
  | n :: r => .cons (.int n) (rps_ints r)
/-- the tables stand empty ahead of the law -/
def TabsAt (K : PySem.W.Frag) (h : Heap) : Prop := ∀ p ∈ LTabs.T, K.lookup p.1 = none ∧ ∃ c, h.TableAt c p.1 #[]
/-- the tables stand apart from what the builtins' module is -/
def BltAt (mg : Str → Option Value) (base : Heap) : Prop := ∀ p ∈ LTabs.T, base.BuiltinsAt mg p.1 ∧ mainGlobals ≠ p.1
/-- the law's call -/
theorem end_call {T : List Df} {mb : Str → Option Value} {m k fi : Nat} {fa a : Addr} {fd : FuncData} {x : Str} {s1 : Shared} {vs : List Value} {ns : List Int} {as' : List Sl}
    (kin : K.In s1.heap) (hns : s1.heap.Ns mainGlobals mg) (hb : s1.heap.Ns builtinsNs mb) (hbb : ∀ x : Str, x ≠ "__name__" → mb x = bootBuiltins x) (nol : s1.heap.NoLimit) (gn : s1.gens = #[])
    (ha : s1.heap.get? a = some { cls := .type "list", data := .seq vs.toArray }) (hi : IntsAre vs ns) (hl : ns.length ≤ sizeLine) (room : Room m callerA)
    (F : ∀ base : Heap, K.In base → base.Ns mainGlobals mg → BltAt mg base → FnG P w K mg base L2.CX0 m fa fd [x] (spD K (callN T k) fi)) (bt : ∀ (s : Shared) (u : Value), BindsTo s fd ⟨[u], []⟩ [(x, u)])
    (hm : callN T k fi [.fz (.scr (ns.map D.int))] = some (.fz (.bl true), as')) (tabs : TabsAt K s1.heap)
    (hbm : ∃ (bm : Addr) (ob : Obj), mg "__builtins__" = some (.ref bm) ∧ bm ≠ builtinsNs ∧ s1.heap.get? bm = some ob ∧ ob.cls = .type "module" ∧ ob.dict = some builtinsNs ∧ ob.data = .plain) :
    codeAny (model P w) callerA (.call (.ref fa) ⟨[.ref a], []⟩) (fun r s' => r = .ok (.ret (.bool true)) ∧ OldK s1.heap s'.heap ∧ s'.os = s1.os ∧ AllBare s'.gens) s1 := by
  have vi := vals_ints hi
  have core : ∀ (H : Hp) (S : Addr → Prop), ReS K S H a (ns.map V.int) → (∀ b, S b → H b ≠ none) → HOk P w H s1.heap → (∀ b u, H b = some u → (b = a ∧ K.lookup a = none ∧ ∃ o xs, u = .frz o (.lst xs)) ∨ (u = .tbl #[] ∧ K.lookup b = none ∧ ∃ c, s1.heap.TableAt c b #[])) → LTb H →
      codeAny (model P w) callerA (.call (.ref fa) ⟨[.ref a], []⟩) (fun r s' => r = .ok (.ret (.bool true)) ∧ OldK s1.heap s'.heap ∧ s'.os = s1.os ∧ AllBare s'.gens) s1 := by
    intro H S hS dom hok only tb
    have free : ∀ {b : Addr} {o : Obj}, s1.heap.get? b = some o → ((∃ es ep, o.data = .dict es ep) ∨ K.lookup b = some o) → H b = none := by
      intro b o e hd
      cases q : H b with
      | none => rfl
      | some u =>
        rcases only b u q with ⟨e1, e2, _⟩ | ⟨_, e2, c, ht⟩
        · rw [← e1] at e2
          rcases hd with ⟨es, ep, z⟩ | z
          · rw [e1, ha] at e; cases e; cases z
          · rw [e2] at z; cases z
        · rcases hd with ⟨es, ep, z⟩ | z
          · have := ht.2.symm.trans e
            cases this
            cases z
          · rw [e2] at z; cases z
    have lay : ∀ {b : Addr} {m : Str → Option Value}, s1.heap.Ns b m → (hidT s1.heap H).Ns b m := by
      rintro b m ⟨o, es, ep, e, z, r⟩
      exact ⟨o, es, ep, hidT_get e (free e (.inl ⟨es, ep, z⟩)), z, r⟩
    have kin2 : K.In (hidT s1.heap H) := by
      intro b o e
      exact hidT_get (kin b o e) (free (kin b o e) (.inr e))
    have md : Mod K mg (hidT s1.heap H) := by
      refine ⟨kin2, lay hns, ⟨mb, lay hb, hbb⟩, ?_⟩
      obtain ⟨mc, h1, h2⟩ := nol
      exact ⟨mc, lay h1, h2⟩
    have blt : BltAt mg (hidT s1.heap H) := by
      intro p hp
      obtain ⟨_, c, ht⟩ := tabs p hp
      obtain ⟨bm, ob, b1, b2, b3, b4, b5, b6⟩ := hbm
      have nG : bm ≠ mainGlobals := fun q => by
        obtain ⟨o, es, ep, e, hd, _⟩ := hns
        rw [q, e] at b3
        cases b3
        rw [hd] at b6
        cases b6
      have nP : bm ≠ p.1 := fun q => by
        rw [q, ht.2] at b3
        cases b3
        cases b6
      have hN : H bm = none := by
        cases q : H bm with
        | none => rfl
        | some u =>
          rcases only bm u q with ⟨e1, _⟩ | ⟨_, _, c2, ht2⟩
          · rw [e1, ha] at b3; cases b3; cases b6
          · rw [ht2.2] at b3; cases b3; cases b6
      refine ⟨⟨bm, ob, b1, b2, nG, nP, hidT_get b3 hN, b4, b5, b6⟩, fun z => ?_⟩
      obtain ⟨o, es, ep, e, hd, _⟩ := hns
      rw [z, ht.2] at e
      cases e
      cases hd
    have env0 : Env0 P w K mg (hidT s1.heap H) callerA [] s1 H := ⟨rfl, md, fun b o e => of_hidT e, Nat.le_of_eq (hidT_size _ _), trivial, (fun b z => nomatch z), hok, .of_eq gn⟩
    have sp : spD K (callN T k) fi [.ref a] H (fun v _ => v = .bl true) fun _ _ _ => False := by
      refine ⟨S, [.fz (.scr (ns.map D.int))], _, as', ⟨rfl, fun i s ov e1 e2 => ?_, fun i j l m xs ys b e1 => ?_, dom, tb⟩, hm, fun i l xs e => ?_, fun S' v H' _ _ rn => by cases rn; rfl⟩
      · cases i with
        | zero =>
          cases e1
          cases e2
          exact ⟨_, rfl, .scr hS (rps_ints ns)⟩
        | succ i => cases e1
      · cases i <;> cases e1
      · cases i <;> cases e
    refine codeAny_mono ((F _ kin2 (lay hns) blt).run callerA [] s1 H ⟨[.ref a], []⟩ [.ref a] [.ref a] _ _ room LTabs.gk0 env0 (bt s1 (.ref a)) (.cons rfl .nil) sp) fun r s' h => ?_
    cases r with
    | error e => exact False.elim h
    | ok fl => cases fl with
      | next => exact False.elim h
      | brk => exact False.elim h
      | cont => exact False.elim h
      | ret u =>
        obtain ⟨v, H', os, bare, un, hok2, rv, q⟩ := h
        have q : v = .bl true := q
        rw [q] at rv
        have rv : u = Value.bool true := rv
        refine ⟨by rw [rv], ⟨fun b o e => ?_, fun b o e => un.there b o e (by intro y; cases y)⟩, os, bare⟩
        cases z : H b with
        | none => exact .inl (un.keep b o e z (by intro y; cases y) (by intro y; cases y))
        | some u2 =>
          rcases only b u2 z with ⟨_, _, o1, xs, eu⟩ | ⟨eu, _, c, ht⟩
          · rw [eu] at z
            have h1 := (hok b _ z).1
            rw [e] at h1
            cases h1
            exact .inl (hok2 b _ (un.frzs b _ _ z)).1
          · rw [eu] at z
            obtain ⟨more, z2⟩ := un.tbls b _ z
            have h1 : s'.heap.get? b = some { cls := .none, data := .fields (#[] ++ more) } := hok2 b _ z2
            have h2 := e.symm.trans ht.2
            cases h2
            exact .inr (.inl ⟨ht.isCodeTable, rfl, #[], more, rfl, h1⟩)
  let Ht : Hp := fun b => if b ∈ LTabs.T.map (·.1) then some (.tbl #[]) else none
  have ht1 : ∀ b u, Ht b = some u → u = .tbl #[] ∧ b ∈ LTabs.T.map (·.1) := fun b u z => by
    by_cases e : b ∈ LTabs.T.map (·.1)
    · rw [show Ht b = some (.tbl #[]) from if_pos e] at z; exact ⟨(Option.some.inj z).symm, e⟩
    · rw [show Ht b = none from if_neg e] at z; cases z
  have tab : ∀ b, b ∈ LTabs.T.map (·.1) → K.lookup b = none ∧ ∃ c, s1.heap.TableAt c b #[] := fun b hb => by
    obtain ⟨p, hp, e⟩ := List.mem_map.mp hb
    subst e
    exact tabs p hp
  have notA : a ∉ LTabs.T.map (·.1) := fun z => by
    obtain ⟨_, c, ht⟩ := tab a z
    have := ht.2.symm.trans ha
    cases this
  cases hk : K.lookup a with
  | some o =>
    have e := kin a o hk
    rw [ha] at e
    cases e
    refine core Ht (fun _ => False) (.inr ⟨_, vs.toArray, _, hk, rfl, fun _ => rfl, rfl, by rw [List.size_toArray, hi.length]; exact hl, by simpa using vi⟩) (fun b z => z.elim) (fun b u z => ?_) (fun b u z => ?_) fun p hp => ?_
    · obtain ⟨e1, e2⟩ := ht1 b u z
      subst e1
      obtain ⟨_, c, ht⟩ := tab b e2
      exact ht.2
    · obtain ⟨e1, e2⟩ := ht1 b u z
      exact .inr ⟨e1, tab b e2⟩
    · exact LamX.TabS.nil (if_pos (List.mem_map_of_mem hp))
  | none =>
    let u0 : HO := HO.frz { cls := .type "list", data := .seq vs.toArray } (.lst (ns.map V.int))
    let H0 : Hp := fun b => if b = a then some u0 else Ht b
    have here : H0 a = some u0 := if_pos rfl
    have who : ∀ b u, H0 b = some u → (b = a ∧ u0 = u) ∨ (b ≠ a ∧ Ht b = some u) := fun b u z => by
      by_cases e : b = a
      · rw [show H0 b = some u0 from if_pos e] at z; exact .inl ⟨e, Option.some.inj z⟩
      · rw [show H0 b = Ht b from if_neg e] at z; exact .inr ⟨e, z⟩
    refine core H0 (fun b => b = a) (.inl ⟨rfl, .inr ⟨_, here⟩⟩) (fun b e z => ?_) (fun b u z => ?_) (fun b u z => ?_) fun p hp => ?_
    · rw [e, here] at z
      cases z
    · rcases who b u z with ⟨e1, e2⟩ | ⟨e1, e2⟩
      · subst e1 e2
        exact ⟨ha, by rw [List.length_map]; exact hl, vs, _, vi, ha⟩
      · obtain ⟨e3, e4⟩ := ht1 b u e2
        subst e3
        obtain ⟨_, c, ht⟩ := tab b e4
        exact ht.2
    · rcases who b u z with ⟨e1, e2⟩ | ⟨e1, e2⟩
      · subst e2
        exact .inl ⟨e1, hk, _, _, rfl⟩
      · obtain ⟨e3, e4⟩ := ht1 b u e2
        exact .inr ⟨e3, tab b e4⟩
    · have hm1 : p.1 ∈ LTabs.T.map (·.1) := List.mem_map_of_mem hp
      have : p.1 ≠ a := fun z => notA (z ▸ hm1)
      exact LamX.TabS.nil ((if_neg this).trans (if_pos hm1))
end
end DL
end
section
set_option autoImplicit false
/-! DLr: what is never reached; the names of built-ins. -/
namespace DL
open PySem L2
variable [LTabs]
/-- an expression that has no meaning here -/
def stkE : E := .idx (.cst .non) (.cst .non)
section
variable {X : Cx} {Φ : Calls}
theorem ds_stk {st : Stmt} : PS X st (tS X.K (exec Φ (.ex stkE))) := ⟨fun pins s σ H Q I q => by
  obtain ⟨S, ρ, r, ρ', rel, e, q⟩ := q
  cases e⟩
theorem fnG_out {P : Program} {w : World} {K : PySem.W.Frag} {mg : Str → Option Value} {base : Heap} {m : Nat} {fa : Addr} {fd : FuncData} {ps : List Str} : FnG P w K mg base L2.CX0 m fa fd ps (fun _ _ _ _ => False) := by
  constructor
  · intro vs H Q E h
    exact False.elim h
  · intro A out s H args us vs Q E _ _ _ _ _ h
    exact False.elim h
end
theorem bt_len : bootBuiltins "len" = some (.builtin "len") := by decide +kernel
theorem bt_abs : bootBuiltins "abs" = some (.builtin "abs") := by decide +kernel
theorem bt_max : bootBuiltins "max" = some (.builtin "max") := by decide +kernel
theorem bt_min : bootBuiltins "min" = some (.builtin "min") := by decide +kernel
theorem bt_sum : bootBuiltins "sum" = some (.builtin "sum") := by decide +kernel
theorem bt_all : bootBuiltins "all" = some (.builtin "all") := by decide +kernel
theorem bt_repr : bootBuiltins "repr" = some (.builtin "repr") := by decide +kernel
theorem bt_divmod : bootBuiltins "divmod" = some (.builtin "divmod") := by decide +kernel
theorem bt_int : bootBuiltins "int" = some (.type "int") := by decide +kernel
theorem bt_bool : bootBuiltins "bool" = some (.type "bool") := by decide +kernel
theorem bt_str : bootBuiltins "str" = some (.type "str") := by decide +kernel
theorem bt_tuple : bootBuiltins "tuple" = some (.type "tuple") := by decide +kernel
theorem bt_list : bootBuiltins "list" = some (.type "list") := by decide +kernel
theorem de_bt {X : Cx} {x : Str} {t : String} {pos : Pos} (hg : Gl X x) (hm : X.mg x = none) (hv : bootBuiltins x = some (.type t)) (hn : x ≠ "__name__" := by decide) (hd : (x == ("__debug__" : Str)) = false := by decide) : PE X (.Name x pos) (tC (.ty t)) := pe_bltn hg hm hv rfl hn hd
theorem rm_units {k : Nat} {A : Around} (r : Room k A) : A.units + 64 < cLine := r.units
theorem rm_units70 {k : Nat} {A : Around} (r : Room k A) : A.units + 70 < cLine := by have := r.un; omega
end DL
end
section
set_option autoImplicit false
/-! DLs: loops by an invariant; what a call gives. -/
namespace DL
open PySem L2
/-- a loop without a return: I by the place -/
theorem forL_inv {step : D → M Fl} (I : Nat → Ev → Prop) : ∀ (xs : List D) (i : Nat) (ρ : Ev), I i ρ → (∀ j ρ d, xs[j]? = some d → I (i + j) ρ → ∃ ρ', (step d ρ = .ok .nx ρ' ∨ step d ρ = .ok .ct ρ') ∧ I (i + j + 1) ρ') → ∃ ρ', forL step xs ρ = .ok .nx ρ' ∧ I (i + xs.length) ρ'
  | [], i, ρ, h, _ => ⟨ρ, rfl, h⟩
  | x :: xs, i, ρ, h, hs => by
    obtain ⟨ρ1, e, h1⟩ := hs 0 ρ x rfl h
    obtain ⟨ρ2, e2, h2⟩ := forL_inv I xs (i + 1) ρ1 h1 fun j ρ d hj hI => by
      have := hs (j + 1) ρ d hj (by rw [← Nat.add_assoc, Nat.add_right_comm]; exact hI)
      rw [← Nat.add_assoc, Nat.add_right_comm i j 1] at this
      exact this
    refine ⟨ρ2, ?_, by rw [List.length_cons, Nat.add_comm xs.length, ← Nat.add_assoc]; exact h2⟩
    show (step x ρ).then _ = _
    rcases e with e | e <;> (rw [e]; exact e2)
theorem call_eq {T : List Df} {k f : Nat} {as : List Sl} {d : Df} {r r' : R} {ρ' : Ev} (hd : T[f]? = some d) (hl : as.length = d.np) (he : execs (callN T k) d.body (as ++ List.replicate (d.ns - d.np) .un) = .ok (.rt r) ρ') (hr : leave ρ' r = some r') : callN T (k + 1) f as = some (r', behind as ρ') := by
  unfold callN
  rw [hd]
  show (if _ then _ else _) = _
  rw [if_pos hl, he]
  show (leave ρ' r).map _ = _
  rw [hr]
  rfl
theorem call_nx {T : List Df} {k f : Nat} {as : List Sl} {d : Df} {ρ' : Ev} (hd : T[f]? = some d) (hl : as.length = d.np) (he : execs (callN T k) d.body (as ++ List.replicate (d.ns - d.np) .un) = .ok .nx ρ') : callN T (k + 1) f as = some (.fz .non, behind as ρ') := by
  unfold callN
  rw [hd]
  show (if _ then _ else _) = _
  rw [if_pos hl, he]
theorem call_fz {T : List Df} {k f : Nat} {as ss : List Sl} (d : Df) {x : D} {ρ' : Ev} (he : execs (callN T k) d.body (as ++ List.replicate (d.ns - d.np) .un) = .ok (.rt (.fz x)) ρ') (hd : T[f]? = some d := by rfl) (hl : as.length = d.np := by rfl) (hb : behind as ρ' = ss := by rfl) :
    callN T (k + 1) f as = some (.fz x, ss) := hb ▸ call_eq hd hl he rfl
theorem call_fr {T : List Df} {k f : Nat} {as ss : List Sl} (d : Df) {x : List D} {ρ' : Ev} (he : execs (callN T k) d.body (as ++ List.replicate (d.ns - d.np) .un) = .ok (.rt (.fr x)) ρ') (hd : T[f]? = some d := by rfl) (hl : as.length = d.np := by rfl) (hb : behind as ρ' = ss := by rfl) :
    callN T (k + 1) f as = some (.fr x, ss) := hb ▸ call_eq hd hl he rfl
theorem call_no {T : List Df} {k f : Nat} {as ss : List Sl} (d : Df) {ρ' : Ev} (he : execs (callN T k) d.body (as ++ List.replicate (d.ns - d.np) .un) = .ok .nx ρ') (hd : T[f]? = some d := by rfl) (hl : as.length = d.np := by rfl) (hb : behind as ρ' = ss := by rfl) :
    callN T (k + 1) f as = some (.fz .non, ss) := hb ▸ call_nx hd hl he
/-! ### what repr and == need -/
structure Sm (w h : Nat) (d : D) : Prop where
  pur : pureD d = true
  show_ : (toPy d).showable = true
  nod : (toPy d).hasDict = false
  short : (toPy d).leavesShort 13 = true
  lay : (toPy d).canLay0 = true
  ht : (toPy d).depth ≤ h
  wt : (toPy d).weight ≤ w
structure Sms (w h : Nat) (ds : List D) : Prop where
  pur : puresD ds = true
  show_ : PyData.showableAll (toPy.toPys ds) = true
  nod : PyData.hasDictAll (toPy.toPys ds) = false
  short : PyData.leavesShortAll 13 (toPy.toPys ds) = true
  lay : PyData.canLayAll0 (toPy.toPys ds) = true
  ht : PyData.depthAll (toPy.toPys ds) ≤ h
  wt : PyData.weightAll (toPy.toPys ds) ≤ w
theorem Sm.mono {w h w' h' : Nat} {d : D} (s : Sm w h d) (h1 : w ≤ w') (h2 : h ≤ h') : Sm w' h' d := ⟨s.pur, s.show_, s.nod, s.short, s.lay, Nat.le_trans s.ht h2, Nat.le_trans s.wt h1⟩
theorem Sm.non : Sm 0 0 .non := ⟨rfl, rfl, rfl, rfl, rfl, Nat.le_refl _, Nat.le_refl _⟩
theorem Sm.bl (b : Bool) : Sm 0 0 (.bl b) := ⟨rfl, rfl, rfl, rfl, rfl, Nat.le_refl _, Nat.le_refl _⟩
theorem log2_small {n : Nat} (h : n < 10 ^ 12) : n.log2 < 40 := by
  by_cases z : n = 0
  · subst z; decide
  · exact (Nat.log2_lt z).mpr (Nat.lt_of_lt_of_le h (by decide))
theorem Sm.int {i : Int} (h1 : -(10 ^ 12) < i) (h2 : i < 10 ^ 12) : Sm 40 0 (.int i) := by
  have h : i.natAbs < 10 ^ 12 := by omega
  have l := log2_small h
  refine ⟨rfl, decide_eq_true (by omega), rfl, decide_eq_true ?_, rfl, Nat.le_refl _, ?_⟩
  · show (Str.ofString (toString i)).length ≤ 13
    rw [ofString_length]
    exact int_text_length_le10 (by decide) h
  · show (if (i == 0) = true then 0 else i.natAbs.log2 + 1) ≤ 40
    split <;> omega
theorem Sm.str {x : Str} (h : x.cps.toList.all (fun c => decide (c < 0x110000)) = true) : Sm x.length 0 (.str x) := by
  refine ⟨rfl, rfl, rfl, ?_, ?_, Nat.le_refl _, Nat.le_refl _⟩
  · show (x.cps.toList.all fun c => decide (c < 16 ^ 8)) = true
    rw [List.all_eq_true] at h ⊢
    intro c hc
    have := of_decide_eq_true (h c hc)
    exact decide_eq_true (by omega)
  · show x.cps.all (· < 0x110000) = true
    rw [← Array.all_toList]
    exact h
theorem Sms.of {w h : Nat} : ∀ {ds : List D}, (∀ d ∈ ds, Sm w h d) → Sms (ds.length * (w + 1)) h ds
  | [], _ => ⟨rfl, rfl, rfl, rfl, rfl, Nat.zero_le _, Nat.zero_le _⟩
  | d :: ds, hs => by
    have a := hs d (List.mem_cons_self ..)
    have b := Sms.of (ds := ds) fun x hx => hs x (List.mem_cons_of_mem _ hx)
    refine ⟨?_, ?_, ?_, ?_, ?_, ?_, ?_⟩
    · show (pureD d && puresD ds) = true
      rw [a.pur, b.pur]; rfl
    · show ((toPy d).showable && PyData.showableAll (toPy.toPys ds)) = true
      rw [a.show_, b.show_]; rfl
    · show ((toPy d).hasDict || PyData.hasDictAll (toPy.toPys ds)) = false
      rw [a.nod, b.nod]; rfl
    · show ((toPy d).leavesShort 13 && PyData.leavesShortAll 13 (toPy.toPys ds)) = true
      rw [a.short, b.short]; rfl
    · show ((toPy d).canLay0 && PyData.canLayAll0 (toPy.toPys ds)) = true
      rw [a.lay, b.lay]; rfl
    · exact Nat.max_le.mpr ⟨a.ht, b.ht⟩
    · show (toPy d).weight + 1 + PyData.weightAll (toPy.toPys ds) ≤ (ds.length + 1) * (w + 1)
      have := a.wt
      have := b.wt
      rw [Nat.succ_mul]
      omega
theorem Sm.tup {w h n : Nat} {ds : List D} (hn : ds.length ≤ n) (hs : ∀ d ∈ ds, Sm w h d) : Sm (n * (w + 1)) (h + 1) (.tup ds) := by
  have b := Sms.of hs
  exact ⟨b.pur, b.show_, b.nod, b.short, b.lay, Nat.succ_le_succ b.ht, Nat.le_trans b.wt (Nat.mul_le_mul_right _ hn)⟩
theorem Sm.lst {w h n : Nat} {ds : List D} (hn : ds.length ≤ n) (hs : ∀ d ∈ ds, Sm w h d) : Sm (n * (w + 1)) (h + 1) (.lst ds) := by
  have b := Sms.of hs
  exact ⟨b.pur, b.show_, b.nod, b.short, b.lay, Nat.succ_le_succ b.ht, Nat.le_trans b.wt (Nat.mul_le_mul_right _ hn)⟩
end DL
end
section
set_option autoImplicit false
/-! DLt: the meanings as rewrite rules. -/
namespace DL
open PySem L2
section
variable {Φ : Calls} {ρ : Ev} {α β : Type} {i j : Int} {xs ys : List D} {a b c e : E} {d d1 d2 : D} {x y : R} {n m : Nat}
@[simp] theorem r_ret {a : α} : DL.ret a ρ = .ok a ρ := rfl
@[simp] theorem r_stuck : (DL.stuck : M α) ρ = .stk := rfl
@[simp] theorem r_bnd {m : M α} {f : α → M β} : bnd m f ρ = (m ρ).then f := rfl
@[simp] theorem r_ofO {a : α} : ofO (some a) ρ = .ok a ρ := rfl
@[simp] theorem r_vwf : vw (.fz d) ρ = .ok d ρ := rfl
@[simp] theorem r_vwr : vw (.fr xs) ρ = .ok (.lst xs) ρ := rfl
@[simp] theorem r_vwi : vw (.rf n) ρ = (match ρ[n]? with | some (.ls .dic _) => .stk | some (.ls _ xs) => .ok (.lst xs) ρ | _ => .stk) := by
  show (match (match ρ[n]? with | some (.ls .dic _) => none | some (.ls _ xs) => some (D.lst xs) | _ => none) with | some d => Out.ok d ρ | none => .stk) = _
  cases ρ[n]? with
  | none => rfl
  | some s =>
    cases s with
    | un => rfl
    | fz d => rfl
    | ls k xs => cases k <;> rfl
@[simp] theorem r_view1 : view ρ (.fz d) = some d := rfl
@[simp] theorem r_view2 : view ρ (.fr xs) = some (.lst xs) := rfl
@[simp] theorem r_view3 : view ρ (.rf n) = (match ρ[n]? with | some (.ls .dic _) => none | some (.ls _ xs) => some (.lst xs) | _ => none) := rfl
@[simp] theorem r_shf : DL.share (.fz d) ρ = .ok d ρ := rfl
@[simp] theorem r_shr : DL.share (.fr xs) ρ = .ok (.lst xs) ρ := rfl
@[simp] theorem r_shi : DL.share (.rf n) ρ = (match ρ[n]? with | some (.ls .own xs) => .ok (.lst xs) (ρ.set n (.fz (.lst xs))) | _ => .stk) := rfl
@[simp] theorem r_var : ev Φ (.var n) ρ = (match ρ[n]? with | some (.fz d) => .ok (.fz d) ρ | some (.ls .dic _) => .stk | some (.ls _ _) => .ok (.rf n) ρ | _ => .stk) := rfl
@[simp] theorem r_cst : ev Φ (.cst d) ρ = .ok (.fz d) ρ := rfl
@[simp] theorem r_bin {o : Bop} : ev Φ (.bin o a b) ρ = (ev Φ a ρ).then fun x => bnd (ev Φ b) fun y => bnd (vw x) fun d => bnd (vw y) fun e => ofO (binD o d e) := rfl
@[simp] theorem r_neg : ev Φ (.neg a) ρ = (ev Φ a ρ).then fun x => bnd (vw x) fun d => match d with | .int i => DL.ret (.fz (.int (-i))) | _ => stuck := rfl
@[simp] theorem r_cmp {o : Cop} : ev Φ (.cmp o a b) ρ = (ev Φ a ρ).then fun x => bnd (ev Φ b) fun y => bnd (vw x) fun d => bnd (vw y) fun e => bnd (ofO (cmpD o d e)) fun c => DL.ret (.fz (.bl c)) := rfl
@[simp] theorem r_chn {o p : Cop} : ev Φ (.chn o p a b c) ρ = (ev Φ a ρ).then fun x => bnd (ev Φ b) fun y => bnd (vw x) fun d => bnd (vw y) fun e => bnd (ofO (cmpD o d e)) fun k =>
      if k then bnd (ev Φ c) fun z => bnd (vw y) fun e => bnd (vw z) fun f => bnd (ofO (cmpD p e f)) fun c => DL.ret (.fz (.bl c)) else DL.ret (.fz (.bl false)) := rfl
@[simp] theorem r_and : ev Φ (.and a b) ρ = (ev Φ a ρ).then fun x => bnd (vw x) fun d => bnd (ofO (truthD d)) fun k => if k then ev Φ b else DL.ret x := rfl
@[simp] theorem r_or : ev Φ (.or a b) ρ = (ev Φ a ρ).then fun x => bnd (vw x) fun d => bnd (ofO (truthD d)) fun k => if k then DL.ret x else ev Φ b := rfl
@[simp] theorem r_not : ev Φ (.not a) ρ = (ev Φ a ρ).then fun x => bnd (vw x) fun d => bnd (ofO (truthD d)) fun k => DL.ret (.fz (.bl (!k))) := rfl
@[simp] theorem r_ite : ev Φ (.ite e a b) ρ = (ev Φ e ρ).then fun x => bnd (vw x) fun d => bnd (ofO (truthD d)) fun k => if k then ev Φ a else ev Φ b := rfl
@[simp] theorem r_tup {es : Es} : ev Φ (.tup es) ρ = (evs Φ es ρ).then fun ds => if ds.length ≤ sizeLine then DL.ret (.fz (.tup ds)) else stuck := rfl
@[simp] theorem r_lst {es : Es} : ev Φ (.lst es) ρ = (evs Φ es ρ).then fun ds => if ds.length ≤ sizeLine then DL.ret (.fr ds) else stuck := rfl
@[simp] theorem r_idx : ev Φ (.idx a b) ρ = (ev Φ a ρ).then fun x => bnd (ev Φ b) fun y => bnd (vw x) fun d => bnd (vw y) fun e => bnd (ofO (idxD d e)) fun f => DL.ret (.fz f) := rfl
@[simp] theorem r_slc {lo hi : Eo} : ev Φ (.slc a lo hi) ρ = (ev Φ a ρ).then fun x => bnd (evo Φ lo) fun l => bnd (evo Φ hi) fun h => bnd (vw x) fun d => ofO (slcD d l h) := rfl
@[simp] theorem r_call {f : Nat} {p : List Nat} {as ks : As} : ev Φ (.call f p as ks) ρ = (evas Φ as ρ).then fun as => bnd (evas Φ ks) fun ks => callM Φ f p (as ++ ks) := rfl
@[simp] theorem r_bi {o : Bi} {es : Es} : ev Φ (.bi o es) ρ = (evrs Φ es ρ).then fun rs => fun ρ => match rs.mapM (view ρ) with | some ds => ofO (biD o ds) ρ | none => .stk := rfl
@[simp] theorem r_app : ev Φ (.app n e) ρ = (getL n ρ).then fun _ => bnd (ev Φ e) fun y => bnd (DL.share y) fun d => bnd (getL n) fun xs => if xs.length < sizeLine then bnd (putL n (xs ++ [d])) fun _ => DL.ret (.fz .non) else stuck := rfl
@[simp] theorem r_ext : ev Φ (.ext n e) ρ = (getL n ρ).then fun _ => bnd (ev Φ e) fun y => bnd (vw y) fun d => match d with | .lst ys => bnd (getL n) fun xs => if xs.length + ys.length ≤ sizeLine then bnd (putL n (xs ++ ys)) fun _ => DL.ret (.fz .non) else stuck | _ => stuck := rfl
@[simp] theorem r_evo0 : evo Φ .none ρ = .ok none ρ := rfl
@[simp] theorem r_evo1 : evo Φ (.some e) ρ = (ev Φ e ρ).then fun x => bnd (vw x) fun d => match d with | .int i => DL.ret (some i) | _ => stuck := rfl
@[simp] theorem r_evc0 : evc Φ .none ρ = .ok true ρ := rfl
@[simp] theorem r_evc1 : evc Φ (.some e) ρ = (ev Φ e ρ).then fun x => bnd (vw x) fun d => ofO (truthD d) := rfl
@[simp] theorem r_evs0 : evs Φ .nil ρ = .ok [] ρ := rfl
@[simp] theorem r_evs1 {es : Es} : evs Φ (.cons e es) ρ = (ev Φ e ρ).then fun x => bnd (DL.share x) fun d => bnd (evs Φ es) fun ds => DL.ret (d :: ds) := rfl
@[simp] theorem r_evrs0 : evrs Φ .nil ρ = .ok [] ρ := rfl
@[simp] theorem r_evrs1 {es : Es} : evrs Φ (.cons e es) ρ = (ev Φ e ρ).then fun x => bnd (evrs Φ es) fun ds => DL.ret (x :: ds) := rfl
@[simp] theorem r_evas0 : evas Φ .nil ρ = .ok [] ρ := rfl
@[simp] theorem r_evas1 {es : As} : evas Φ (.val e es) ρ = (ev Φ e ρ).then fun x => bnd (DL.share x) fun d => bnd (evas Φ es) fun ds => DL.ret (.val d :: ds) := rfl
@[simp] theorem r_evas2 {es : As} : evas Φ (.ref e es) ρ = (ev Φ e ρ).then fun x => bnd (ofO (asRef x)) fun a => bnd (evas Φ es) fun ds => DL.ret (a :: ds) := rfl
@[simp] theorem r_ar1 : asRef (.fr xs) = some (.fr xs) := rfl
@[simp] theorem r_ar2 : asRef (.rf n) = some (.rf n) := rfl
@[simp] theorem r_mapM0 : List.mapM (view ρ) [] = some [] := rfl
@[simp] theorem r_mapM1 {r : R} {rs : List R} : List.mapM (view ρ) (r :: rs) = (view ρ r).bind fun d => (List.mapM (view ρ) rs).map fun ds => d :: ds := by
  rw [List.mapM_cons]
  cases view ρ r with
  | none => rfl
  | some d => cases List.mapM (view ρ) rs <;> rfl
@[simp] theorem r_comp {own : List Nat} {t : Tg} {it : DL.It} {co : Eo} : ev Φ (.comp own t it co e) ρ = (evit Φ it ρ).then fun (l, xs) => fun ρ => (bnd (wipeM own) (fun _ => withLock l (cmpL (compStep Φ own t co e) xs [])) ρ).then fun ys ρ' => .ok (.fr ys) (backS ρ ρ' own) := rfl
@[simp] theorem w_some {k : Lk} {m : M α} : withLock (some (n, k)) m ρ = (match ρ[n]? with
    | some (.ls _ xs) => (m (ρ.set n (.ls .lck xs))).then fun a ρ' => match ρ'[n]? with
      | some (.ls _ ys) => .ok a (ρ'.set n (.ls k ys))
      | _ => .stk
    | _ => .stk) := rfl
@[simp] theorem v_wipe {own : List Nat} : wipeM own ρ = if ownOk ρ own then .ok () (wipeS ρ own) else .stk := rfl
@[simp] theorem v_own {own : List Nat} : ownOk ρ own = own.all fun i => match ρ[i]? with | some .un => true | some (.fz _) => true | _ => false := rfl
@[simp] theorem v_w0 : wipeS ρ [] = ρ := rfl
@[simp] theorem v_w1 {own : List Nat} : wipeS ρ (n :: own) = (wipeS ρ own).set n .un := rfl
@[simp] theorem v_b0 {ρ' : Ev} : backS ρ ρ' [] = ρ' := rfl
@[simp] theorem v_b1 {ρ' : Ev} {own : List Nat} : backS ρ ρ' (n :: own) = (backS ρ ρ' own).set n (ρ.getD n .un) := rfl
/-! data -/
@[simp] theorem d_add : binD .add (.int i) (.int j) = some (.fz (.int (i + j))) := rfl
@[simp] theorem d_addT : binD .add (.tup xs) (.tup ys) = if xs.length + ys.length ≤ sizeLine then some (.fz (.tup (xs ++ ys))) else none := rfl
@[simp] theorem d_addL : binD .add (.lst xs) (.lst ys) = if xs.length + ys.length ≤ sizeLine then some (.fr (xs ++ ys)) else none := rfl
@[simp] theorem d_sub : binD .sub (.int i) (.int j) = some (.fz (.int (i - j))) := rfl
@[simp] theorem d_mul : binD .mul (.int i) (.int j) = if DL.small64 i || DL.small64 j || (DL.wide i && DL.wide j) then some (.fz (.int (i * j))) else none := rfl
@[simp] theorem d_mulL : binD .mul (.lst xs) (.int i) = if -(2 ^ 63) ≤ i ∧ i < 2 ^ 63 ∧ xs.length * i.toNat ≤ sizeLine then some (.fr (repl xs i.toNat)) else none := rfl
@[simp] theorem d_mulT : binD .mul (.tup xs) (.int i) = if 2 ≤ i ∧ i ≤ 1000 ∧ 1 ≤ xs.length ∧ xs.length ≤ 1000 then some (.fz (.tup (repl xs i.toNat))) else if (i ≤ 1 ∨ xs.isEmpty = true) ∧ -(2 ^ 63) ≤ i ∧ i < 2 ^ 63 then some (.fz (.tup (repl xs i.toNat))) else none := rfl
@[simp] theorem d_fdiv : binD .fdiv (.int i) (.int j) = if j ≠ 0 ∧ j.natAbs < 1073741824 then some (.fz (.int (i.fdiv j))) else none := rfl
@[simp] theorem d_mod : binD .mod (.int i) (.int j) = if j ≠ 0 then some (.fz (.int (i.fmod j))) else none := rfl
@[simp] theorem d_pow : binD .pow (.int i) (.int j) = if 0 ≤ j ∧ j ≤ 1000000 ∧ i.natAbs < 2 ^ 64 then some (.fz (.int (i ^ j.toNat))) else none := rfl
@[simp] theorem d_lt : cmpD .lt (.int i) (.int j) = some (decide (i < j)) := rfl
@[simp] theorem d_le : cmpD .le (.int i) (.int j) = some (decide (i ≤ j)) := rfl
@[simp] theorem d_gt : cmpD .gt (.int i) (.int j) = some (decide (j < i)) := rfl
@[simp] theorem d_ge : cmpD .ge (.int i) (.int j) = some (decide (j ≤ i)) := rfl
@[simp] theorem d_eq : cmpD .eq (.int i) (.int j) = some (decide (i = j)) := rfl
@[simp] theorem d_ne : cmpD .ne (.int i) (.int j) = some (!decide (i = j)) := rfl
@[simp] theorem d_eqs {s t : Str} : cmpD .eq (.str s) (.str t) = some (decide (s = t)) := rfl
@[simp] theorem d_nes {s t : Str} : cmpD .ne (.str s) (.str t) = some (!decide (s = t)) := rfl
@[simp] theorem d_isn : cmpD .isN .non .non = some true := rfl
@[simp] theorem d_ist : cmpD .isN (.tup xs) .non = some false := rfl
@[simp] theorem d_isi : cmpD .isN (.int i) .non = some false := rfl
@[simp] theorem d_isl : cmpD .isN (.lst xs) .non = some false := rfl
@[simp] theorem d_nsn : cmpD .notN .non .non = some false := rfl
@[simp] theorem d_nst : cmpD .notN (.tup xs) .non = some true := rfl
@[simp] theorem d_nsi : cmpD .notN (.int i) .non = some true := rfl
@[simp] theorem d_nsl : cmpD .notN (.lst xs) .non = some true := rfl
@[simp] theorem t_bl {k : Bool} : truthD (.bl k) = some k := rfl
@[simp] theorem t_int : truthD (.int i) = some (i != 0) := rfl
@[simp] theorem t_non : truthD .non = some false := rfl
@[simp] theorem t_tup : truthD (.tup xs) = some (!xs.isEmpty) := rfl
@[simp] theorem t_lst : truthD (.lst xs) = some (!xs.isEmpty) := rfl
@[simp] theorem x_tup : idxD (.tup xs) (.int i) = L2.atI xs i := rfl
@[simp] theorem x_lst : idxD (.lst xs) (.int i) = L2.atI xs i := rfl
@[simp] theorem x_scr : idxD (.scr xs) (.int i) = L2.atI xs i := rfl
@[simp] theorem l_tup {lo hi : Option Int} : slcD (.tup xs) lo hi = some (.fz (.tup (cut xs lo hi))) := rfl
@[simp] theorem l_lst {lo hi : Option Int} : slcD (.lst xs) lo hi = some (.fr (cut xs lo hi)) := rfl
@[simp] theorem l_scr {lo hi : Option Int} : slcD (.scr xs) lo hi = some (.fr (cut xs lo hi)) := rfl
@[simp] theorem b_lent : biD .len [.tup xs] = some (.fz (.int xs.length)) := rfl
@[simp] theorem b_lenl : biD .len [.lst xs] = some (.fz (.int xs.length)) := rfl
@[simp] theorem b_lens : biD .len [.scr xs] = some (.fz (.int xs.length)) := rfl
@[simp] theorem b_abs : biD .abs [.int i] = some (.fz (.int (if i < 0 then -i else i))) := rfl
@[simp] theorem b_int : biD .int1 [.int i] = some (.fz (.int i)) := rfl
@[simp] theorem b_tupt : biD .tuple [.tup xs] = some (.fz (.tup xs)) := rfl
@[simp] theorem b_tupl : biD .tuple [.lst xs] = some (.fz (.tup xs)) := rfl
@[simp] theorem b_lstt : biD .list [.tup xs] = some (.fr xs) := rfl
@[simp] theorem b_lstl : biD .list [.lst xs] = some (.fr xs) := rfl
@[simp] theorem b_max1 : biD .max1 [.lst xs] = ((intsD xs).bind maxL).map fun m => .fz (.int m) := rfl
@[simp] theorem b_min1 : biD .min1 [.lst xs] = ((intsD xs).bind minL).map fun m => .fz (.int m) := rfl
@[simp] theorem b_max2 : biD .max2 [.int i, .int j] = some (.fz (.int (if j > i then j else i))) := rfl
@[simp] theorem b_min2 : biD .min2 [.int i, .int j] = some (.fz (.int (if j < i then j else i))) := rfl
@[simp] theorem b_sum : biD .sum [.lst xs] = (intsD xs).map fun ns => .fz (.int ns.sum) := rfl
@[simp] theorem b_sumT : biD .sum [.tup xs] = (intsD xs).map fun ns => .fz (.int ns.sum) := rfl
@[simp] theorem b_all : biD .all [.lst xs] = (boolsD xs).map fun bs => .fz (.bl (bs.all id)) := rfl
@[simp] theorem b_any : biD .any [.lst xs] = (boolsD xs).map fun bs => .fz (.bl (bs.any id)) := rfl
@[simp] theorem b_sorted : biD .sorted [.lst xs] = (intsD xs).map fun ns => .fr ((sortI ns).map .int) := rfl
@[simp] theorem b_divmod : biD .divmod [.int i, .int j] = if 0 < j ∧ j < 1000000000000000000000000000000000000000000000000000000000000 then some (.fz (.tup [.int (i / j), .int (i % j)])) else none := rfl
@[simp] theorem b_isi1 {t : Ty} : biD (.isi t) [.int i] = some (.fz (.bl (isD (.int i) t))) := rfl
@[simp] theorem b_isi2 {t : Ty} : biD (.isi t) [.tup xs] = some (.fz (.bl (isD (.tup xs) t))) := rfl
@[simp] theorem b_isi3 {t : Ty} : biD (.isi t) [.lst xs] = some (.fz (.bl (isD (.lst xs) t))) := rfl
@[simp] theorem b_isi4 {t : Ty} : biD (.isi t) [.non] = some (.fz (.bl (isD .non t))) := rfl
@[simp] theorem b_isi5 {t : Ty} {k : Bool} : biD (.isi t) [.bl k] = some (.fz (.bl (isD (.bl k) t))) := rfl
@[simp] theorem b_isi6 {t : Ty} {s : Str} : biD (.isi t) [.str s] = some (.fz (.bl (isD (.str s) t))) := rfl
@[simp] theorem b_iso {c : Nat} : biD (.iso c) [.obj c xs] = some (.fz (.bl true)) := if_pos rfl
@[simp] theorem b_isn {c : Nat} : biD (.isn c) [.obj c xs] = some (.fz (.bl true)) := if_pos rfl
@[simp] theorem b_ssetT : biD .sset [.tup xs] = (intsD xs).bind fun ns => if ns.length ≤ 4000 ∧ (setI ns).length < 64 then some (.fr ((setI ns).map .int)) else none := rfl
@[simp] theorem b_sset : biD .sset [.lst xs] = (intsD xs).bind fun ns => if ns.length ≤ 4000 ∧ (setI ns).length < 64 then some (.fr ((setI ns).map .int)) else none := rfl
@[simp] theorem r_fld {ks : List (Nat × Nat)} : ev Φ (.fld a ks) ρ = (ev Φ a ρ).then fun x => bnd (vw x) fun d => match d with
    | .obj c xs => bnd (ofO ((ks.lookup c).bind fun i => xs[i]?)) fun f => DL.ret (.fz f)
    | _ => stuck := rfl
@[simp] theorem r_make {c f : Nat} {p : List Nat} {as ks : As} : ev Φ (.make c f p as ks) ρ = (evas Φ as ρ).then fun as => bnd (evas Φ ks) fun ks => makeM Φ c f p (as ++ ks) := rfl
@[simp] theorem r_meth {ms : List (Nat × Nat)} {p : List Nat} {as ks : As} : ev Φ (.meth a ms p as ks) ρ = (ev Φ a ρ).then fun x => bnd (vw x) fun d => match d with
    | .obj c xs => bnd (ofO (ms.lookup c)) fun f => bnd (evas Φ as) fun as => bnd (evas Φ ks) fun ks => callM Φ f p (.val (.obj c xs) :: (as ++ ks))
    | _ => stuck := rfl
@[simp] theorem c_make {c f : Nat} {p : List Nat} {as : List A} : makeM Φ c f p as ρ = (match (pick p as).bind valsOf with
  | none => .stk
  | some ds => match Φ f (.un :: ds.map .fz) with
    | some (.fz (.tup xs), _) => if xs.length = (cFlds c).length then .ok (.fz (.obj c xs)) ρ else .stk
    | _ => .stk) := rfl
@[simp] theorem vo_0 : valsOf [] = some [] := rfl
@[simp] theorem vo_1 {as : List A} : valsOf (.val d :: as) = (valsOf as).map (d :: ·) := rfl
@[simp] theorem cf_0 : (cFlds 0).length = 2 := rfl
@[simp] theorem cf_1 : (cFlds 1).length = 2 := rfl
@[simp] theorem o_enumZ : evit Φ (.enumZ a b) ρ = (ev Φ a ρ).then fun x => bnd (DL.share x) fun d => bnd (ev Φ b) fun y => bnd (DL.share y) fun e => match d, e with
    | .tup xs, .tup ys => DL.ret (none, enumFrom 0 (zipD xs ys))
    | _, _ => stuck := rfl
@[simp] theorem s_par3 {l : Nat} : exec Φ (.par3 n m l a b c) ρ = (ev Φ a ρ).then fun x => bnd (ev Φ b) fun y => bnd (ev Φ c) fun z => bnd (unref x) fun x => bnd (unref y) fun y => bnd (unref z) fun z => match y, z with
    | .fz d, .fz e => bnd (setR n x) fun _ => bnd (DL.setD m d) fun _ => bnd (DL.setD l e) fun _ => DL.ret .nx
    | _, _ => stuck := rfl
@[simp] theorem b_tr1 : biD .tupRng1 [.int j] = if DL.small62 j && decide (j.toNat ≤ 16777216) then some (.fz (.tup (rngL 0 j))) else none := rfl
@[simp] theorem b_tr2 : biD .tupRng2 [.int i, .int j] = if DL.small62 i && DL.small62 j && decide ((j - i).toNat ≤ 16777216) then some (.fz (.tup (rngL i j))) else none := rfl
@[simp] theorem i_int : isD (.int i) .int = true := rfl
@[simp] theorem i_intb : isD (.int i) .bool = false := rfl
@[simp] theorem i_tup : isD (.tup xs) .tuple = true := rfl
@[simp] theorem i_tupl : isD (.tup xs) .list = false := rfl
@[simp] theorem i_intt : isD (.int i) .tuple = false := rfl
@[simp] theorem i_intl : isD (.int i) .list = false := rfl
@[simp] theorem i_lstl : isD (.lst xs) .list = true := rfl
@[simp] theorem i_lstt : isD (.lst xs) .tuple = false := rfl
@[simp] theorem m_tup : itemsD (.tup xs) = some xs := rfl
@[simp] theorem m_lst : itemsD (.lst xs) = some xs := rfl
@[simp] theorem m_scr : itemsD (.scr xs) = some xs := rfl
@[simp] theorem k_fz : lockOf ρ (.fz d) = none := rfl
@[simp] theorem k_fr : lockOf ρ (.fr xs) = none := rfl
@[simp] theorem k_rf : lockOf ρ (.rf n) = (match ρ[n]? with | some (.ls .dic _) => none | some (.ls k _) => some (n, k) | _ => none) := rfl
@[simp] theorem w_none {m : M α} : withLock none m ρ = m ρ := rfl
/-! statements -/
@[simp] theorem s_nil : execs Φ .nil ρ = .ok .nx ρ := rfl
@[simp] theorem s_cons {s : S} {ss : Ss} : execs Φ (.cons s ss) ρ = (exec Φ s ρ).then fun | .nx => execs Φ ss | f => DL.ret f := rfl
@[simp] theorem s_asg {t : Tg} : exec Φ (.asg t e) ρ = (ev Φ e ρ).then fun r => bnd (asgR Φ t r) fun _ => DL.ret .nx := rfl
@[simp] theorem s_par : exec Φ (.par n m a b) ρ = (ev Φ a ρ).then fun x => bnd (ev Φ b) fun y => bnd (unref x) fun x => bnd (unref y) fun y => bnd (setR n x) fun _ => bnd (setR m y) fun _ => DL.ret .nx := rfl
@[simp] theorem s_aug {o : Bop} : exec Φ (.aug n o e) ρ = (ev Φ (.var n) ρ).then fun x => bnd (ev Φ e) fun y => bnd (vw x) fun d => bnd (vw y) fun e => match d, e with
    | .int _, .int _ => bnd (ofO (binD o d e)) fun r => bnd (setR n r) fun _ => DL.ret .nx
    | _, _ => stuck := rfl
@[simp] theorem s_ex : exec Φ (.ex e) ρ = (ev Φ e ρ).then fun _ => DL.ret .nx := rfl
@[simp] theorem s_ifs {ss ts : Ss} : exec Φ (.ifs e ss ts) ρ = (ev Φ e ρ).then fun x => bnd (vw x) fun d => bnd (ofO (truthD d)) fun k => if k then execs Φ ss else execs Φ ts := rfl
@[simp] theorem s_ret : exec Φ (.ret e) ρ = (ev Φ e ρ).then fun r => DL.ret (.rt r) := rfl
@[simp] theorem s_retN : exec Φ .retN ρ = .ok (.rt (.fz .non)) ρ := rfl
@[simp] theorem s_pass : exec Φ .pass ρ = .ok .nx ρ := rfl
@[simp] theorem s_brk : exec Φ .brk ρ = .ok .bk ρ := rfl
@[simp] theorem s_wip {ws : List Nat} : exec Φ (.wip ws) ρ = (if dropOk ρ ws then .ok .nx (wipeS ρ ws) else .stk) := by
  show ((if dropOk ρ ws then Out.ok () (wipeS ρ ws) else .stk).then _) = _
  split <;> rfl
@[simp] theorem v_drop {ws : List Nat} : dropOk ρ ws = ws.all fun i => match ρ[i]? with | some .un => true | some (.fz _) => true | some (.ls .own _) => true | _ => false := rfl
@[simp] theorem s_cnt : exec Φ .cnt ρ = .ok .ct ρ := rfl
@[simp] theorem s_for {t : Tg} {it : DL.It} {ss : Ss} : exec Φ (.for_ t it ss) ρ = (evit Φ it ρ).then fun (l, xs) => withLock l (forL (fun x => bnd (asgn Φ t x) fun _ => execs Φ ss) xs) := rfl
@[simp] theorem u_fz : unref (.fz d) ρ = .ok (.fz d) ρ := rfl
@[simp] theorem u_fr : unref (.fr xs) ρ = .ok (.fr xs) ρ := rfl
@[simp] theorem u_rf : unref (.rf n) ρ = (DL.share (.rf n) ρ).then fun d => DL.ret (.fz d) := rfl
@[simp] theorem g_nm {r : R} : asgR Φ (.nm n) r ρ = DL.setR n r ρ := rfl
@[simp] theorem g_sub {r : R} : asgR Φ (.sub n e) r ρ = (DL.share r ρ).then fun d => asgn Φ (.sub n e) d := rfl
@[simp] theorem g_tp {r : R} {ts : Tgs} : asgR Φ (.tp ts) r ρ = (DL.share r ρ).then fun d => asgn Φ (.tp ts) d := rfl
@[simp] theorem a_nm : asgn Φ (.nm n) d ρ = DL.setD n d ρ := rfl
@[simp] theorem a_sub : asgn Φ (.sub n e) d ρ = (getL n ρ).then fun _ => bnd (ev Φ e) fun y => bnd (vw y) fun e => match e with
    | .int k => bnd (getL n) fun xs => match ixN xs.length k with | some j => putL n (xs.set j d) | none => stuck
    | _ => stuck := rfl
@[simp] theorem a_tp {ts : Tgs} {ds : List D} : asgn Φ (.tp ts) (.tup ds) ρ = asgns Φ ts ds ρ := rfl
@[simp] theorem a_s0 : asgns Φ .nil [] ρ = .ok () ρ := rfl
@[simp] theorem a_s1 {t : Tg} {ts : Tgs} {ds : List D} : asgns Φ (.cons t ts) (d :: ds) ρ = (asgn Φ t d ρ).then fun _ => asgns Φ ts ds := rfl
@[simp] theorem e_setD : DL.setD n d ρ = (match ρ[n]? with | some .un => .ok () (ρ.set n (.fz d)) | some (.fz _) => .ok () (ρ.set n (.fz d)) | some (.ls .own _) => .ok () (ρ.set n (.fz d)) | _ => .stk) := rfl
@[simp] theorem e_setL : DL.setL n xs ρ = (match ρ[n]? with | some .un => .ok () (ρ.set n (.ls .own xs)) | some (.fz _) => .ok () (ρ.set n (.ls .own xs)) | some (.ls .own _) => .ok () (ρ.set n (.ls .own xs)) | _ => .stk) := rfl
@[simp] theorem e_setR1 : DL.setR n (.fz d) ρ = DL.setD n d ρ := rfl
@[simp] theorem e_setR2 : DL.setR n (.fr xs) ρ = DL.setL n xs ρ := rfl
@[simp] theorem e_setR3 : DL.setR n (.rf m) ρ = (DL.share (.rf m) ρ).then (DL.setD n) := rfl
@[simp] theorem e_putL : putL n xs ρ = (match ρ[n]? with | some (.ls .own _) => .ok () (ρ.set n (.ls .own xs)) | some (.ls .bor _) => .ok () (ρ.set n (.ls .bor xs)) | _ => .stk) := rfl
@[simp] theorem e_getL : getL n ρ = (match ρ[n]? with | some (.ls .dic _) => .stk | some (.ls _ xs) => .ok xs ρ | _ => .stk) := rfl
@[simp] theorem o_val : evit Φ (.val e) ρ = (ev Φ e ρ).then fun x => bnd (vw x) fun d => fun ρ => bnd (ofO (itemsD d)) (fun xs => DL.ret (lockOf ρ x, xs)) ρ := rfl
@[simp] theorem o_rng1 : evit Φ (.rng1 e) ρ = (ev Φ e ρ).then fun x => bnd (vw x) fun d => match d with
    | .int j => if DL.small62 j then DL.ret (none, rngL 0 j) else stuck
    | _ => stuck := rfl
@[simp] theorem o_rng2 : evit Φ (.rng2 a b) ρ = (ev Φ a ρ).then fun x => bnd (ev Φ b) fun y => bnd (vw x) fun d => bnd (vw y) fun e => match d, e with
    | .int i, .int j => if DL.small62 i && DL.small62 j then DL.ret (none, rngL i j) else stuck
    | _, _ => stuck := rfl
@[simp] theorem o_enum : evit Φ (.enum e) ρ = (ev Φ e ρ).then fun x => bnd (vw x) fun d => fun ρ => bnd (ofO (itemsD d)) (fun xs => DL.ret (lockOf ρ x, enumFrom 0 xs)) ρ := rfl
@[simp] theorem o_zip : evit Φ (.zip a b) ρ = (ev Φ a ρ).then fun x => bnd (DL.share x) fun d => bnd (ev Φ b) fun y => bnd (DL.share y) fun e => bnd (ofO (zipI d e)) fun xs => DL.ret (none, xs) := rfl
@[simp] theorem o_rev : evit Φ (.rev e) ρ = (ev Φ e ρ).then fun x => bnd (vw x) fun d => fun ρ => bnd (ofO (itemsD d)) (fun xs => DL.ret (lockOf ρ x, xs.reverse)) ρ := rfl
@[simp] theorem z_ll : zipI (.lst xs) (.lst ys) = some (zipD xs ys) := rfl
@[simp] theorem z_tt : zipI (.tup xs) (.tup ys) = some (zipD xs ys) := rfl
/-! calls -/
@[simp] theorem c_call {f : Nat} {p : List Nat} {as : List A} : callM Φ f p as ρ = (match pick p as with
  | none => .stk
  | some as => if (refs as).Nodup ∧ frs as ≤ 1 then match slotsOf ρ as with
      | none => .stk
      | some ss => match Φ f ss with
        | none => .stk
        | some (r, ss') => .ok r (putBack as ss' ρ)
    else .stk) := rfl
@[simp] theorem p_nil {l : List α} : pick [] l = some [] := rfl
@[simp] theorem p_cons {l : List α} {p : List Nat} : pick (n :: p) l = (l[n]?).bind fun z => (pick p l).map fun r => z :: r := by
  unfold pick
  rw [List.mapM_cons]
  cases l[n]? with
  | none => rfl
  | some z => cases (List.mapM (fun j => l[j]?) p) <;> rfl
@[simp] theorem f_0 : refs [] = [] := rfl
@[simp] theorem f_1 {as : List A} : refs (.val d :: as) = refs as := rfl
@[simp] theorem f_2 {as : List A} : refs (.fr xs :: as) = refs as := rfl
@[simp] theorem f_3 {as : List A} : refs (.rf n :: as) = n :: refs as := rfl
@[simp] theorem f_4 : frs [] = 0 := rfl
@[simp] theorem f_5 {as : List A} : frs (.val d :: as) = frs as := rfl
@[simp] theorem f_6 {as : List A} : frs (.fr xs :: as) = frs as + 1 := rfl
@[simp] theorem f_7 {as : List A} : frs (.rf n :: as) = frs as := rfl
@[simp] theorem so_0 : slotsOf ρ [] = some [] := rfl
@[simp] theorem so_1 {a : A} {as : List A} : slotsOf ρ (a :: as) = (match slotOf ρ a, slotsOf ρ as with | some s, some ss => some (s :: ss) | _, _ => none) := rfl
@[simp] theorem so_2 : slotOf ρ (.val d) = some (.fz d) := rfl
@[simp] theorem so_3 : slotOf ρ (.fr xs) = some (.ls .bor xs) := rfl
@[simp] theorem so_4 : slotOf ρ (.rf n) = (match ρ[n]? with | some (.ls .own xs) => some (.ls .bor xs) | some (.ls .bor xs) => some (.ls .bor xs) | _ => none) := rfl
@[simp] theorem pb_0 {ss : List Sl} : putBack [] ss ρ = ρ := rfl
@[simp] theorem pb_1 {a : List A} {s : Sl} {ss : List Sl} : putBack (.val d :: a) (s :: ss) ρ = putBack a ss ρ := rfl
@[simp] theorem pb_2 {a : List A} {s : Sl} {ss : List Sl} : putBack (.fr xs :: a) (s :: ss) ρ = putBack a ss ρ := rfl
@[simp] theorem pb_3 {a : List A} {k : Lk} {ss : List Sl} : putBack (.rf n :: a) (.ls k xs :: ss) ρ = putBack a ss (match ρ[n]? with | some (.ls k _) => ρ.set n (.ls k xs) | _ => ρ) := rfl
@[simp] theorem sz_le : (n ≤ sizeLine) = (n ≤ 16777216) := rfl
@[simp] theorem sz_lt : (n < sizeLine) = (n < 16777216) := rfl
theorem s64 (h1 : -18446744073709551616 < i) (h2 : i < 18446744073709551616) : DL.small64 i = true := by
  unfold DL.small64
  rw [decide_eq_true (by omega), decide_eq_true (by omega)]
  rfl
theorem s62 (h1 : -4611686018427387904 ≤ i) (h2 : i < 4611686018427387904) : DL.small62 i = true := by
  unfold DL.small62
  rw [decide_eq_true (by omega), decide_eq_true (by omega)]
  rfl
theorem fmodE (h : 0 ≤ j) : i.fmod j = i % j := Int.fmod_eq_emod_of_nonneg i h
theorem fdivE (h : 0 ≤ j) : i.fdiv j = i / j := Int.fdiv_eq_ediv_of_nonneg i h
@[simp 100] theorem x_atI {xs : List α} {i : Int} : L2.atI xs i = (L2.ixN xs.length i).bind fun j => xs[j]? := rfl
@[simp 100] theorem x_ixN : L2.ixN n i = if 0 ≤ i then (if i < n then some i.toNat else none) else if -(n : Int) ≤ i then some (i + n).toNat else none := rfl
end
end DL
end
section
set_option autoImplicit false
/-! DLw: three in parallel, sorted(set(..)), enumerate(zip(..)), fields, isinstance of an own class. -/
namespace DL
open PySem L2
variable [LTabs]
section
variable {K : PySem.W.Frag} {S S' : Addr → Prop} {ρ ρ' : Ev} {σ σ' : St} {H H' : Hp} {a b : Addr} {xs ys : List D}
theorem Wk.enumZ : Wk K (IteZ K a b) (Two K (.ref a) (.ref b) (.tup xs) (.tup ys)) (enumFrom 0 (zipD xs ys)) where
  stop := fun S ρ σ H rel h i hi => by
    obtain ⟨p, vs, ep, h1, h2⟩ := (Vd.fz h.1).t
    obtain ⟨q, us, eq, h3, h4⟩ := (Vd.fz h.2).t
    cases ep
    cases eq
    rw [enum_len, zip_len] at hi
    exact ⟨vs, us, h1, h3, by rw [h2.length, h4.length]; omega⟩
  go := fun S ρ σ H rel h i hi => by
    obtain ⟨p, vs, ep, h1, h2⟩ := (Vd.fz h.1).t
    obtain ⟨q, us, eq, h3, h4⟩ := (Vd.fz h.2).t
    cases ep
    cases eq
    rw [enum_len, zip_len] at hi
    have i1 : i < vs.length := by rw [h2.length]; omega
    have i2 : i < us.length := by rw [h4.length]; omega
    exact ⟨vs, us, vs[i], us[i], h1, h3, List.getElem?_eq_getElem i1, List.getElem?_eq_getElem i2⟩
  yld := fun S ρ σ H i d' x H' rel h ei y => by
    obtain ⟨p, vs, ep, h1, h2⟩ := (Vd.fz h.1).t
    obtain ⟨q, us, eq, h3, h4⟩ := (Vd.fz h.2).t
    cases ep
    cases eq
    obtain ⟨P, T, z1, z2, rfl, nPT, nP, nT, rfl, y1, y2⟩ := y
    obtain ⟨d2, e0, rfl⟩ := enum_getZ (k := 0) ei
    obtain ⟨x1, x2, e1, e2, rfl⟩ := zip_get e0
    obtain ⟨w1, f1, r1⟩ := h2.get e1
    obtain ⟨w2, f2, r2⟩ := h4.get e2
    rw [y1 vs h1] at f1
    rw [y2 us h3] at f2
    cases f1
    cases f2
    have g1 := Gn.tup (S := S) (vs := [z1, z2]) nP
    have nT2 : upd H P (.tup [z1, z2]) T = none := by rw [upd_ne (Ne.symm nPT)]; exact nT
    have g2 := Gn.tup (S := fun a => S a ∨ a = P) (H := upd H P (.tup [z1, z2])) (vs := [.int ((i : Nat) : Int), .ref P]) nT2
    exact ⟨_, g1.trans g2, Rp.mkTup nT2 (.cons (.int _) (.cons (Rp.mkTup nP (.cons r1 (.cons r2 .nil))) .nil))⟩
  stay := fun S ρ σ H S' ρ' σ' H' rel h g _ => h.stay rel g
  wip := fun own S ρ σ H no h => h
end
section
variable {X : Cx} {Φ : Calls} {a b c : Expr} {es : List Expr} {pos : Pos} {ia ib ic : E}
/-! sorted(set(..)) -/
/-! ### instances -/
/-- what the written part has of the class c -/
structure ClsF (K : PySem.W.Frag) (c : Nat) (C : Addr) : Prop where
  ns : PySem.W.nsIn K mainGlobals (cName c) = some (some (.ref C))
  cl : Cls K C
  na : ∀ f ∈ cFlds c, NoAttr K C f
def AllF (K : PySem.W.Frag) (f : Str) : List (Nat × Nat) → Prop
  | [] => True
  | (c, i) :: r => (∃ C, ClsF K c C ∧ (cFlds c)[i]? = some f) ∧ AllF K f r
theorem AllF.at {K : PySem.W.Frag} {f : Str} {c i : Nat} : ∀ {ks : List (Nat × Nat)}, AllF K f ks → ks.lookup c = some i → ∃ C, ClsF K c C ∧ (cFlds c)[i]? = some f
  | [], _, h => by cases h
  | (c', i') :: r, h, e => by
    unfold List.lookup at e
    cases q : c == c' with
    | true =>
      rw [q] at e
      cases e
      have := beq_iff_eq.mp q
      subst this
      exact h.1
    | false => rw [q] at e; exact AllF.at h.2 e
theorem cf_nodup : ∀ c : Nat, (cFlds c).Nodup
  | 0 => by decide
  | _ + 1 => by show (["levels", "targets"] : List Str).Nodup; decide
theorem zip_lookup {f : Str} : ∀ {ns : List Str} {vs : List V} {i : Nat} {v : V}, ns.Nodup → ns[i]? = some f → vs[i]? = some v → (ns.zip vs).lookup f = some v
  | [], _, _, _, _, h, _ => by cases h
  | _ :: _, [], _, _, _, _, h => by cases h
  | n :: ns, u :: vs, 0, v, _, h1, h2 => by
    cases h1
    cases h2
    show (match f == f with | true => some u | false => _) = _
    rw [beq_self_eq_true]
  | n :: ns, u :: vs, i + 1, v, nd, h1, h2 => by
    obtain ⟨n1, n2⟩ := List.nodup_cons.mp nd
    have h1 : ns[i]? = some f := h1
    have hm := List.mem_of_getElem? h1
    show (match f == n with | true => some u | false => (ns.zip vs).lookup f) = _
    have : (f == n) = false := by
      cases q : f == n with
      | false => rfl
      | true => exact absurd (beq_iff_eq.mp q ▸ hm) n1
    rw [this]
    exact zip_lookup n2 h1 h2
theorem Vd.o {K : PySem.W.Frag} {S : Addr → Prop} {H : Hp} {v : V} {c : Nat} {xs : List D} (h : Vd K S H v (.obj c xs)) : ∃ a C dx vs, v = .ref a ∧ PySem.W.nsIn K mainGlobals (cName c) = some (some (.ref C)) ∧ S a ∧ H a = some (.ins C dx ((cFlds c).zip vs)) ∧ vs.length = (cFlds c).length ∧ Rps K S H vs xs := by
  cases h with
  | fz h => cases h with | obj n s h l r => exact ⟨_, _, _, _, rfl, n, s, h, l, r⟩
theorem cls_inj {K : PySem.W.Frag} {c : Nat} {C C' : Addr} (h1 : PySem.W.nsIn K mainGlobals (cName c) = some (some (.ref C))) (h2 : PySem.W.nsIn K mainGlobals (cName c) = some (some (.ref C'))) : C = C' := by
  rw [h1] at h2
  cases h2
  rfl
theorem de_fld {f : Str} {ks : List (Nat × Nat)} (ha : PE X a (tD X.K (ev Φ ia))) (hk : AllF X.K f ks) (hb : attributeBase a f X.env (eval a X.env) = eval a X.env := by rfl) : PE X (.Attribute a f pos) (tD X.K (ev Φ (.fld ia ks))) :=
  peImp (pe_fld ha hb) fun σ H Q q => by
    obtain ⟨S, ρ, r, ρ', rel, e, q⟩ := q
    simp only [ev] at e
    obtain ⟨x, ρ1, e1, h1⟩ := bnd_eq e
    obtain ⟨d, v1, h2⟩ := vw1_split h1
    cases d <;> (try (cases h2; done))
    rename_i c xs
    obtain ⟨y, e2, h3⟩ := ofO_split h2
    obtain ⟨q1, q2⟩ := ret_eq h3
    subst q1 q2
    cases hl : ks.lookup c with
    | none => rw [hl] at e2; cases e2
    | some i =>
      rw [hl] at e2
      have e2 : xs[i]? = some y := e2
      obtain ⟨C, F, hf⟩ := hk.at hl
      exact ⟨S, ρ, x, _, rel, e1, fun S1 v H1 g1 rel1 r1 => by
        obtain ⟨p, C', dx, vs, ev, hn, hs, hh, hlen, rp⟩ := (r1.view rel1 v1).o
        have := cls_inj hn F.ns
        subst this
        obtain ⟨u, eu, ru⟩ := rp.get e2
        exact ⟨p, C', dx, _, u, ev, hh, F.cl, F.na f (List.mem_of_getElem? hf), zip_lookup (cf_nodup c) hf eu, q S1 u H1 g1 rel1 ru⟩⟩
/-- what isinstance asks of the class -/
structure IsiF (K : PySem.W.Frag) (C : Addr) : Prop where
  ha : PySem.W.findIn K (.ref C) "__class__" = some (some (.builtin "object.__class__"))
  hn : PySem.W.specialIn K (.builtin "object.__class__") "__get__" = some (some (.builtin "getset_descriptor.__get__"))
  htk : PySem.W.takesIn K (.builtin "object.__class__") = some true
  hm : PySem.W.mroIn K C (.type "object") = some true
  self : PySem.W.kitOne K (.ref C) (.ref C) = some true
  no : ∀ t ∈ ["NoneType", "bool", "int", "str", "tuple", "list", "dict"], PySem.W.kitOne K (.type t) (.ref C) = some false
theorem de_isn {c : Nat} {C : Addr} {p : Pos} (F : ClsF X.K c C) (G : IsiF X.K C) (hg : Gl X "isinstance") (hm : X.mg "isinstance" = none) (hT : PE X b (tC (.ref C))) (ha : PE X a (tD X.K (ev Φ ia)))
    (he : starEach [a, b] X.env = (false, eval a X.env) :: starEach [b] X.env := by rfl) (he2 : starEach [b] X.env = (false, eval b X.env) :: starEach [] X.env := by rfl) (hpl : (PySem.backTo pos (starEach [b] X.env)).any (·.1) = false := by rfl) :
    PE X (.Call (.Name "isinstance" p) [a, b] [] pos) (tD X.K (ev Φ (.bi (.isn c) (.cons ia .nil)))) :=
  peImp (pe_callB call_isi hg hm (by decide +kernel) (pa_cons ha (pa_cons hT pa_nil he2) he) (by decide) (by decide) he hpl) fun σ H Q q => by
    obtain ⟨S, ρ, r, ρ', rel, e, q⟩ := q
    obtain ⟨rs, ds, e1, e2, e3⟩ := bi_split e
    simp only [evrs] at e1
    obtain ⟨y, ρ1, e4, h1⟩ := bnd_eq e1
    obtain ⟨zs, ρ3, e5, h3⟩ := bnd_eq h1
    obtain ⟨q1, q2⟩ := ret_eq e5
    subst q1 q2
    obtain ⟨q1, q2⟩ := ret_eq h3
    subst q1 q2
    obtain ⟨d, v1, e6⟩ : ∃ d, view ρ' y = some d ∧ ds = [d] := by
      rw [List.mapM_cons, List.mapM_nil] at e2
      cases q : view ρ' y with
      | none => rw [q] at e2; cases e2
      | some d => rw [q] at e2; exact ⟨d, rfl, (Option.some.inj e2).symm⟩
    subst e6
    by_cases hno : noObj d = true
    · have e4' : r = .fz (.bl false) := by
        cases d <;> first | (exact (Option.some.inj e3).symm) | (cases hno)
      subst e4'
      exact ⟨S, ρ, y, ρ', rel, e4, fun S1 v H1 g1 rel1 r1 => by
        exact ⟨_, _, .type (tyN d), .ref C, false, rfl, .own C, ty_d (r1.view rel1 v1) hno, G.no (tyN d) (by cases d <;> first | (simp [tyN]; done) | cases hno), q S1 _ H1 g1 rel1 (.bl _)⟩⟩
    cases d <;> (try (exact absurd rfl hno))
    rename_i c' xs
    have e3 : (if c' = c then some (R.fz (.bl true)) else none) = some r := e3
    by_cases hc : c' = c
    · rw [if_pos hc] at e3
      cases e3
      subst hc
      exact ⟨S, ρ, y, ρ', rel, e4, fun S1 v H1 g1 rel1 r1 => by
        obtain ⟨p, C', dx, vs, ev, hn, hs, hh, hlen, rp⟩ := (r1.view rel1 v1).o
        have := cls_inj hn F.ns
        subst this
        subst ev
        exact ⟨_, _, .ref C', .ref C', true, rfl, .own C', .base (.ins hh F.cl G.ha G.hn G.htk G.hm), G.self, q S1 _ H1 g1 rel1 (.bl _)⟩⟩
    · rw [if_neg hc] at e3
      cases e3
end
end DL
end
section
set_option autoImplicit false
/-! DLx: calls with defaults; methods. -/
namespace DL
open PySem L2
variable [LTabs]
def As.app : As → As → As
  | .nil, b => b
  | .val e r, b => .val e (r.app b)
  | .ref e r, b => .ref e (r.app b)
/-- constants as arguments -/
def csts : List D → As
  | [] => .nil
  | d :: r => .val (.cst d) (csts r)
/-- a value that is frozen everywhere -/
def Cst (K : PySem.W.Frag) (v : V) (d : D) : Prop := ∀ S H, Rp K S H v d
inductive Csts (K : PySem.W.Frag) : List V → List D → Prop
  | nil : Csts K [] []
  | cons {v : V} {vs : List V} {d : D} {ds : List D} : Cst K v d → Csts K vs ds → Csts K (v :: vs) (d :: ds)
theorem Cst.int {K : PySem.W.Frag} {i : Int} : Cst K (.int i) (.int i) := fun _ _ => .int i
theorem Cst.non {K : PySem.W.Frag} : Cst K .non .non := fun _ _ => .non
theorem Cst.bl {K : PySem.W.Frag} {b : Bool} : Cst K (.bl b) (.bl b) := fun _ _ => .bl b
theorem Cst.unit {K : PySem.W.Frag} {a : Addr} {o : Obj} {n : Nat} (h : K.lookup a = some o) (hc : o.cls = .type "tuple") (hd : o.data = .seq #[] n) : Cst K (.ref a) (.tup []) := fun S H =>
  .tup (.inr ⟨o, #[], n, h, hc, fun z => (nomatch z), hd, Nat.zero_le _, .nil⟩) .nil
theorem csts_ev {Φ : Calls} : ∀ (ds : List D) (ρ : Ev), evas Φ (csts ds) ρ = .ok (ds.map .val) ρ
  | [], ρ => rfl
  | d :: r, ρ => by
    have ih := csts_ev (Φ := Φ) r ρ
    show evas Φ (.val (.cst d) (csts r)) ρ = _
    simp only [evas, ev]
    show (evas Φ (csts r) ρ).then _ = _
    rw [ih]
    rfl
theorem app_ev {Φ : Calls} {ds : List D} : ∀ (as : As) (ρ : Ev) {rs : List A} {ρ' : Ev}, evas Φ (as.app (csts ds)) ρ = .ok rs ρ' → ∃ qs, evas Φ as ρ = .ok qs ρ' ∧ rs = qs ++ ds.map .val
  | .nil, ρ, rs, ρ', e => by
    rw [show As.app .nil (csts ds) = csts ds from rfl, csts_ev] at e
    cases e
    exact ⟨[], rfl, rfl⟩
  | .val e r, ρ, rs, ρ', h => by
    rw [show As.app (.val e r) (csts ds) = .val e (r.app (csts ds)) from rfl] at h
    simp only [evas] at h
    obtain ⟨x, ρ1, e1, h1⟩ := bnd_eq h
    obtain ⟨d, ρ2, e2, h2⟩ := bnd_eq h1
    obtain ⟨ts, ρ3, e3, h3⟩ := bnd_eq h2
    obtain ⟨q1, q2⟩ := ret_eq h3
    subst q1 q2
    obtain ⟨qs, e4, rfl⟩ := app_ev r ρ2 e3
    refine ⟨.val d :: qs, ?_, rfl⟩
    simp only [evas]
    show (ev Φ e ρ).then _ = _
    rw [e1]
    show (DL.share x ρ1).then _ = _
    rw [e2]
    show (evas Φ r ρ2).then _ = _
    rw [e4]
    rfl
  | .ref e r, ρ, rs, ρ', h => by
    rw [show As.app (.ref e r) (csts ds) = .ref e (r.app (csts ds)) from rfl] at h
    simp only [evas] at h
    obtain ⟨x, ρ1, e1, h1⟩ := bnd_eq h
    obtain ⟨d, e2, h2⟩ := ofO_split h1
    obtain ⟨ts, ρ3, e3, h3⟩ := bnd_eq h2
    obtain ⟨q1, q2⟩ := ret_eq h3
    subst q1 q2
    obtain ⟨qs, e4, rfl⟩ := app_ev r ρ1 e3
    refine ⟨d :: qs, ?_, rfl⟩
    simp only [evas]
    show (ev Φ e ρ).then _ = _
    rw [e1]
    show (ofO (asRef x) ρ1).then _ = _
    rw [e2]
    show (evas Φ r ρ1).then _ = _
    rw [e4]
    rfl
theorem Csts.ras {K : PySem.W.Frag} {S : Addr → Prop} {H₀ H : Hp} {ρ : Ev} {σ : St} : ∀ {vs : List V} {ds : List D}, Csts K vs ds → Ras K S H₀ ρ σ H vs (ds.map .val)
  | _, _, .nil => .nil
  | _, _, .cons h r => .cons (h S H) r.ras
/-- how a call binds where defaults dws fill up -/
def BindPd (K : PySem.W.Frag) (fd : FuncData) (ps : List Str) (n : Nat) (ks : List Str) (dws : List Value) (perm : List Nat) : Prop :=
  ∀ (s : Shared) (us ws zs : List Value), K.In s.heap → us.length = n → ws.length = ks.length → pick perm (us ++ ws ++ dws) = some zs → BindsTo s fd ⟨us, ks.zip ws⟩ (ps.zip zs)
theorem BindP.d {K : PySem.W.Frag} {fd : FuncData} {ps : List Str} {n : Nat} {ks : List Str} {perm : List Nat} (b : BindP K fd ps n ks perm) : BindPd K fd ps n ks [] perm := fun s us ws zs k h1 h2 h3 => b s us ws zs k h1 h2 (by rw [List.append_nil] at h3; exact h3)
section
variable {X : Cx} {CX : CXT} {Φ : Calls} {k : Nat} {f : Addr} {fd : FuncData} {ps ks : List Str} {sp : Sp} {x m : Str} {p pos apos : Pos} {e o : Expr} {es : List Expr} {kws : List Keyword} {t tk : TA} {te ta : TE} {perm : List Nat} {n : Nat} {dws : List Value} {dvs : List V}
variable {ies iks : As} {dds : List D}
variable {fi : Nat}
/-! ### methods -/
/-- what the class's method asks: its def in the table, how the call binds -/
structure MethF (X : Cx) (Φ : Calls) (m : Str) (n : Nat) (perm : List Nat) (dds : List D) (c fi : Nat) : Prop where
  ex : ∃ (C f : Addr) (fd : FuncData) (ps : List Str) (k : Nat) (dws : List Value) (dvs : List V), ClsF X.K c C ∧ Meth X.K C m f ∧ FnG X.prog X.w X.K X.mg X.base L2.CX0 k f fd ps (spD X.K Φ fi) ∧ Room k X.A ∧ BindPd X.K fd ps (n + 1) [] dws perm ∧ Vals dvs dws ∧ Csts X.K dvs dds
  no : (cFlds c).contains m = false
def AllM (X : Cx) (Φ : Calls) (m : Str) (n : Nat) (perm : List Nat) (dds : List D) : List (Nat × Nat) → Prop
  | [] => True
  | (c, fi) :: r => MethF X Φ m n perm dds c fi ∧ AllM X Φ m n perm dds r
theorem AllM.at {m : Str} {n : Nat} {perm : List Nat} {dds : List D} {c fi : Nat} : ∀ {ms : List (Nat × Nat)}, AllM X Φ m n perm dds ms → ms.lookup c = some fi → MethF X Φ m n perm dds c fi
  | [], _, h => by cases h
  | (c', i') :: r, h, e => by
    unfold List.lookup at e
    cases q : c == c' with
    | true =>
      rw [q] at e
      cases e
      have := beq_iff_eq.mp q
      subst this
      exact h.1
    | false => rw [q] at e; exact AllM.at h.2 e
end
end DL
end
section
set_option autoImplicit false
/-! DLy: instances are made. -/
namespace DL
open PySem L2
variable [LTabs]
/-- what __init__ of class c, the table's def f, promises -/
def spI (K : PySem.W.Frag) (Φ : Calls) (f c : Nat) : Sp := fun vs H Q _ => ∃ S ds us xs as' x dx C, vs = V.ref x :: us ∧ PySem.W.nsIn K mainGlobals (cName c) = some (some (.ref C)) ∧ H x = some (.ins C dx []) ∧ ¬ S x ∧ Dm S H ∧ Rps K S H us ds ∧
  Φ f (Sl.un :: ds.map Sl.fz) = some (R.fz (.tup xs), as') ∧ xs.length = (cFlds c).length ∧ ∀ S' H' vs', Gn S H S' H' → Rps K S' H' vs' xs → Q .non (upd H' x (.ins C dx ((cFlds c).zip vs')))
def tSI (K : PySem.W.Frag) (c : Nat) (m : M Fl) : TS := fun D σ H => ∃ S ρ ρ' xs x dx C, σ[0]? = some (some (V.ref x)) ∧ PySem.W.nsIn K mainGlobals (cName c) = some (some (.ref C)) ∧ H x = some (.ins C dx []) ∧ ¬ S x ∧ ¬ Own ρ σ x ∧ Rel K S ρ σ H ∧ m ρ = .ok (.rt (.fz (.tup xs))) ρ' ∧
  xs.length = (cFlds c).length ∧ ∀ S' σ' H' vs', Ac K S ρ σ H S' ρ' σ' H' → Rps K S' H' vs' xs → D.nx σ' (upd H' x (.ins C dx ((cFlds c).zip vs')))
theorem upd_upd {H : Hp} {a : Addr} {o u : HO} : upd (upd H a o) a u = upd H a u := by
  funext b
  by_cases e : b = a
  · subst e; rw [upd_same, upd_same]
  · rw [upd_ne e, upd_ne e, upd_ne e]
section
variable {X : Cx} {Φ : Calls} {a b cnd t : Expr} {pos : Pos} {ia ic : E} {is js : Ss} {sts rest : List Stmt} {c : Nat}
theorem dsi_if (hc : PT X cnd (tT X.K (evt Φ ic))) (h1 : PSs X sts (tS X.K (execs Φ is))) (no : ∀ ρ fl ρ', execs Φ is ρ ≠ .ok fl ρ') (h2 : PSs X rest (tSI X.K c (execs Φ js))) : PSs X (.If cnd sts [] pos :: rest) (tSI X.K c (execs Φ (.cons (.ifs ic is .nil) js))) :=
  pssImp (pss_cons (ps_if hc h1 pss_nil) h2) fun D σ H q => by
    obtain ⟨S, ρ, ρ', xs, x, dx, C, h0, hns, hx, nS, nO, rel, e, hl, q⟩ := q
    simp only [execs] at e
    obtain ⟨f, ρ1, e1, k1⟩ := bnd_eq e
    simp only [exec] at e1
    obtain ⟨y, ρ2, e2, k2⟩ := bnd_eq e1
    obtain ⟨d, v1, k3⟩ := vw1_split k2
    obtain ⟨k, e5, k4⟩ := ofO_split k3
    cases k with
    | true => exact absurd k4 (no _ _ _)
    | false =>
      simp only [execs] at k4
      obtain ⟨q1, q2⟩ := ret_eq (show DL.ret Fl.nx ρ2 = .ok f ρ1 from k4)
      subst q1 q2
      refine ⟨S, ρ, false, ρ1, rel, evt_mk e2 v1 e5, fun S1 b H1 g1 rel1 r1 => ?_⟩
      subst r1
      have a1 : Ac X.K S ρ σ H S1 ρ1 σ H1 := ⟨g1, rel1⟩
      refine iteF ⟨S1, ρ1, ρ', xs, x, dx, C, h0, hns, g1.keep x _ hx nO, fun z => ?_, fun z => ?_, rel1, k1, hl, fun S' σ' H' vs' ac rp => q S' σ' H' vs' (a1.trans ac) rp⟩
      · rcases g1.new x z with w | w | w
        · exact nS w
        · rw [hx] at w; cases w
        · exact nO w
      · rcases g1.own x z with w | w
        · rw [hx] at w; cases w
        · exact nO w
theorem dsi_nm {i : Nat} (hi : i ≠ 0) (ht : PG X t (gName i)) (ha : PE X a (tD X.K (ev Φ ia))) (h4 : PSs X rest (tSI X.K c (execs Φ js))) (h1 : swapsWithSole [t] a pos.line X.env = pure false := by rfl) (h2 : swappedStores [t] a X.env = pure none := by rfl)
    (h3 : (assignEach [t] X.env).map (fun x => x.2) = [assign t X.env] := by rfl) : PSs X (.Assign [t] a pos :: rest) (tSI X.K c (execs Φ (.cons (.asg (.nm i) ia) js))) :=
  pssImp (pss_cons (ps_asg ha ht h1 h2 h3) h4) fun D σ H q => by
    obtain ⟨S, ρ, ρ', xs, x, dx, C, h0, hns, hx, nS, nO, rel, e, hl, q⟩ := q
    simp only [execs] at e
    obtain ⟨f, ρ1, e1, k1⟩ := bnd_eq e
    simp only [exec] at e1
    obtain ⟨r, ρ2, e2, k2⟩ := bnd_eq e1
    obtain ⟨u, ρ3, e3, k3⟩ := bnd_eq k2
    obtain ⟨q1, q2⟩ := ret_eq k3
    subst q1 q2
    refine ⟨S, ρ, r, ρ2, rel, e2, fun S1 v H1 g1 rel1 r1 => ?_⟩
    obtain ⟨S2, a2, ke⟩ := Ac.setR ⟨g1, rel1⟩ r1 (show DL.setR i r ρ2 = .ok u _ from e3)
    refine ⟨S2, _, ρ', xs, x, dx, C, by rw [List.getElem?_set_ne hi]; exact h0, hns, g1.keep x _ hx nO, fun z => ?_, fun z => ?_, a2.rel, k1, hl, fun S' σ' H' vs' ac rp => q S' σ' H' vs' (a2.trans ac) rp⟩
    · rcases a2.go.new x z with w | w | w
      · exact nS w
      · rw [hx] at w; cases w
      · exact nO w
    · rcases a2.go.own x z with w | w
      · rw [hx] at w; cases w
      · exact nO w
theorem var_share {K : PySem.W.Frag} {S : Addr → Prop} {ρ ρ1 ρ2 : Ev} {σ : St} {H : Hp} {j : Nat} {r : R} {d : D} (rel : Rel K S ρ σ H) (e1 : ev Φ (.var j) ρ = .ok r ρ1) (e2 : DL.share r ρ1 = .ok d ρ2) : ∃ v S2, σ[j]? = some (some v) ∧ At K S ρ σ H S2 ρ2 H ∧ Rp K S2 H v d := by
  simp only [ev] at e1
  split at e1
  · rename_i d' q
    cases e1
    obtain ⟨v, e3, h⟩ := rel.atF q
    obtain ⟨S2, at2, rp, _⟩ := At.share (At.start rel) (x := .fz d') (v := v) h e2
    exact ⟨v, S2, e3, at2, rp⟩
  · cases e1
  · rename_i k xs nk q
    cases e1
    obtain ⟨a, vs, e3, _⟩ := rel.atN q
    obtain ⟨S2, at2, rp, _⟩ := At.share (At.start rel) (x := .rf j) (v := .ref a) e3 e2
    exact ⟨_, S2, e3, at2, rp⟩
  · cases e1
theorem put2 {f1 f2 : Str} {u v : V} (h : f1 ≠ f2) : putF f2 v (putF f1 u []) = [(f1, u), (f2, v)] := by
  show (if f1 = f2 then _ else (f1, u) :: putF f2 v []) = _
  rw [if_neg h]
  rfl
/-- self.f = x; self.g = y -/
theorem dsi_end {f1 f2 : Str} {j1 j2 : Nat} {so1 so2 e1 e2 : Expr} {ap1 ap2 p1 p2 : Pos} (hf : cFlds c = [f1, f2]) (hne : f1 ≠ f2) (hF : ∃ C, ClsF X.K c C) (hs1 : PE X so1 (tVar 0)) (hv1 : PE X e1 (tVar j1)) (hs2 : PE X so2 (tVar 0)) (hv2 : PE X e2 (tVar j2))
    (w1 : swapsWith e1 (some (.Attribute so1 f1 ap1)) p1.line X.env = pure false := by rfl) (w2 : swapsWith e2 (some (.Attribute so2 f2 ap2)) p2.line X.env = pure false := by rfl) :
    PSs X [.Assign [.Attribute so1 f1 ap1] e1 p1, .Assign [.Attribute so2 f2 ap2] e2 p2] (tSI X.K c (execs Φ (.cons (.ret (.tup (.cons (.var j1) (.cons (.var j2) .nil)))) .nil))) :=
  pssImp (pss_cons (ps_fld hs1 hv1 w1) (pss_one (ps_fld hs2 hv2 w2))) fun D σ H q => by
    obtain ⟨S, ρ, ρ', xs, x, dx, C, h0, hns, hx, nS, nO, rel, e, hl, q⟩ := q
    obtain ⟨C', F⟩ := hF
    have := cls_inj hns F.ns
    subst this
    simp only [execs, exec, evs] at e
    obtain ⟨fl, ρ1, k1, k2⟩ := bnd_eq e
    obtain ⟨r, ρ2, k3, k4⟩ := bnd_eq k1
    obtain ⟨q1, q2⟩ := ret_eq k4
    subst q1 q2
    obtain ⟨q1, q2⟩ := ret_eq (show DL.ret (Fl.rt r) ρ1 = .ok (.rt (.fz (.tup xs))) ρ' from k2)
    cases q1
    subst q2
    have k3 : ev Φ (.tup (.cons (.var j1) (.cons (.var j2) .nil))) ρ = .ok (.fz (.tup xs)) ρ' := k3
    rw [show ev Φ (.tup (.cons (.var j1) (.cons (.var j2) .nil))) = (bnd (evs Φ (.cons (.var j1) (.cons (.var j2) .nil))) fun ds => if ds.length ≤ sizeLine then DL.ret (.fz (.tup ds)) else stuck) from by simp only [ev]] at k3
    obtain ⟨ds, ρ3, k5, k6⟩ := bnd_eq k3
    simp only [evs] at k5
    obtain ⟨y1, ρ4, m1, m2⟩ := bnd_eq k5
    obtain ⟨d1, ρ5, m3, m4⟩ := bnd_eq m2
    obtain ⟨ds2, ρ6, m5, m6⟩ := bnd_eq m4
    obtain ⟨y2, ρ7, m7, m8⟩ := bnd_eq m5
    obtain ⟨d2, ρ8, m9, m10⟩ := bnd_eq m8
    obtain ⟨ds3, ρ9, m11, m12⟩ := bnd_eq m10
    obtain ⟨q1, q2⟩ := ret_eq m11
    subst q1 q2
    obtain ⟨q1, q2⟩ := ret_eq m12
    subst q1 q2
    obtain ⟨q1, q2⟩ := ret_eq m6
    subst q1 q2
    split at k6
    · obtain ⟨q1, q2⟩ := ret_eq k6
      cases q1
      subst q2
      obtain ⟨v1, S1, z1, at1, rp1⟩ := var_share rel m1 m3
      obtain ⟨v2, S2, z2, at2, rp2⟩ := var_share at1.rel m7 m9
      have rp1 := rp1.mono (at2.go.ke at1.rel)
      refine ⟨v1, z1, V.ref x, h0, x, C, dx, [], rfl, hx, F.cl, F.na f1 (by rw [hf]; exact List.mem_cons_self ..), (by show 0 < 1000; decide), ?_⟩
      refine ⟨v2, z2, V.ref x, h0, x, C, dx, _, rfl, upd_same, F.cl, F.na f2 (by rw [hf]; exact List.mem_cons_of_mem _ (List.mem_cons_self ..)), (by show 1 < 1000; decide), ?_⟩
      rw [upd_upd, put2 hne]
      have := q S2 σ H [v1, v2] (at1.trans at2).ac (.cons rp1 (.cons rp2 .nil))
      rw [hf] at this
      exact this
    · cases k6
end
section
variable {P : Program} {w : World} {K : PySem.W.Frag} {mg : Str → Option Value} {base : Heap}
theorem rel_init {S : Addr → Prop} {H : Hp} {us : List V} {ds : List D} {x : Addr} (dom : Dm S H) (r : Rps K S H us ds) : Rel K S (Sl.un :: ds.map Sl.fz) ((V.ref x :: us).map some) H := by
  refine ⟨by simp [r.length], fun i s ov e1 e2 => ?_, fun i j k l xs ys a e1 => ?_, dom.1, dom.2⟩
  · cases i with
    | zero => cases e1; trivial
    | succ i =>
      have e1 : (ds.map Sl.fz)[i]? = some s := e1
      have e2 : (us.map some)[i]? = some ov := e2
      rw [List.getElem?_map] at e1 e2
      cases q : ds[i]? with
      | none => rw [q] at e1; cases e1
      | some d =>
        rw [q] at e1
        cases e1
        obtain ⟨v, ev, rv⟩ := r.get q
        rw [ev] at e2
        cases e2
        exact ⟨v, rfl, rv⟩
  · cases i with
    | zero => cases e1
    | succ i =>
      have e1 : (ds.map Sl.fz)[i]? = some (.ls k xs) := e1
      rw [List.getElem?_map] at e1
      cases q : ds[i]? with
      | none => rw [q] at e1; cases e1
      | some d => rw [q] at e1; cases e1
theorem no_own {ds : List D} {σ : St} {n : Nat} {a : Addr} : ¬ Own ((Sl.un :: ds.map Sl.fz) ++ List.replicate n .un) σ a := by
  rintro ⟨i, k, xs, e, _⟩
  have e := un_at e
  cases i with
  | zero => cases e
  | succ i =>
    have e : (ds.map Sl.fz)[i]? = some (.ls k xs) := e
    rw [List.getElem?_map] at e
    cases q : ds[i]? with
    | none => rw [q] at e; cases e
    | some d => rw [q] at e; cases e
theorem leave_tup {ρ : Ev} {r : R} {xs : List D} (h : leave ρ r = some (.fz (.tup xs))) : r = .fz (.tup xs) := by
  cases r with
  | fz d => cases h; rfl
  | fr _ => cases h
  | rf i =>
    unfold leave at h
    simp only at h
    split at h <;> cases h
theorem read_init {T : List Df} {k f c : Nat} {d : Df} {N : List Str} {vs : List V} {H : Hp} {Q : VK} {E : XK} {D : Ends} (hd : T[f]? = some d) (hN : N.length = d.ns) (hD : ∀ σ H, Q .non H → D.nx σ H) (h : spI K (callN T (k + 1)) f c vs H Q E) : tSI K c (execs (callN T k) d.body) D (start N vs) H := by
  obtain ⟨S, ds, us, xs, as', x, dx, C, rfl, hns, hx, nS, dom, rp, e, hl, q⟩ := h
  obtain ⟨d2, fl, ρ', e1, hlen, e2, e4, e3⟩ := callN_split hd e
  rw [hd] at e1
  cases e1
  have rel := rel_init (x := x) dom rp
  have hv : (V.ref x :: us).length = d.np := by rw [← hlen]; simp [rp.length]
  have eN : N.length - (V.ref x :: us).length = d.ns - d.np := by rw [hN, hv]
  have rel0 := rel.begin (n := d.ns - d.np) (m := N.length - (V.ref x :: us).length) eN.symm
  rcases e3 with ⟨r0, rfl, e5⟩ | ⟨rfl, z⟩
  · have e6 := leave_tup e5
    subst e6
    refine ⟨S, _, ρ', xs, x, dx, C, rfl, hns, hx, nS, no_own, rel0, e2, hl, fun S' σ' H' vs' ac rp' => hD _ _ (q S' H' vs' ⟨ac.go.sub, fun a h => ?_, fun a o h nt => ac.go.keep a o h no_own nt, fun _ => ac.rel.dom, ac.go.stay, fun _ => ac.rel.tb⟩ rp')⟩
    rcases ac.go.new a h with w | w | w
    · exact .inl w
    · exact .inr w
    · exact absurd w no_own
  · cases z
theorem fnI_zero {T : List Df} {j c m : Nat} {fa : Addr} {fd : FuncData} {ps : List Str} : FnG P w K mg base L2.CX0 m fa fd ps (spI K (callN T 0) j c) := by
  constructor
  · intro vs H Q E h
    obtain ⟨S, ds, us, xs, as', x, dx, C, _, hns, hx, nS, dom, rp, e, hl, q⟩ := h
    cases e
  · intro A out s H args us vs Q E _ _ _ _ _ h
    obtain ⟨S, ds, us, xs, as', x, dx, C, _, hns, hx, nS, dom, rp, e, hl, q⟩ := h
    cases e
end
section
variable {X : Cx} {CX : CXT} {Φ : Calls} {k : Nat} {f C : Addr} {fd : FuncData} {ps : List Str} {sp : Sp} {x : Str} {p pos : Pos} {e : Expr} {es : List Expr} {t : TA} {perm : List Nat} {n c fi : Nat} {dws : List Value} {dvs : List V} {ies : As} {dds : List D}
theorem run_makeG {pins : List (Addr × Obj)} {σ : St} {H : Hp} {s : Shared} {Q : VK} {us : List Value} {vs zs : List V} (M : Mk X.K C f) (F : FnG X.prog X.w X.K X.mg X.base CX k f fd ps sp) (hr : Room (k + 1) X.A) (hgd : Gok X.A) (hb : BindPd X.K fd ps (n + 1) [] dws (0 :: perm.map (· + 1))) (hd : Vals dvs dws) (hx : Passes CX X E0)
    (I : L2.Inv X pins σ H s) (r : Vals vs us) (h1 : vs.length = n) (hp : pick perm (vs ++ dvs) = some zs)
    (h : ∀ x dx, H x = none → H dx = none → dx ≠ x → sp (.ref x :: zs) (upd (upd H dx (.own x)) x (.ins C dx [])) (fun v H2 => v = .non ∧ Q (.ref x) H2) E0) :
    wpAny (model X.prog X.w) X.A (call (.ref C) us) (EP X pins σ Q) X.xe s := by
  have hq := h (s.heap.objs.size + 1) s.heap.objs.size (I.hok.fresh (Nat.le_succ _)) (I.hok.fresh (Nat.le_refl _)) (Nat.ne_of_lt (Nat.lt_succ_self _))
  have I2 := Inv.made (C := C) I
  have r2 : Vals (V.ref (s.heap.objs.size + 1) :: vs) (Value.ref (s.heap.objs.size + 1) :: us) := .cons rfl r
  have hp2 : pick (0 :: perm.map (· + 1)) ((V.ref (s.heap.objs.size + 1) :: vs) ++ [] ++ dvs) = some (V.ref (s.heap.objs.size + 1) :: zs) := by
    rw [List.append_nil]
    have : ∀ (q : List Nat) (l : List V) (z : V), DL.pick (q.map (· + 1)) (z :: l) = DL.pick q l := fun q l z => by
      unfold DL.pick
      rw [List.mapM_map]
      rfl
    rw [p_cons, show (V.ref (s.heap.objs.size + 1) :: vs ++ dvs) = V.ref (s.heap.objs.size + 1) :: (vs ++ dvs) from rfl, this, hp]
    rfl
  obtain ⟨qs, eq, rq⟩ := pick_vals ((r2.append .nil).append hd) hp2
  refine wpAny_call (make_map (f := f) I.kIn M.makes M.init (beq_iff_eq.mp M.fn) (codeAny_mono (F.run _ X.stack _ _ ⟨Value.ref (s.heap.objs.size + 1) :: us, []⟩ qs _ _ E0 (hr.make C us []) hgd
    (I2.env0.make C us []) (hb _ (Value.ref (s.heap.objs.size + 1) :: us) [] qs I2.kIn (by rw [List.length_cons, ← r.length, h1]) rfl eq) rq hq) fun r s' hq' => ?_))
  cases r with
  | error e => exact hx pins σ _ _ e s' I2 hq'
  | ok fl =>
    cases fl with
    | ret u =>
      obtain ⟨v, H', I3, rv, ev, q3⟩ := I2.after hq'
      subst ev
      exact ⟨rv, ⟨V.ref (s.heap.objs.size + 1), H', I3, rfl, q3⟩⟩
    | next => exact False.elim hq'
    | brk => exact False.elim hq'
    | cont => exact False.elim hq'
def tMakeG (C : Addr) (sp : Sp) (n : Nat) (perm : List Nat) (dvs : List V) (t : TA) : TE := fun σ H Q => t σ H fun vs H1 => vs.length = n ∧ ∃ zs, pick perm (vs ++ dvs) = some zs ∧ ∀ x dx, H1 x = none → H1 dx = none → dx ≠ x → sp (.ref x :: zs) (upd (upd H1 dx (.own x)) x (.ins C dx [])) (fun v H2 => v = .non ∧ Q (.ref x) H2) E0
theorem pe_makeG (M : Mk X.K C f) (F : FnG X.prog X.w X.K X.mg X.base CX k f fd ps sp) (hr : Room (k + 1) X.A) (hgd : Gok X.A) (hg : Gl X x) (hm : X.mg x = some (.ref C)) (hb : BindPd X.K fd ps (n + 1) [] dws (0 :: perm.map (· + 1))) (hd : Vals dvs dws) (hx : Passes CX X E0)
    (ha : PA X (e :: es) t) (hdb : (x == ("__debug__" : Str)) = false := by decide) (he : starEach (e :: es) X.env = (false, eval e X.env) :: starEach es X.env := by rfl) (hpl : (PySem.backTo pos (starEach es X.env)).any (·.1) = false := by rfl) :
    PE X (.Call (.Name x p) (e :: es) [] pos) (tMakeG C sp n perm dvs t) := by
  refine ⟨fun pins s σ H Q I h => ?_⟩
  refine wpAny_Call_Name_kw (ld_glob I hg hm ?_ hdb)
  refine PySem.W.callWith_K (h₀ := X.base) I.ok.mod.kin M.kp (thn (ha.run pos pins s σ H _ I h) fun us s1 ⟨vs, H1, I1, r, hl, zs, hp, q⟩ => ⟨I1.kIn, ?_⟩) he hpl
  exact run_makeG M F hr hgd hb hd hx I1 r hl hp q
theorem vals_rps {K : PySem.W.Frag} {S : Addr → Prop} {H₀ H : Hp} {ρ : Ev} {σ : St} : ∀ {vs : List V} {as : List A} {ds : List D}, Ras K S H₀ ρ σ H vs as → valsOf as = some ds → Rps K S H vs ds
  | _, _, _, .nil, e => by cases e; exact .nil
  | _, _, _, .cons (r := .val d) (rs := rs) h r, e => by
    rw [show valsOf (.val d :: rs) = (valsOf rs).map (d :: ·) from rfl] at e
    cases q : valsOf rs with
    | none => rw [q] at e; cases e
    | some es => rw [q] at e; cases e; exact .cons h (vals_rps r q)
  | _, _, _, .cons (r := .rf i) (rs := rs) h r, e => by cases e
  | _, _, _, .cons (r := .fr i) (rs := rs) h r, e => by cases e
theorem de_make (hF : ClsF X.K c C) (M : Mk X.K C f) (F : FnG X.prog X.w X.K X.mg X.base CX k f fd ps (spI X.K Φ fi c)) (hr : Room (k + 1) X.A) (hgd : Gok X.A) (hg : Gl X x) (hm : X.mg x = some (.ref C)) (hb : BindPd X.K fd ps (n + 1) [] dws (0 :: perm.map (· + 1))) (hd : Vals dvs dws) (hc : Csts X.K dvs dds) (hx : Passes CX X E0)
    (ha : PA X (e :: es) (tAs X.K (evas Φ ies))) (hn : ies.len = n := by rfl) (hdb : (x == ("__debug__" : Str)) = false := by decide) (he : starEach (e :: es) X.env = (false, eval e X.env) :: starEach es X.env := by rfl) (hpl : (PySem.backTo pos (starEach es X.env)).any (·.1) = false := by rfl) :
    PE X (.Call (.Name x p) (e :: es) [] pos) (tD X.K (ev Φ (.make c fi perm ies (csts dds)))) :=
  peImp (pe_makeG (n := n) (perm := perm) M F hr hgd hg hm hb hd hx ha hdb he hpl) fun σ H Q q => by
    obtain ⟨S, ρ, r, ρ', rel, e, q⟩ := q
    simp only [ev] at e
    obtain ⟨as, ρ1, e1, h1⟩ := bnd_eq e
    obtain ⟨ks, ρ2, e2, h2⟩ := bnd_eq h1
    rw [csts_ev] at e2
    cases e2
    refine ⟨S, ρ, as, ρ1, rel, e1, fun S1 vs H1 g1 rel1 r1 => ⟨by rw [r1.length, evas_len e1]; exact hn, ?_⟩⟩
    have ra : Ras X.K S1 H ρ1 σ H1 (vs ++ dvs) (as ++ dds.map .val) := r1.append hc.ras
    unfold makeM at h2
    cases ep : pick perm (as ++ dds.map .val) with
    | none => simp only [ep, Option.bind_none] at h2; cases h2
    | some bs =>
      simp only [ep, Option.bind_some] at h2
      cases eb : valsOf bs with
      | none => simp only [eb] at h2; cases h2
      | some ds =>
        simp only [eb] at h2
        obtain ⟨zs, ez, rz⟩ := ra.pick ep
        have rp := vals_rps rz eb
        refine ⟨zs, ez, fun x dx nx ndx ne => ?_⟩
        split at h2
        · rename_i xs as' eΦ
          split at h2
          · rename_i hl
            cases h2
            have nSx : ¬ S1 x := fun z => rel1.dom x z nx
            have nSdx : ¬ S1 dx := fun z => rel1.dom dx z ndx
            have keep0 : ∀ a o, H1 a = some o → upd (upd H1 dx (.own x)) x (.ins C dx []) a = some o := fun a o h => by rw [upd_ne (ne_of_none h nx), upd_ne (ne_of_none h ndx)]; exact h
            have tb2 : LTb (upd (upd H1 dx (.own x)) x (.ins C dx [])) := (rel1.tb.new ndx).new (by rw [upd_ne (by first | exact ne | exact Ne.symm ne)]; exact nx)
            refine ⟨S1, ds, zs, xs, as', x, dx, C, rfl, hF.ns, upd_same, nSx, ⟨fun a h z => ?_, tb2⟩, rp.mono ⟨fun _ h => h, fun a o _ h _ => keep0 a o h⟩, eΦ, hl, fun S' H' vs' g rp' => ⟨rfl, ?_⟩⟩
            · cases w : H1 a with
              | none => exact rel1.dom a h w
              | some o => rw [keep0 a o w] at z; cases z
            · have nS' : ¬ S' x := fun z => by
                rcases g.new x z with w | w
                · exact nSx w
                · rw [upd_same] at w; cases w
              have gn : Gn S1 H1 (fun a => S' a ∨ a = x) (upd H' x (.ins C dx ((cFlds c).zip vs'))) := by
                refine ⟨fun a h => .inl (g.sub a h), fun a h => ?_, fun a o h nt => ?_, fun _ a h => ?_, fun a h => ?_, fun t => ?_⟩
                · rcases h with h | h
                  · rcases g.new a h with w | w
                    · exact .inl w
                    · refine .inr ?_
                      cases z : H1 a with
                      | none => rfl
                      | some o => rw [keep0 a o z] at w; cases w
                  · exact .inr (by rw [h]; exact nx)
                · rw [upd_ne (ne_of_none h nx)]
                  exact g.keep a o (keep0 a o h) nt
                · by_cases e : a = x
                  · rw [e, upd_same]; simp
                  · rw [upd_ne e]
                    refine g.dom (fun b hb => ?_) a (h.resolve_right e)
                    intro z
                    cases w : H1 b with
                    | none => exact rel1.dom b hb w
                    | some o => rw [keep0 b o w] at z; cases z
                · have ax : a ≠ x := fun e => by rw [e, upd_same] at h; cases h
                  rw [upd_ne ax] at h
                  have h2 := g.stay a h
                  cases z : H1 a with
                  | none => rfl
                  | some o => rw [keep0 a o z] at h2; cases h2
                · exact (g.tb tb2).set (g.keep x _ upd_same)
              have at2 := At.gn ⟨g1, rel1⟩ gn
              refine q _ _ _ at2.go at2.rel (show Rp X.K _ _ (.ref x) (.obj c xs) from .obj hF.ns (.inr rfl) upd_same (by rw [rp'.length, hl]) (rp'.mono ⟨fun _ h => .inl h, fun a o h1 h2 _ => ?_⟩))
              have : a ≠ x := fun e => nS' (e ▸ h1)
              rw [upd_ne this]
              exact h2
          · cases h2
        · cases h2
end
end DL
end
section
set_option autoImplicit false
/-! DLz: what the head gives: defs with defaults, classes. -/
namespace DL
open PySem L2
variable [LTabs]
/-- the defaults of a def, as data -/
structure DfW (K : PySem.W.Frag) (dV : Value) (dds : List D) : Prop where
  ex : ∃ (T : Addr) (o : Obj) (its : List Value) (n : Nat) (dvs : List V), dV = .ref T ∧ K.lookup T = some o ∧ o.data = .seq its.toArray n ∧ Vals dvs its ∧ Csts K dvs dds
/-- a default -/
structure DfV (K : PySem.W.Frag) (u : Value) (d : D) : Prop where
  ex : ∃ v : V, RelV v u ∧ Cst K v d
theorem DfV.int {K : PySem.W.Frag} {i : Int} {t : Tok} : DfV K (.int i t) (.int i) := ⟨.int i, ⟨t, rfl⟩, .int⟩
theorem DfV.non {K : PySem.W.Frag} : DfV K .none .non := ⟨.non, rfl, .non⟩
theorem DfV.unit {K : PySem.W.Frag} {a : Addr} {od : Option Addr} {n : Nat} {sl : Array (Option Value)} (h : K.lookup a = some ⟨.type "tuple", od, .seq #[] n, sl⟩) : DfV K (.ref a) (.tup []) := ⟨.ref a, rfl, .unit h rfl rfl⟩
/-- how a call binds that uses the defaults -/
def BindDf (K : PySem.W.Frag) (fd : FuncData) (ps : List Str) (n : Nat) (ks : List Str) (dds : List D) (perm : List Nat) : Prop :=
  ∃ (dws : List Value) (dvs : List V), BindPd K fd ps n ks dws perm ∧ Vals dvs dws ∧ Csts K dvs dds
end DL
namespace DL
open PySem L2
variable [LTabs]
section
variable {X : Cx} {CX : CXT} {Φ : Calls} {k : Nat} {f C : Addr} {fd : FuncData} {ps ks : List Str} {x m : Str} {p pos apos : Pos} {e o : Expr} {es : List Expr} {kws : List Keyword} {perm : List Nat} {n fi c : Nat} {ies iks : As} {dds : List D}
theorem BindP.toDf {K : PySem.W.Frag} {fd : FuncData} {ps : List Str} {n : Nat} {ks : List Str} {perm : List Nat} (b : BindP K fd ps n ks perm) : BindDf K fd ps n ks [] perm := ⟨[], [], b.d, .nil, .nil⟩
theorem de_makeB (hF : ClsF X.K c C) (M : Mk X.K C f) (hm : X.mg x = some (.ref C)) (F : FnG X.prog X.w X.K X.mg X.base CX k f fd ps (spI X.K Φ fi c)) (hr : Room (k + 1) X.A) (hgd : Gok X.A) (B : BindDf X.K fd ps (n + 1) [] dds (0 :: perm.map (· + 1))) (hx : Passes CX X E0) (hg : Gl X x)
    (ha : PA X (e :: es) (tAs X.K (evas Φ ies))) (hn : ies.len = n := by rfl) (hdb : (x == ("__debug__" : Str)) = false := by decide) (he : starEach (e :: es) X.env = (false, eval e X.env) :: starEach es X.env := by rfl) (hpl : (PySem.backTo pos (starEach es X.env)).any (·.1) = false := by rfl) :
    PE X (.Call (.Name x p) (e :: es) [] pos) (tD X.K (ev Φ (.make c fi perm ies (csts dds)))) := by
  obtain ⟨dws, dvs, hb, hd, hc⟩ := B
  exact de_make hF M F hr hgd hg hm hb hd hc hx ha hn hdb he hpl
end
theorem Csts.len {K : PySem.W.Frag} : ∀ {vs : List V} {ds : List D}, Csts K vs ds → vs.length = ds.length
  | _, _, .nil => rfl
  | _, _, .cons _ r => congrArg (· + 1) r.len
/-- a call's binding by what the defaults' tuple holds -/
theorem bindDf_of {K : PySem.W.Frag} {x qual : Str} {st : Stmt} {f : Addr} {fd : FuncData} {dV : Value} {ps ks : List Str} {n : Nat} {dds : List D} {perm : List Nat} (F : FunW K x qual st f fd dV) (W : DfW K dV dds)
    (h : ∀ (T : Addr) (kV doc pm : Value) (an : Option Addr) (cdv ct : Value) (us ws its zs : List Value), us.length = n → ws.length = ks.length → its.length = dds.length → pick perm (us ++ ws ++ its) = some zs →
      ∃ k, bindArgs (PySem.W.fnOf x qual (defArgs st) (defBody st) (defScope st) (.ref T) kV doc pm an cdv ct) ⟨us, ks.zip ws⟩ = seqItems? (.ref T) >>= k ∧ k (some its.toArray) = pure (ps.zip zs)) : BindDf K fd ps n ks dds perm := by
  obtain ⟨T, o, its, m, dvs, rfl, hT, hd, hv, hc⟩ := W.ex
  obtain ⟨oc, od, kV, doc, pm, an, cdv, ct, osl, rfl, _, _⟩ := F.ex
  have hl : its.length = dds.length := by rw [← hv.length]; exact hc.len
  refine ⟨its, dvs, fun s us ws zs kin h1 h2 h3 => ?_, hv, hc⟩
  obtain ⟨k, e1, e2⟩ := h T kV doc pm an cdv ct us ws its zs h1 h2 hl h3
  refine BindsTo.of_looks fun M => ?_
  rw [e1]
  exact looks_items kin hT hd (.of_pure e2)
end DL
namespace DL
open PySem L2
variable [LTabs]
theorem allF_nil {K : PySem.W.Frag} {f : Str} : AllF K f [] := trivial
theorem allF_cons {K : PySem.W.Frag} {f : Str} {c i : Nat} {r : List (Nat × Nat)} {C : Addr} (h : ClsF K c C) (e : (cFlds c)[i]? = some f) (t : AllF K f r) : AllF K f ((c, i) :: r) := ⟨⟨C, h, e⟩, t⟩
end DL
end
section
set_option autoImplicit false
/-! DLz2: sequences backwards. -/
namespace DL
open PySem L2
variable [LTabs]
section
variable {Φ : Calls} {ρ : Ev} {a b : E} {i j : Int} {xs : List D} {x y : Bool}
@[simp] theorem o_rngD : evit Φ (.rngD a b) ρ = (ev Φ a ρ).then fun x => bnd (ev Φ b) fun y => bnd (vw x) fun d => bnd (vw y) fun e => match d, e with
    | .int i, .int j => if small62 i && small62 j then DL.ret (none, rngDL i j) else stuck
    | _, _ => stuck := rfl
@[simp] theorem b_rvsL : biD .rvs [.lst xs] = some (.fr xs.reverse) := rfl
@[simp] theorem b_rvsT : biD .rvs [.tup xs] = some (.fz (.tup xs.reverse)) := rfl
@[simp] theorem d_shr : binD .shr (.int i) (.int j) = if 0 ≤ j ∧ j ≤ 1000 then some (.fz (.int (i / 2 ^ j.toNat))) else none := rfl
@[simp] theorem d_band : binD .band (.int i) (.int j) = some (.fz (.int (Builtin.bitAnd i j))) := rfl
@[simp] theorem d_isb : cmpD .isN (.bl x) (.bl y) = some (decide (x = y)) := rfl
@[simp] theorem d_nsb : cmpD .notN (.bl x) (.bl y) = some (!decide (x = y)) := rfl
@[simp] theorem a_tpL {ts : Tgs} : asgn Φ (.tp ts) (.lst xs) = asgns Φ ts xs := rfl
end
end DL
end
section
set_option autoImplicit false
/-! DLz3: == of two instances by the class's own __eq__. -/
namespace DL
open PySem L2
variable [LTabs]
theorem inst_of {P : Program} {w : World} {H : Hp} {h : Heap} (ok : HOk P w H h) {a C dx : Addr} {fs : List (Str × V)} (e : H a = some (.ins C dx fs)) : ∃ ox od, PySem.W.InstAt h a ox C (some od) := by
  have o := ok a _ e
  unfold ObjOk at o
  obtain ⟨_, _, ne, g, mA, n1, _⟩ := o
  obtain ⟨od, i, _⟩ := ObjM.look (mA := mA) ⟨g, n1, ne⟩
  exact ⟨_, od, i⟩
/-- the own __eq__ reads only two of one class -/
def Grd (Φ : Calls) (c fi : Nat) : Prop := ∀ d e r, Φ fi [.fz d, .fz e] = some r → ∃ ys, e = .obj c ys
def GrdM (Φ : Calls) : List (Nat × Nat) → Prop
  | [] => True
  | (c, fi) :: r => Grd Φ c fi ∧ GrdM Φ r
theorem GrdM.at {Φ : Calls} {c fi : Nat} : ∀ {ms : List (Nat × Nat)}, GrdM Φ ms → ms.lookup c = some fi → Grd Φ c fi
  | [], _, h => by cases h
  | (c', i') :: r, h, e => by
    unfold List.lookup at e
    cases q : c == c' with
    | true =>
      rw [q] at e
      cases e
      have := beq_iff_eq.mp q
      subst this
      exact h.1
    | false => rw [q] at e; exact GrdM.at h.2 e
theorem view_obj {x : R} {ρ : Ev} {c : Nat} {ys : List D} (h : view ρ x = some (.obj c ys)) : x = .fz (.obj c ys) := by
  cases x with
  | fz d => cases h; rfl
  | fr xs => cases h
  | rf i =>
    have h : (match ρ[i]? with | some (.ls .dic _) => none | some (.ls _ xs) => some (D.lst xs) | _ => none) = some (D.obj c ys) := h
    split at h <;> cases h
end DL
end
section
set_option autoImplicit false
/-! DLz4: == of two instances as a test, != of two instances. -/
namespace DL
open PySem L2
variable [LTabs]
/-- the class has object's own __ne__ -/
structure NeF (K : PySem.W.Frag) (C : Addr) : Prop where
  ne : PySem.W.findIn K (.ref C) "__ne__" = some (some (.builtin "object.__ne__"))
  hm : PySem.W.mroIn K C (.type "object") = some true
/-- the class's own __eq__, with room for one call around it -/
structure MethN (X : Cx) (Φ : Calls) (c fi : Nat) : Prop where
  ex : ∃ (C f : Addr) (fd : FuncData) (ps : List Str) (k : Nat), ClsF X.K c C ∧ Meth X.K C "__eq__" f ∧ FnG X.prog X.w X.K X.mg X.base L2.CX0 k f fd ps (spD X.K Φ fi) ∧ Room (k + 1) X.A ∧ BindP X.K fd ps 2 [] [0, 1] ∧ NeF X.K C
  no : (cFlds c).contains ("__eq__" : Str) = false
def AllN (X : Cx) (Φ : Calls) : List (Nat × Nat) → Prop
  | [] => True
  | (c, fi) :: r => MethN X Φ c fi ∧ AllN X Φ r
theorem AllN.at {X : Cx} {Φ : Calls} {c fi : Nat} : ∀ {ms : List (Nat × Nat)}, AllN X Φ ms → ms.lookup c = some fi → MethN X Φ c fi
  | [], _, h => by cases h
  | (c', i') :: r, h, e => by
    unfold List.lookup at e
    cases q : c == c' with
    | true =>
      rw [q] at e
      cases e
      have := beq_iff_eq.mp q
      subst this
      exact h.1
    | false => rw [q] at e; exact AllN.at h.2 e
/-- the own __eq__ reads only two of one class and answers a truth -/
def GrdB (Φ : Calls) (c fi : Nat) : Prop := ∀ d e r, Φ fi [.fz d, .fz e] = some r → (∃ ys, e = .obj c ys) ∧ ∃ b, r.1 = .fz (.bl b)
def GrdBM (Φ : Calls) : List (Nat × Nat) → Prop
  | [] => True
  | (c, fi) :: r => GrdB Φ c fi ∧ GrdBM Φ r
theorem GrdBM.at {Φ : Calls} {c fi : Nat} : ∀ {ms : List (Nat × Nat)}, GrdBM Φ ms → ms.lookup c = some fi → GrdB Φ c fi
  | [], _, h => by cases h
  | (c', i') :: r, h, e => by
    unfold List.lookup at e
    cases q : c == c' with
    | true =>
      rw [q] at e
      cases e
      have := beq_iff_eq.mp q
      subst this
      exact h.1
    | false => rw [q] at e; exact GrdBM.at h.2 e
end DL
end
section
set_option autoImplicit false
/-! DLz5: tuple(range(i, j, -1)) of written numbers; list(range(..)). -/
namespace DL
open PySem L2 PySem.Calls PySem.Spec PyProof.Rows
end DL
end
section
set_option autoImplicit false
/-! DLz6: list(range(i, j)). -/
namespace DL
open PySem L2
end DL
end
section
set_option autoImplicit false
/-! DLz7: count and index of a list of whole numbers, a list by steps. -/
namespace DL
open PySem L2
variable [LTabs]
theorem ty_list_count : typeOf (.builtin "list.count") = pure (.type "method_descriptor") := by show builtinType _ = _; rw [builtinType_eq_fast]; kernel_rfl
theorem ty_list_index : typeOf (.builtin "list.index") = pure (.type "method_descriptor") := by show builtinType _ = _; rw [builtinType_eq_fast]; kernel_rfl
section
variable {X : Cx} {Φ : Calls} {a b : Expr} {pos apos cpos : Pos} {ia ib : E}
theorem ev_varL {i : Nat} {ρ ρ1 : Ev} {y : R} (h : ev Φ (.var i) ρ = .ok y ρ1) : ρ1 = ρ ∧ ((∃ d, ρ[i]? = some (.fz d) ∧ y = .fz d) ∨ ∃ k xs, k ≠ .dic ∧ ρ[i]? = some (.ls k xs) ∧ y = .rf i) := by
  simp only [ev] at h
  split at h
  · rename_i d e; cases h; exact ⟨rfl, .inl ⟨d, e, rfl⟩⟩
  · cases h
  · rename_i k xs nk e; cases h; exact ⟨rfl, .inr ⟨k, xs, by simpa using nk, e, rfl⟩⟩
  · cases h
/-- a variable's list ahead of an argument, and behind it -/
theorem varL_two {K : PySem.W.Frag} {i : Nat} {S : Addr → Prop} {ρ ρ1 ρ2 : Ev} {σ : St} {H : Hp} {y : R} {xs : List D} (rel : Rel K S ρ σ H) (h : ev Φ (.var i) ρ = .ok y ρ1) (hv : view ρ2 y = some (.lst xs)) :
    ρ1 = ρ ∧ ∃ v, σ[i]? = some (some v) ∧ tyV K "list" v H ∧ ∀ S2 H2, Go S ρ σ H S2 ρ2 σ H2 → Rel K S2 ρ2 σ H2 → ∃ p vs, v = .ref p ∧ H2 p = some (.lst vs) ∧ Rps K S2 H2 vs xs := by
  obtain ⟨q, h⟩ := ev_varL h
  refine ⟨q, ?_⟩
  rcases h with ⟨d, e, rfl⟩ | ⟨k, ys, nk, e, rfl⟩
  · cases hv
    obtain ⟨v, e1, r⟩ := rel.atF e
    cases r with
    | lst h2 r =>
      rename_i p vs
      refine ⟨_, e1, .inl ⟨rfl, vs, h2.sq⟩, fun S2 H2 g _ => ?_⟩
      have k := g.ke rel
      exact ⟨p, vs, rfl, (h2.mono k).2, r.mono k⟩
  · obtain ⟨p, vs, e1, h1, _, r⟩ := rel.atL e nk
    refine ⟨_, e1, .inl ⟨rfl, vs, .inl (.inl h1)⟩, fun S2 H2 g rel2 => ?_⟩
    have hv : (match ρ2[i]? with | some (.ls .dic _) => none | some (.ls _ xs) => some (D.lst xs) | _ => none) = some (.lst xs) := hv
    split at hv
    · cases hv
    · rename_i k2 zs nk e2
      cases hv
      obtain ⟨p2, vs2, e3, h3, _, r3⟩ := rel2.atL e2 (by simpa using nk)
      rw [e1] at e3
      cases e3
      exact ⟨p, vs2, rfl, h3, r3⟩
    · cases hv
theorem bi2_split {b : Bi} {ρ ρ' : Ev} {r : R} (h : ev Φ (.bi b (.cons ia (.cons ib .nil))) ρ = .ok r ρ') : ∃ y z ρ1 d f, ev Φ ia ρ = .ok y ρ1 ∧ ev Φ ib ρ1 = .ok z ρ' ∧ view ρ' y = some d ∧ view ρ' z = some f ∧ biD b [d, f] = some r := by
  obtain ⟨rs, ds, e1, e2, e3⟩ := bi_split h
  simp only [evrs] at e1
  obtain ⟨y, ρ1, e4, h1⟩ := bnd_eq e1
  obtain ⟨ys, ρ2, e5, h2⟩ := bnd_eq h1
  obtain ⟨z, ρ3, e6, h3⟩ := bnd_eq e5
  obtain ⟨zs, ρ4, e7, h4⟩ := bnd_eq h3
  obtain ⟨q1, q2⟩ := ret_eq e7
  subst q1 q2
  obtain ⟨q1, q2⟩ := ret_eq h4
  subst q1 q2
  obtain ⟨q1, q2⟩ := ret_eq h2
  subst q1 q2
  rw [List.mapM_cons, List.mapM_cons, List.mapM_nil] at e2
  cases q : view ρ' y with
  | none => rw [q] at e2; cases e2
  | some d =>
    rw [q] at e2
    cases q3 : view ρ' z with
    | none => rw [q3] at e2; cases e2
    | some f =>
      rw [q3] at e2
      have e2 : some [d, f] = some ds := e2
      cases e2
      exact ⟨y, z, ρ1, d, f, e4, e6, q, q3, e3⟩
end
end DL
namespace L2
open PySem PySem.Spec PyProof.Rows
end L2
namespace DL
open PySem L2
variable [LTabs]
section
variable {xs : List D} {k : Int}
@[simp] theorem b_cntI : biD .cntI [.lst xs, .int k] = (intsD xs).map fun ns => .fz (.int (ns.count k : Nat)) := rfl
@[simp] theorem b_idxI : biD .idxI [.lst xs, .int k] = (intsD xs).bind fun ns => (ns.findIdx? fun i => decide (i = k)).map fun j => .fz (.int (j : Nat)) := rfl
@[simp] theorem b_stp : biD .stp [.lst xs, .int k] = if 1 ≤ k ∧ k ≤ 1000 ∧ xs.length ≤ sizeLine then some (.fr ((sliceRange 0 xs.length k).filterMap fun i => xs[i]?)) else none := rfl
end
end DL
end
section
set_option autoImplicit false
/-! DLzt: texts: str of a number, join. -/
namespace DL
open PySem L2
variable [LTabs]
section
variable {K : PySem.W.Frag} {S : Addr → Prop} {H : Hp}
theorem Rps.strsD : ∀ {vs : List V} {ds : List D} {ns : List Str}, Rps K S H vs ds → DL.strsD ds = some ns → vs = ns.map V.str
  | _, _, ns, .nil, e => by cases e; rfl
  | _, _, ns, .cons (.str i) r, e => by
    rename_i vs ds
    have e : (DL.strsD ds).map (i :: ·) = some ns := e
    cases q : DL.strsD ds with
    | none => rw [q] at e; cases e
    | some ms => rw [q] at e; cases e; rw [Rps.strsD r q]; rfl
  | _, _, ns, .cons .non r, e => by cases e
  | _, _, ns, .cons (.bl _) r, e => by cases e
  | _, _, ns, .cons (.int _) r, e => by cases e
  | _, _, ns, .cons (.tup _ _) r, e => by cases e
  | _, _, ns, .cons (.lst _ _) r, e => by cases e
  | _, _, ns, .cons (.scr _ _) r, e => by cases e
  | _, _, ns, .cons (.obj _ _ _ _ _) r, e => by cases e
  | _, _, ns, .cons (.emp _ _) r, e => by cases e
end
theorem view_str {x : R} {ρ : Ev} {a : Str} (h : view ρ x = some (.str a)) : x = .fz (.str a) := by
  cases x with
  | fz d => cases h; rfl
  | fr xs => cases h
  | rf i =>
    have h : (match ρ[i]? with | some (.ls .dic _) => none | some (.ls _ xs) => some (D.lst xs) | _ => none) = some (D.str a) := h
    split at h <;> cases h
section
variable {X : Cx} {Φ : Calls} {a b : Expr} {pos apos cpos : Pos} {ia ib : E}
theorem cr_str1D : CallR X (.type "str") (rK X.K .str1) := by
  intro pins s σ H vs us Q I r h
  obtain ⟨S, ds, x, dom, hv, hb, q⟩ := h
  match ds, hv, hb with
  | [.int i], hv, hb =>
    have hb : (if i.natAbs.log2 < 1920 then some (R.fz (.str (toString i))) else none) = some x := hb
    split at hb
    · rename_i hz
      cases hb
      obtain ⟨v, rfl, w⟩ := vds1 hv
      have e := w.i
      subst e
      exact call_str_int pins s σ H _ us Q I r ⟨i, rfl, hz, q S _ H .refl (.str _)⟩
    · cases hb
  | [.str z], hv, hb =>
    cases hb
    obtain ⟨v, rfl, w⟩ := vds1 hv
    have e := w.s
    subst e
    exact SkE.call_str_str pins s σ H _ us Q I r ⟨z, rfl, q S _ H .refl (.str _)⟩
theorem de_join (ha : PE X a (tD X.K (ev Φ ia))) (hb : PE X b (tD X.K (ev Φ ib))) (hs : starEach [b] X.env = [(false, eval b X.env)] := by rfl) (hbase : attributeBase a "join" X.env (eval a X.env) = eval a X.env := by rfl) (hline : (apos.endLine == pos.line) = true := by rfl) :
    PE X (.Call (.Attribute a "join" apos) [b] [] pos) (tD X.K (ev Φ (.bi .join (.cons ia (.cons ib .nil))))) :=
  peImp (pe_join ha hb hs hbase hline) fun σ H Q q => by
    obtain ⟨S, ρ, r, ρ', rel, e, q⟩ := q
    obtain ⟨y, z, ρ1, d, f, e1, e2, v1, v2, e3⟩ := bi2_split e
    cases d <;> (try (cases e3; done))
    cases f <;> (try (cases e3; done))
    rename_i w xs
    have e3 : ((strsD xs).bind fun ys => if (ys.map (·.length)).sum + ys.length * w.length ≤ 16777216 then some (R.fz (.str (Txt.join w ys))) else none) = some r := e3
    cases q3 : strsD xs with
    | none => rw [q3] at e3; cases e3
    | some ys =>
      rw [q3] at e3
      have e3 : (if (ys.map (·.length)).sum + ys.length * w.length ≤ 16777216 then some (R.fz (.str (Txt.join w ys))) else none) = some r := e3
      split at e3
      · rename_i hz
        cases e3
        have ey := view_str v1
        subst ey
        refine ⟨S, ρ, _, ρ1, rel, e1, fun S1 v H1 g1 rel1 r1 => ?_⟩
        have ev := (r1.view rel1 (d := .str w) rfl).s
        subst ev
        refine ⟨⟨w, rfl⟩, S1, ρ1, z, ρ', rel1, e2, fun S2 u H2 g2 rel2 r2 => ?_⟩
        obtain ⟨p, ws, rfl, hl, rp⟩ := (r2.view rel2 v2).l
        have := rp.strsD q3
        subst this
        exact ⟨w, p, ys, rfl, rfl, .inl (.inl (.inl hl)), hz, q S2 _ H2 (g1.trans g2) rel2 (.str _)⟩
      · cases e3
theorem de_globS {x i : Str} {t : Tok} (hg : Gl X x) (hm : X.mg x = some (.str i t)) (hd : (x == ("__debug__" : Str)) = false := by decide) : PE X (.Name x pos) (tD X.K (ev Φ (.cst (.str i)))) := de_cst (pe_glob (v := .str i) hg hm ⟨t, rfl⟩ hd) fun _ _ => .str i
end
end DL
end
section
set_option autoImplicit false
/-! DLz8: dicts of whole numbers in a slot. -/
namespace DL
open PySem L2
variable [LTabs]
section
variable {K : PySem.W.Frag} {S S1 : Addr → Prop} {H H1 : Hp} {ρ ρ1 ρ2 : Ev} {σ σ1 : St}
theorem RdK.any {kvs : List (Key × V)} {xs : List D} (h : RdK K S H kvs xs) (k : Int) : (kvs.any fun kv => decide (kv.1 = .inl k)) = xs.any fun e => dkey e k := by
  induction h with
  | nil => rfl
  | cons a _ ih =>
    rw [List.any_cons, List.any_cons, ih]
    congr 1
    show decide _ = decide _
    exact decide_eq_decide.mpr ⟨fun z => by cases z; rfl, fun z => by rw [z]⟩
theorem RdK.get {kvs : List (Key × V)} {xs : List D} (h : RdK K S H kvs xs) {k : Int} {d : D} (e : dval xs k = some d) : ∃ v, valV kvs (.inl k) = some v ∧ Rp K S H v d := by
  induction h with
  | nil => cases e
  | @cons i v d' kvs xs a _ ih =>
    by_cases q : i = k
    · subst q
      have e2 : dval (.tup [.int i, d'] :: xs) i = some d' := by
        unfold dval
        rw [List.find?_cons_of_pos (by show decide (i = i) = true; simp)]
        rfl
      rw [e2] at e
      cases e
      exact ⟨v, valV_pos rfl, a⟩
    · have e2 : dval (.tup [.int i, d'] :: xs) k = dval xs k := by
        unfold dval
        rw [List.find?_cons_of_neg (by show ¬ decide (i = k) = true; simpa using q)]
      rw [e2] at e
      obtain ⟨w, h1, h2⟩ := ih e
      exact ⟨w, by rw [valV_neg (by intro z; cases z; exact q rfl)]; exact h1, h2⟩
theorem RdK.isSome {kvs : List (Key × V)} {xs : List D} (h : RdK K S H kvs xs) (k : Int) : (valV kvs (.inl k)).isSome = (dval xs k).isSome := by
  induction h with
  | nil => rfl
  | @cons i v d' kvs xs a _ ih =>
    by_cases q : i = k
    · subst q
      rw [valV_pos rfl]
      unfold dval
      rw [List.find?_cons_of_pos (by show decide (i = i) = true; simp)]
      rfl
    · rw [valV_neg (by intro z; cases z; exact q rfl), ih]
      unfold dval
      rw [List.find?_cons_of_neg (by show ¬ decide (i = k) = true; simpa using q)]
theorem RdK.length {kvs : List (Key × V)} {xs : List D} (h : RdK K S H kvs xs) : kvs.length = xs.length := by
  induction h with
  | nil => rfl
  | cons _ _ ih => rw [List.length_cons, List.length_cons, ih]
theorem RdK.repl {kvs : List (Key × V)} {xs : List D} (h : RdK K S H kvs xs) (k : Int) {v : V} {d : D} (r : Rp K S H v d) :
    RdK K S H (kvs.map fun kv => if kv.1 = .inl k then (kv.1, v) else kv) (xs.map fun e => if dkey e k = true then .tup [.int k, d] else e) := by
  induction h with
  | nil => exact .nil
  | @cons i w d' kvs xs a _ ih =>
    rw [List.map_cons, List.map_cons]
    by_cases q : i = k
    · subst q
      rw [if_pos rfl, if_pos (show dkey (D.tup [D.int i, d']) i = true from decide_eq_true rfl)]
      exact .cons r ih
    · rw [if_neg (by intro z; cases z; exact q rfl), if_neg (show ¬ dkey (D.tup [D.int i, d']) k = true from fun z => q (of_decide_eq_true z))]
      exact .cons a ih
theorem RdK.app {kvs : List (Key × V)} {xs : List D} (h : RdK K S H kvs xs) (k : Int) {v : V} {d : D} (r : Rp K S H v d) : RdK K S H (kvs ++ [(.inl k, v)]) (xs ++ [.tup [.int k, d]]) := by
  induction h with
  | nil => exact .cons r .nil
  | cons a _ ih => exact .cons a ih
theorem RdK.put {kvs : List (Key × V)} {xs : List D} (h : RdK K S H kvs xs) (k : Int) {v : V} {d : D} (r : Rp K S H v d) : RdK K S H (L2.putK kvs (.inl k) v) (dputD xs k d) := by
  unfold L2.putK dputD
  rw [h.any k]
  split
  · exact h.repl k r
  · exact h.app k r
/-- the dict of slot i gets the entries xs -/
theorem At.dput {i : Nat} {ys xs : List D} {a : Addr} {kvs : List (Key × V)} (at1 : At K S ρ σ H S1 ρ1 H1) (e : ρ1[i]? = some (.ls .dic ys)) (ea : σ[i]? = some (some (V.ref a))) (hv : RdK K S1 H1 kvs xs) :
    At K S ρ σ H S1 (ρ1.set i (.ls .dic xs)) (upd H1 a (.dK kvs)) := by
  have hi : i < ρ1.length := (List.getElem?_eq_some_iff.mp e).1
  obtain ⟨b, us, eb, h1, h2, h4⟩ := at1.rel.atK e
  rw [ea] at eb; cases eb
  have na : ∀ b, S1 b → b ≠ a := fun b h z => h2 (z ▸ h)
  have ke : Ke S1 H1 S1 (upd H1 a (.dK kvs)) := ⟨fun _ h => h, fun b o h e _ => by rw [upd_ne (na b h)]; exact e⟩
  have inv : ∀ (j : Nat) (l : Lk) (zs : List D), (ρ1.set i (.ls .dic xs))[j]? = some (.ls l zs) → ∃ zs', ρ1[j]? = some (.ls l zs') := fun j l zs e1 => by
    by_cases hj : i = j
    · subst hj
      rw [List.getElem?_set_self hi] at e1
      cases e1
      exact ⟨ys, e⟩
    · rw [List.getElem?_set_ne hj] at e1
      exact ⟨zs, e1⟩
  have own : ∀ b, Own (ρ1.set i (.ls .dic xs)) σ b → Own ρ1 σ b := fun b ⟨j, l, zs, e1, e2⟩ => let ⟨zs', e3⟩ := inv j l zs e1; ⟨j, l, zs', e3, e2⟩
  have oa : Own ρ1 σ a := ⟨i, .dic, ys, e, ea⟩
  refine ⟨⟨at1.go.sub, at1.go.new, fun b h => at1.go.own b (own b h), fun b o h n nt => ?_, fun b h => ?_, fun j l zs e1 n => ?_⟩, ⟨by rw [List.length_set]; exact at1.rel.len, fun j s ov e1 e2 => ?_, fun j j' l l' zs zs' b e1 e2 e3 e4 => ?_, fun b h => ?_, at1.rel.tb.set h1⟩⟩
  · have hb : b ≠ a := fun z => by
      subst z
      exact (at1.go.own b oa).elim (fun z => by rw [z] at h; cases h) n
    rw [upd_ne hb]
    exact at1.go.keep b o h n nt
  · by_cases hb : b = a
    · rw [hb, upd_same] at h; cases h
    · rw [upd_ne hb] at h; exact at1.go.stay b h
  · obtain ⟨ws, q1, q2, q3⟩ := at1.go.fix j l zs e1 n
    by_cases hj : i = j
    · subst hj
      rw [e] at q1
      cases q1
      exact ⟨xs, by rw [List.getElem?_set_self hi], q2, fun z => nomatch z⟩
    · exact ⟨ws, by rw [List.getElem?_set_ne hj]; exact q1, q2, q3⟩
  · by_cases hj : i = j
    · subst hj
      rw [List.getElem?_set_self hi] at e1
      cases e1
      rw [ea] at e2
      cases e2
      exact ⟨a, rfl, h2, .inr ⟨rfl, kvs, upd_same, hv.mono ke⟩⟩
    · rw [List.getElem?_set_ne hj] at e1
      have w := at1.rel.ok j s ov e1 e2
      cases s with
      | un => trivial
      | fz d => obtain ⟨z, ez, hz⟩ := w; exact ⟨z, ez, hz.mono ke⟩
      | ls l zs =>
        obtain ⟨b, eb, q2, q1⟩ := w
        subst eb
        have hb : b ≠ a := fun z => hj (at1.rel.inj i j .dic l ys zs a e e1 ea (z ▸ e2))
        exact ⟨b, rfl, q2, hold_mono q1 (fun o h _ => by rw [upd_ne hb]; exact h) ke⟩
  · obtain ⟨z1, q1⟩ := inv j l zs e1
    obtain ⟨z2, q2⟩ := inv j' l' zs' e2
    exact at1.rel.inj j j' l l' _ _ b q1 q2 e3 e4
  · by_cases hb : b = a
    · rw [hb, upd_same]; simp
    · rw [upd_ne hb]; exact at1.rel.dom b h
end
end DL
end
section
set_option autoImplicit false
/-! DLz9: a walk over zip of three lists. -/
namespace DL
open PySem L2
variable [LTabs]
section
variable {K : PySem.W.Frag} {S S' : Addr → Prop} {ρ ρ' : Ev} {σ σ' : St} {H H' : Hp} {a b c : Addr} {xs ys zs : List D}
theorem zip3_get : ∀ {xs ys zs : List D} {i : Nat} {d : D}, (zip3D xs ys zs)[i]? = some d → ∃ x y z, xs[i]? = some x ∧ ys[i]? = some y ∧ zs[i]? = some z ∧ d = .tup [x, y, z]
  | [], _, _, _, _, h => by unfold zip3D at h; cases h
  | _ :: _, [], _, _, _, h => by unfold zip3D at h; cases h
  | _ :: _, _ :: _, [], _, _, h => by unfold zip3D at h; cases h
  | x :: xs, y :: ys, z :: zs, 0, d, h => by cases h; exact ⟨x, y, z, rfl, rfl, rfl, rfl⟩
  | x :: xs, y :: ys, z :: zs, i + 1, d, h => zip3_get (xs := xs) (ys := ys) (zs := zs) h
theorem zip3_len : ∀ (xs ys zs : List D), (zip3D xs ys zs).length = min (min xs.length ys.length) zs.length
  | [], ys, zs => by simp [zip3D]
  | _ :: _, [], zs => by simp [zip3D]
  | _ :: _, _ :: _, [] => by simp [zip3D]
  | _ :: xs, _ :: ys, _ :: zs => by
    show (zip3D xs ys zs).length + 1 = _
    rw [zip3_len xs ys zs, List.length_cons, List.length_cons, List.length_cons]
    omega
def Three (K : PySem.W.Frag) (u v w : V) (d e f : D) : SrcT := fun S _ _ H => Rp K S H u d ∧ Rp K S H v e ∧ Rp K S H w f
theorem Wk.zip3 : Wk K (Itz3 K a b c) (Three K (.ref a) (.ref b) (.ref c) (.lst xs) (.lst ys) (.lst zs)) (zip3D xs ys zs) where
  stop := fun S ρ σ H rel h i hi => by
    obtain ⟨p, vs, ep, h1, h2⟩ := (Vd.fz h.1).sq rfl (fun _ z => nomatch z)
    obtain ⟨q, us, eq, h3, h4⟩ := (Vd.fz h.2.1).sq rfl (fun _ z => nomatch z)
    obtain ⟨r, ws, er, h5, h6⟩ := (Vd.fz h.2.2).sq rfl (fun _ z => nomatch z)
    cases ep
    cases eq
    cases er
    rw [zip3_len] at hi
    exact ⟨vs, us, ws, h1, h3, h5, by rw [h2.length, h4.length, h6.length]; omega⟩
  go := fun S ρ σ H rel h i hi => by
    obtain ⟨p, vs, ep, h1, h2⟩ := (Vd.fz h.1).sq rfl (fun _ z => nomatch z)
    obtain ⟨q, us, eq, h3, h4⟩ := (Vd.fz h.2.1).sq rfl (fun _ z => nomatch z)
    obtain ⟨r, ws, er, h5, h6⟩ := (Vd.fz h.2.2).sq rfl (fun _ z => nomatch z)
    cases ep
    cases eq
    cases er
    rw [zip3_len] at hi
    have i1 : i < vs.length := by rw [h2.length]; omega
    have i2 : i < us.length := by rw [h4.length]; omega
    have i3 : i < ws.length := by rw [h6.length]; omega
    exact ⟨vs, us, ws, vs[i], us[i], ws[i], h1, h3, h5, List.getElem?_eq_getElem i1, List.getElem?_eq_getElem i2, List.getElem?_eq_getElem i3⟩
  yld := fun S ρ σ H i d' x H' rel h ei y => by
    obtain ⟨p, vs, ep, h1, h2⟩ := (Vd.fz h.1).sq rfl (fun _ z => nomatch z)
    obtain ⟨q, us, eq, h3, h4⟩ := (Vd.fz h.2.1).sq rfl (fun _ z => nomatch z)
    obtain ⟨r, ws, er, h5, h6⟩ := (Vd.fz h.2.2).sq rfl (fun _ z => nomatch z)
    cases ep
    cases eq
    cases er
    obtain ⟨T, z1, z2, z3, rfl, nT, rfl, y1, y2, y3⟩ := y
    obtain ⟨x1, x2, x3, e1, e2, e3, rfl⟩ := zip3_get ei
    obtain ⟨w1, f1, r1⟩ := h2.get e1
    obtain ⟨w2, f2, r2⟩ := h4.get e2
    obtain ⟨w3, f3, r3⟩ := h6.get e3
    rw [y1 vs h1] at f1
    rw [y2 us h3] at f2
    rw [y3 ws h5] at f3
    cases f1
    cases f2
    cases f3
    exact ⟨_, .tup nT, Rp.mkTup nT (.cons r1 (.cons r2 (.cons r3 .nil)))⟩
  stay := fun S ρ σ H S' ρ' σ' H' rel h g _ => ⟨h.1.mono (g.ke rel), h.2.1.mono (g.ke rel), h.2.2.mono (g.ke rel)⟩
  wip := fun own S ρ σ H no h => h
end
end DL
end
section
set_option autoImplicit false
/-! DLzs: first, *others = a tuple. -/
namespace DL
open PySem L2 PyProof.Rows
end DL
end
section
set_option autoImplicit false
/-! DLzk: methods and makes with keywords; str of an instance. -/
namespace DL
open PySem L2
variable [LTabs]
section
variable {X : Cx} {CX : CXT} {Φ : Calls} {k : Nat} {f C : Addr} {fd : FuncData} {ps ks : List Str} {sp : Sp} {x m : Str} {p pos apos : Pos} {e o : Expr} {es : List Expr} {kws : List Keyword} {t tk : TA} {te ta : TE} {perm : List Nat} {n c fi : Nat} {dws : List Value} {dvs : List V} {ies iks : As} {dds : List D}
/-! ### methods -/
structure MethFk (X : Cx) (Φ : Calls) (m : Str) (n : Nat) (ks : List Str) (perm : List Nat) (dds : List D) (c fi : Nat) : Prop where
  ex : ∃ (C f : Addr) (fd : FuncData) (ps : List Str) (k : Nat) (dws : List Value) (dvs : List V), ClsF X.K c C ∧ Meth X.K C m f ∧ FnG X.prog X.w X.K X.mg X.base L2.CX0 k f fd ps (spD X.K Φ fi) ∧ Room k X.A ∧ BindPd X.K fd ps (n + 1) ks dws perm ∧ Vals dvs dws ∧ Csts X.K dvs dds
  no : (cFlds c).contains m = false
def AllMk (X : Cx) (Φ : Calls) (m : Str) (n : Nat) (ks : List Str) (perm : List Nat) (dds : List D) : List (Nat × Nat) → Prop
  | [] => True
  | (c, fi) :: r => MethFk X Φ m n ks perm dds c fi ∧ AllMk X Φ m n ks perm dds r
theorem AllMk.at {ms : List (Nat × Nat)} : AllMk X Φ m n ks perm dds ms → ms.lookup c = some fi → MethFk X Φ m n ks perm dds c fi := by
  induction ms with
  | nil => intro _ h; cases h
  | cons a r ih =>
    obtain ⟨c', i'⟩ := a
    intro h e
    unfold List.lookup at e
    cases q : c == c' with
    | true =>
      rw [q] at e
      cases e
      have := beq_iff_eq.mp q
      subst this
      exact h.1
    | false => rw [q] at e; exact ih h.2 e
/-! ### makes -/
end
end DL
end
section
set_option autoImplicit false
/-! DLzo: str of an instance by its own __str__; its truth by its own __len__ or none. -/
namespace DL
section
open PySem PySem.Spec PyProof.Rows Builtin Builtin.Str
variable {prog : Program} {w : World} {A : Around} {E : Value → Shared → Prop} {s : Shared} {K : PySem.W.Frag} {x C f : Addr} {ox : Obj} {odd : Option Obj}
theorem str_from {Q : Value → Shared → Prop} (hu : A.units < cLine) (X : K.In s.heap) (I : PySem.W.InstAt s.heap x ox C odd) (hs : PySem.W.findIn K (.ref C) "__str__" = some (some (.ref f))) (hf : PySem.W.isFn K (.ref f) = true)
    (h : wpAny (model prog w) A (call (.ref f) [.ref x]) (fun r s₁ => ∃ n u, r = Value.str n u ∧ Q r s₁) E s) : wpAny (model prog w) A (PySem.Builtin.Str.strOf (.ref x)) Q E s := by
  unfold PySem.Builtin.Str.strOf
  rw [show isExactStr (.ref x) = false from rfl]
  show wpAny (model prog w) A (do cRoomFor "str" [.ref x]; _) Q E s
  refine wpAny_bind (wpAny_cRoomFor hu ?_)
  refine wpAny_bind (m := callSpecial? (.ref x) (Str.ofString "__str__")) (PySem.W.special_fn X I hs (beq_iff_eq.mp hf) (wpAny_mono h (fun r s' hr => ?_) fun _ _ y => y))
  obtain ⟨n, u, rfl, hq⟩ := hr
  exact wpAny_pure hq
theorem str_own {Q : Value → Shared → Prop} (hu : A.in1.in1.units < cLine) (X : K.In s.heap) (I : PySem.W.InstAt s.heap x ox C odd) (hs : PySem.W.findIn K (.ref C) "__str__" = some (some (.ref f))) (hf : PySem.W.isFn K (.ref f) = true)
    (h : wpAny (model prog w) A.in1.in1 (call (.ref f) [.ref x]) (fun r s₁ => ∃ n u, r = Value.str n u ∧ Q r s₁) E s) : wpAny (model prog w) A (call (.type "str") [.ref x]) Q E s := by
  refine callType_codes (T := "str") (Bi := Builtin.«object.__init__») (Q₁ := fun r s₁ => ∃ n u, r = Value.str n u ∧ Q r s₁) PySem.F.called_str (PySem.F.typeCall_str_1 _) PySem.F.entry_object_init ?_ ?_
  · refine codeAny_of_tree ?_
    show wpAny _ A.in1.in1 (do checkBuiltinCall "str.__new__" ⟨[.type "str", .ref x], []⟩; again (.builtin "str.__new__" ⟨[.type "str", .ref x], []⟩)) _ _ s
    refine wpAny_bind (wpAny_of_eq (PySem.F.newCall_str_1 _) (wpAny_pure ⟨plainId_quiet (by decide +kernel) _, codeAny_builtin PySem.F.entry_str_new ?_⟩))
    rw [Around.under_plainId (by decide +kernel) _]
    rw [str_new_tree]
    refine wpAny_bind (wpAny_pure ?_)
    refine wpAny_bind (wpAny_of_eq isSubtype_str_str ?_)
    refine wpAny_bind (str_from hu X I hs hf (wpAny_mono h (fun r s₁ hr => ?_) fun _ _ y => y))
    obtain ⟨n, u, rfl, hq⟩ := hr
    exact ⟨n, u, rfl, wpAny_pure ⟨n, u, rfl, hq⟩⟩
  · rintro obj s₁ ⟨n, u, rfl, hq⟩
    exact ⟨typeIs_str _ _ _, PySem.F.args_object_init_2 _ _, object_init_meets PySem.F.called_str.init.lookup PySem.F.called_str.made (by decide) prog w A.in1 _ s₁ ⟨typeIs_str _ _ _, rfl, hq⟩⟩
end
open PySem L2
variable [LTabs]
section
variable {X : Cx} {Φ : Calls} {a : Expr} {ia : E} {p pos : Pos} {c fi : Nat} {f : Addr} {fd : FuncData} {ps : List Str} {k : Nat}
theorem in2_room {A : Around} (r : Room (k + 1) A) : Room k A.in1.in1 :=
  ⟨r.hd, by have := r.dp; show A.depth + 3 * k + 5 < _; omega, by have := r.un; show A.units + 1 + 1 + 16 * k + 200 < _; omega⟩
/-- the class's own __str__ -/
structure StrF (X : Cx) (Φ : Calls) (c fi : Nat) : Prop where
  ex : ∃ (C f : Addr) (fd : FuncData) (ps : List Str) (k : Nat) (dws : List Value) (dvs : List V), ClsF X.K c C ∧ Meth X.K C "__str__" f ∧ FnG X.prog X.w X.K X.mg X.base L2.CX0 k f fd ps (spD X.K Φ fi) ∧ Room (k + 1) X.A ∧ BindPd X.K fd ps 1 [] dws [0] ∧ Vals dvs dws ∧ Csts X.K dvs []
theorem strF {C : Addr} (hF : ClsF X.K c C) (hm : Meth X.K C "__str__" f) (G : FnG X.prog X.w X.K X.mg X.base L2.CX0 k f fd ps (spD X.K Φ fi)) (hr : Room (k + 1) X.A) (B : BindDf X.K fd ps 1 [] [] [0]) : StrF X Φ c fi := by
  obtain ⟨dws, dvs, hb, hd, hc⟩ := B
  exact ⟨⟨C, f, fd, ps, k, dws, dvs, hF, hm, G, hr, hb, hd, hc⟩⟩
def rStrO (X : Cx) (Φ : Calls) : List V → Hp → VK → Prop := fun vs H Q => ∃ a C dx fs c fi, vs = [.ref a] ∧ H a = some (.ins C dx fs) ∧ PySem.W.nsIn X.K mainGlobals (cName c) = some (some (.ref C)) ∧ StrF X Φ c fi ∧ spD X.K Φ fi [.ref a] H (fun v H' => (∃ z, v = .str z) ∧ Q v H') E0
theorem call_strO (hgd : Gok X.A) (hx : Passes L2.CX0 X E0) : CallR X (.type "str") (rStrO X Φ) := by
  intro pins s σ H vs us Q I r ⟨a, C, dx, fs, c, fi, ex, ha, hn, M, q⟩
  subst ex
  obtain ⟨u, rfl, ru⟩ := vals1 r
  obtain rfl : u = Value.ref a := ru
  obtain ⟨C', f, fd, ps, k, dws, dvs, F, hm, G, hr, hb, hd, hc⟩ := M.ex
  have := cls_inj hn F.ns
  subst this
  obtain ⟨ox, od, ia⟩ := inst_of I.hok ha
  have hv : dvs = [] := by cases hc; rfl
  subst hv
  have hr2 := in2_room hr
  refine str_own hr2.units0 I.kIn ia hm.at_ hm.fn ?_
  have r0 : Vals [V.ref a] [Value.ref a] := .cons rfl .nil
  have r1 : Vals [] [] := .nil
  obtain ⟨qs, eq, rq⟩ := pick_vals ((r0.append r1).append hd) (show pick [0] ([V.ref a] ++ [] ++ []) = some [V.ref a] from rfl)
  refine wpAny_call (codeAny_mono (G.run X.A.in1.in1 X.stack s H ⟨[.ref a], []⟩ qs [.ref a] (fun v H' => (∃ z, v = .str z) ∧ Q v H') E0 hr2 hgd I.env0.in1.in1 (hb s [.ref a] [] qs I.kIn rfl rfl eq) rq q) fun r s' hq => ?_)
  cases r with
  | error e => exact hx pins σ H s e s' I hq
  | ok fl => cases fl with
    | ret u =>
      obtain ⟨v, H', I', rv, ⟨z, ez⟩, q3⟩ := I.after hq
      subst ez
      obtain ⟨t, e⟩ := rv
      subst e
      exact ⟨z, t, rfl, .str z, H', I', ⟨t, rfl⟩, q3⟩
    | next => exact False.elim hq
    | brk => exact False.elim hq
    | cont => exact False.elim hq
/-- the own __str__ answers texts -/
def GrdS (Φ : Calls) (fi : Nat) : Prop := ∀ as r, Φ fi as = some r → ∃ z, r.1 = .fz (.str z)
theorem grdS_of {T : List Df} {fi : Nat} {es : Es} (h : T[fi]? = some ⟨1, 1, .cons (.ret (.bi .str1 es)) .nil⟩) : ∀ k, GrdS (callN T k) fi
  | 0, as, r, q => by cases q
  | k + 1, as, r, q => by
    obtain ⟨d', fl, ρ', hd, hl, he, h4, h3⟩ := callN_split h (r := r.1) (as' := r.2) q
    rw [h] at hd
    cases hd
    simp only [execs, exec] at he
    obtain ⟨f1, ρ1, e1, k1⟩ := bnd_eq he
    obtain ⟨r1, ρ2, e2, k2⟩ := bnd_eq e1
    obtain ⟨q1, q2⟩ := ret_eq k2
    subst q1 q2
    obtain ⟨q1, q2⟩ := ret_eq (show DL.ret (Fl.rt r1) ρ1 = .ok fl ρ' from k1)
    subst q1 q2
    obtain ⟨rs, ds, e3, e4, e5⟩ := bi_split e2
    have hz : ∃ z, r1 = .fz (.str z) := by
      match ds, e5 with
      | [.int i], e5 =>
        have e5 : (if i.natAbs.log2 < 1920 then some (R.fz (.str (toString i))) else none) = some r1 := e5
        split at e5
        · cases e5; exact ⟨_, rfl⟩
        · cases e5
      | [.str z], e5 => cases e5; exact ⟨z, rfl⟩
    obtain ⟨z, rfl⟩ := hz
    rcases h3 with ⟨r0, h5, h6⟩ | ⟨h5, _⟩
    · cases h5
      have h6 : some (R.fz (.str z)) = some r.1 := h6
      exact ⟨z, (Option.some.inj h6).symm⟩
    · cases h5
def AllS (X : Cx) (Φ : Calls) : List (Nat × Nat) → Prop
  | [] => True
  | (c, fi) :: r => (StrF X Φ c fi ∧ GrdS Φ fi) ∧ AllS X Φ r
theorem allS_nil : AllS X Φ [] := trivial
theorem allS_cons {r : List (Nat × Nat)} (h : StrF X Φ c fi) (g : GrdS Φ fi) (t : AllS X Φ r) : AllS X Φ ((c, fi) :: r) := ⟨⟨h, g⟩, t⟩
theorem AllS.at : ∀ {ms : List (Nat × Nat)}, AllS X Φ ms → ms.lookup c = some fi → StrF X Φ c fi ∧ GrdS Φ fi
  | [], _, h => by cases h
  | (c', i') :: r, h, e => by
    unfold List.lookup at e
    cases q : c == c' with
    | true =>
      rw [q] at e
      cases e
      have := beq_iff_eq.mp q
      subst this
      exact h.1
    | false => rw [q] at e; exact AllS.at h.2 e
theorem callM_fz {f : Nat} {perm : List Nat} {as : List A} {r : R} {ρ ρ' : Ev} (h : callM Φ f perm as ρ = .ok r ρ') : ∃ ss r', Φ f ss = some r' ∧ r'.1 = r := by
  unfold callM at h
  split at h
  · cases h
  · split at h
    · split at h
      · cases h
      · split at h
        · cases h
        · rename_i e; cases h; exact ⟨_, _, e, rfl⟩
    · cases h
theorem de_strO {ms : List (Nat × Nat)} (hM : AllS X Φ ms) (hgd : Gok X.A) (hx : Passes L2.CX0 X E0) (hg : Gl X "str") (hm : X.mg "str" = none) (ha : PE X a (tD X.K (ev Φ ia)))
    (he : starEach [a] X.env = (false, eval a X.env) :: starEach [] X.env := by rfl) (hpl : (PySem.backTo pos (starEach [] X.env)).any (·.1) = false := by rfl) :
    PE X (.Call (.Name "str" p) [a] [] pos) (tD X.K (ev Φ (.meth ia ms [0] .nil .nil))) :=
  peImp (pe_callTy (call_strO (Φ := Φ) hgd hx) hg hm bt_str (pa_cons ha pa_nil he) (by decide) (by decide) he hpl) fun σ H Q q => by
    obtain ⟨S, ρ, r, ρ', rel, e, q⟩ := q
    simp only [ev] at e
    obtain ⟨x, ρ1, e1, h1⟩ := bnd_eq e
    obtain ⟨d, v1, h2⟩ := vw1_split h1
    cases d <;> (try (cases h2; done))
    rename_i c xs
    obtain ⟨fi, e2, h3⟩ := ofO_split h2
    have h5 : callM Φ fi [0] [.val (.obj c xs)] ρ1 = .ok r ρ' := h3
    obtain ⟨M, G⟩ := hM.at e2
    refine ⟨S, ρ, x, ρ1, rel, e1, fun S1 v H1 g1 rel1 r1 => ?_⟩
    have ex := view_obj v1
    subst ex
    have w := r1.view rel1 (d := .obj c xs) rfl
    have w2 : Rp X.K S1 H1 v (.obj c xs) := by cases w with | fz h => exact h
    obtain ⟨a, C, dx, vs, ev1, hns, hs, hh, hlen, rp⟩ := w.o
    subst ev1
    obtain ⟨ss, r', hΦ, hr'⟩ := callM_fz h5
    obtain ⟨z, hz⟩ := G _ _ hΦ
    rw [hr'] at hz
    subst hz
    obtain ⟨zs, hp, sp⟩ := At.call (Q := fun v H' => (∃ z, v = .str z) ∧ Q v H') (as := [.val (.obj c xs)]) (vs := [.ref a]) ⟨g1, rel1⟩ (.cons (show Ra X.K S1 H _ σ H1 (.ref a) (.val (.obj c xs)) from w2) .nil) h5 fun S' v H' g rel' rv => ⟨⟨z, (rv.view rel' (d := .str z) rfl).s⟩, q S' v H' g rel' rv⟩
    cases hp
    exact ⟨a, C, dx, _, c, fi, rfl, hh, hns, M, sp⟩
end
end DL
end
section
set_option autoImplicit false
/-! DLzr: f-strings of texts and ints; repr of an instance by its own __repr__; range with a step. -/
namespace DL
section
open PySem
theorem view_int {x : R} {ρ : Ev} {i : Int} (h : view ρ x = some (.int i)) : x = .fz (.int i) := by
  cases x with
  | fz d => cases h; rfl
  | fr xs => cases h
  | rf j =>
    have h : (match ρ[j]? with | some (.ls .dic _) => none | some (.ls _ xs) => some (D.lst xs) | _ => none) = some (D.int i) := h
    split at h <;> cases h
theorem fsD_out : ∀ (ds : List D) (acc : Str) {r : R}, fsD acc ds = some r → ∃ z, r = .fz (.str z)
  | [], acc, r, h => by cases h; exact ⟨_, rfl⟩
  | .str y :: ds, acc, r, h => by
    unfold fsD at h
    split at h
    · exact fsD_out ds _ h
    · cases h
  | .int i :: ds, acc, r, h => by
    unfold fsD at h
    split at h
    · exact fsD_out ds _ h
    · cases h
  | .non :: _, _, _, h => by cases h
  | .bl _ :: _, _, _, h => by cases h
  | .tup _ :: _, _, _, h => by cases h
  | .lst _ :: _, _, _, h => by cases h
  | .scr _ :: _, _, _, h => by cases h
  | .obj _ _ :: _, _, _, h => by cases h
  | .emp :: _, _, _, h => by cases h
end
open PySem L2
variable [LTabs]
section
variable {X : Cx} {Φ : Calls} {e : Expr} {es : List Expr} {ie : E} {ies : Es} {pos : Pos}
/-- a part of an f-string: a text, an int -/
def tFs (K : PySem.W.Frag) (m : M R) : TE := fun σ H Q => ∃ S ρ r ρ', Rel K S ρ σ H ∧ m ρ = .ok r ρ' ∧ ((∃ y : Str, r = .fz (.str y) ∧ y.length ≤ sizeLine ∧ ∀ S' H', At K S ρ σ H S' ρ' H' → Q (.str y) H') ∨ (∃ i : Int, r = .fz (.int i) ∧ i.natAbs.log2 < 1920 ∧ ∀ S' H', At K S ρ σ H S' ρ' H' → Q (.str (toString i)) H'))
theorem fs_val (h : PE X e (tD X.K (ev Φ ie))) : PE X (.FormattedValue e (-1) none pos) (tFs X.K (ev Φ ie)) :=
  peImp (pe_fmt h) fun σ H Q q => by
    obtain ⟨S, ρ, r, ρ', rel, e1, q⟩ := q
    refine ⟨S, ρ, r, ρ', rel, e1, fun S1 v H1 g1 rel1 r1 => ?_⟩
    rcases q with ⟨y, rfl, hz, q⟩ | ⟨i, rfl, hz, q⟩
    · have ev := (r1.view rel1 (d := .str y) rfl).s
      subst ev
      exact .inl ⟨y, rfl, hz, q S1 H1 ⟨g1, rel1⟩⟩
    · have ev := (r1.view rel1 (d := .int i) rfl).i
      subst ev
      exact .inr ⟨i, rfl, hz, q S1 H1 ⟨g1, rel1⟩⟩
theorem fs_cst {y0 : Str} (h : PE X e (tD X.K (ev Φ (.cst (.str y0))))) : PE X e (tFs X.K (ev Φ (.cst (.str y0)))) :=
  peImp h fun σ H Q q => by
    obtain ⟨S, ρ, r, ρ', rel, e1, q⟩ := q
    refine ⟨S, ρ, r, ρ', rel, e1, fun S1 v H1 g1 rel1 r1 => ?_⟩
    have e2 : (DL.ret (R.fz (.str y0))) ρ = .ok r ρ' := by simpa only [ev] using e1
    obtain ⟨q1, q2⟩ := ret_eq e2
    rcases q with ⟨y, hr, hz, q⟩ | ⟨i, hr, hz, q⟩
    · subst hr
      have ev := (r1.view rel1 (d := .str y) rfl).s
      subst ev
      exact q S1 H1 ⟨g1, rel1⟩
    · rw [hr] at q1; cases q1
inductive FsA (X : Cx) (Φ : Calls) : List Expr → Es → List TE → Prop where
  | nil : FsA X Φ [] .nil []
  | cons {e : Expr} {ie : E} {es : List Expr} {ies : Es} {ts : List TE} (h : PE X e (tFs X.K (ev Φ ie))) (r : FsA X Φ es ies ts) : FsA X Φ (e :: es) (.cons ie ies) (tFs X.K (ev Φ ie) :: ts)
theorem FsA.pj {ts : List TE} (h : FsA X Φ es ies ts) : PJ X es ts := by
  induction h with
  | nil => exact .nil
  | cons h r ih => exact .cons h ih
theorem FsA.js {ts : List TE} (h : FsA X Φ es ies ts) : ∀ (acc : Str) (σ : St) (H : Hp) (Q : Str → Hp → Prop) (S : Addr → Prop) (ρ : Ev) (rs : List R) (ρ' : Ev) (ds : List D) (out : Str), Rel X.K S ρ σ H → evrs Φ ies ρ = .ok rs ρ' → rs.mapM (view ρ') = some ds → fsD acc ds = some (.fz (.str out)) → (∀ S' H', At X.K S ρ σ H S' ρ' H' → Q out H') → tJs ts acc σ H Q := by
  induction h with
  | nil =>
    intro acc σ H Q S ρ rs ρ' ds out rel e1 e2 e3 q
    simp only [evrs] at e1
    obtain ⟨q1, q2⟩ := ret_eq e1
    subst q1 q2
    rw [List.mapM_nil] at e2
    cases e2
    cases e3
    exact q S H (.start rel)
  | @cons e ie es ies ts he r ih =>
    intro acc σ H Q S ρ rs ρ' ds out rel e1 e2 e3 q
    simp only [evrs] at e1
    obtain ⟨x, ρ1, e4, h1⟩ := bnd_eq e1
    obtain ⟨xs, ρ2, e5, h2⟩ := bnd_eq h1
    obtain ⟨q1, q2⟩ := ret_eq h2
    subst q1 q2
    rw [List.mapM_cons] at e2
    cases q1 : view ρ' x with
    | none => rw [q1] at e2; cases e2
    | some d =>
      rw [q1] at e2
      cases q2 : xs.mapM (view ρ') with
      | none => rw [q2] at e2; cases e2
      | some ds' =>
        rw [q2] at e2
        cases e2
        cases d <;> (try (cases e3; done))
        · rename_i i
          have hx := view_int q1
          subst hx
          have e3 : (if i.natAbs.log2 < 1920 ∧ (acc ++ (toString i : Str)).length ≤ 16777216 then fsD (acc ++ (toString i : Str)) ds' else none) = some (.fz (.str out)) := e3
          split at e3
          · rename_i hz
            exact ⟨S, ρ, _, ρ1, rel, e4, .inr ⟨i, rfl, hz.1, fun S1 H1 a1 => ⟨_, rfl, hz.2, ih _ σ H1 Q S1 ρ1 xs ρ' ds' out a1.rel e5 q2 e3 fun S' H' a2 => q S' H' (a1.trans a2)⟩⟩⟩
          · cases e3
        · rename_i y
          have hx := view_str q1
          subst hx
          have e3 : (if y.length ≤ 16777216 ∧ (acc ++ y).length ≤ 16777216 then fsD (acc ++ y) ds' else none) = some (.fz (.str out)) := e3
          split at e3
          · rename_i hz
            exact ⟨S, ρ, _, ρ1, rel, e4, .inl ⟨y, rfl, hz.1, fun S1 H1 a1 => ⟨_, rfl, hz.2, ih _ σ H1 Q S1 ρ1 xs ρ' ds' out a1.rel e5 q2 e3 fun S' H' a2 => q S' H' (a1.trans a2)⟩⟩⟩
          · cases e3
theorem de_fs {v1 v2 : Expr} {rest : List Expr} {ts : List TE} (h : FsA X Φ (v1 :: v2 :: rest) ies ts) : PE X (.JoinedStr (v1 :: v2 :: rest) pos) (tD X.K (ev Φ (.bi .fs ies))) :=
  peImp (pe_joined h.pj) fun σ H Q q => by
    obtain ⟨S, ρ, r, ρ', rel, e, q⟩ := q
    obtain ⟨rs, ds, e1, e2, e3⟩ := bi_split e
    obtain ⟨out, rfl⟩ := fsD_out _ _ e3
    exact h.js Str.empty σ H _ S ρ rs ρ' ds out rel e1 e2 e3 fun S' H' a => q S' _ H' a.go a.rel (.str _)
end
section
variable {X : Cx} {Φ : Calls} {a : Expr} {ia : E} {p pos : Pos} {c fi : Nat} {f : Addr} {fd : FuncData} {ps : List Str} {k : Nat}
/-- the class's own __repr__ -/
structure RepF (X : Cx) (Φ : Calls) (c fi : Nat) : Prop where
  ex : ∃ (C f : Addr) (fd : FuncData) (ps : List Str) (k : Nat) (dws : List Value) (dvs : List V), ClsF X.K c C ∧ Meth X.K C "__repr__" f ∧ FnG X.prog X.w X.K X.mg X.base L2.CX0 k f fd ps (spD X.K Φ fi) ∧ Room (k + 1) X.A ∧ BindPd X.K fd ps 1 [] dws [0] ∧ Vals dvs dws ∧ Csts X.K dvs []
/-- the own __repr__ answers texts -/
def GrdR (Φ : Calls) (fi : Nat) : Prop := ∀ as r, Φ fi as = some r → ∃ z, r.1 = .fz (.str z)
def AllR (X : Cx) (Φ : Calls) : List (Nat × Nat) → Prop
  | [] => True
  | (c, fi) :: r => (RepF X Φ c fi ∧ GrdR Φ fi) ∧ AllR X Φ r
theorem AllR.at : ∀ {ms : List (Nat × Nat)}, AllR X Φ ms → ms.lookup c = some fi → RepF X Φ c fi ∧ GrdR Φ fi
  | [], _, h => by cases h
  | (c', i') :: r, h, e => by
    unfold List.lookup at e
    cases q : c == c' with
    | true =>
      rw [q] at e
      cases e
      have := beq_iff_eq.mp q
      subst this
      exact h.1
    | false => rw [q] at e; exact AllR.at h.2 e
end
end DL
end
section
set_option autoImplicit false
/-! DLea: own errors over ValueError, LookupError, ArithmeticError, with a field of their own: made, raised. -/
namespace PySem
namespace HandSPX
open Builtin Builtin.ObjectAttr
/-- own classes, then the base's order -/
def Mro (T bm : List Value) : Prop := ∃ rs : List Addr, bm = rs.map Value.ref ++ T
theorem Mro.pass {T bm : List Value} (h : Mro T bm) (p : ∀ self, refuseLoop self "__setattr__" T = pure ()) (self : Value) : refuseLoop self "__setattr__" bm = pure () := by
  obtain ⟨rs, rfl⟩ := h
  induction rs with
  | nil => exact p self
  | cons c r ih => rw [List.map_cons, List.cons_append, refuseLoop_ref]; exact ih
theorem Mro.contains {T bm : List Value} (h : Mro T bm) (X : String) : bm.contains (.type X) = T.contains (.type X) := by
  obtain ⟨rs, rfl⟩ := h
  induction rs with
  | nil => rfl
  | cons c r ih => rw [List.map_cons, List.cons_append, List.contains_cons, ih]; rfl
theorem Mro.cons {T bm : List Value} (h : Mro T bm) (c : Addr) : Mro T (.ref c :: bm) := by
  obtain ⟨rs, rfl⟩ := h
  exact ⟨c :: rs, rfl⟩
/-- a built-in class that own errors stand over -/
structure BaseE (T : List Value) (newId : String) : Prop where
  F : ∃ (B initId : String), ExcBaseFacts B newId initId T
  pass : ∀ self, refuseLoop self "__setattr__" T = pure ()
  obj : T.contains (.type "object") = true
theorem base_VE : BaseE [.type "ValueError", .type "Exception", .type "BaseException", .type "object"] "ValueError.__new__" := ⟨⟨_, _, PySem.F.excBase_ValueError⟩, fun self => by kernel_rfl, by decide +kernel⟩
theorem base_LE : BaseE [.type "LookupError", .type "Exception", .type "BaseException", .type "object"] "LookupError.__new__" := ⟨⟨_, _, PySem.F.excBase_LookupError⟩, fun self => by kernel_rfl, by decide +kernel⟩
theorem base_AE : BaseE [.type "ArithmeticError", .type "Exception", .type "BaseException", .type "object"] "ArithmeticError.__new__" := ⟨⟨_, _, PySem.F.excBase_ArithmeticError⟩, fun self => by kernel_rfl, by decide +kernel⟩
section
variable {prog : Program} {w : World} {A : Around} {R : Result → Shared → Prop} {hp : Heap} {g : Array GenState} {d : Drawn} {t : Nat} {os : OsState}
theorem exc_osaT {K : W.Frag} {name : Str} {tk : Tok} {v : Value} {x C : Addr} {fv : Array Value} {cd : ClassData} {T : List Value} {newId : String}
    (X : K.In hp) (hx : hp.get? x = some { cls := .ref C, data := .fields fv }) (hcd : W.clsIn K C = some cd) (B : BaseE T newId) (hm : Mro T cd.mro) (hne : cd.mro.isEmpty = false) (hh : cd.hasDict = true) (ha : W.findIn K (.ref C) name = some none)
    (hq : ∀ h' tk' dx, (∀ b o, b ≠ x → hp.get? b = some o → h'.get? b = some o) → hp.objs.size ≤ dx → dx ≠ x → h'.get? x = some { cls := .ref C, dict := some dx, data := .fields fv } →
      h'.Ns1 dx (fun y => if y = name then some v else none) → R (.ok (.ret .none)) ⟨h', g, d, tk', os⟩) :
    codeAny (model prog w) A (.call (.builtin "object.__setattr__") ⟨[.ref x, .str name tk, v], []⟩) R ⟨hp, g, d, t, os⟩ := by
  have I : W.InstAt hp x { cls := .ref C, data := .fields fv } C none := ⟨hx, rfl, rfl, trivial⟩
  have SF := F.store_object
  have hob : cd.mro.contains (.type "object") = true := (hm.contains "object").trans B.obj
  have hxs : x ≠ hp.objs.size := Nat.ne_of_lt (Heap.lt_size hx)
  have sub : W.Looks (model prog w) hp (isInstance (.ref x) (.type "object")) true := I.type.andThen (W.looks_mroIn X (by unfold W.mroIn; rw [hcd, Option.bind_some, if_neg (by rw [hne]; decide), hob]))
  refine codeAny_call_builtin SF.slot.plain SF.entry (@W.check_slot (model prog w) _ _ ⟨hp, g, d, t, os⟩ "object.__setattr__" "object" "__setattr__" (.ref x) [.str name tk, v] [] _ SF.kind SF.split sub (SF.args (.ref x) (.str name tk) v) ?_)
  have hmr : W.Looks (model prog w) hp (mroOf (.ref C)) cd.mro := (W.looks_clsIn X hcd).andThen .now
  have L3 : W.Looks (model prog w) hp (storeTaker? none) none := .now
  have hcls : W.Looks (model prog w) hp (classData C) cd := W.looks_clsIn X hcd
  rw [W.osa_eq, refuse_eq]
  refine wpAny_bind (wpAny_bind (I.type.at (wpAny_bind (hmr.at ?_))))
  rw [hm.pass B.pass]
  refine wpAny_pure (wpAny_bind (I.type.at (wpAny_bind ((W.looks_findIn X ha).at (wpAny_bind (L3.at ?_))))))
  show wpAny _ _ (storeInOwnDict (.ref x) (.ref C) (.str name tk) name v false) _ _ _
  obtain ⟨nm, bs, mro, ns, qn, hd, sn, sb, ab, col, del⟩ := cd
  dsimp only at hh
  subst hh
  unfold storeInOwnDict ownDictForStores
  repeat (first | with_reducible refine store_in_new ?_ ?_ | with_reducible refine wpAny_loadPart_at hx ?_ | with_reducible refine hcls.at ?_ | wp_step)
  · exact ⟨_, #[], _, (Heap.get?_update_ne _ _ _ _ hxs.symm).trans (Heap.get?_push_at rfl rfl), rfl, fun e he => absurd he (by simp), fun _ => rfl⟩
  · intro h' tk' hn' hs
    have hx₁ : (hp.push { cls := .type "dict", data := .dict #[] }).get? x = some { cls := .ref C, data := .fields fv } := Heap.get?_push_of_some _ hx
    refine hq h' tk' hp.objs.size (fun b o hb ho => ?_) (Nat.le_refl _) hxs.symm ?_ hn'
    · exact (hs.2 b (Nat.ne_of_lt (Heap.lt_size ho))).trans ((Heap.get?_update_ne _ _ _ _ hb).trans (Heap.get?_push_of_some _ ho))
    · exact (hs.2 x hxs).trans (Heap.get?_update_self _ hx₁ rfl)
end
end HandSPX
namespace ErrX
open PySem.W PySem.Calls PyProof.Rows PySem.HandSPX
/-! ### the text of __init__ -/
def iA (f : Str) (p1 p2 : Pos) : Arguments := { posonlyargs := [], args := [{ arg := "self", annotation := none, pos := p1 }, { arg := f, annotation := none, pos := p2 }], vararg := none, kwonlyargs := [], kw_defaults := [], kwarg := none, defaults := [] }
def iB (f : Str) (q1 q2 q3 q4 : Pos) : List Stmt := [.Assign [.Attribute (.Name "self" q1) f q2] (.Name f q3) q4]
def iS (f : Str) : Scope := { kind := .function, names := [(PySem.Str.ofString "self", .local), (f, .local)], isGenerator := false, isCoroutine := false, more := [] }
/-- what the field's name gives -/
structure FldT (f : Str) : Prop where
  bind : ∀ (q : Str) (p1 p2 q1 q2 q3 q4 : Pos) (kV doc pm : Value) (an : Option Addr) (cdv ct x v : Value), bindArgs (fnOf "__init__" q (iA f p1 p2) (iB f q1 q2 q3 q4) (iS f) .none kV doc pm an cdv ct) ⟨[x, v], []⟩ = pure [(PySem.Str.ofString "self", x), (f, v)]
  all : ∀ x v : Value, ([(PySem.Str.ofString "self", x), (f, v)].all fun y => List.lookup y.fst (iS f).names == some NameKind.local || List.lookup y.fst (iS f).names == some NameKind.cell) = true
  l1 : ∀ (q : Str) (L fI : Addr) (cdv x v : Value), bindL (envOfC q (iS f) L fI cdv).kindOf [(PySem.Str.ofString "self", x), (f, v)] (fun _ => none) f = some v
  l2 : ∀ (q : Str) (L fI : Addr) (cdv x v : Value), bindL (envOfC q (iS f) L fI cdv).kindOf [(PySem.Str.ofString "self", x), (f, v)] (fun _ => none) (PySem.Str.ofString "self") = some x
  k1 : ∀ (q : Str) (L fI : Addr) (cdv : Value), (envOfC q (iS f) L fI cdv).kindOf (PySem.Str.ofString "self") = some .local
  k2 : ∀ (q : Str) (L fI : Addr) (cdv : Value), (envOfC q (iS f) L fI cdv).kindOf f = some .local
  nd : (f == ("__debug__" : Str)) = false
theorem fld_value : FldT "value" := ⟨fun _ _ _ _ _ _ _ _ _ _ _ _ _ _ _ => by first | rfl | with_unfolding_all rfl, fun _ _ => by first | rfl | decide | with_unfolding_all rfl, fun _ _ _ _ _ _ => by first | rfl | with_unfolding_all rfl | kernel_rfl, fun _ _ _ _ _ _ => by first | rfl | with_unfolding_all rfl | kernel_rfl, fun _ _ _ _ => rfl, fun _ _ _ _ => rfl, by decide⟩
/-- what the written part says of an error's class C with the field f, its __init__ at fI -/
structure ErrT (K : Frag) (T : List Value) (newId : String) (q f : Str) (C fI : Addr) : Prop where
  base : BaseE T newId
  cls : ∃ nm qn N bs bm sn sub ab col dd k0 k1 k2 k3 k5, K.lookup C = some (excClassObj nm qn C N bs bm true sn sub ab col dd k0 k1 k2 k3 k5 newId) ∧ Mro T bm
  sa : findIn K (.ref C) "__setattr__" = some (some (.builtin "object.__setattr__"))
  noN : findIn K (.ref C) f = some none
  iC : findIn K (.ref C) "__init__" = some (some (.ref fI))
  tC : typeIn K (.ref fI) = some (.type "function")
  kC : keepIn K (.ref C) = true
  exC : subIn K (.ref C) (.type "BaseException") = some true
  tyC : typeIn K (.ref C) = some (.type "type")
  fn : ∃ (oc : Value) (od : Option Addr) (kV doc pm : Value) (an : Option Addr) (cdv ct : Value) (osl : Array (Option Value)) (p1 p2 q1 q2 q3 q4 : Pos),
    K.lookup fI = some ⟨oc, od, .func (fnOf "__init__" q (iA f p1 p2) (iB f q1 q2 q3 q4) (iS f) .none kV doc pm an cdv ct), osl⟩ ∧ codeIn K cdv q = true
  fld : FldT f
theorem one_size (v : Value) : [v].length ≤ sizeLine := by
  rw [sizeLine_eq]
  exact (by decide : 1 ≤ 16777216)
theorem ldC {M : Model} {s : Shared} {name : Str} {scope : Scope} {L a : Addr} {cd : Value} {m : Str → Option Value} {x : Str} {pos : Pos} {v : Value} {Q : Value → Shared → Prop} {A : Around} {E : Value → Shared → Prop} (hn : s.heap.Ns L m) (hv : m x = some v) (h : Q v s)
    (hk : scope.kind = .function) (hl : (envOfC name scope L a cd).kindOf x = some .local) (hd : (x == ("__debug__" : Str)) = false) :
    wpAny M A (eval (.Name x pos) (envOfC name scope L a cd)) Q E s := wpAny_Name (wpAny_loadName_local hk hl hn hv h) hd
/-- what __init__ leaves of a fresh exception at x -/
structure InitEnd (f : Str) (h h' : Heap) (x C dx t1 : Addr) (v : Value) : Prop where
  keep : ∀ b o, b ≠ x → h.get? b = some o → h'.get? b = some o
  obj : h'.get? x = some { cls := .ref C, dict := some dx, data := .fields #[.ref t1, .none, .none, .none, .bool false, .none] }
  dbig : h.objs.size ≤ dx
  dne : dx ≠ x
  ns : h'.Ns1 dx (fun y => if y = f then some v else none)
/-- a made error -/
structure OwnMade (f : Str) (h h' : Heap) (e C d : Addr) (v : Value) : Prop where
  keep : ∀ b o, h.get? b = some o → h'.get? b = some o
  new : h.objs.size ≤ e
  obj : ∃ oe vs, h'.get? e = some oe ∧ oe.cls = .ref C ∧ oe.dict = some d ∧ oe.data = .fields vs ∧ vs[1]? = some .none
  dbig : h.objs.size ≤ d
  dne : d ≠ e
  ns : h'.Ns1 d (fun y => if y = f then some v else none)
section
variable {prog : Program} {w : World} {A : Around} {E : Value → Shared → Prop} {R : Result → Shared → Prop} {s : Shared} {K : Frag} {C fI : Addr} {T : List Value} {newId : String} {q f : Str}
theorem err_init (Z : ErrT K T newId q f C fI) {x t0 : Addr} {v : Value} (X : K.In s.heap) (hlim : s.heap.NoLimit) (hx : s.heap.get? x = some (excO C t0)) (hroom : A.depth < recursionLimit)
    (hq : ∀ h' tk dx, InitEnd f s.heap h' x C dx t0 v → R (.ok (.ret .none)) { s with heap := h', toks := tk }) :
    codeAny (model prog w) A (.call (.ref fI) ⟨[.ref x, v], []⟩) R s := by
  obtain ⟨oc, od, kV, doc, pm, an, cdv, ct, osl, p1, p2, q1, q2, q3, q4, ho, hcd⟩ := Z.fn
  obtain ⟨nm, qn, N, bs, bm, sn, sub, ab, col, dd, k0, k1, k2, k3, k5, hC, hbm⟩ := Z.cls
  have hcl : clsIn K C = some { name := nm, bases := bs, mro := .ref C :: bm, ns := N, qualname := qn, hasDict := true, slotNames := sn, subclasses := sub, abstract := ab, collection := col, hasDel := false } := by unfold clsIn; rw [hC] <;> rfl
  refine Att.call_fn (binds := [("self", .ref x), (f, v)]) X hlim ho hcd hroom (BindsTo.of_eq (Z.fld.bind _ _ _ _ _ _ _ _ _ _ _ _ _ _ _)) (Z.fld.all _ _) (fun s₁ IC => ?_) rfl rfl rfl
  obtain ⟨h₁, tk₁, rfl⟩ := IC.toInCall.same
  have k : ∀ b o, s.heap.get? b = some o → h₁.get? b = some o := IC.toInCall.keep
  have hn := IC.toInCall.ns
  have hxL : s.heap.objs.size ≠ x := Nat.ne_of_gt (Heap.lt_size hx)
  have X₁ : K.In h₁ := X.keeps k
  have hx₁ := k _ _ hx
  show wpAny _ _ (execs _ _) _ _ _
  refine wpAny_execs_cons (plainObj_wpAny_Assign_Attribute ?_)
  refine ldC (v := v) hn (Z.fld.l1 _ _ _ _ _ _) (ldC (v := .ref x) hn (Z.fld.l2 _ _ _ _ _ _) ?_ rfl (Z.fld.k1 _ _ _ _) (by decide)) rfl (Z.fld.k2 _ _ _ _) Z.fld.nd
  refine set_plain X₁ (ox := excO C t0) (od := none) ⟨hx₁, rfl, rfl, trivial⟩ Z.sa ?_
  refine exc_osaT X₁ hx₁ hcl Z.base (hbm.cons C) rfl rfl Z.noN (fun h₃ tk₃ dx k₃ dn dne hx₃ hn₃ => ?_)
  show wpAny _ _ (execs _ _) _ _ _
  have z : s.heap.objs.size < h₁.objs.size := hn.lt
  exact wpAny_execs_nil (hq h₃ tk₃ dx ⟨fun b o hb e => k₃ b o hb (k b o e), hx₃, Nat.le_of_lt (Nat.lt_of_lt_of_le z dn), dne, hn₃⟩)
theorem err_made (Z : ErrT K T newId q f C fI) {v : Value} (X : K.In s.heap) (hlim : s.heap.NoLimit) (hroom : A.depth + 1 < recursionLimit)
    (hq : ∀ h' tk e d, OwnMade f s.heap h' e C d v → R (.ok (.ret (.ref e))) { s with heap := h', toks := tk }) :
    codeAny (model prog w) A (.call (.ref C) ⟨[v], []⟩) R s := by
  obtain ⟨nm, qn, N, bs, bm, sn, sub, ab, col, dd, k0, k1, k2, k3, k5, hC, hbm⟩ := Z.cls
  obtain ⟨B, initId, hF⟩ := Z.base.F
  obtain ⟨hp, g, dr, tk, os⟩ := s
  have k : ∀ b o, hp.get? b = some o → ((hp.push (kdv_tup [v])).push (excO C hp.objs.size)).get? b = some o := fun b o e => Heap.get?_push_of_some _ (Heap.get?_push_of_some _ e)
  have hget : ((hp.push (kdv_tup [v])).push (excO C hp.objs.size)).get? (hp.objs.size + 1) = some (excO C hp.objs.size) := by heap_get
  refine call_own hF (fun X => hbm.contains X) (X _ _ hC) (looks_findIn X Z.iC) (fun self => bind_fn X self Z.tC) (one_size v) ?_
  refine err_init (s := ⟨(hp.push (kdv_tup [v])).push (excO C hp.objs.size), g, dr, tk, os⟩) Z (X.keeps k) (hlim.keeps k) hget ?_ fun h' tk' dx ⟨k', hx, dn, dne, hns⟩ => ?_
  · show A.depth + 1 < recursionLimit
    exact hroom
  · have old : ∀ b o, hp.get? b = some o → h'.get? b = some o := fun b o e => k' b o (Nat.ne_of_lt (Nat.lt_succ_of_lt (Heap.lt_size e))) (k b o e)
    have z : hp.objs.size + 1 + 1 ≤ dx := by
      first
        | (simpa only [Heap.size_push] using dn)
        | exact dn
        | (have q := dn; rw [Heap.size_push, Heap.size_push] at q; exact q)
    exact ⟨rfl, hq h' tk' (hp.objs.size + 1) dx ⟨old, Nat.le_succ _, ⟨_, _, hx, rfl, rfl, rfl, rfl⟩, Nat.le_trans (Nat.le_trans (Nat.le_succ _) (Nat.le_succ _)) z, dne, hns⟩⟩
end
end ErrX
end PySem
namespace L2
open PySem PySem.Spec PyProof.Rows
theorem relO_err {v : V} {v' : Value} (r : RelV v v') (g f : Str) : RelO (List.lookup f [(g, v)]) (if f = g then some v' else none) := by
  by_cases hw : f = g
  · subst hw
    rw [if_pos rfl]
    have q : List.lookup f [(f, v)] = some v := by simp [List.lookup]
    rw [q]
    exact r
  · rw [if_neg hw]
    have qw : (f == g) = false := by simpa using hw
    have q2 : List.lookup f [(g, v)] = none := by simp [List.lookup, qw]
    rw [q2]
    trivial
section
variable {X : Cx} {C fI : Addr} {T : List Value} {newId : String} {q f x : Str}
/-- C(e), f its field -/
def tMkErr (C : Addr) (f : Str) (ta : TA) : St → Hp → XK → Prop := fun σ H Q => ta σ H fun vs H1 => ∃ v, vs = [v] ∧ ∀ d, H1 d = none → Q (.ref C) (some d) (upd H1 d (.xd [(f, v)]))
theorem pmk_err {a : Expr} {ta : TA} {p pos : Pos} {k : Nat} (Z : PySem.ErrX.ErrT X.K T newId q f C fI) (gC : X.mg x = some (.ref C)) (hr : Room k X.A) (ha : PA X [a] ta) (hg : Gl X x) (hdb : (x == ("__debug__" : Str)) = false := by decide)
    (he : starEach (a :: []) X.env = (false, eval a X.env) :: starEach [] X.env := by rfl) (hpl : (backTo pos (starEach [] X.env)).any (·.1) = false := by rfl) :
    PMk X (.Call (.Name x p) [a] [] pos) (tMkErr C f ta) := by
  intro pins s σ H Q I h
  refine wpAny_Call_Name_kw (ld_glob I hg gC ?_ hdb)
  refine PySem.W.callWith_K (h₀ := X.base) I.ok.mod.kin Z.kC (thn (ha.run pos pins s σ H _ I h) fun us s1 hh => ?_) he hpl
  obtain ⟨vs, H1, I1, r1, v, ev, q1⟩ := hh
  subst ev
  refine ⟨I1.kIn, ?_⟩
  cases r1 with
  | cons rv rn =>
    rename_i v' us'
    cases rn
    show wpAny _ _ (call (.ref C) [v']) _ _ _
    have hlim := I1.nolimit
    obtain ⟨hp, g, dr, tk, os⟩ := s1
    refine wpAny_call (PySem.ErrX.err_made Z I1.kIn hlim (by have := hr.dp; omega) fun h' tk' e d M => ?_)
    show MkP X pins σ Q (.ref e) ⟨h', g, dr, tk', os⟩
    obtain ⟨oe, fv, hoe, hc, hd, hdat, h1⟩ := M.obj
    have hns := M.ns
    obtain ⟨G', g1, g2⟩ := restrict h' fun b => decide (b ≠ e)
    have gk : ∀ b, b ≠ e → G'.get? b = h'.get? b := fun b hb => g1 b (decide_eq_true hb)
    have ge : G'.get? e = none := g2 e (by simp)
    have old : ∀ b o, hp.get? b = some o → G'.get? b = some o := fun b o q => (gk b (Nat.ne_of_lt (Nat.lt_of_lt_of_le (Heap.lt_size q) M.new))).trans (M.keep b o q)
    have ob : ObjOk X.prog X.w (upd H1 d (.xd [(f, v)])) G' d (.xd [(f, v)]) :=
      ⟨_, hns.at (fun o q => (gk d M.dne).trans q), fun g => relO_err rv f g⟩
    have J : Inv X pins σ (upd H1 d (.xd [(f, v)])) ⟨G', g, dr, tk', os⟩ := I1.laid (t' := tk') old M.dbig ob
    refine ⟨e, oe, fv, ⟨G', g, dr, tk', os⟩, _, .ref C, some d, rfl, J, fun b o q => ?_, ge, hoe, ⟨hc, hd⟩, hdat, h1, ?_, rfl, I1.bare, raises_own Z.exC Z.tyC, q1 d (I1.hok.fresh M.dbig)⟩
    · by_cases hb : b = e
      · have q' : G'.get? b = some o := q
        rw [hb, ge] at q'; cases q'
      · exact (gk b hb).symm.trans q
    · rw [upd_ne (Ne.symm M.dne)]
      exact I1.hok.fresh M.new
/-- raise C(e) -/
def tRaiseErr (C : Addr) (f : Str) (W : WX) (ta : TA) : TS := fun _ σ H => tMkErr C f ta σ H fun cls d H' => W cls d σ H'
theorem ps_raiseErr {a : Expr} {ta : TA} {W : WX} {p pos pos2 : Pos} {k : Nat} (hc : X.calm = true) (Z : PySem.ErrX.ErrT X.K T newId q f C fI) (gC : X.mg x = some (.ref C)) (hr : Room k X.A) (tk : Takes X W) (ha : PA X [a] ta) (hg : Gl X x) (hdb : (x == ("__debug__" : Str)) = false := by decide)
    (he : starEach (a :: []) X.env = (false, eval a X.env) :: starEach [] X.env := by rfl) (hpl : (backTo pos (starEach [] X.env)).any (·.1) = false := by rfl) :
    PS X (.Raise (some (.Call (.Name x p) [a] [] pos)) none pos2) (tRaiseErr C f W ta) := ps_raise hc tk (pmk_err Z gC hr ha hg hdb he hpl)
end
end L2
end
section
set_option autoImplicit false
/-! DLeb: what raises: judgements. -/
namespace DL
open PySem L2
variable [LTabs]
/-- where a raise leads: the error's class, a new dict of its fields -/
def XTo (K : PySem.W.Frag) (S : Addr → Prop) (H : Hp) (c : Nat) (fs : List D) (W : Value → Option Addr → Hp → Prop) : Prop :=
  ∃ C, PySem.W.nsIn K mainGlobals (xName c) = some (some (.ref C)) ∧ ∀ us d, Rps K S H us fs → H d = none → W (.ref C) (some d) (upd H d (.xd ((xFlds c).zip us)))
def tXE (K : PySem.W.Frag) (W : WX) (m : Ev → Xr) : TE := fun σ H _ => ∃ S ρ c fs ρ', Rel K S ρ σ H ∧ m ρ = some (c, fs, ρ') ∧ ∀ S' H', At K S ρ σ H S' ρ' H' → XTo K S' H' c fs fun cls d h => W cls d σ h
def tXS (K : PySem.W.Frag) (W : WX) (m : Ev → Xr) : TS := fun _ σ H => ∃ S ρ c fs ρ', Rel K S ρ σ H ∧ m ρ = some (c, fs, ρ') ∧ ∀ S' σ' H', Ac K S ρ σ H S' ρ' σ' H' → XTo K S' H' c fs fun cls d h => W cls d σ' h
/-- what a call of the table's def f promises where it raises -/
def spX (K : PySem.W.Frag) (Φ : Calls) (f : Nat) : Sp := fun vs H _ E => ∃ S ds c fs ss, Dm S H ∧ Rps K S H vs ds ∧ Φ (f + XO) (ds.map Sl.fz) = some (.fz (.tup [.int c, .tup fs]), ss) ∧
  ∀ S' H', Gn S H S' H' → XTo K S' H' c.toNat fs fun cls d h => E cls d h
section
variable {X : Cx} {W : WX} {Φ : Calls} {a b cnd t : Expr} {es : List Expr} {pos : Pos} {ia ib ic e : E} {ies iks : As} {st : Stmt} {sts rest : List Stmt} {s1 : S} {is js : Ss}
/-! ### statements -/
/-- .. that only raises: what stands behind it does not matter -/
theorem dxs_one (h2 : PS X st (tXS X.K W (xexec Φ s1))) (hn : ∀ ρ ρ1, exec Φ s1 ρ ≠ .ok .nx ρ1) (h3 : PSs X sts (tXS X.K W (xexecs Φ is))) : PSs X (st :: sts) (tXS X.K W (xexecs Φ (.cons s1 is))) :=
  pssImp (pss_cons h2 h3) fun D σ H q => by
    obtain ⟨S, ρ, c, fs, ρ', rel, e, q⟩ := q
    simp only [xexecs] at e
    cases q1 : exec Φ s1 ρ with
    | stk =>
      rw [q1] at e
      exact ⟨S, ρ, c, fs, ρ', rel, e, q⟩
    | ok fl ρ1 =>
      rw [q1] at e
      cases fl with
      | nx => exact absurd q1 (hn _ _)
      | rt r => cases e
      | bk => cases e
      | ct => cases e
theorem dxs_no (hn : ∀ ρ, xexecs Φ is ρ = none) : PSs X sts (tXS X.K W (xexecs Φ is)) := ⟨fun pins s σ H D I q => by
  obtain ⟨S, ρ, c, fs, ρ', rel, e, q⟩ := q
  exact absurd ((hn ρ).symm.trans e) (by simp)⟩
theorem xn_nil : ∀ ρ, xexecs Φ .nil ρ = none := fun _ => rfl
theorem xn_cons (h1 : ∀ ρ, xexec Φ s1 ρ = none) (h2 : ∀ ρ, xexecs Φ is ρ = none) : ∀ ρ, xexecs Φ (.cons s1 is) ρ = none := fun ρ => by
  simp only [xexecs]
  cases q1 : exec Φ s1 ρ with
  | stk => exact h1 ρ
  | ok fl ρ1 =>
    cases fl with
    | nx => exact h2 ρ1
    | rt r => rfl
    | bk => rfl
    | ct => rfl
theorem dx_if (hc : PT X cnd (tT X.K (evt Φ ic))) (h1 : PSs X sts (tXS X.K W (xexecs Φ is))) {ss2 : List Stmt} (h2 : PSs X ss2 (tXS X.K W (xexecs Φ js))) (hn : ∀ ρ, xev Φ ic ρ = none := by intro _; rfl) : PS X (.If cnd sts ss2 pos) (tXS X.K W (xexec Φ (.ifs ic is js))) :=
  psImp (ps_if hc h1 h2) fun D σ H q => by
    obtain ⟨S, ρ, c, fs, ρ', rel, e, q⟩ := q
    simp only [xexec] at e
    cases q1 : (bnd (ev Φ ic) fun x => bnd (vw x) fun d => ofO (truthD d)) ρ with
    | stk => rw [q1] at e; exact absurd ((hn ρ).symm.trans e) (by simp)
    | ok k ρ1 =>
      rw [q1] at e
      refine ⟨S, ρ, k, ρ1, rel, q1, fun S1 b H1 g1 rel1 r1 => ?_⟩
      subst r1
      have a1 : Ac X.K S ρ σ H S1 ρ1 σ H1 := ⟨g1, rel1⟩
      cases b with
      | true => exact iteT ⟨S1, ρ1, c, fs, ρ', rel1, e, fun S' σ' H' a2 => q S' σ' H' (a1.trans a2)⟩
      | false => exact iteF ⟨S1, ρ1, c, fs, ρ', rel1, e, fun S' σ' H' a2 => q S' σ' H' (a1.trans a2)⟩
/-! ### statements by their raising expression -/
theorem XS_of_XE {D : Ends} {σ : St} {H : Hp} {m : Ev → Xr} {Q : VK} (q : tXS X.K W m D σ H) : tXE X.K W m σ H Q := by
  obtain ⟨S, ρ, c, fs, ρ', rel, e, q⟩ := q
  exact ⟨S, ρ, c, fs, ρ', rel, e, fun S' H' a => q S' σ H' a.ac⟩
theorem dx_ex (ha : PE X a (tXE X.K W (xev Φ ia))) (hs : swapsWith a none pos.line X.env = pure false := by rfl) : PS X (.Expr a pos) (tXS X.K W (xexec Φ (.ex ia))) :=
  psImp (ps_expr ha hs) fun D σ H q => XS_of_XE (show tXS X.K W (xev Φ ia) D σ H from by simpa only [xexec] using q)
/-- raise C(e) -/
theorem dx_raise {T : List Value} {newId : String} {q f x : Str} {C fI : Addr} {c k : Nat} {p pos2 : Pos} (hc : X.calm = true) (Z : PySem.ErrX.ErrT X.K T newId q f C fI) (gC : X.mg x = some (.ref C)) (hn : PySem.W.nsIn X.K mainGlobals (xName c) = some (some (.ref C))) (hf : xFlds c = [f]) (hr : Room k X.A) (tk : Takes X W)
    (ha : PE X a (tD X.K (ev Φ ia))) (hg : Gl X x) (hdb : (x == ("__debug__" : Str)) = false := by decide)
    (he : starEach (a :: []) X.env = (false, eval a X.env) :: starEach [] X.env := by rfl) (hpl : (backTo pos (starEach [] X.env)).any (·.1) = false := by rfl) :
    PS X (.Raise (some (.Call (.Name x p) [a] [] pos)) none pos2) (tXS X.K W (xexec Φ (.ex (.rse c (.cons ia .nil))))) :=
  psImp (ps_raiseErr hc Z gC hr tk (da_cons ha da_nil he) hg hdb he hpl) fun D σ H q => by
    obtain ⟨S, ρ, c', fs, ρ', rel, e, q⟩ := q
    simp only [xexec, xev] at e
    cases q1 : evs Φ (.cons ia .nil) ρ with
    | stk => rw [q1] at e; cases e
    | ok ds ρ1 =>
      rw [q1] at e
      obtain ⟨z1, z2⟩ := Prod.mk.inj (Option.some.inj e)
      obtain ⟨z2, z3⟩ := Prod.mk.inj z2
      subst z1 z2 z3
      refine ⟨S, ρ, ds, ρ1, rel, q1, fun S1 vs H1 g1 rel1 r1 => ?_⟩
      have hl : ds.length = 1 := by
        simp only [evs] at q1
        obtain ⟨x, ρ2, e1, h1⟩ := bnd_eq q1
        obtain ⟨d, ρ3, e2, h2⟩ := bnd_eq h1
        obtain ⟨ys, ρ4, e3, h3⟩ := bnd_eq h2
        obtain ⟨z1, z2⟩ := ret_eq e3
        obtain ⟨z3, z4⟩ := ret_eq h3
        rw [z3, z1]; rfl
      obtain ⟨C', hC, q2⟩ := q S1 σ H1 ⟨g1, rel1⟩
      rw [hn] at hC
      cases hC
      have hv : vs.length = 1 := by rw [r1.length, hl]
      match vs, hv with
      | [v], _ =>
        refine ⟨v, rfl, fun d hd => ?_⟩
        have := q2 [v] d r1 hd
        rw [hf] at this
        exact this
end
end DL
end
section
set_option autoImplicit false
/-! DLec: calls that raise, defs that raise. -/
namespace DL
open PySem L2
variable [LTabs]
section
variable {X : Cx} {W : WX} {Φ : Calls} {k : Nat} {f : Addr} {fd : FuncData} {ps ks : List Str} {sp : Sp} {x m : Str} {p pos apos : Pos} {e o : Expr} {es : List Expr} {kws : List Keyword} {t tk : TA} {te ta : TE} {perm : List Nat} {n : Nat} {dws : List Value} {dvs : List V}
theorem run_fnX {pins : List (Addr × Obj)} {σ : St} {H : Hp} {s : Shared} {Q : VK} {us ws : List Value} {vs ys zs : List V} (F : FnG X.prog X.w X.K X.mg X.base (L2.CX X.prog X.w) k f fd ps sp) (hr : Room k X.A) (hgd : Gok X.A) (hb : BindPd X.K fd ps n ks dws perm) (hd : Vals dvs dws) (tk : Takes X W)
    (I : L2.Inv X pins σ H s) (r : Vals vs us) (rz : Vals ys ws) (h1 : us.length = n) (h2 : ws.length = ks.length) (hp : pick perm (vs ++ ys ++ dvs) = some zs) (h : sp zs H Q fun cls d h => W cls d σ h) : wpAny (model X.prog X.w) X.A (call (.ref f) us (ks.zip ws)) (EP X pins σ Q) X.xe s := by
  obtain ⟨qs, eq, rq⟩ := pick_vals ((r.append rz).append hd) hp
  refine wpAny_call (codeAny_mono (F.run X.A X.stack s H ⟨us, ks.zip ws⟩ qs zs Q _ hr hgd I.env0 (hb s us ws qs I.kIn h1 h2 eq) rq h) fun r s' hq => ?_)
  cases r with
  | error e => exact passAt tk σ pins H s e s' I hq
  | ok fl => cases fl with
    | ret u => exact I.after hq
    | next => exact False.elim hq
    | brk => exact False.elim hq
    | cont => exact False.elim hq
def tCallX (W : WX) (sp : Sp) (perm : List Nat) (n m : Nat) (dvs : List V) (t tk : TA) : TE := fun σ H Q => t σ H fun vs H1 => tk σ H1 fun ys H2 => vs.length = n ∧ ys.length = m ∧ ∃ zs, pick perm (vs ++ ys ++ dvs) = some zs ∧ sp zs H2 Q fun cls d h => W cls d σ h
theorem pe_callX (F : FnG X.prog X.w X.K X.mg X.base (L2.CX X.prog X.w) k f fd ps sp) (hr : Room k X.A) (hgd : Gok X.A) (hg : Gl X x) (hm : X.mg x = some (.ref f)) (hk : PySem.W.keepIn X.K (.ref f) = true) (hb : BindPd X.K fd ps n [] dws perm) (hd : Vals dvs dws) (hx : Takes X W)
    (ha : PA X (e :: es) t) (hdb : (x == ("__debug__" : Str)) = false := by decide) (he : starEach (e :: es) X.env = (false, eval e X.env) :: starEach es X.env := by rfl) (hpl : (PySem.backTo pos (starEach es X.env)).any (·.1) = false := by rfl) :
    PE X (.Call (.Name x p) (e :: es) [] pos) (tCallX W sp perm n 0 dvs t tNil) := by
  refine ⟨fun pins s σ H Q I h => ?_⟩
  refine wpAny_Call_Name_kw (ld_glob I hg hm ?_ hdb)
  refine PySem.W.callWith_K (h₀ := X.base) I.ok.mod.kin hk (thn (ha.run pos pins s σ H _ I h) fun us s1 ⟨vs, H1, I1, r, l1, _, zs, hp, q⟩ => ⟨I1.kIn, ?_⟩) he hpl
  exact run_fnX (us := us) (ks := []) (ws := []) (ys := []) F hr hgd hb hd hx I1 r .nil (by rw [← r.length]; exact l1) rfl hp q
theorem pe_callXk0 (F : FnG X.prog X.w X.K X.mg X.base (L2.CX X.prog X.w) k f fd ps sp) (hr : Room k X.A) (hgd : Gok X.A) (hg : Gl X x) (hm : X.mg x = some (.ref f)) (hk : PySem.W.keepIn X.K (.ref f) = true) (hb : BindPd X.K fd ps 0 ks dws perm) (hd : Vals dvs dws) (hx : Takes X W)
    (hkw : PK X kws tk) (hall : (backToKw pos (keywordEach kws X.env)).all (·.1.isSome) = true := by rfl) (hks : (backToKw pos (keywordEach kws X.env)).filterMap (·.1) = ks := by rfl)
    (hdb : (x == ("__debug__" : Str)) = false := by decide) (hpl : ((PySem.backTo pos (starEach [] X.env)).any (·.1) || (backToKw pos (keywordEach kws X.env)).any (·.1.isNone)) = false := by rfl) :
    PE X (.Call (.Name x p) [] kws pos) (tCallX W sp perm 0 ks.length dvs tNil tk) := by
  refine ⟨fun pins s σ H Q I h => ?_⟩
  refine wpAny_Call_Name_kw (ld_glob I hg hm ?_ hdb)
  refine PySem.W.callWith_KW0 (h₀ := X.base) I.ok.mod.kin hk hall ?_ hpl
  refine thn (hkw.run pos pins s σ H _ I h) fun ws s2 ⟨ys, H2, I2, rz, l1, l2, zs, hp, q2⟩ => ⟨I2.kIn, ?_⟩
  rw [hks]
  exact run_fnX (us := []) (vs := []) F hr hgd hb hd hx I2 .nil rz rfl (by rw [← rz.length]; exact l2) hp q2
theorem At.callX {K : PySem.W.Frag} {S S1 : Addr → Prop} {ρ ρ1 ρ2 : Ev} {σ : St} {H H1 : Hp} {Q : VK} {fi c : Nat} {perm : List Nat} {as : List A} {vs : List V} {fs : List D} (at1 : At K S ρ σ H S1 ρ1 H1) (ra : Ras K S1 H ρ1 σ H1 vs as) (e : xcallA Φ fi perm as ρ1 = some (c, fs, ρ2))
    (hQ : ∀ S' H', At K S ρ σ H S' ρ2 H' → XTo K S' H' c fs fun cls d h => W cls d σ h) : ∃ zs, pick perm vs = some zs ∧ spX K Φ fi zs H1 Q fun cls d h => W cls d σ h := by
  unfold xcallA at e
  cases ep : pick perm as with
  | none => rw [ep] at e; cases e
  | some bs =>
    rw [ep] at e
    have e : (match valsOf bs with | some ds => xcall Φ fi (ds.map .fz) ρ1 | none => none) = some (c, fs, ρ2) := e
    cases ev : valsOf bs with
    | none => rw [ev] at e; cases e
    | some ds =>
      rw [ev] at e
      have e : xcall Φ fi (ds.map .fz) ρ1 = some (c, fs, ρ2) := e
      obtain ⟨zs, ez, rz⟩ := ra.pick ep
      unfold xcall at e
      split at e
      · rename_i ci fs' ss eΦ
        obtain ⟨z1, z2⟩ := Prod.mk.inj (Option.some.inj e)
        obtain ⟨z2, z3⟩ := Prod.mk.inj z2
        subst z1 z2 z3
        exact ⟨zs, ez, S1, ds, ci, fs', ss, ⟨at1.rel.dom, at1.rel.tb⟩, vals_rps rz ev, eΦ, fun S' H' g => hQ S' H' (at1.gn g)⟩
      · cases e
variable {ies iks : As} {dds : List D} {fi : Nat}
theorem args_split {ies iks : As} {ρ ρ1 : Ev} {as : List A} (e : (bnd (evas Φ ies) fun a => bnd (evas Φ iks) fun b => DL.ret (a ++ b)) ρ = .ok as ρ1) : ∃ a ρ0 b, evas Φ ies ρ = .ok a ρ0 ∧ evas Φ iks ρ0 = .ok b ρ1 ∧ as = a ++ b := by
  obtain ⟨a, ρ0, e1, h1⟩ := bnd_eq e
  obtain ⟨b, ρ2, e2, h2⟩ := bnd_eq h1
  obtain ⟨z1, z2⟩ := ret_eq h2
  subst z1 z2
  exact ⟨a, ρ0, b, e1, e2, rfl⟩
theorem callX_read {perm : List Nat} {n m : Nat} {σ : St} {H : Hp} {Q : VK} (hc : Csts X.K dvs dds) (hn : ies.len = n) (hm : iks.len = m) (q : tXE X.K W (xcev Φ (.call fi perm ies (iks.app (csts dds)))) σ H Q) : tCallX W (spX X.K Φ fi) perm n m dvs (tAs X.K (evas Φ ies)) (tAs X.K (evas Φ iks)) σ H Q := by
  obtain ⟨S, ρ, c, fs, ρ', rel, e, q⟩ := q
  simp only [xcev] at e
  cases q1 : (bnd (evas Φ ies) fun a => bnd (evas Φ (iks.app (csts dds))) fun b => DL.ret (a ++ b)) ρ with
  | stk => rw [q1] at e; cases e
  | ok as0 ρ2 =>
    rw [q1] at e
    obtain ⟨as, ρ1, ks', e1, e2, rfl⟩ := args_split q1
    obtain ⟨ks, e3, rfl⟩ := app_ev _ _ e2
    refine ⟨S, ρ, as, ρ1, rel, e1, fun S1 vs H1 g1 rel1 r1 => ⟨S1, ρ1, ks, ρ2, rel1, e3, fun S2 ys H2 g2 rel2 r2 => ⟨by rw [r1.length, evas_len e1]; exact hn, by rw [r2.length, evas_len e3]; exact hm, ?_⟩⟩⟩
    rw [List.append_assoc]
    exact At.callX ⟨g1.trans g2, rel2⟩ ((r1.step rel1 g2).append ((r2.base g1.stay).append hc.ras)) e q
theorem xe_call (F : FnG X.prog X.w X.K X.mg X.base (L2.CX X.prog X.w) k f fd ps (spX X.K Φ fi)) (hr : Room k X.A) (hgd : Gok X.A) (hm : X.mg x = some (.ref f)) (hk : PySem.W.keepIn X.K (.ref f) = true) (B : BindDf X.K fd ps n [] dds perm) (hx : Takes X W) (hg : Gl X x)
    (ha : PA X (e :: es) (tAs X.K (evas Φ ies))) (hn : ies.len = n := by rfl)
    (hdb : (x == ("__debug__" : Str)) = false := by decide) (he : starEach (e :: es) X.env = (false, eval e X.env) :: starEach es X.env := by rfl) (hpl : (PySem.backTo pos (starEach es X.env)).any (·.1) = false := by rfl) :
    PE X (.Call (.Name x p) (e :: es) [] pos) (tXE X.K W (xcev Φ (.call fi perm ies (csts dds)))) := by
  obtain ⟨dws, dvs, hb, hd, hc⟩ := B
  exact peImp (pe_callX F hr hgd hg hm hk hb hd hx ha hdb he hpl) fun σ H Q q => by
    obtain ⟨S, ρ, r, ρ', rel, e, q⟩ := callX_read (iks := .nil) (n := n) (m := 0) hc hn rfl q
    exact ⟨S, ρ, r, ρ', rel, e, fun S' vs H' g rel' r' => args_nil_read (q S' vs H' g rel' r')⟩
theorem xe_callk0 (F : FnG X.prog X.w X.K X.mg X.base (L2.CX X.prog X.w) k f fd ps (spX X.K Φ fi)) (hr : Room k X.A) (hgd : Gok X.A) (hm : X.mg x = some (.ref f)) (hk : PySem.W.keepIn X.K (.ref f) = true) (B : BindDf X.K fd ps 0 ks dds perm) (hx : Takes X W) (hg : Gl X x)
    (hkw : PK X kws (tAs X.K (evas Φ iks)))
    (hl : iks.len = ks.length := by rfl) (hall : (backToKw pos (keywordEach kws X.env)).all (·.1.isSome) = true := by rfl) (hks : (backToKw pos (keywordEach kws X.env)).filterMap (·.1) = ks := by rfl)
    (hdb : (x == ("__debug__" : Str)) = false := by decide) (hpl : ((PySem.backTo pos (starEach [] X.env)).any (·.1) || (backToKw pos (keywordEach kws X.env)).any (·.1.isNone)) = false := by rfl) :
    PE X (.Call (.Name x p) [] kws pos) (tXE X.K W (xcev Φ (.call fi perm .nil (iks.app (csts dds))))) := by
  obtain ⟨dws, dvs, hb, hd, hc⟩ := B
  exact peImp (pe_callXk0 F hr hgd hg hm hk hb hd hx hkw hall hks hdb hpl) fun σ H Q q => args_nil_read (callX_read (n := 0) hc rfl hl q)
theorem xe_xc {a : Expr} {ia : E} (h : PE X a (tXE X.K W (xcev Φ ia))) : PE X a (tXE X.K W (xev Φ (.xc ia))) := peImp h fun σ H Q q => by simpa only [xev] using q
theorem de_xc {a : Expr} {ia : E} (h : PE X a (tD X.K (ev Φ ia))) : PE X a (tD X.K (ev Φ (.xc ia))) := peImp h fun σ H Q q => by simpa only [ev] using q
/-! ### methods that raise -/
end
end DL
end
section
set_option autoImplicit false
/-! DLed: a def's promise where it raises; try: return e. -/
namespace DL
open PySem L2
variable [LTabs]
section
variable {K : PySem.W.Frag}
theorem rel_fz {S : Addr → Prop} {H : Hp} {us : List V} {ds : List D} (dom : Dm S H) (r : Rps K S H us ds) : Rel K S (ds.map Sl.fz) (us.map some) H := by
  refine ⟨by simp [r.length], fun i s ov e1 e2 => ?_, fun i j k l xs ys a e1 => ?_, dom.1, dom.2⟩
  · rw [List.getElem?_map] at e1 e2
    cases q : ds[i]? with
    | none => rw [q] at e1; cases e1
    | some d =>
      rw [q] at e1
      cases e1
      obtain ⟨v, ev, rv⟩ := r.get q
      rw [ev] at e2
      cases e2
      exact ⟨v, rfl, rv⟩
  · rw [List.getElem?_map] at e1
    cases q : ds[i]? with
    | none => rw [q] at e1; cases e1
    | some d => rw [q] at e1; cases e1
theorem no_ownF {ds : List D} {σ : St} {n : Nat} {a : Addr} : ¬ Own (ds.map Sl.fz ++ List.replicate n .un) σ a := by
  rintro ⟨i, k, xs, e, _⟩
  have e := un_at e
  rw [List.getElem?_map] at e
  cases q : ds[i]? with
  | none => rw [q] at e; cases e
  | some d => rw [q] at e; cases e
theorem callN_x {T : List Df} {k f : Nat} {d : Df} {as : List Sl} {r : R × List Sl} (hT : T.length ≤ XO) (hd : T[f]? = some d) (h : callN T (k + 1) (f + XO) as = some r) : ∃ c fs ρ', as.length = d.np ∧ xexecs (callN T k) d.body (as ++ List.replicate (d.ns - d.np) .un) = some (c, fs, ρ') ∧ r = (.fz (.tup [.int c, .tup fs]), as) := by
  unfold callN at h
  have h0 : T[f + XO]? = none := List.getElem?_eq_none (by omega)
  rw [h0] at h
  have h : (if XO ≤ f + XO then match T[f + XO - XO]? with
    | none => none
    | some d => if as.length = d.np then match xexecs (callN T k) d.body (as ++ List.replicate (d.ns - d.np) .un) with
        | some (c, fs, _) => some (R.fz (.tup [.int c, .tup fs]), as)
        | none => none
      else none
    else none) = some r := h
  rw [if_pos (by omega), Nat.add_sub_cancel, hd] at h
  have h : (if as.length = d.np then match xexecs (callN T k) d.body (as ++ List.replicate (d.ns - d.np) .un) with
        | some (c, fs, _) => some (R.fz (.tup [.int c, .tup fs]), as)
        | none => none
      else none) = some r := h
  split at h
  · rename_i hl
    split at h
    · rename_i c fs ρ' hx
      exact ⟨c, fs, ρ', hl, hx, (Option.some.inj h).symm⟩
    · cases h
  · cases h
theorem spX_np {T : List Df} {k f : Nat} {d : Df} {vs : List V} {H : Hp} {Q : VK} {E : XK} (hT : T.length ≤ XO) (hd : T[f]? = some d) (h : spX K (callN T k) f vs H Q E) : vs.length = d.np := by
  obtain ⟨S, ds, c, fs, ss, dom, rp, e, q⟩ := h
  cases k with
  | zero => cases e
  | succ k =>
    obtain ⟨_, _, _, hl, _⟩ := callN_x hT hd e
    rw [← hl, rp.length, List.length_map]
theorem read_fnX {T : List Df} {k f : Nat} {d : Df} {N : List Str} {vs : List V} {H : Hp} {Q : VK} {E : XK} {D : Ends} (hT : T.length ≤ XO) (hd : T[f]? = some d) (hN : N.length = d.ns) (h : spX K (callN T (k + 1)) f vs H Q E) :
    tXS K (fun cls d _ h => E cls d h) (xexecs (callN T k) d.body) D (start N vs) H := by
  obtain ⟨S, ds, c, fs, ss, dom, rp, e, q⟩ := h
  obtain ⟨c', fs', ρ', hl, hx, hr⟩ := callN_x hT hd e
  have hv : vs.length = d.np := by rw [← hl, rp.length, List.length_map]
  have eN : N.length - vs.length = d.ns - d.np := by rw [hN, hv]
  have rel0 := (rel_fz dom rp).begin (n := d.ns - d.np) (m := N.length - vs.length) eN.symm
  have hr := (Prod.mk.inj hr).1
  have hr : [DL.D.int c, DL.D.tup fs] = [DL.D.int (c' : Int), DL.D.tup fs'] := DL.D.tup.inj (R.fz.inj hr)
  obtain ⟨z1, z2⟩ := List.cons.inj hr
  have z1 := DL.D.int.inj z1
  have z2 := DL.D.tup.inj (List.cons.inj z2).1
  subst z1 z2
  refine ⟨S, _, c', fs, ρ', rel0, hx, fun S' σ' H' ac => ?_⟩
  have g : Gn S H S' H' := ⟨ac.go.sub, fun a h => by
    rcases ac.go.new a h with w | w | w
    · exact .inl w
    · exact .inr w
    · exact absurd w no_ownF, fun a o h nt => ac.go.keep a o h no_ownF nt, fun _ => ac.rel.dom, ac.go.stay, fun _ => ac.rel.tb⟩
  have := q S' H' g
  rw [Int.toNat_natCast] at this
  exact this
end
theorem fnX_zero {P : Program} {w : World} {K : PySem.W.Frag} {mg : Str → Option Value} {base : Heap} {T : List Df} {j m : Nat} {fa : Addr} {fd : FuncData} {ps : List Str} : FnG P w K mg base (L2.CX P w) m fa fd ps (spX K (callN T 0) j) := by
  constructor
  · intro vs H Q E h
    obtain ⟨S, ds, c, fs, ss, dom, rp, e, q⟩ := h
    cases e
  · intro A out s H args us vs Q E _ _ _ _ _ h
    obtain ⟨S, ds, c, fs, ss, dom, rp, e, q⟩ := h
    cases e
open PySem.Spec PyProof.Rows in
/-- an exception that leaves a def, as its promise says -/
theorem takesD {P : Program} {w : World} {K : PySem.W.Frag} {mg : Str → Option Value} {base : Heap} {N : List Str} {qual : Str} {scope : Scope} {f : Addr} {cd : Value} {A : Around} {outer : List Env} {s : Shared} {H : Hp} {E : XK} :
    Takes (cxOf (L2.CX P w) P w K mg base N qual scope f cd A outer s H E) (fun cls d _ h => E cls d h) := takes_of rfl rfl rfl rfl
/-- no error leaves a def that keeps to CX0 -/
theorem ds_rse {X : Cx} {Φ : Calls} {st : Stmt} {c : Nat} {es : Es} : PS X st (tS X.K (exec Φ (.ex (.rse c es)))) := ⟨fun pins s σ H Q I q => by
  obtain ⟨S, ρ, r, ρ', rel, e, q⟩ := q
  cases e⟩
section
variable {X : Cx} {Φ : Calls} {a : Expr} {ia : E} {b₀ : Stmt} {suite : List Stmt} {pr np pos pos' : Pos} {x n : Str} {C : Addr} {i c : Nat} {w : Str} {ts : Addr → Value → Option Addr → TS}
theorem xFlds_len : ∀ c, (xFlds c).length = xAr c
  | 0 | 1 | 2 | 3 | 4 | 5 | 6 | 7 | 8 | 9 | 10 | 11 | 12 | 13 | 14 | 15 | 16 | 17 | 18 | 19 | 20 | 21 | 22 | 23 | 24 => rfl
  | _ + 25 => rfl
end
end DL
end
section
set_option autoImplicit false
/-! DLee: isinstance of a caught error with fields; the classes' facts as one test. -/
namespace PySem.W
open PySem PySem.Spec PySem.Calls PyProof.Rows
section
variable {prog : Program} {w : World} {A : Around} {E : Value → Shared → Prop} {s : Shared} {K : Frag} {x D : Addr} {ox : Obj}
theorem kin_classD {od : Obj} {Q : Option Value → Shared → Prop} (hga : findIn K (.ref D) "__getattribute__" = some (some (.builtin "BaseException.__getattribute__"))) (hgt : findIn K (.ref D) "__getattr__" = some none) (hsub : subIn K (.ref D) (.type "BaseException") = some true)
    (hdct : hasDictIn K D = true) (ha : findIn K (.ref D) "__class__" = some (some (.builtin "object.__class__")))
    (hn : specialIn K (.builtin "object.__class__") "__get__" = some (some (.builtin "getset_descriptor.__get__"))) (htk : takesIn K (.builtin "object.__class__") = some true) (hm : mroIn K D (.type "object") = some true)
    (X : K.In s.heap) (I : InstAt s.heap x ox D (some od)) (h : Q (some (.ref D)) { s with toks := s.toks + 1 }) : wpAny (model prog w) A (getAttr? (.ref x) "__class__") Q E s := by
  have hf : findObj K D (some od) "__class__" = some (.bind (.builtin "getset_descriptor.__get__") (.builtin "object.__class__")) := findObj_data (by obtain ⟨cd, hc, _⟩ := any_some hdct; rw [hc]; rfl) ha hn htk
  obtain ⟨hp, g, d, t, os⟩ := s
  have L0 := I.type (M := model prog w)
  have L1 := looks_findIn (M := model prog w) X hga
  have L2 := looks_findIn (M := model prog w) X hgt
  have L3 := looks_find (M := model prog w) X I hf
  have sub : Looks (model prog w) hp (isInstance (.ref x) (.type "BaseException")) true := L0.andThen (looks_subIn X hsub)
  have hx0 : (false && onTheHeap (Value.builtin "BaseException.__getattribute__")) = false := rfl
  have hx2 : (Value.builtin "BaseException.__getattribute__" == Value.builtin "object.__getattribute__") = false := by decide +kernel
  have hx1 : (onTheHeap (Value.ref D) && Value.builtin "BaseException.__getattribute__" == Value.builtin "object.__getattribute__") = false := by rw [hx2]; rfl
  unfold getAttr? getAttrBy? getAttrBy
  refine wpAny_bind (wpAny_mkText (wpAny_bind (wpAny_attempt (wpAny_holding (wpAny_bind (L0.at (wpAny_bind (L1.at ?_))))))))
  show wpAny _ _ (if (onTheHeap (Value.ref D) && Value.builtin "BaseException.__getattribute__" == Value.builtin "object.__getattribute__") = true then _ else _) _ _ _
  rw [hx1, if_neg Bool.false_ne_true]
  unfold getAttrByItsOwn hookBefore
  refine wpAny_bind ?_
  rw [if_pos (show onTheHeap (Value.ref D) = true from rfl)]
  refine L2.at ?_
  refine wpAny_bind (wpAny_attempt (wpAny_holding ?_))
  unfold callGetattribute
  rw [hx0, if_neg Bool.false_ne_true]
  unfold boundAndCalled
  rw [PySem.F.excAttr_ValueError.ga.bind (.ref x)]
  refine wpAny_bind (wpAny_pure ?_)
  show wpAny _ _ (call (.builtin "BaseException.__getattribute__") [.ref x, .str "__class__" t]) _ _ _
  refine wpAny_call (codeAny_call_builtin PySem.F.excAttr_ValueError.ga.plain PySem.F.entry_bexc_ga ?_)
  refine @check_slot (model prog w) _ _ ⟨hp, g, d, t + 1, os⟩ "BaseException.__getattribute__" "BaseException" "__getattribute__" (.ref x) [.str "__class__" t] [] _ (by decide +kernel) (by decide +kernel) sub (PySem.F.args_bexc_ga (.ref x) (.str "__class__" t)) ?_
  unfold Builtin.«object.__getattribute__»
  refine wpAny_bind (wpAny_of_eq (a := ((Value.ref x : Value), [Value.str "__class__" t])) (by first | rfl | (simp only [slotArgs]; rfl)) ?_)
  refine wpAny_bind (wpAny_pure (wpAny_bind (L0.at (wpAny_bind (L3.at ?_)))))
  show wpAny _ _ (holding [Value.builtin "object.__class__"] (call (.builtin "getset_descriptor.__get__") [.builtin "object.__class__", .ref x, .ref D]) >>= ret) _ _ _
  refine wpAny_bind (wpAny_holding (wpAny_call (class_get (s := ⟨hp, g, d, t + 1, os⟩) (ox := ox) (od := some od) X I hm ?_)))
  refine wpAny_pure ?_
  show wpAny _ _ (handedOut (.ref D)) _ _ _
  rw [handedOut_of (v := .ref D) rfl]
  first
    | exact wpAny_pure (wpAny_pure h)
    | exact wpAny_pure h
    | exact wpAny_pure (wpAny_bind (wpAny_pure (wpAny_pure h)))
theorem kitx_excD (hga : findIn K (.ref D) "__getattribute__" = some (some (.builtin "BaseException.__getattribute__"))) (hgt : findIn K (.ref D) "__getattr__" = some none) (hsub : subIn K (.ref D) (.type "BaseException") = some true) (hdct : hasDictIn K D = true) (ha : findIn K (.ref D) "__class__" = some (some (.builtin "object.__class__")))
    (hn : specialIn K (.builtin "object.__class__") "__get__" = some (some (.builtin "getset_descriptor.__get__"))) (htk : takesIn K (.builtin "object.__class__") = some true) (hm : mroIn K D (.type "object") = some true) :
    KitX K (.ref x) (.ref D) (fun h => ∃ od, InstAt h x ox D (some od)) where
  ty := fun _ _ _ ⟨_, I⟩ => I.type
  it := fun _ _ X _ => by
    obtain ⟨cdD, hcD, _⟩ := any_some hdct
    unfold clsIn at hcD
    split at hcD
    · rename_i c' d' cd' sl' ho
      intro A' Q' E' s' k q
      unfold isType loadHead
      exact wpAny_bind (wpAny_loadPart (k _ _ (X _ _ ho)) (wpAny_pure q))
    · cases hcD
  ne := fun h tp dd its n sl X htp => by
    obtain ⟨cdD, hcD, _⟩ := any_some hdct
    refine Bool.eq_false_iff.mpr fun q => ?_
    have e : D = tp := Value.ref.inj (beq_iff_eq.mp q)
    subst e
    unfold clsIn at hcD
    split at hcD
    · rename_i c' d' cd' sl' ho
      have z := (X _ _ ho).symm.trans htp
      cases z
    · cases hcD
  ca := fun X ⟨_, I⟩ k => kin_classD hga hgt hsub hdct ha hn htk hm X I k
end
end PySem.W
namespace L2
open PySem PySem.Spec PyProof.Rows
end L2
namespace DL
open PySem L2
end DL
end
section
set_option autoImplicit false
/-! DLef: the suite of law k03. -/
namespace DL
open PySem L2
variable [LTabs]
abbrev isE (p1 p2 p3 p4 : Pos) (n y : Str) : Expr := .Call (.Name "isinstance" p1) [.Name n p2, .Name y p3] [] p4
end DL
end
section
set_option autoImplicit false
/-! DLeg: law k03's `_law_expanded`. -/
namespace DL
open PySem L2
variable [LTabs]
theorem fnX_out {P : Program} {w : World} {K : PySem.W.Frag} {mg : Str → Option Value} {base : Heap} {m : Nat} {fa : Addr} {fd : FuncData} {ps : List Str} : FnG P w K mg base (L2.CX P w) m fa fd ps (fun _ _ _ _ => False) := by
  constructor
  · intro vs H Q E h
    exact False.elim h
  · intro A out s H args us vs Q E _ _ _ _ _ h
    exact False.elim h
theorem PSs.of {X : Cx} {b : List Stmt} {ts : TS} (h : ∀ D σ H, ts D σ H → ∃ t, PSs X b t ∧ t D σ H) : PSs X b ts := ⟨fun pins s σ H D I q => by
  obtain ⟨t, h1, h2⟩ := h D σ H q
  exact h1.run pins s σ H D I h2⟩
end DL
end
section
set_option autoImplicit false
/-! DLxa: try .. except (A, B, C) as n. -/
namespace L2
open PySem PySem.Spec PyProof.Rows
section
variable {B : Heap} {l : List Env} {e : Addr} {Z : Obj → Prop} {h : Heap}
theorem flying_push (f : HandSPX.FlyingZ B l e Z h) (o : Obj) : HandSPX.FlyingZ B l e Z (h.push o) := by
  obtain ⟨f1, f2, f3, oe, vs, T, oT, ts, a1, a2, a3, a4, a5, a6, a7, a8, a9⟩ := f
  exact ⟨fun b o e => Heap.get?_push_of_some _ (f1 b o e), f2, f3.of_keeps fun b o hb _ => ⟨o, Heap.get?_push_of_some _ hb, rfl⟩, oe, vs, T, oT, ts, Heap.get?_push_of_some _ a1, a2, a3, a4, a5, a6, Heap.get?_push_of_some _ a7, a8, a9⟩
theorem upTo_push (o : Obj) : h.UpToSlots (h.push o) := fun b ob hb _ => ⟨ob.slots, Heap.get?_push_of_some _ hb⟩
end
/-- the end of a suite: the clause's name goes -/
def sEnd (D : Ends) (i : Nat) : Ends := { nx := fun σ' H' => D.nx (σ'.set i none) H', rt := D.rt, bk := fun σ' H' => D.bk (σ'.set i none) H', ct := fun σ' H' => D.ct (σ'.set i none) H' }
/-- what the clause 'except (x, y, z) as n' wishes: the exception is one of these -/
def wAs3 (K : PySem.W.Frag) (c1 c2 c3 : Value) (i : Nat) (ts : Addr → Value → Option Addr → TS) (D : Ends) : WX := fun cls d σ H =>
  PySem.W.exmAny K cls [c1, c2, c3] = some true ∧ ∀ a, H a = none → (σ.set i (some (V.ref a)))[i]? = some (some (V.ref a)) → ts a cls d (sEnd D i) (σ.set i (some (.ref a))) H
section
variable {X : Cx} {x1 x2 x3 n : Str} {c1 c2 c3 : Value} {i k0 : Nat} {body suite : List Stmt} {b₀ : Stmt} {p1 p2 p3 tp pos pos' : Pos} {tb : WX → TS} {ts : Addr → Value → Option Addr → TS}
theorem names_ld {Y : Cx} {x : Str} {c : Value} {np : Pos} {pins : List (Addr × Obj)} {σ : St} {H : Hp} {s : Shared} {Q : Value → Shared → Prop} {E : Value → Shared → Prop} (hc : Names Y x c) (I : Inv Y pins σ H s) (q : Q c s) : wpAny (model Y.prog Y.w) Y.A (eval (.Name x np) Y.env) Q E s := by
  obtain ⟨hg, hdbg, hm | ⟨hm, hv, hnn⟩⟩ := hc
  · exact ld_glob I hg hm q hdbg
  · exact ld_blt I hg hm hv q hnn hdbg
theorem ps_try_as3 (hs : X.stack = X.env :: X.outer) (hf : X.env.frame = some X.env.locals) (hN : X.N.Nodup) (hi : X.N[i]? = some n) (hln : X.env.kindOf n = some .local) (hc1 : Names X x1 c1) (hc2 : Names X x2 c2) (hc3 : Names X x3 c3)
    (hb : ∀ (W : WX) (pn : List (Addr × Obj)) (xe : Value → Shared → Prop), Takes (X.tr pn xe) W → PSs (X.tr pn xe) body (tb W))
    (hsu : ∀ (a : Addr) (oe : Obj) (cls : Value) (d : Option Addr) (pn : List (Addr × Obj)), Zc cls d oe → (∃ vs, oe.data = .fields vs) → PSs (X.suite a ((a, oe) :: pn)) (b₀ :: suite) (ts a cls d)) :
    PS X (.Try body [.ExceptHandler (some (.Tuple [.Name x1 p1, .Name x2 p2, .Name x3 p3] k0 tp)) (some n) (b₀ :: suite) pos'] [] [] pos) (fun D σ H => tb (wAs3 X.K c1 c2 c3 i ts D) D σ H) := by
  constructor
  intro pins s σ H D I h
  have ok := I.ok
  have frames : X.A.frames = some (X.env :: X.outer) := ok.frames.trans (by rw [hs])
  apply wpAny_Try_except
  refine wpAny_mono ((hb (wAs3 X.K c1 c2 c3 i ts D) (X.pn ++ pins) (fun e s₁ => wpAny (model X.prog X.w) X.A (noteFrame e X.env) (fun _ s₂ => wpAny (model X.prog X.w) X.A (setFlight e none) (fun _ s₃ =>
    wpAny (model X.prog X.w) X.A (handleBy e X.env [.ExceptHandler (some (.Tuple [.Name x1 p1, .Name x2 p2, .Name x3 p3] k0 tp)) (some n) (b₀ :: suite) pos']) (SP X pins D) X.xe s₃) X.xe s₂) X.xe s₁) (fun u s' xx => ?_)).run [] s σ H D (I.toTry _) h) (fun fl s1 q1 => ?_) (fun e s1 he => he)
  · obtain ⟨a, B, sI, pins', σ', H', cls, d, eu, J0, nb, up0, fly0, free, os, bare, any, wish⟩ := xx
    subst eu
    have J : Inv X pins σ' H' sI := J0.ofTry ok
    have fly1 : Sky B (X.env :: X.outer) a (Zc cls d) X.env.locals s'.heap := hs ▸ fly0
    refine Sky.land Zc.steady frames hf fly1 fun h3 fl3 up3 => ?_
    have J3 : Inv X pins σ' H' { s' with heap := h3 } := J.landed nb fl3.1 (up0.trans up3) os bare
    obtain ⟨oe3, vs3, g3, z3, d3⟩ := fl3.there
    have noFr : ∀ {hh : Heap} {o : Obj} {vs : Array Value}, hh.FunFrames B (X.env :: X.outer) → hh.get? a = some o → o.data = .fields vs → a ∉ frs (X.env :: X.outer) := fun ff e dd hm => by
      obtain ⟨_, o', e', bad⟩ := ff.mem hm
      cases e.symm.trans e'
      exact bad _ dd
    have n0 := noFr fl3.2.2.1 g3 d3
    have nL : a ≠ X.env.locals := fun z => n0 (List.mem_filterMap.mpr ⟨X.env, List.mem_cons_self, by rw [hf, z]⟩)
    have nF : a ∉ X.fs := fun hm => by
      obtain ⟨e, he, q⟩ := List.mem_filterMap.mp hm
      exact n0 (List.mem_filterMap.mpr ⟨e, List.mem_cons_of_mem _ he, q⟩)
    have S3 := J3.suite g3 d3 free nL nF
    refine wpAny_handleBy_cons (codeAny_handlers_test ?_) (by intro q; cases q)
    refine wpAny_Tuple_spliced ?_
    refine spliced_more (names_ld (Y := X.suite a ((a, oe3) :: (X.pn ++ pins))) hc1 S3 ?_)
    refine spliced_more (names_ld (Y := X.suite a ((a, oe3) :: (X.pn ++ pins))) hc2 S3 ?_)
    refine spliced_more (names_ld (Y := X.suite a ((a, oe3) :: (X.pn ++ pins))) hc3 S3 ?_)
    refine spliced_none ⟨by rw [sizeLine_eq]; exact (by decide : 3 ≤ 16777216), ?_⟩
    have hk : ∀ b o, h3.get? b = some o → (h3.push { cls := .type "tuple", data := .seq [c1, c2, c3].toArray }).get? b = some o := fun b o e => Heap.get?_push_of_some _ e
    have LT : PySem.W.Looks (model X.prog X.w) (h3.push { cls := .type "tuple", data := .seq [c1, c2, c3].toArray }) (typeOf (.ref a)) cls := fun A Q E s k q => wpAny_typeOf_ref (k _ _ (hk _ _ g3)) (by rw [z3.1]; exact q)
    have kin : X.K.In (h3.push { cls := .type "tuple", data := .seq [c1, c2, c3].toArray }) := PySem.W.Frag.In.keeps J3.kIn hk
    have LM := PySem.W.exm_tup3 (M := model X.prog X.w) kin LT (Heap.get?_push_size _ rfl) any
    refine LM.here ?_
    refine codeAny_handlers_suite_as ?_
    have fl4 := flying_push fl3 { cls := .type "tuple", data := .seq [c1, c2, c3].toArray }
    refine HandSPX.lands_againZ fl4 fun h5 fl5 up5 => ?_
    have J5 : Inv X pins σ' H' { s' with heap := h5 } := J.landed nb fl5.1 (((up0.trans up3).trans (upTo_push _)).trans up5) os bare
    obtain ⟨oe5, vs5, g5, z5, d5⟩ := fl5.there
    have S5 := J5.suite g5 d5 free nL nF
    refine store_ok (X := X.suite a ((a, oe5) :: (X.pn ++ pins))) (v := .ref a) S5 hN hi (.inl hln) rfl (fun s6 S6 => ?_) (.inr hln)
    refine wpAny_mono ((hsu a oe5 cls d (X.pn ++ pins) z5 ⟨_, d5⟩).run [] s6 _ H' _ S6 (wish a free (List.getElem?_set_self (by rw [J.len]; exact (List.getElem?_eq_some_iff.mp hi).1)))) (fun fl s7 q7 => ?_) (fun _ _ z => z.elim)
    have over : ∀ {σ7 : St} {H7 : Hp} {Q : Shared → Prop}, Inv (X.suite a ((a, oe5) :: (X.pn ++ pins))) [] σ7 H7 s7 → (∀ s8, Inv X pins (σ7.set i none) H7 s8 → Q s8) →
        wpAny (model X.prog X.w) X.A (do bindName X.env n .none; unbindBehindTheSuite X.env n pos') (fun _ s8 => Q s8) X.xe s7 := fun S7 hq => gone_ok (S7.unsuite ok) hN hi hln hq
    cases fl with
    | ret u =>
      obtain ⟨v7, σ7, H7, S7, r7, q7⟩ := q7
      exact over S7 fun s8 J8 => ⟨_, _, _, J8, r7, q7⟩
    | next =>
      obtain ⟨σ7, H7, S7, q7⟩ := q7
      exact over S7 fun s8 J8 => ⟨_, _, J8, q7⟩
    | brk =>
      obtain ⟨σ7, H7, S7, q7⟩ := q7
      exact over S7 fun s8 J8 => ⟨_, _, J8, q7⟩
    | cont =>
      obtain ⟨σ7, H7, S7, q7⟩ := q7
      exact over S7 fun s8 J8 => ⟨_, _, J8, q7⟩
  · cases fl with
    | ret u =>
      obtain ⟨v, σ1, H1, J1, r, q⟩ := q1
      exact ⟨v, σ1, H1, J1.ofTry ok, r, q⟩
    | next =>
      obtain ⟨σ1, H1, J1, q⟩ := q1
      exact wpAny_execs_nil ⟨σ1, H1, J1.ofTry ok, q⟩
    | brk =>
      obtain ⟨σ1, H1, J1, q⟩ := q1
      exact ⟨σ1, H1, J1.ofTry ok, q⟩
    | cont =>
      obtain ⟨σ1, H1, J1, q⟩ := q1
      exact ⟨σ1, H1, J1.ofTry ok, q⟩
end
end L2
end
section
set_option autoImplicit false
/-! DLxb: defs of one parameter that are called while an exception is handled: the promise speaks of the exception's object. -/
namespace L2
open PySem PySem.Spec PyProof.Rows
/-- what such a def promises of the handled exception's object p: the answer's value and heap -/
abbrev SpK := Addr × Obj → Hp → VK → Prop
structure FnK (P : Program) (w : World) (K : PySem.W.Frag) (mg : Str → Option Value) (base : Heap) (k : Nat) (f : Addr) (fd : FuncData) (x : Str) (spp : SpK) : Prop where
  run : ∀ (A : Around) (outer : List Env) (s : Shared) (H : Hp) (args : Args) (Q : VK) (p : Addr × Obj), L2H.RoomH k A → A.handled = some (.ref p.1) → L2H.PinOk outer H s p → Env0 P w K mg base A outer s H → BindsTo s fd args [(x, .ref p.1)] → spp p H Q →
    codeAny (model P w) A (.call (.ref f) args) (CR CX0 outer P w H s Q (fun _ _ _ => False)) s
/-- the context of its body -/
abbrev cxK (P : Program) (w : World) (K : PySem.W.Frag) (mg : Str → Option Value) (base : Heap) (N : List Str) (qual : Str) (scope : Scope) (f : Addr) (cd : Value) (A : Around) (outer : List Env) (s : Shared) (H : Hp) (p : Addr × Obj) : Cx := L2H.cxH CX0 P w K mg base N qual scope f cd A outer s H (fun _ _ _ => False) p
theorem fn_ofK {P : Program} {w : World} {K : PySem.W.Frag} {mg : Str → Option Value} {base : Heap} {k : Nat} {x qual y : Str} {st : Stmt} {f : Addr} {fd : FuncData} {N : List Str} {dV : Value} {spp : SpK} (F : DL.FunW K x qual st f fd dV) (S : FnScope N [y] (defScope st))
    (body : ∀ (cd : Value) (A : Around) (outer : List Env) (s : Shared) (H : Hp) (Q : VK) (p : Addr × Obj), A.handled = some (.ref p.1) → L2H.RoomH k (A.deeper (envOfC qual (defScope st) s.heap.objs.size f cd)) → H p.1 = none → spp p H Q →
      ∃ t, PSs (cxK P w K mg base N qual (defScope st) f cd A outer s H p) (defBody st) t ∧ t { nx := fun _ H' => Q .non H', rt := Q } (start N [.ref p.1]) H) :
    FnK P w K mg base (k + 1) f fd y spp := by
  obtain ⟨oc, od, kV, doc, pm, an, cdv, ct, osl, efd, lk, hcd⟩ := F.ex
  subst efd
  constructor
  intro A outer s H args Q p room hot pin e0 bt h
  have kin : K.In s.heap := e0.mod.kin.keeps fun b o z => (e0.bs b o z).1
  have lim : s.heap.NoLimit := e0.mod.nolimit.keeps fun b o z => (e0.bs b o z).1
  apply codeAny_call_function room.depth (kin _ _ lk) rfl S.co S.gen rfl (PySem.W.codeRec_of kin hcd) (bt _ _ _ _ _)
  apply wpAny_newFunctionEnv_cells S.kind
  · intro m mem
    cases List.mem_singleton.mp mem
    rcases S.par y (List.mem_cons_self ..) with z | z
    · exact .inl z
    · exact .inr ⟨z, PySem.W.cellsFrom_some _ _ _ (.inl z)⟩
  intro env eenv s1 made
  subst eenv
  refine ⟨lim.keeps made.toInCall.keep, codeAny_func ?_⟩
  obtain ⟨t, read, got⟩ := body cdv A outer s H Q p hot (room.deeper _) pin.free h
  have I : Inv (cxK P w K mg base N qual (defScope st) f cdv A outer s H p) [] (start N [.ref p.1]) H s1 := L2H.inv_startH (us := [.ref p.1]) (vs := [.ref p.1]) S pin e0 rfl (.cons rfl .nil) made
  refine wpAny_mono (read.run [] s1 _ H _ I got) (fun fl s2 z => ?_) fun _ _ z => z
  cases fl with
  | brk => obtain ⟨_, _, _, q⟩ := z; exact q.elim
  | cont => obtain ⟨_, _, _, q⟩ := z; exact q.elim
  | next => obtain ⟨σ2, H2, J, q⟩ := z; exact ⟨V.non, H2, J.os, J.bare, J.base, J.hok, rfl, q⟩
  | ret u => obtain ⟨v2, σ2, H2, J, rv, q⟩ := z; exact ⟨v2, H2, J.os, J.bare, J.base, J.hok, rv, q⟩
section
variable {X : Cx} {k i : Nat} {f : Addr} {fd : FuncData} {y x n : Str} {q np pos : Pos} {p : Addr × Obj} {spp : SpK}
/-- f(n), n the handled exception -/
theorem pe_callHK (F : FnK X.prog X.w X.K X.mg X.base k f fd y spp) (hr : L2H.RoomH k X.A) (hh : X.A.handled = some (.ref p.1)) (hp : p ∈ X.pn) (hg : Gl X x) (hm : X.mg x = some (.ref f)) (hk : PySem.W.keepIn X.K (.ref f) = true) (hb : ∀ (s : Shared) (v : Value), X.K.In s.heap → BindsTo s fd ⟨[v], []⟩ [(y, v)])
    (hi : X.N[i]? = some n) (hv : Vis X.env.scope n) (hd : (n == ("__debug__" : Str)) = false) (hcd : (n == ("__classdict__" : Str)) = false) (hdb : (x == ("__debug__" : Str)) = false) :
    PE X (.Call (.Name x q) [.Name n np] [] pos) (fun σ H Q => σ[i]? = some (some (V.ref p.1)) ∧ spp p H Q) := by
  constructor
  intro pins s σ H Q I h
  obtain ⟨h1, h2⟩ := h
  refine wpAny_Call_Name_kw (ld_glob I hg hm ?_ hdb)
  have ha : PA X [.Name n np] (tCons (tVar i) tNil) := pa_cons (pe_var hi hv hd hcd) pa_nil (by rfl)
  refine PySem.W.callWith_K (h₀ := X.base) I.ok.mod.kin hk (thn (ha.run pos pins s σ H (fun vs H1 => vs = [.ref p.1] ∧ spp p H1 Q) I ⟨_, h1, rfl, h2⟩) fun us s1 ⟨vs, H1, I1, r, e, q1⟩ => ⟨I1.kIn, ?_⟩) (by rfl) (by rfl)
  subst e
  cases r with
  | cons a b =>
    cases b
    cases a
    have P1 := I1.pin p (List.mem_append_left _ hp)
    have pin : L2H.PinOk X.stack H1 s1 p := ⟨P1.1, P1.2.1, fun hm => (List.mem_cons.mp (I1.stkSub p.1 hm)).elim P1.2.2.1 P1.2.2.2.1, P1.2.2.2.2⟩
    refine wpAny_call (codeAny_mono (F.run X.A X.stack s1 H1 ⟨[.ref p.1], []⟩ Q p hr hh pin I1.env0 (hb s1 _ I1.kIn) q1) fun r s' hq => ?_)
    cases r with
    | error e => exact hq.elim
    | ok fl =>
      cases fl with
      | ret u => exact I1.after hq
      | next => exact False.elim hq
      | brk => exact False.elim hq
      | cont => exact False.elim hq
end
end L2
end
section
set_option autoImplicit false
/-! DLxc: what a handled exception is asked, in any def that holds it. -/
namespace L2
open PySem PySem.Spec PyProof.Rows
variable [DL.LTabs]
/-- the context bears the exception a of the class C with its dict at dd -/
structure HeldX (X : Cx) (a C dd : Addr) : Prop where
  ex : ∃ oe, (a, oe) ∈ X.pn ∧ Zc (.ref C) (some dd) oe ∧ ∃ vs, oe.data = .fields vs
/-- isinstance(e, c): one class, a tuple of classes -/
def rIsH (K : PySem.W.Frag) (D a dd : Addr) : List V → Hp → VK → Prop := fun xs H Q => ∃ (c : V) (b : Bool) (fs : List (Str × V)), xs = [.ref a, c] ∧ H dd = some (.xd fs) ∧
  ((∃ cv : Value, (∀ u, RelV c u → u = cv) ∧ PySem.W.kitOne K (.ref D) cv = some b) ∨ (∃ (t : Addr) (cs : List Addr), c = .ref t ∧ H t = some (.tup (cs.map V.ref)) ∧ PySem.W.kitAny K (.ref D) (cs.map Value.ref) = some b)) ∧ Q (.bl b) H
theorem vals_refsH : ∀ {cs : List Addr} {us : List Value}, Vals (cs.map V.ref) us → us = cs.map Value.ref
  | [], _, .nil => rfl
  | c :: cs, _, .cons h r => by
    rw [vals_refsH r]
    exact congrArg (· :: _) h
theorem call_isH {X : Cx} {a D dd : Addr} (C : ExcC X.K D) (h : HeldX X a D dd) : CallR X (.builtin "isinstance") (rIsH X.K D a dd) := by
  intro pins s σ H xs us Q I r h2
  obtain ⟨c, b, fs, rfl, hd, hc, q⟩ := h2
  obtain ⟨oe, hp, hz, vs, hv⟩ := h.ex
  cases r with
  | cons rx rr =>
    cases rr with
    | cons rt rr =>
      cases rr
      cases rx
      obtain ⟨hget, _⟩ := I.pin (a, oe) (List.mem_append_left _ hp)
      have hx : ObjOk X.prog X.w H s.heap dd (.xd fs) := I.hok dd _ hd
      obtain ⟨mA, hns, hr⟩ := hx
      obtain ⟨od, ho, hl⟩ := lookIn_ns hns
      have J : PySem.W.InstAt s.heap a oe D (some od) := ⟨hget, hz.1, by unfold PySem.W.notCls; rw [hv] <;> rfl, by rw [hz.2]; exact ho⟩
      rcases hc with ⟨cv, hcv, e⟩ | ⟨t, cs, rfl, ht, e⟩
      · have ec := hcv _ rt
        subst ec
        exact PySem.W.kia_one (PySem.W.kitx_excD C.hg C.hk C.hs C.hd C.ha C.hn C.ht C.hm) I.kIn ⟨od, J⟩ e (fun z => nomatch z) fun tk => ⟨.bl b, H, I.kept (t' := tk) fun _ _ z => z, rfl, q⟩
      · cases rt
        obtain ⟨_, its, hi, o, ho2, hcl, n, hdt⟩ := I.hok t _ ht
        have ei := vals_refsH hi
        subst ei
        obtain ⟨oc, od2, dt, sl⟩ := o
        have hcl : oc = .type "tuple" := hcl
        have hdt : dt = .seq (cs.map Value.ref).toArray n := hdt
        subst hcl hdt
        exact PySem.W.kia_tup (PySem.W.kitx_excD C.hg C.hk C.hs C.hd C.ha C.hn C.ht C.hm) I.kIn ⟨od, J⟩ ho2 e (fun z => nomatch z) fun tk => ⟨.bl b, H, I.kept (t' := tk) fun _ _ z => z, rfl, q⟩
section
variable {X : Cx} {a C dd : Addr} {i : Nat} {n y : Str}
/-- the exception in slot i, its fields fs at dd -/
def tIsH (i : Nat) (a dd : Addr) (b : Bool) : TE := fun σ H Q => σ[i]? = some (some (V.ref a)) ∧ (∃ fs, H dd = some (.xd fs)) ∧ ∀ H', DL.Kp H H' → Q (.bl b) H'
theorem pe_isH {D : Addr} {b : Bool} {p1 p2 p3 p4 : Pos} (h : HeldX X a C dd) (E : ExcC X.K C) (gi : Gl X "isinstance") (mi : X.mg "isinstance" = none) (hi : X.N[i]? = some n) (hv : Vis X.env.scope n) (hd : (n == ("__debug__" : Str)) = false) (hcd : (n == ("__classdict__" : Str)) = false)
    (gy : Gl X y) (my : X.mg y = some (.ref D)) (hdy : (y == ("__debug__" : Str)) = false) (hk : PySem.W.kitOne X.K (.ref C) (.ref D) = some b) : PE X (DL.isE p1 p2 p3 p4 n y) (tIsH i a dd b) :=
  DL.peImp (pe_callB (call_isH E h) gi mi (by decide +kernel) (pa_cons (pe_var hi hv hd hcd) (pa_cons (pe_glob (v := .ref D) gy my rfl hdy) pa_nil (by rfl)) (by rfl))) fun σ H Q q => by
    obtain ⟨h1, ⟨fs, h2⟩, h3⟩ := q
    exact ⟨_, h1, .ref D, b, fs, rfl, h2, .inl ⟨.ref D, fun u h => h, hk⟩, h3 H .refl⟩
theorem pe_isHT {t : String} {b : Bool} {p1 p2 p3 p4 : Pos} (h : HeldX X a C dd) (E : ExcC X.K C) (gi : Gl X "isinstance") (mi : X.mg "isinstance" = none) (hi : X.N[i]? = some n) (hv : Vis X.env.scope n) (hd : (n == ("__debug__" : Str)) = false) (hcd : (n == ("__classdict__" : Str)) = false)
    (gy : Gl X y) (my : X.mg y = none) (hb : bootBuiltins y = some (.type t)) (hn : y ≠ "__name__") (hdy : (y == ("__debug__" : Str)) = false) (hk : PySem.W.kitOne X.K (.ref C) (.type t) = some b) : PE X (DL.isE p1 p2 p3 p4 n y) (tIsH i a dd b) :=
  DL.peImp (pe_callB (call_isH E h) gi mi (by decide +kernel) (pa_cons (pe_var hi hv hd hcd) (pa_cons (pe_bltn (v := .ty t) gy my hb rfl hn hdy) pa_nil (by rfl)) (by rfl))) fun σ H Q q => by
    obtain ⟨h1, ⟨fs, h2⟩, h3⟩ := q
    exact ⟨_, h1, .ty t, b, fs, rfl, h2, .inl ⟨.type t, fun u h => h, hk⟩, h3 H .refl⟩
/-- the names of own classes -/
def tRefs (cs : List Addr) : TA := fun σ H Q => Q (cs.map V.ref) H
inductive ClsNames (X : Cx) : List Expr → List Addr → Prop
  | nil : ClsNames X [] []
  | cons {y : Str} {D : Addr} {p : Pos} {es : List Expr} {cs : List Addr} (gy : Gl X y) (my : X.mg y = some (.ref D)) (hdy : (y == ("__debug__" : Str)) = false) (r : ClsNames X es cs) : ClsNames X (.Name y p :: es) (D :: cs)
theorem pa_refs : ∀ {es : List Expr} {cs : List Addr}, ClsNames X es cs → PA X es (tRefs cs)
  | _, _, .nil => pa_nil
  | _, _, .cons gy my hdy r => DL.paImp (pa_cons (pe_glob (v := .ref _) gy my rfl hdy) (pa_refs r) (by rfl)) fun σ H Q q => q
/-- isinstance(e, (A, B, ..)) -/
theorem pe_isHs {b : Bool} {es : List Expr} {cs : List Addr} {k0 : Nat} {p1 p2 p3 p4 : Pos} (h : HeldX X a C dd) (E : ExcC X.K C) (gi : Gl X "isinstance") (mi : X.mg "isinstance" = none) (hi : X.N[i]? = some n) (hv : Vis X.env.scope n) (hd : (n == ("__debug__" : Str)) = false) (hcd : (n == ("__classdict__" : Str)) = false)
    (hes : ClsNames X es cs) (hl : cs.length ≤ 100) (hk : PySem.W.kitAny X.K (.ref C) (cs.map Value.ref) = some b) : PE X (.Call (.Name "isinstance" p1) [.Name n p2, .Tuple es k0 p3] [] p4) (tIsH i a dd b) :=
  DL.peImp (pe_callB (call_isH E h) gi mi (by decide +kernel) (pa_cons (pe_var hi hv hd hcd) (pa_cons (pe_tup (pa_refs hes)) pa_nil (by rfl)) (by rfl))) fun σ H Q q => by
    obtain ⟨h1, ⟨fs, h2⟩, h3⟩ := q
    refine ⟨_, h1, by rw [List.length_map, sizeLine_eq]; omega, fun p hp => ?_⟩
    have hne : dd ≠ p := fun z => by rw [← z, h2] at hp; cases hp
    exact ⟨.ref p, b, fs, rfl, by rw [upd_ne hne]; exact h2, .inr ⟨p, cs, rfl, upd_same, hk⟩, h3 _ (.new hp)⟩
/-- e.f -/
theorem pe_xfH {f : Str} {p1 p2 : Pos} (h : HeldX X a C dd) (T : XfC X.K C) (hno : PySem.W.findIn X.K (.ref C) f = some none) (hi : X.N[i]? = some n) (hv : Vis X.env.scope n) (hd : (n == ("__debug__" : Str)) = false) (hcd : (n == ("__classdict__" : Str)) = false) (hb : attributeBase (.Name n p1) f X.env (eval (.Name n p1) X.env) = eval (.Name n p1) X.env := by rfl) :
    PE X (.Attribute (.Name n p1) f p2) (fun σ H Q => σ[i]? = some (some (V.ref a)) ∧ ∃ fs v, H dd = some (.xd fs) ∧ fs.lookup f = some v ∧ Q v H) := by
  obtain ⟨oe, hp, hz, vs, hdt⟩ := h.ex
  refine ⟨fun pins s σ H Q I h => ?_⟩
  obtain ⟨h1, fs, v, h2, l, q⟩ := h
  refine attr_of hb (thn ((pe_var (pos := p1) hi hv hd hcd).run pins s σ H (fun x H1 => x = .ref a ∧ H1 = H) I ⟨_, h1, rfl, rfl⟩) fun u s1 hh => ?_)
  obtain ⟨x, H1, I1, rx, ex, eH⟩ := hh
  subst ex
  rw [eH] at I1
  obtain rfl : u = Value.ref a := rx
  obtain ⟨ha, _⟩ := I1.pin (a, oe) (List.mem_append_left _ hp)
  have hx : ObjOk X.prog X.w H s1.heap dd (.xd fs) := I1.hok dd _ h2
  obtain ⟨mA, hns, hr⟩ := hx
  obtain ⟨od, ho, hl⟩ := lookIn_ns hns
  obtain ⟨u, hu, ru⟩ := RelO.some_of (v := v) (o := mA f) (by rw [← l]; exact hr f)
  have J : PySem.W.InstAt s1.heap a oe C (some od) := ⟨ha, hz.1, by unfold PySem.W.notCls; rw [hdt] <;> rfl, by rw [hz.2]; exact ho⟩
  exact HandSPX.exc_get I1.kIn J T.ga T.gg T.exC (PySem.W.findObj_own T.hdC hno rfl (by rw [hl, hu])) (handed_of ru) ⟨v, H, I1.tok _, ru, q⟩
end
end L2
end
section
set_option autoImplicit false
/-! DLxd: the fields of a handled exception (`_law_fields`, `_law_other_fields`). -/
namespace L2
open PySem PySem.Spec PyProof.Rows
variable [DL.LTabs]
/-- what is known of the kinds of the class at C, the c-th of the program's errors; Dn: the errors' classes -/
structure KindF (X : Cx) (c : Nat) (C : Addr) (Dn : Nat → Addr) : Prop where
  mg : ∀ j, j < 26 → X.mg (DL.xName j) = some (.ref (Dn j))
  kit : ∀ j, j < 26 → PySem.W.kitOne X.K (.ref C) (.ref (Dn j)) = some (j == c)
  no : ∀ f ∈ DL.xFlds c, PySem.W.findIn X.K (.ref C) f = some none
  exc : ExcC X.K C
  xf : XfC X.K C
theorem kitAny_of {X : Cx} {c : Nat} {C : Addr} {Dn : Nat → Addr} (F : KindF X c C Dn) : ∀ js : List Nat, (∀ j ∈ js, j < 26) → PySem.W.kitAny X.K (.ref C) ((js.map Dn).map Value.ref) = some (js.any fun j => j == c)
  | [], _ => rfl
  | j :: js, h => by
    have h1 := F.kit j (h j (List.mem_cons_self ..))
    have ih := kitAny_of F js fun i hi => h i (List.mem_cons_of_mem _ hi)
    show (match PySem.W.kitOne X.K (.ref C) (.ref (Dn j)) with | some true => some true | some false => PySem.W.kitAny X.K (.ref C) ((js.map Dn).map Value.ref) | none => none) = _
    rw [h1]
    show _ = some ((j == c) || js.any fun j => j == c)
    cases j == c with
    | true => rfl
    | false => rw [ih]; rfl
/-- slot 0 holds the exception, its fields are us -/
def Fs (a dd : Addr) (c : Nat) (us : List V) (σ : St) (H : Hp) : Prop := σ[0]? = some (some (V.ref a)) ∧ H dd = some (.xd ((DL.xFlds c).zip us)) ∧ us.length = (DL.xFlds c).length
/-- the list of the fields is handed out -/
def Gives (us : List V) (R : V → Hp → Prop) (H : Hp) : Prop := ∀ (l : Addr) (H' : Hp), DL.Kp H H' → H l = none → H' l = some (.lst us) → R (.ref l) H'
theorem Gives.mono {us : List V} {R : V → Hp → Prop} {H H' : Hp} (g : Gives us R H) (k : DL.Kp H H') : Gives us R H' := fun l H2 k2 h h2 => g l H2 (k.trans k2) (k.stay l h) h2
theorem Fs.mono {a dd : Addr} {c : Nat} {us : List V} {σ : St} {H H' : Hp} (f : Fs a dd c us σ H) (k : DL.Kp H H') : Fs a dd c us σ H' := ⟨f.1, k.keep _ _ f.2.1 (fun _ z => by cases z), f.2.2⟩
/-- a block that gives the fields -/
def tFs (a dd : Addr) (c : Nat) : TS := fun D σ H => ∃ us, Fs a dd c us σ H ∧ Gives us D.rt H
/-- one question: yes gives the fields, no goes on -/
def tFq (a dd : Addr) (c : Nat) (b : Bool) : TS := fun D σ H => ∃ us, Fs a dd c us σ H ∧ if b then Gives us D.rt H else ∀ H', DL.Kp H H' → D.nx σ H'
section
variable {X : Cx} {a C dd : Addr} {c : Nat} {n : Str} {Dn : Nat → Addr} {b : Bool} {s1 : Stmt} {rest : List Stmt}
theorem fs_cons (h1 : PS X s1 (tFq a dd c b)) (hr : b = false → PSs X rest (tFs a dd c)) : PSs X (s1 :: rest) (tFs a dd c) := by
  cases b with
  | true =>
    refine DL.pssImp (pss_cons h1 pss_never) fun D σ H q => ?_
    obtain ⟨us, f, g⟩ := q
    exact ⟨us, f, g⟩
  | false =>
    refine DL.pssImp (pss_cons h1 (hr rfl)) fun D σ H q => ?_
    obtain ⟨us, f, g⟩ := q
    exact ⟨us, f, fun H' k => ⟨us, f.mono k, g.mono k⟩⟩
theorem look1 {c : Nat} {f : Str} {us : List V} (hf : DL.xFlds c = [f]) (hl : us.length = (DL.xFlds c).length) : ∃ u, us = [u] ∧ ((DL.xFlds c).zip us).lookup f = some u := by
  rw [hf] at hl ⊢
  match us, hl with
  | [u], _ => exact ⟨u, rfl, by simp [List.lookup]⟩
/-- if isinstance(e, (..)): return [e.f] -/
theorem ps_fldT {js : List Nat} {f : Str} {es : List Expr} {k0 : Nat} {p1 p2 p3 p4 p5 p6 p7 p8 p9 : Pos} (h : HeldX X a C dd) (F : KindF X c C Dn) (gi : Gl X "isinstance") (mi : X.mg "isinstance" = none) (hi : X.N[0]? = some n) (hv : Vis X.env.scope n) (hd : (n == ("__debug__" : Str)) = false) (hcd : (n == ("__classdict__" : Str)) = false)
    (hes : ClsNames X es (js.map Dn)) (hj : ∀ j ∈ js, j < 26) (hl : js.length ≤ 100) (hf : (js.any fun j => j == c) = true → DL.xFlds c = [f]) (hb : attributeBase (.Name n p5) f X.env (eval (.Name n p5) X.env) = eval (.Name n p5) X.env := by rfl) :
    PS X (.If (.Call (.Name "isinstance" p1) [.Name n p2, .Tuple es k0 p3] [] p4) [.Return (some (.List [.Attribute (.Name n p5) f p6] p7)) p8] [] p9) (tFq a dd c (js.any fun j => j == c)) := by
  have hk := kitAny_of F js hj
  generalize (js.any fun j => j == c) = b at hk hf ⊢
  have e1 := pe_isHs (p1 := p1) (p2 := p2) (p3 := p3) (p4 := p4) (k0 := k0) (i := 0) h F.exc gi mi hi hv hd hcd hes (by rw [List.length_map]; exact hl) hk
  cases b with
  | true =>
    have hf := hf rfl
    have hno := F.no f (by rw [hf]; exact List.mem_singleton.mpr rfl)
    refine DL.psImp (ps_if (pt_val e1) (pss_one (ps_ret (pe_lst (pa_cons (pe_xfH (p1 := p5) (p2 := p6) h F.xf hno hi hv hd hcd hb) pa_nil (by rfl)))) ) pss_nil) fun D σ H q => ?_
    obtain ⟨us, ⟨f1, f2, f3⟩, g⟩ := q
    obtain ⟨u, eu, lu⟩ := look1 hf f3
    refine ⟨f1, ⟨_, f2⟩, fun H' k => ⟨true, rfl, f1, _, u, k.keep _ _ f2 (fun _ z => by cases z), lu, by rw [sizeLine_eq]; exact (by decide : 1 ≤ 16777216), fun p hp => ?_⟩⟩
    exact g p _ (k.trans (.new hp)) (k.stay p hp) (by rw [upd_same, eu])
  | false =>
    refine DL.psImp (ps_if (pt_val e1) pss_never pss_nil) fun D σ H q => ?_
    obtain ⟨us, ⟨f1, f2, f3⟩, g⟩ := q
    exact ⟨f1, ⟨_, f2⟩, fun H' k => ⟨false, rfl, g H' k⟩⟩
end
/-- what a def that gives the fields promises -/
def spFl (C : Addr) (c : Nat) : SpK := fun p H Q => ∃ dd us, Zc (.ref C) (some dd) p.2 ∧ (∃ vs, p.2.data = .fields vs) ∧ H dd = some (.xd ((DL.xFlds c).zip us)) ∧ us.length = (DL.xFlds c).length ∧ Gives us Q H
section
variable {P : Program} {w : World} {K : PySem.W.Frag} {mg : Str → Option Value} {base : Heap} {k c : Nat} {x qual y : Str} {st : Stmt} {f C : Addr} {fd : FuncData} {N : List Str} {dV : Value}
theorem fnK_fields (F : DL.FunW K x qual st f fd dV) (S : FnScope (y :: N) [y] (defScope st))
    (body : ∀ (cd : Value) (A : Around) (outer : List Env) (s : Shared) (H : Hp) (p : Addr × Obj) (dd : Addr), A.handled = some (.ref p.1) → L2H.RoomH k (A.deeper (envOfC qual (defScope st) s.heap.objs.size f cd)) → HeldX (cxK P w K mg base (y :: N) qual (defScope st) f cd A outer s H p) p.1 C dd →
      PSs (cxK P w K mg base (y :: N) qual (defScope st) f cd A outer s H p) (defBody st) (tFs p.1 dd c)) :
    FnK P w K mg base (k + 1) f fd y (spFl C c) :=
  fn_ofK F S fun cd A outer s H Q p hh room hp sp => by
    obtain ⟨dd, us, hz, hv, h1, h2, g⟩ := sp
    exact ⟨_, body cd A outer s H p dd hh room ⟨p.2, List.mem_singleton.mpr rfl, hz, hv⟩, us, ⟨rfl, h1, h2⟩, g⟩
end
end L2
end
section
set_option autoImplicit false
/-! DLxe: the kind of a handled exception (`_law_kind`): the lists of truths. -/
namespace L2
open PySem PySem.Spec PyProof.Rows
variable [DL.LTabs]
/-- a list of questions about the exception in slot 0 -/
def tIsA (a dd : Addr) (bs : List Bool) : TA := fun σ H Q => σ[0]? = some (some (V.ref a)) ∧ (∃ fs, H dd = some (.xd fs)) ∧ ∀ H', DL.Kp H H' → Q (bs.map V.bl) H'
section
variable {X : Cx} {a dd : Addr} {b : Bool} {bs bs0 : List Bool} {e : Expr} {es : List Expr} {i : Nat} {o : Str}
theorem kp_xd {H H' : Hp} {dd : Addr} {fs : List (Str × V)} (k : DL.Kp H H') (h : H dd = some (.xd fs)) : H' dd = some (.xd fs) := k.keep _ _ h fun _ z => by cases z
theorem kp_ls {H H' : Hp} {l : Addr} {xs : List V} (k : DL.Kp H H') (h : H l = some (.lst xs)) : H' l = some (.lst xs) := k.keep _ _ h fun _ z => by cases z
theorem pa_isnil : PA X [] (tIsA a dd []) := DL.paImp pa_nil fun σ H Q q => q.2.2 H .refl
theorem pa_iscons (h : PE X e (tIsH 0 a dd b)) (r : PA X es (tIsA a dd bs)) (hs : starEach (e :: es) X.env = (false, eval e X.env) :: starEach es X.env := by rfl) : PA X (e :: es) (tIsA a dd (b :: bs)) :=
  DL.paImp (pa_cons h r hs) fun σ H Q q => by
    obtain ⟨h1, ⟨fs, h2⟩, h3⟩ := q
    exact ⟨h1, ⟨fs, h2⟩, fun H' k => ⟨h1, ⟨fs, kp_xd k h2⟩, fun H2 k2 => h3 H2 (k.trans k2)⟩⟩
/-- slot 0 holds the exception; the slots of ls hold lists of truths, each its own -/
structure Kd (a dd : Addr) (n : Nat) (H0 : Hp) (ls : List (Nat × List Bool)) (σ : St) (H : Hp) : Prop where
  kp0 : DL.Kp H0 H
  fr : ∀ p ∈ ls, ∀ l, σ[p.1]? = some (some (V.ref l)) → H0 l = none
  len : σ.length = n
  e : σ[0]? = some (some (V.ref a))
  xd : ∃ fs, H dd = some (.xd fs)
  at_ : ∀ p ∈ ls, ∃ l, σ[p.1]? = some (some (V.ref l)) ∧ H l = some (.lst (p.2.map V.bl))
  inj : ∀ p ∈ ls, ∀ q ∈ ls, ∀ l, σ[p.1]? = some (some (V.ref l)) → σ[q.1]? = some (some (V.ref l)) → p.1 = q.1
theorem Kd.put {n : Nat} {H0 : Hp} {ls : List (Nat × List Bool)} {σ : St} {H H' : Hp} {p : Addr} (k : Kd a dd n H0 ls σ H) (kp : DL.Kp H H') (hp : H p = none) (h2 : H' p = some (.lst (bs.map V.bl))) (hi : i < n) (h0 : i ≠ 0) : Kd a dd n H0 ((i, bs) :: ls.filter fun q => q.1 != i) (σ.set i (some (V.ref p))) H' := by
  have old : ∀ q ∈ ls.filter (fun q => q.1 != i), q ∈ ls ∧ i ≠ q.1 := fun q hq => by
    obtain ⟨h, z⟩ := List.mem_filter.mp hq
    exact ⟨h, fun e => by rw [e] at z; simp at z⟩
  have me : (σ.set i (some (V.ref p)))[i]? = some (some (V.ref p)) := List.getElem?_set_self (by rw [k.len]; exact hi)
  have fresh : ∀ q ∈ ls, ∀ l, σ[q.1]? = some (some (V.ref l)) → l ≠ p := fun q hq l e z => by
    obtain ⟨l', e1, e2⟩ := k.at_ q hq
    rw [e] at e1
    cases e1
    rw [z, hp] at e2
    cases e2
  refine ⟨k.kp0.trans kp, fun q hq l e1 => ?_, by rw [List.length_set]; exact k.len, by rw [List.getElem?_set_ne h0]; exact k.e, let ⟨fs, h⟩ := k.xd; ⟨fs, kp_xd kp h⟩, fun q hq => ?_, fun q hq r hr l e1 e2 => ?_⟩
  · rcases List.mem_cons.mp hq with e | hq
    · subst e
      rw [me] at e1
      cases e1
      exact k.kp0.stay p hp
    · obtain ⟨hq, hne⟩ := old q hq
      rw [List.getElem?_set_ne hne] at e1
      exact k.fr q hq l e1
  · rcases List.mem_cons.mp hq with e | hq
    · subst e; exact ⟨p, me, h2⟩
    · obtain ⟨hq, hne⟩ := old q hq
      obtain ⟨l, e1, e2⟩ := k.at_ q hq
      exact ⟨l, by rw [List.getElem?_set_ne hne]; exact e1, kp_ls kp e2⟩
  · rcases List.mem_cons.mp hq with eq | hq <;> rcases List.mem_cons.mp hr with er | hr
    · rw [eq, er]
    · obtain ⟨hr, hne⟩ := old r hr
      rw [eq, me] at e1
      cases e1
      rw [List.getElem?_set_ne hne] at e2
      exact absurd rfl (fresh r hr _ e2)
    · obtain ⟨hq, hne⟩ := old q hq
      rw [er, me] at e2
      cases e2
      rw [List.getElem?_set_ne hne] at e1
      exact absurd rfl (fresh q hq _ e1)
    · obtain ⟨hq, hne⟩ := old q hq
      obtain ⟨hr, hne2⟩ := old r hr
      rw [List.getElem?_set_ne hne] at e1
      rw [List.getElem?_set_ne hne2] at e2
      exact k.inj q hq r hr l e1 e2
/-- x = [isinstance(e, A), ..] -/
theorem ps_isl {n : Nat} {H0 : Hp} {ls : List (Nat × List Bool)} {p1 p2 p3 : Pos} (hN : X.N.Nodup) (hj : X.N[i]? = some o) (hoL : Loc X.env.scope o) (hl : PA X es (tIsA a dd bs)) (h0 : i ≠ 0) (hi : i < n) (hb : bs.length ≤ 100) (hf : X.fn o = true ∨ X.env.scope.names.lookup o = some .local) :
    PS X (.Assign [.Name o p1] (.List es p2) p3) (fun D σ H => Kd a dd n H0 ls σ H ∧ ∀ σ' H', Kd a dd n H0 ((i, bs) :: ls.filter fun q => q.1 != i) σ' H' → D.nx σ' H') :=
  DL.psImp (ps_set (i := i) hN hj hoL (pe_lst hl) (hf := hf)) fun D σ H q => by
    obtain ⟨k, q⟩ := q
    refine ⟨k.e, k.xd, fun H' kp => ⟨by rw [List.length_map, sizeLine_eq]; omega, fun p hp => ?_⟩⟩
    exact q _ _ (k.put (kp.trans (.new hp)) (kp.stay p hp) upd_same hi h0)
/-- x = x + [isinstance(e, A), ..] -/
theorem ps_isadd {n : Nat} {H0 : Hp} {ls : List (Nat × List Bool)} {p1 p2 p3 p4 p5 : Pos} (hN : X.N.Nodup) (hj : X.N[i]? = some o) (hoL : Loc X.env.scope o) (hov : Vis X.env.scope o) (hod : (o == ("__debug__" : Str)) = false) (hocd : (o == ("__classdict__" : Str)) = false) (hl : PA X es (tIsA a dd bs)) (h0 : i ≠ 0) (hi : i < n) (hb : bs.length ≤ 100) (hb0 : bs0.length ≤ 100) (hm : (i, bs0) ∈ ls) (hf : X.fn o = true ∨ X.env.scope.names.lookup o = some .local) :
    PS X (.Assign [.Name o p1] (.BinOp (.Name o p2) .Add (.List es p3) p4) p5) (fun D σ H => Kd a dd n H0 ls σ H ∧ ∀ σ' H', Kd a dd n H0 ((i, bs0 ++ bs) :: ls.filter fun q => q.1 != i) σ' H' → D.nx σ' H') :=
  DL.psImp (ps_set (i := i) hN hj hoL (pe_op op_cat (pe_var hj hov hod hocd) (pe_lst hl)) (hf := hf)) fun D σ H q => by
    obtain ⟨k, q⟩ := q
    obtain ⟨l, e1, e2⟩ := k.at_ _ hm
    refine ⟨.ref l, e1, k.e, k.xd, fun H' kp => ⟨by rw [List.length_map, sizeLine_eq]; omega, fun p hp => ?_⟩⟩
    have hlp : l ≠ p := fun z => by
      have := kp_ls kp e2
      rw [z, hp] at this
      cases this
    refine ⟨l, p, bs0.map V.bl, bs.map V.bl, rfl, rfl, by rw [upd_ne hlp]; exact kp_ls kp e2, upd_same, by rw [List.length_map, List.length_map, sizeLine_eq]; omega, fun r hr => ?_⟩
    have kp2 : DL.Kp H (upd (upd H' p (.lst (bs.map V.bl))) r (.lst (bs0.map V.bl ++ bs.map V.bl))) := (kp.trans (.new hp)).trans (.new hr)
    exact q _ _ (k.put kp2 ((kp.trans (.new hp)).stay r hr) (by rw [upd_same, List.map_append]) hi h0)
end
end L2
end
section
set_option autoImplicit false
/-! DLxf: `_law_kind`'s end: from the lists of truths on as a run of the data layer, the word from a split text. -/
namespace DL
open PySem L2
variable [LTabs]
section
variable {K : PySem.W.Frag}
theorem rps_blsL {S : Addr → Prop} {H : Hp} : ∀ bs : List Bool, Rps K S H (bs.map V.bl) (bs.map D.bl)
  | [] => .nil
  | b :: r => .cons (.bl b) (rps_blsL r)
/-- the truths' lists as the data layer sees them -/
theorem kd_rel {a dd : Addr} {n : Nat} {H0 H : Hp} {ls : List (Nat × List Bool)} {σ : St} {ρ : Ev} (k : Kd a dd n H0 ls σ H) (tb : LTb H) (hl : ρ.length = n) (h : ∀ i s, ρ[i]? = some s → s = .un ∨ ∃ bs, (i, bs) ∈ ls ∧ s = .ls .own (bs.map D.bl)) : Rel K (fun _ => False) ρ σ H := by
  refine ⟨by rw [hl, k.len], fun i s ov e1 e2 => ?_, fun i j m l xs ys b e1 e2 e3 e4 => ?_, fun a z => z.elim, tb⟩
  · rcases h i s e1 with rfl | ⟨bs, hm, rfl⟩
    · trivial
    · obtain ⟨l, f1, f2⟩ := k.at_ _ hm
      have e2 : σ[i]? = some ov := e2
      have f1 : σ[i]? = some (some (V.ref l)) := f1
      rw [f1] at e2
      cases e2
      exact .mkL (by decide) rfl f2 (fun z => z) (rps_blsL bs)
  · rcases h i _ e1 with z | ⟨bs, hm, _⟩
    · cases z
    · rcases h j _ e2 with z | ⟨cs, hm2, _⟩
      · cases z
      · exact k.inj _ hm _ hm2 b e3 e4
theorem kd_own {a dd : Addr} {n : Nat} {H0 H : Hp} {ls : List (Nat × List Bool)} {σ : St} {ρ : Ev} (k : Kd a dd n H0 ls σ H) (h : ∀ i s, ρ[i]? = some s → s = .un ∨ ∃ bs, (i, bs) ∈ ls ∧ s = .ls .own (bs.map D.bl)) {b : Addr} (o : Own ρ σ b) : H0 b = none := by
  obtain ⟨i, m, xs, e1, e2⟩ := o
  rcases h i _ e1 with z | ⟨bs, hm, _⟩
  · cases z
  · exact k.fr _ hm b e2
/-- what a run from there leaves -/
theorem kp_run {a dd : Addr} {n : Nat} {H0 H H' : Hp} {ls : List (Nat × List Bool)} {σ σ' : St} {S S' : Addr → Prop} {ρ ρ' : Ev} (k : Kd a dd n H0 ls σ H) (h : ∀ i s, ρ[i]? = some s → s = .un ∨ ∃ bs, (i, bs) ∈ ls ∧ s = .ls .own (bs.map D.bl)) (ac : Ac K S ρ σ H S' ρ' σ' H') : Kp H0 H' :=
  ⟨fun b o e nt => ac.go.keep b o (k.kp0.keep b o e nt) (fun w => by rw [kd_own k h w] at e; cases e) nt, fun b e => k.kp0.stay b (ac.go.stay b e), fun _ => ac.rel.tb⟩
end
section
variable {X : Cx} {Φ : Calls} {a dd : Addr} {n : Nat} {H0 : Hp} {ls : List (Nat × List Bool)}
def tTail (a dd : Addr) (n : Nat) (H0 : Hp) (ls : List (Nat × List Bool)) (w : Str) : TS := fun D σ H => Kd a dd n H0 ls σ H ∧ LTb H0 ∧ ∀ H', Kp H0 H' → D.rt (.str w) H'
/-- return words.split(sep)[at] -/
theorem ps_retSplit {i j : Nat} {wn an sep W w : Str} {ws : List Str} {k : Int} {m1 : Nat} {p1 p2 p3 p4 p5 p6 p7 : Pos} (hi : X.N[i]? = some wn) (hv : Vis X.env.scope wn) (hd : (wn == ("__debug__" : Str)) = false) (hcd : (wn == ("__classdict__" : Str)) = false) (hj : X.N[j]? = some an) (hjv : Vis X.env.scope an) (hjd : (an == ("__debug__" : Str)) = false) (hjcd : (an == ("__classdict__" : Str)) = false)
    (hW : Txt.split W sep = ws) (hat : atI (ws.map V.str) k = some (.str w)) (hs0 : (sep.length == 0) = false) (hWl : W.length + 2 ≤ sizeLine) (hline : (p2.endLine == p4.line) = true) :
    PS X (.Return (some (.Subscript (.Call (.Attribute (.Name wn p1) "split" p2) [.Constant (.str sep) m1 p3] [] p4) (.Name an p5) p6)) p7) (fun D σ H => σ[i]? = some (some (V.str W)) ∧ σ[j]? = some (some (V.int k)) ∧ ∀ H', Kp H H' → D.rt (.str w) H') :=
  psImp (ps_ret (pe_ix ix_seq (pe_split (pe_var hi hv hd hcd) pe_str (hline := hline)) (pe_var hj hjv hjd hjcd) (fun _ _ => rfl))) fun D σ H q => by
    obtain ⟨h1, h2, h3⟩ := q
    refine ⟨_, h1, ⟨_, rfl⟩, W, sep, rfl, rfl, hs0, hWl, fun p hp => ⟨_, h2, .inl ⟨p, _, k, .str w, rfl, rfl, SqL.of upd_same, ?_, h3 _ (.new hp)⟩⟩⟩
    rw [hW]
    exact hat
/-- the six statements behind the lists -/
theorem kind_tail {st1 st2 st3 st4 st5 st6 : Stmt} {i1 i2 i3 i4 i5 : S} {ρ0 ρ1 ρ2 ρ3 ρ4 ρ5 : Ev} {w W : Str} {k : Int} {i j : Nat}
    (hl : ρ0.length = n) (hρ : ∀ i s, ρ0[i]? = some s → s = .un ∨ ∃ bs, (i, bs) ∈ ls ∧ s = .ls .own (bs.map D.bl))
    (h1 : PS X st1 (tS X.K (exec Φ i1))) (h2 : PS X st2 (tS X.K (exec Φ i2))) (h3 : PS X st3 (tS X.K (exec Φ i3))) (h4 : PS X st4 (tS X.K (exec Φ i4))) (h5 : PS X st5 (tS X.K (exec Φ i5)))
    (h6 : PS X st6 (fun D σ H => σ[i]? = some (some (V.str W)) ∧ σ[j]? = some (some (V.int k)) ∧ ∀ H', Kp H H' → D.rt (.str w) H'))
    (e1 : exec Φ i1 ρ0 = .ok .nx ρ1) (e2 : exec Φ i2 ρ1 = .ok .nx ρ2) (e3 : exec Φ i3 ρ2 = .ok .nx ρ3) (e4 : exec Φ i4 ρ3 = .ok .nx ρ4) (e5 : exec Φ i5 ρ4 = .ok .nx ρ5) (hW : ρ5[i]? = some (.fz (.str W))) (hk : ρ5[j]? = some (.fz (.int k))) :
    PSs X [st1, st2, st3, st4, st5, st6] (tTail a dd n H0 ls w) :=
  pssImp (pss_cons h1 (pss_cons h2 (pss_cons h3 (pss_cons h4 (pss_cons h5 (pss_one h6)))))) fun D σ H q => by
    obtain ⟨kd, tb0, q⟩ := q
    have rel := kd_rel (K := X.K) kd (kd.kp0.tb tb0) hl hρ
    refine ⟨_, _, .nx, _, rel, e1, fun S1 σ1 H1 a1 => ⟨_, _, .nx, _, a1.rel, e2, fun S2 σ2 H2 a2 => ⟨_, _, .nx, _, a2.rel, e3, fun S3 σ3 H3 a3 => ⟨_, _, .nx, _, a3.rel, e4, fun S4 σ4 H4 a4 => ⟨_, _, .nx, _, a4.rel, e5, fun S5 σ5 H5 a5 => ?_⟩⟩⟩⟩⟩
    have ac := (((a1.trans a2).trans a3).trans a4).trans a5
    have kp := kp_run kd hρ ac
    obtain ⟨o1, f1, v1, g1, r1⟩ := a5.rel.at hW
    obtain ⟨o2, f2, v2, g2, r2⟩ := a5.rel.at hk
    cases r1
    cases r2
    subst g1 g2
    exact ⟨f1, f2, fun H' k2 => q H' (kp.trans k2)⟩
end
end DL
end
section
set_option autoImplicit false
/-! DLxg: `_law_kind` as a def's promise; the suite of `_law_caught`. -/
namespace DL
open PySem L2
variable [LTabs]
section
variable {X : Cx} {a dd : Addr} {n : Nat} {H0 : Hp} {ls ls' : List (Nat × List Bool)} {w : Str} {st : Stmt} {rest : List Stmt}
/-- a statement that makes a list of truths, ahead of the others -/
theorem kd_cons (h1 : PS X st (fun D σ H => Kd a dd n H0 ls σ H ∧ ∀ σ' H', Kd a dd n H0 ls' σ' H' → D.nx σ' H')) (hr : PSs X rest (tTail a dd n H0 ls' w)) : PSs X (st :: rest) (tTail a dd n H0 ls w) :=
  pssImp (pss_cons h1 hr) fun D σ H q => by
    obtain ⟨kd, tb0, q⟩ := q
    exact ⟨kd, fun σ' H' k => ⟨k, tb0, q⟩⟩
end
/-- what `_law_kind` promises: the word w -/
def spKd (C : Addr) (w : Str) : SpK := fun p H Q => ∃ dd fs, Zc (.ref C) (some dd) p.2 ∧ (∃ vs, p.2.data = .fields vs) ∧ H dd = some (.xd fs) ∧ LTb H ∧ ∀ H', Kp H H' → Q (.str w) H'
open PySem.Spec PyProof.Rows in
theorem fnK_kind {P : Program} {w : World} {K : PySem.W.Frag} {mg : Str → Option Value} {base : Heap} {k : Nat} {x qual y W : Str} {st : Stmt} {f C : Addr} {fd : FuncData} {N : List Str} {dV : Value} (F : FunW K x qual st f fd dV) (S : FnScope (y :: N) [y] (defScope st))
    (body : ∀ (cd : Value) (A : Around) (outer : List Env) (s : Shared) (H : Hp) (p : Addr × Obj) (dd : Addr), A.handled = some (.ref p.1) → L2H.RoomH k (A.deeper (envOfC qual (defScope st) s.heap.objs.size f cd)) → HeldX (cxK P w K mg base (y :: N) qual (defScope st) f cd A outer s H p) p.1 C dd →
      PSs (cxK P w K mg base (y :: N) qual (defScope st) f cd A outer s H p) (defBody st) (tTail p.1 dd (N.length + 1) H [] W)) :
    FnK P w K mg base (k + 1) f fd y (spKd C W) :=
  fn_ofK F S fun cd A outer s H Q p hh room hp sp => by
    obtain ⟨dd, fs, hz, hv, h1, tb, g⟩ := sp
    refine ⟨_, body cd A outer s H p dd hh room ⟨p.2, List.mem_singleton.mpr rfl, hz, hv⟩, ⟨.refl, (fun _ z => nomatch z), ?_, rfl, ⟨fs, h1⟩, (fun _ z => nomatch z), fun _ z => nomatch z⟩, tb, g⟩
    unfold L2.start
    rw [List.length_append, List.length_map, List.length_replicate]
    simp
    omega
section
variable {X : Cx} {a dd C : Addr} {c kk kf i : Nat} {W : Str} {fK fF : Addr} {fdK fdF : FuncData} {yK yF xK xF n : Str} {oe : Obj}
/-- return [kind(e)] + fields(e) -/
theorem ps_suite {q1 q2 q3 q4 q5 q6 q7 q8 q9 : Pos} (hp : (a, oe) ∈ X.pn) (hz : Zc (.ref C) (some dd) oe) (hf : ∃ vs, oe.data = .fields vs) (hh : X.A.handled = some (.ref a)) (FK : FnK X.prog X.w X.K X.mg X.base kk fK fdK yK (spKd C W)) (FF : FnK X.prog X.w X.K X.mg X.base kf fF fdF yF (spFl C c)) (rK : L2H.RoomH kk X.A) (rF : L2H.RoomH kf X.A)
    (gK : Gl X xK) (mK : X.mg xK = some (.ref fK)) (kK : PySem.W.keepIn X.K (.ref fK) = true) (bK : ∀ (s : Shared) (v : Value), X.K.In s.heap → BindsTo s fdK ⟨[v], []⟩ [(yK, v)]) (dK : (xK == ("__debug__" : Str)) = false)
    (gF : Gl X xF) (mF : X.mg xF = some (.ref fF)) (kF : PySem.W.keepIn X.K (.ref fF) = true) (bF : ∀ (s : Shared) (v : Value), X.K.In s.heap → BindsTo s fdF ⟨[v], []⟩ [(yF, v)]) (dF : (xF == ("__debug__" : Str)) = false)
    (hi : X.N[i]? = some n) (hv : Vis X.env.scope n) (hd : (n == ("__debug__" : Str)) = false) (hcd : (n == ("__classdict__" : Str)) = false) :
    PS X (.Return (some (.BinOp (.List [.Call (.Name xK q1) [.Name n q2] [] q3] q4) .Add (.Call (.Name xF q5) [.Name n q6] [] q7) q8)) q9) (fun D σ H => σ[i]? = some (some (V.ref a)) ∧ LTb H ∧ ∃ us, H dd = some (.xd ((xFlds c).zip us)) ∧ us.length = (xFlds c).length ∧ us.length ≤ 100 ∧
      ∀ (l : Addr) (H' : Hp), Kp H H' → H l = none → H' l = some (.lst (.str W :: us)) → D.rt (.ref l) H') :=
  psImp (ps_ret (pe_op op_cat (pe_lst (pa_cons (pe_callHK (p := (a, oe)) FK rK hh hp gK mK kK bK hi hv hd hcd dK) pa_nil (by rfl))) (pe_callHK (p := (a, oe)) FF rF hh hp gF mF kF bF hi hv hd hcd dF))) fun D σ H q => by
    obtain ⟨h1, tb, us, h2, h3, h4, g⟩ := q
    refine ⟨h1, dd, _, hz, hf, h2, tb, fun H1 k1 => ⟨by rw [sizeLine_eq]; exact (by decide : 1 ≤ 16777216), fun p hp => ?_⟩⟩
    have k2 : Kp H (upd H1 p (.lst [.str W])) := k1.trans (.new hp)
    refine ⟨h1, dd, us, hz, hf, kp_xd k2 h2, h3, fun l H2 k3 hl h5 => ?_⟩
    have hpl := kp_ls k3 (upd_same (H := H1) (a := p) (o := .lst [.str W]))
    refine ⟨p, l, [.str W], us, rfl, rfl, hpl, h5, by rw [sizeLine_eq, List.length_singleton]; omega, fun r hr => ?_⟩
    have k4 := (k2.trans k3).trans (.new hr (o := .lst ([V.str W] ++ us)))
    exact g r _ k4 ((k2.trans k3).stay r hr) upd_same
end
end DL
end
section
set_option autoImplicit false
/-! DLxh: `_law_caught`: what the def makes of the lambda that it gets. -/
namespace DL
open PySem L2
variable [LTabs]
theorem roomH_mark {k : Nat} {A : Around} {v : Option Value} (r : Room k A) : L2H.RoomH k (A.mark v) := ⟨r.dp, r.un⟩
/-- an exception of one of the kinds cs, as `_law_caught` answers it -/
def Caught (Dn : Nat → Addr) (word : Nat → Str) (cs : List Nat) (Q : VK) : XK := fun cls d H => ∃ c ∈ cs, ∃ dd us, cls = .ref (Dn c) ∧ d = some dd ∧ H dd = some (.xd ((xFlds c).zip us)) ∧ us.length = (xFlds c).length ∧ LTb H ∧
  ∀ (l : Addr) (H' : Hp), Kp H H' → H l = none → H' l = some (.lst (.str (word c) :: us)) → Q (.ref l) H'
/-- .. of the lambda's reading -/
def TTc (Dn : Nat → Addr) (word : Nat → Str) (cs : List Nat) : (XK → Hp → VK → Prop) → Hp → VK → Prop := fun tl H Q =>
  tl (Caught Dn word cs Q) H fun v H1 => [V.str "returned", v].length ≤ sizeLine ∧ ∀ p, H1 p = none → Q (.ref p) (upd H1 p (.lst [.str "returned", v]))
section
variable {X : Cx} {Dn : Nat → Addr} {word : Nat → Str} {cs : List Nat} {Ng : List Str} {x a q n x1 x2 x3 xK xF yK yF : Str} {sg : Scope} {g fK fF c1 c2 c3 : Addr} {fdK fdF : FuncData} {cdg : Value} {kk kf i k0 m1 : Nat} {p1 p2 p3 p4 p5 p6 p7 p8 p9 q1 q2 q3 q4 q5 q6 q7 q8 q9 r1 r2 r3 r4 : Pos}
theorem caught_gives (hN : Ng.Nodup) (hi : Ng[i]? = some n) (hln : sg.names.lookup n = some .local) (hi0 : i ≠ 0)
    (hx1 : sg.names.lookup x1 = some .globalImplicit) (hm1 : X.mg x1 = some (.ref c1)) (hd1 : (x1 == ("__debug__" : Str)) = false) (hx2 : sg.names.lookup x2 = some .globalImplicit) (hm2 : X.mg x2 = some (.ref c2)) (hd2 : (x2 == ("__debug__" : Str)) = false) (hx3 : sg.names.lookup x3 = some .globalImplicit) (hm3 : X.mg x3 = some (.ref c3)) (hd3 : (x3 == ("__debug__" : Str)) = false)
    (any : ∀ c ∈ cs, PySem.W.exmAny X.K (.ref (Dn c)) [.ref c1, .ref c2, .ref c3] = some true)
    (FK : ∀ c ∈ cs, FnK X.prog X.w X.K X.mg X.base kk fK fdK yK (spKd (Dn c) (word c))) (FF : ∀ c ∈ cs, FnK X.prog X.w X.K X.mg X.base kf fF fdF yF (spFl (Dn c) c)) (rK : Room (kk + 1) X.A) (rF : Room (kf + 1) X.A)
    (gK : sg.names.lookup xK = some .globalImplicit) (mK : X.mg xK = some (.ref fK)) (kK : PySem.W.keepIn X.K (.ref fK) = true) (bK : ∀ (s : Shared) (v : Value), X.K.In s.heap → BindsTo s fdK ⟨[v], []⟩ [(yK, v)]) (dK : (xK == ("__debug__" : Str)) = false)
    (gF : sg.names.lookup xF = some .globalImplicit) (mF : X.mg xF = some (.ref fF)) (kF : PySem.W.keepIn X.K (.ref fF) = true) (bF : ∀ (s : Shared) (v : Value), X.K.In s.heap → BindsTo s fdF ⟨[v], []⟩ [(yF, v)]) (dF : (xF == ("__debug__" : Str)) = false)
    (hv : Vis sg n) (hd : (n == ("__debug__" : Str)) = false) (hcd : (n == ("__classdict__" : Str)) = false) (h0 : ∀ f : Addr, (L2.start Ng [V.ref f])[0]? = some (some (V.ref f))) :
    LamX.GivesTo X Ng x sg g cdg [.Try [.Return (some (.List [.Constant (.str "returned") m1 p1, .Call (.Name a p2) [] [] p3] p4)) p5] [.ExceptHandler (some (.Tuple [.Name x1 q1, .Name x2 q2, .Name x3 q3] k0 q4)) (some n)
      [.Return (some (.BinOp (.List [.Call (.Name xK q5) [.Name n q6] [] q7] q8) .Add (.Call (.Name xF q9) [.Name n r1] [] r2) r3)) r4] p6] [] [] p7] a q (TTc Dn word cs) := by
  intro f c' s H Q tl act hc h
  refine ⟨_, pss_one (ps_try_as3 (X := (cxOf C8.CX0 X.prog X.w X.K X.mg X.base Ng x sg g cdg X.A X.stack s H C8.E0).nox) (c1 := .ref c1) (c2 := .ref c2) (c3 := .ref c3) (i := i)
      (tb := fun W D σ H => ∃ Ech : XK, (∀ cls d σ' H', Ech cls d H' → W cls d σ' H') ∧ σ[0]? = some (some (.ref f)) ∧ H c' = some (LamX.CodeO c' q) ∧ tl Ech H fun v H1 => [V.str "returned", v].length ≤ sizeLine ∧ ∀ p, H1 p = none → D.rt (.ref p) (upd H1 p (.lst [.str "returned", v])))
      (ts := fun a cls d D σ H => Caught Dn word cs D.rt cls d H ∧ σ[i]? = some (some (V.ref a)))
      rfl rfl hN hi hln ⟨hx1, hd1, .inl hm1⟩ ⟨hx2, hd2, .inl hm2⟩ ⟨hx3, hd3, .inl hm3⟩ (fun W pn xe tk => ?_) (fun a oe cls d pn hz hfd => ?_)), ?_⟩
  · refine PSs.of fun D σ H2 h' => ?_
    obtain ⟨Ech, hW, h1, h2, h3⟩ := h'
    refine ⟨_, pss_one (ps_ret (pe_lst (pa_cons pe_str (pa_cons (act W pn xe Ech p2 p3 tk hW) pa_nil (by rfl)) (by rfl)))), h1, h2, h3⟩
  · refine PSs.of fun D σ H2 h' => ?_
    obtain ⟨⟨c, hcs, dd, us, ec, ed, h1, h2, tb, gv⟩, hσ⟩ := h'
    subst ec ed
    refine ⟨_, pss_one (ps_suite (X := (cxOf C8.CX0 X.prog X.w X.K X.mg X.base Ng x sg g cdg X.A X.stack s H C8.E0).nox.suite a ((a, oe) :: pn)) (i := i) (W := word c) (c := c) (C := Dn c) (dd := dd) (oe := oe) List.mem_cons_self hz hfd rfl (FK c hcs) (FF c hcs) (roomH_mark (rK.deeper _)) (roomH_mark (rF.deeper _)) gK mK kK bK dK gF mF kF bF dF hi hv hd hcd), hσ, tb, us, h1, h2, ?_, gv⟩
    rw [h2, xFlds_len]
    unfold xAr
    split <;> omega
  · refine ⟨Caught Dn word cs Q, fun cls d σ' H' hw => ?_, h0 f, hc, h⟩
    obtain ⟨c, hcs, dd, us, ec, ed, h1, h2, tb, gv⟩ := hw
    subst ec ed
    refine ⟨any c hcs, fun a ha hs => ⟨⟨c, hcs, dd, us, rfl, rfl, h1, h2, tb, gv⟩, hs⟩⟩
end
end DL
end
section
set_option autoImplicit false
/-! DLxi: a lambda is made and handed to a def; what stood stays, the tables grow. -/
namespace LamX
open PySem PySem.Spec PyProof.Rows L2
variable [DL.LTabs]
open DL (LTb Kp NT LTabs)
section
variable {H : Hp} {P c : Addr} {q : Str} {ps : Array Value}
/-- the table grows by a new code object -/
theorem ltb_grow (tb : LTb H) (hP : H P = some (.tbl ps)) (hc : H c = none) (hu : ∀ p ∈ LTabs.T, p.1 = P → p.2 = q) (ht : TriplesOk ps.toList) (ha : ∀ (pos : Pos) (cv : Value), codeAmong pos ps.toList = some cv → ∃ d, cv = .ref d ∧ H d = some (CodeO d q)) (l k : Nat) :
    LTb (upd (upd H P (.tbl (ps ++ #[rawInt l, rawInt k, .ref c]))) c (CodeO c q)) := by
  have nPc : P ≠ c := fun z => by rw [z, hc] at hP; cases hP
  have code : ∀ d r, H d = some (CodeO d r) → upd (upd H P (.tbl (ps ++ #[rawInt l, rawInt k, .ref c]))) c (CodeO c q) d = some (CodeO d r) := fun d r hd => by
    have h1 : d ≠ c := fun z => by rw [z, hc] at hd; cases hd
    have h2 : d ≠ P := fun z => by rw [z, hP] at hd; exact codeO_ne ps (Option.some.inj hd).symm
    rw [upd_ne h1, upd_ne h2]; exact hd
  have eL : (ps ++ #[rawInt l, rawInt k, .ref c]).toList = ps.toList ++ [rawInt l, rawInt k, .ref c] := by simp
  intro p hp
  by_cases hb : p.1 = P
  · rw [hb, hu p hp hb]
    refine ⟨_, by rw [upd_ne nPc, upd_same], by rw [eL]; exact PySem.TriplesOk_snoc _ _ _ _ ht, fun pos cv hcv => ?_⟩
    rw [eL] at hcv
    rcases among_app (pos := ⟨l, k, 0, 0⟩) _ ht hcv with z | z
    · obtain ⟨d, e1, e2⟩ := ha pos cv z
      exact ⟨d, e1, code d q e2⟩
    · exact ⟨c, z, upd_same⟩
  · obtain ⟨ps', a1, a2, a3⟩ := tb p hp
    have h1 : p.1 ≠ c := fun z => by rw [z, hc] at a1; cases a1
    refine ⟨ps', by rw [upd_ne h1, upd_ne hb]; exact a1, a2, fun pos cv hcv => ?_⟩
    obtain ⟨d, e1, e2⟩ := a3 pos cv hcv
    exact ⟨d, e1, code d _ e2⟩
end
section
variable {X : Cx} {pins : List (Addr × Obj)} {σ : L2.St} {H : Hp} {s : Shared}
theorem lam_kp {c P : Addr} {params : Arguments} {body : Expr} {scope : Scope} {pos : Pos} {E Q : Value → Shared → Prop} (I : Inv X pins σ H s) (TB : TabB X.base X.mg c P) (hcode : X.env.code = .ref c) (hm : (P, X.env.qual ++ "<lambda>") ∈ LTabs.T) (hu : ∀ p ∈ LTabs.T, p.1 = P → p.2 = X.env.qual ++ "<lambda>") (tb : LTb H)
    (hdef : defaultsOf params X.env = ([], [])) (hfree : ∀ y ∈ scope.names, y.2 = .free → ∃ c, X.env.cells.lookup y.1 = some c)
    (h : ∀ (f c' : Addr) (pm ctv : Value) (H1 : Hp) (s' : Shared), Inv X pins σ H1 s' → Kp H H1 → s'.heap.get? f = some (PySem.W.kla_obj "<lambda>" (X.env.qual ++ "<lambda>") params body scope (cloFrom X.env.cells scope.names []) pm c' ctv) → H1 f = none → f ∉ frs X.stack → H1 c' = some (CodeO c' (X.env.qual ++ "<lambda>")) → Q (.ref f) s') :
    wpAny (model X.prog X.w) X.A (eval (.Lambda params body scope pos) X.env) Q E s := by
  obtain ⟨ps, hP, ht, ha⟩ := tb _ hm
  have hP' : s.heap.get? P = some { cls := .none, data := .fields ps } := I.hok P _ hP
  have bP : s.heap.BuiltinsAt X.mg P := TB.bm.keeps I.bk
  have notFrame : ∀ f, s.heap.objs.size ≤ f → f ∉ frs X.stack := fun f hf z => (List.mem_cons.mp (I.stkSub _ z)).elim (fun e => absurd I.lt (by rw [← e]; exact Nat.not_lt.mpr hf)) (I.nofs hf)
  apply PySem.W.kla_eval hdef
  cases found : codeAmong pos ps.toList with
  | some cv =>
    obtain ⟨c', e, hco⟩ := ha pos cv found
    subst e
    refine PySem.W.kla_makeFunctionHit (mg := X.mg) (c := c) (P := P) (ps := ps) (closure_ok hfree) I.ok.glob (I.mod.glob.keeps I.bk) hcode (TB.code.keeps I.bk) hP' ht found bP fun ctv h' tk hx hsz => ?_
    exact h h'.objs.size c' ((X.mg "__name__").getD .none) ctv H _ (I.kept fun b o e => Heap.get?_push_of_some _ (hx b o e)) .refl (Heap.get?_push_size _ rfl) (I.hok.fresh hsz) (notFrame _ hsz) hco
  | none =>
    refine PySem.W.kla_makeFunction (mg := X.mg) (c := c) (P := P) (ps := ps) (closure_ok hfree) I.ok.glob (I.mod.glob.keeps I.bk) hcode (TB.code.keeps I.bk) hP' ht found TB.gP bP fun c' ctv h' tk hx hge hlt hrec htb => ?_
    obtain ⟨c2, oc, vs, t, e2, hoc, hd, hv⟩ := hrec
    cases e2
    have hsz : s.heap.objs.size ≤ h'.objs.size := Nat.le_trans hge (Nat.le_of_lt hlt)
    have nC : H c' = none := I.hok.fresh hge
    have nP : P ≠ c' := fun z => by rw [z, nC] at hP; cases hP
    have I1 := inv_table (t' := tk) (q := X.env.qual ++ "<lambda>") (more := #[rawInt pos.line, rawInt pos.col, .ref c']) (h' := h'.push (PySem.W.kla_obj "<lambda>" (X.env.qual ++ "<lambda>") params body scope (cloFrom X.env.cells scope.names []) ((X.mg "__name__").getD .none) c' ctv)) I hP
      (fun b o hb e => Heap.get?_push_of_some _ (hx b o hb e)) (Heap.get?_push_of_some _ htb) hge ⟨oc, vs, t, Heap.get?_push_of_some _ hoc, hd, hv⟩
    refine h h'.objs.size c' ((X.mg "__name__").getD .none) ctv _ _ I1 ⟨fun b o e n => ?_, fun b e => ?_, fun _ => ltb_grow tb hP nC hu ht ha _ _⟩ (Heap.get?_push_size _ rfl) ?_ (notFrame _ hsz) upd_same
    · have h1 : b ≠ c' := fun z => by rw [z, nC] at e; cases e
      have h2 : b ≠ P := fun z => by rw [z, hP] at e; exact n ps (Option.some.inj e).symm
      rw [upd_ne h1, upd_ne h2]; exact e
    · by_cases h1 : b = c'
      · rw [h1, upd_same] at e; cases e
      · rw [upd_ne h1] at e
        by_cases h2 : b = P
        · rw [h2, upd_same] at e; cases e
        · rw [upd_ne h2] at e; exact e
    · have n1 : h'.objs.size ≠ c' := Nat.ne_of_gt hlt
      have n2 : h'.objs.size ≠ P := Nat.ne_of_gt (Nat.lt_of_lt_of_le (Heap.lt_size hP') hsz)
      rw [upd_ne n1, upd_ne n2]
      exact I.hok.fresh hsz
end
section
variable {X : Cx}
-- a lambda's call, the guards told
theorem pe_actG {pins : List (Addr × Obj)} {σ : L2.St} {H : Hp} {s : Shared} {CXg : CXT} {Eg : XK} {Ng : List Str} {qg : Str} {sg : Scope} {g f c' : Addr} {cdg pm ctv : Value} {params : Arguments} {body : Expr} {scope : Scope} {k i : Nat} {a : Str} {pn : List (Addr × Obj)} {xe : Value → Shared → Prop} {W : WX} {E : XK} {tb : TE} {p1 p2 : Pos}
    (I : Inv X pins σ H s) (L : LamS X.env.scope scope) (hf : s.heap.get? f = some (PySem.W.kla_obj "<lambda>" (X.env.qual ++ "<lambda>") params body scope (cloFrom X.env.cells scope.names []) pm c' ctv)) (hfn : H f = none) (hfr : f ∉ frs X.stack)
    (hbind : bindArgs (PySem.W.kla_fn "<lambda>" (X.env.qual ++ "<lambda>") params body scope (cloFrom X.env.cells scope.names []) pm (.ref c') ctv) ⟨[], []⟩ = pure [])
    (tk : Takes ((cxOf CXg X.prog X.w X.K X.mg X.base Ng qg sg g cdg X.A X.stack s H Eg).tr pn xe) W) (hW : ∀ cls d σ' H', E cls d H' → W cls d σ' H') (hr : Room (k + 1) (X.A.deeper (envOfC qg sg s.heap.objs.size g cdg)))
    (hgd : DL.Gok X.A) (hbody : ∀ (A : Around) (outer : List Env) (s : Shared) (H : Hp), DL.Gok A → Room k (A.deeper (lamEnv X scope s.heap.objs.size f c')) → PE (lamCx X A outer s H E scope f c') body tb)
    (hN : Ng[i]? = some a) (hv : Vis sg a) (hd : (a == ("__debug__" : Str)) = false := by decide) (hcd : (a == ("__classdict__" : Str)) = false := by decide) :
    PE ((cxOf CXg X.prog X.w X.K X.mg X.base Ng qg sg g cdg X.A X.stack s H Eg).tr pn xe) (.Call (.Name a p1) [] [] p2)
      (fun σZ HZ Q => σZ[i]? = some (some (.ref f)) ∧ HZ c' = some (CodeO c' (X.env.qual ++ "<lambda>")) ∧ tb σ HZ Q) := by
  refine ⟨fun pinsZ sZ σZ HZ Q IZ h => ?_⟩
  obtain ⟨hs, hc, ht⟩ := h
  refine wpAny_Call_Name_kw (thn ((pe_var (pos := p1) (i := i) hN hv hd hcd).run pinsZ sZ σZ HZ (fun v H1 => v = .ref f ∧ H1 = HZ) IZ ⟨.ref f, hs, rfl, rfl⟩) fun u s1 ⟨v, H1, I1, r1, q1⟩ => ?_)
  obtain ⟨ev, eH⟩ := q1
  subst ev
  rw [eH] at I1
  obtain rfl : u = Value.ref f := r1
  have of1 : s1.heap.get? f = some (PySem.W.kla_obj "<lambda>" (X.env.qual ++ "<lambda>") params body scope (cloFrom X.env.cells scope.names []) pm c' ctv) := I1.base.keep f _ hf hfn hfr (fun z => nomatch (show f ∈ ([] : List Addr) from z))
  refine PySem.W.callWith_F0 ⟨_, _, _, _, of1⟩ ?_
  have un : Un (frs X.stack) [] H HZ s.heap s1.heap := I1.base
  obtain ⟨⟨oc, vs, t, hoc, hdc, hvc⟩, _, _⟩ := I1.hok c' _ hc
  have rc : codeAny (model X.prog X.w) (X.A.deeper (envOfC qg sg s.heap.objs.size g cdg)) (.call (.ref f) ⟨[], []⟩) (CR (L2.CX X.prog X.w) (envOfC qg sg s.heap.objs.size g cdg :: X.stack) X.prog X.w HZ s1 Q E) s1 := by
    refine PySem.W.kla_callFunE hr.depth of1 rfl L.co L.gen rfl ⟨c', oc, vs, t, rfl, hoc, hdc, hvc⟩ ?_
    rw [hbind]
    refine wpAny_pure (wpAny_newFunctionEnv (fun y hy => (L.own y hy).2) (fun y hy => absurd hy (by simp)) (fun h₁ hns hsb => ⟨I1.nolimit.fresh _ hsb, ?_⟩) L.kind)
    show codeAny _ _ (.expr body (lamEnv X scope s1.heap.objs.size f c')) _ _
    have kp : ∀ b o, s1.heap.get? b = some o → h₁.get? b = some o := fun b o e => hsb.extBut b o (Nat.ne_of_lt (Heap.lt_size e)) (Heap.get?_push_of_some _ e)
    have J : Inv (lamCx X (X.A.deeper (envOfC qg sg s.heap.objs.size g cdg)) (envOfC qg sg s.heap.objs.size g cdg :: X.stack) s1 HZ E scope f c') [] σ HZ { s1 with heap := h₁, toks := s1.toks + ([] : List (Str × Value)).length } :=
      lam_start2 I L I1.env0 hr.hd un hns kp
    refine PySem.W.kla_codeExpr (wpAny_mono ((hbody (X.A.deeper (envOfC qg sg s.heap.objs.size g cdg)) _ s1 HZ hgd (hr.deeper _)).run [] _ _ HZ Q J ht) (fun v s' hq => ?_) fun e s' hq => hq)
    obtain ⟨w', H', J', rv, q⟩ := hq
    exact ⟨w', H', J'.os, J'.bare, J'.base, J'.hok, rv, q⟩
  have hx : Passes (L2.CX X.prog X.w) ((cxOf CXg X.prog X.w X.K X.mg X.base Ng qg sg g cdg X.A X.stack s H Eg).tr pn xe) E := passes_call tk hW
  refine wpAny_call (codeAny_mono rc fun r s' hq => ?_)
  cases r with
  | error e => exact hx pinsZ σZ HZ s1 e s' I1 hq
  | ok fl =>
    cases fl with
    | ret u => exact I1.after hq
    | next => exact False.elim hq
    | brk => exact False.elim hq
    | cont => exact False.elim hq
def tLamK (TT : (XK → Hp → VK → Prop) → Hp → VK → Prop) (t : XK → TE) : TE := fun σ H Q => LTb H ∧ ∀ H1, Kp H H1 → TT (fun E H' Q' => t E σ H' Q') H1 Q
/-- x(lambda: body) -/
theorem pe_lamK {TT : (XK → Hp → VK → Prop) → Hp → VK → Prop} {x a : Str} {g c P : Addr} {k : Nat} {st : Stmt} {fd : FuncData} {dV : Value} {Ng : List Str} {params : Arguments} {body : Expr} {scope : Scope} {t : XK → TE} {p lpos pos : Pos}
    (hg : Gl X x) (hm : X.mg x = some (.ref g)) (F : DL.FunW X.K x x st g fd dV) (hb : ∀ (s : Shared) (v : Value), X.K.In s.heap → BindsTo s fd ⟨[v], []⟩ [(a, v)]) (Sg : FnScope Ng [a] (defScope st)) (hNg : Ng[0]? = some a) (hva : Vis (defScope st) a)
    (hG : ∀ cdv, GivesTo X Ng x (defScope st) g cdv (defBody st) a (X.env.qual ++ "<lambda>") TT)
    (TB : TabB X.base X.mg c P) (hcode : X.env.code = .ref c) (hmT : (P, X.env.qual ++ "<lambda>") ∈ LTabs.T) (hu : ∀ p ∈ LTabs.T, p.1 = P → p.2 = X.env.qual ++ "<lambda>") (hr : Room (k + 2) X.A) (hgd : DL.Gok X.A) (L : LamS X.env.scope scope) (hdef : defaultsOf params X.env = ([], []))
    (hbind : ∀ (q : Str) (cl : List (Str × Addr)) (pm cv ctv : Value), bindArgs (PySem.W.kla_fn "<lambda>" q params body scope cl pm cv ctv) ⟨[], []⟩ = pure [])
    (hbody : ∀ (A : Around) (outer : List Env) (s : Shared) (H : Hp) (E : XK) (f c' : Addr), DL.Gok A → Room k (A.deeper (lamEnv X scope s.heap.objs.size f c')) → PE (lamCx X A outer s H E scope f c') body (t E))
    (hdb : (x == ("__debug__" : Str)) = false := by decide) (hd : (a == ("__debug__" : Str)) = false := by decide) (hcd : (a == ("__classdict__" : Str)) = false := by decide) :
    PE X (.Call (.Name x p) [.Lambda params body scope lpos] [] pos) (tLamK TT t) := by
  obtain ⟨oc, od, kV, doc, pm, an, cdv, ct, osl, efd, lk, hcg⟩ := F.ex
  subst efd
  constructor
  intro pins s σ H Q I h
  obtain ⟨tb, h⟩ := h
  refine wpAny_Call_Name_kw (ld_glob I hg hm ?_ hdb)
  refine PySem.W.callWith_K (h₀ := X.base) I.ok.mod.kin F.kp ?_ (by rfl) (by rfl)
  show wpAny _ _ (spliced ((false, eval (.Lambda params body scope lpos) X.env) :: backTo pos (starEach [] X.env))) _ _ s
  refine Calls.spliced_cons (lam_kp I TB hcode hmT hu tb hdef (L.has I.ok) fun f c' pm' ctv H1 s' I1 kp hf hfn hfr hco => ?_)
  refine Calls.spliced_nil ⟨I1.kIn, ?_⟩
  have rc : codeAny (model X.prog X.w) X.A (.call (.ref g) ⟨[.ref f], []⟩) (CR C8.CX0 X.stack X.prog X.w H1 s' Q C8.E0) s' := by
    refine run_ofS (N := Ng) (ps := [a]) (us := [.ref f]) (vs := [.ref f]) lk hcg Sg hr I1.env0 (hb s' _ I1.kIn) (.cons rfl .nil) rfl fun room => ?_
    obtain ⟨t', ht', hq'⟩ := hG cdv f c' s' H1 Q (fun E H' Q' => t E σ H' Q') (fun W pn xe E p1 p2 tk hW => pe_actG (i := 0) I1 L hf hfn hfr (hbind _ _ _ _ _) tk hW room hgd (fun A outer s H g2 r2 => hbody A outer s H E f c' g2 r2) hNg hva hd hcd) hco (h H1 kp)
    exact ⟨t', ht'.nox, hq'⟩
  refine wpAny_call (codeAny_mono rc fun r s2 hq => ?_)
  cases r with
  | error e => exact (show False from hq).elim
  | ok fl =>
    cases fl with
    | ret u => exact I1.after hq
    | next => exact False.elim hq
    | brk => exact False.elim hq
    | cont => exact False.elim hq
end
end LamX
end
section
set_option autoImplicit false
/-! DLxj: `_law_caught(lambda: e)` in the data layer. -/
namespace DL
open PySem L2
variable [LTabs]
theorem pe_or {X : Cx} {e : Expr} {t1 t2 : TE} (h1 : PE X e t1) (h2 : PE X e t2) : PE X e (fun σ H Q => t1 σ H Q ∨ t2 σ H Q) := ⟨fun pins s σ H Q I h => h.elim (h1.run pins s σ H Q I) (h2.run pins s σ H Q I)⟩
theorem Kp.gn {S : Addr → Prop} {H H' : Hp} (k : Kp H H') : Gn S H S H' := ⟨fun _ h => h, fun _ h => .inl h, k.keep, fun d a h z => d a h (k.stay a z), k.stay, k.tb⟩
/-- the lambda's reading: it answers, or it raises -/
def tCau (K : PySem.W.Frag) (Φ : Calls) (ia : E) (Ex : XK) : TE := fun σ H Q => tD K (ev Φ ia) σ H Q ∨ tXE K (fun cls d _ h => Ex cls d h) (xev Φ ia) σ H Q
theorem caught_read {K : PySem.W.Frag} {Φ : Calls} {ia : E} {cs : List Nat} {Dn : Nat → Addr} {σ : St} {H : Hp} {Q : VK} (hns : ∀ c ∈ cs, PySem.W.nsIn K mainGlobals (xName c) = some (some (.ref (Dn c)))) (q : tD K (ev Φ (.caught cs ia)) σ H Q) : LamX.tLamK (TTc Dn xWord cs) (tCau K Φ ia) σ H Q := by
  obtain ⟨S, ρ, r, ρ', rel, e, q⟩ := q
  refine ⟨rel.tb, fun H1 kp => ?_⟩
  have g0 : Gn S H S H1 := kp.gn
  have rel1 : Rel K S ρ σ H1 := rel.gn g0
  have at0 : At K S ρ σ H S ρ H1 := ⟨g0.go, rel1⟩
  simp only [ev] at e
  cases q1 : (bnd (ev Φ ia) share) ρ with
  | ok d ρ1 =>
    rw [q1] at e
    cases e
    obtain ⟨x, ρ2, e1, e2⟩ := bnd_eq q1
    refine .inl ⟨S, ρ, x, ρ2, rel1, e1, fun S1 v H2 g1 rel2 r1 => ⟨by rw [sizeLine_eq]; exact (by decide : 2 ≤ 16777216), fun p hp => ?_⟩⟩
    obtain ⟨S6, at6, rp6, _⟩ := At.share ⟨g1, rel2⟩ r1 e2
    exact At.fin q (at0.trans at6) _ _ _ (.lst hp) (.mkLst hp at6.rel.dom (.cons (.str "returned") (.cons rp6 .nil)))
  | stk =>
    rw [q1] at e
    cases q2 : xev Φ ia ρ with
    | none => rw [q2] at e; cases e
    | some y =>
      obtain ⟨c, fs, ρ1⟩ := y
      rw [q2] at e
      have e : (if fs.length = xAr c ∧ c ∈ cs then Out.ok (R.fr (.str (xWord c) :: fs)) ρ1 else .stk) = .ok r ρ' := e
      split at e
      · rename_i hc
        cases e
        refine .inr ⟨S, ρ, c, fs, ρ', rel1, q2, fun S' H' a1 => ⟨Dn c, hns c hc.2, fun us d rp hd => ?_⟩⟩
        have hl : us.length = (xFlds c).length := by rw [rp.length, hc.1, xFlds_len]
        refine ⟨c, hc.2, d, us, rfl, rfl, upd_same, hl, a1.rel.tb.new hd, fun l H2 k2 hl0 hl2 => ?_⟩
        have hld : l ≠ d := fun z => by rw [z, upd_same] at hl0; cases hl0
        have hl1 : H' l = none := by rw [upd_ne hld] at hl0; exact hl0
        have g : Gn S' H' S' H2 := (Gn.lst hd).trans k2.gn
        have a2 : At K S ρ σ H S' ρ' H2 := (at0.trans a1).gn g
        refine q S' (.ref l) H2 a2.go a2.rel ⟨l, _, rfl, (at0.trans a1).go.stay l hl1, hl2, fun z => a1.rel.dom l z hl1, fun z => ?_, .cons (.str _) (rp.mono g.ke)⟩
        obtain ⟨o, ho⟩ := a1.rel.own_lst z
        rw [hl1] at ho
        cases ho
      · cases e
open PySem.Spec PyProof.Rows in
/-- x(lambda: body), x being `_law_caught` -/
theorem de_caught {X : Cx} {Φ : Calls} {ia : E} {cs : List Nat} {Dn : Nat → Addr} {x a : Str} {g c P : Addr} {k : Nat} {st : Stmt} {fd : FuncData} {dV : Value} {Ng : List Str} {params : Arguments} {body : Expr} {scope : Scope} {p lpos pos : Pos}
    (hg : Gl X x) (hm : X.mg x = some (.ref g)) (F : FunW X.K x x st g fd dV) (hb : ∀ (s : Shared) (v : Value), X.K.In s.heap → BindsTo s fd ⟨[v], []⟩ [(a, v)]) (Sg : FnScope Ng [a] (defScope st)) (hNg : Ng[0]? = some a) (hva : Vis (defScope st) a)
    (hG : ∀ cdv, LamX.GivesTo X Ng x (defScope st) g cdv (defBody st) a (X.env.qual ++ "<lambda>") (TTc Dn xWord cs)) (hns : ∀ c ∈ cs, PySem.W.nsIn X.K mainGlobals (xName c) = some (some (.ref (Dn c))))
    (TB : LamX.TabB X.base X.mg c P) (hcode : X.env.code = .ref c) (hmT : (P, X.env.qual ++ "<lambda>") ∈ LTabs.T) (hu : ∀ p ∈ LTabs.T, p.1 = P → p.2 = X.env.qual ++ "<lambda>") (hr : Room (k + 2) X.A) (hgd : Gok X.A) (L : LamX.LamS X.env.scope scope) (hdef : defaultsOf params X.env = ([], []))
    (hbind : ∀ (q : Str) (cl : List (Str × Addr)) (pm cv ctv : Value), bindArgs (PySem.W.kla_fn "<lambda>" q params body scope cl pm cv ctv) ⟨[], []⟩ = pure [])
    (ha : ∀ (A : Around) (outer : List Env) (s : Shared) (H : Hp) (E : XK) (f c' : Addr), Gok A → Room k (A.deeper (LamX.lamEnv X scope s.heap.objs.size f c')) → PE (LamX.lamCx X A outer s H E scope f c') body (tD X.K (ev Φ ia)))
    (hx : ∀ (A : Around) (outer : List Env) (s : Shared) (H : Hp) (E : XK) (f c' : Addr), Gok A → Room k (A.deeper (LamX.lamEnv X scope s.heap.objs.size f c')) → PE (LamX.lamCx X A outer s H E scope f c') body (tXE X.K (fun cls d _ h => E cls d h) (xev Φ ia)))
    (hdb : (x == ("__debug__" : Str)) = false := by decide) (hd : (a == ("__debug__" : Str)) = false := by decide) (hcd : (a == ("__classdict__" : Str)) = false := by decide) :
    PE X (.Call (.Name x p) [.Lambda params body scope lpos] [] pos) (tD X.K (ev Φ (.caught cs ia))) :=
  peImp (LamX.pe_lamK (TT := TTc Dn xWord cs) (t := tCau X.K Φ ia) hg hm F hb Sg hNg hva hG TB hcode hmT hu hr hgd L hdef hbind (fun A outer s H E f c' g room => pe_or (ha A outer s H E f c' g room) (hx A outer s H E f c' g room)) hdb hd hcd) fun σ H Q q => caught_read hns q
/-- exceptions that leave a lambda -/
theorem takesL {X : Cx} {A : Around} {outer : List Env} {s : Shared} {H : Hp} {E : XK} {scope : Scope} {f c' : Addr} : Takes (LamX.lamCx X A outer s H E scope f c') (fun cls d _ h => E cls d h) := takes_of rfl rfl rfl rfl
end DL
end
section
set_option autoImplicit false
/-! DLxk: promises whose bodies know their code object, at any level. -/
namespace DL
open PySem L2
variable [LTabs]
/-- the def at f has the code object cd -/
def CodeOf (K : PySem.W.Frag) (f : Addr) (cd : Value) : Prop := ∃ (oc : Value) (od : Option Addr) (x q : Str) (a : Arguments) (b : List Stmt) (sc : Scope) (dV kV doc pm : Value) (an : Option Addr) (ct : Value) (osl : Array (Option Value)), K.lookup f = some ⟨oc, od, .func (PySem.W.fnOf x q a b sc dV kV doc pm an cd ct), osl⟩
theorem CodeOf.inj {K : PySem.W.Frag} {f : Addr} {c d : Value} (h : CodeOf K f c) (g : CodeOf K f d) : c = d := by
  obtain ⟨_, _, _, _, _, _, _, _, _, _, _, _, _, _, e1⟩ := h
  obtain ⟨_, _, _, _, _, _, _, _, _, _, _, _, _, _, e2⟩ := g
  have e := e1.symm.trans e2
  unfold PySem.W.fnOf at e
  cases e
  rfl
open PySem.Spec PyProof.Rows in
/-- a def's promise from its body -/
theorem fnG_ofC {P : Program} {w : World} {K : PySem.W.Frag} {mg : Str → Option Value} {base : Heap} {k : Nat} {x qual : Str} {st : Stmt} {f : Addr} {fd : FuncData} {N ps : List Str} {sp : Sp} {dV : Value} (F : FunW K x qual st f fd dV) (sc : FnScope N ps (defScope st))
    (len : ∀ vs H Q E, sp vs H Q E → vs.length = ps.length)
    (body : ∀ (cd : Value) (A : Around) (out : List Env) (s : Shared) (H : Hp) (vs : List V) (Q : VK) (E : XK), CodeOf K f cd → Room k (A.deeper (envOfC qual (defScope st) s.heap.objs.size f cd)) → Gok (A.deeper (envOfC qual (defScope st) s.heap.objs.size f cd)) →
      sp vs H Q E → ∃ t, PSs (cxOf L2.CX0 P w K mg base N qual (defScope st) f cd A out s H E).nox (defBody st) t ∧ t ⟨fun _ h => Q .non h, Q, fun _ _ => False, fun _ _ => False⟩ (start N vs) H) :
    FnG P w K mg base L2.CX0 (k + 1) f fd ps sp := by
  rcases F.ex with ⟨oc, od, kv, dc, pm, an, cd, ct, osl, efd, lk, cin⟩
  subst efd
  constructor
  · exact len
  intro A out s0 H args us vs Q E room gd env0 bt rv h
  have nlen := len vs H Q E h
  have kin : K.In s0.heap := env0.mod.kin.keeps fun b o z => (env0.bs b o z).1
  have nl : s0.heap.NoLimit := env0.mod.nolimit.keeps fun b o z => (env0.bs b o z).1
  apply codeAny_call_function room.depth (kin _ _ lk) rfl sc.co sc.gen rfl (PySem.W.codeRec_of kin cin) (bt _ _ _ _ _)
  apply wpAny_newFunctionEnv_cells sc.kind
  · rintro ⟨n, v⟩ mem
    rcases sc.par n (List.of_mem_zip mem).1 with z | z
    · exact Or.inl z
    · exact Or.inr ⟨z, PySem.W.cellsFrom_some _ _ _ (Or.inl z)⟩
  intro env eenv s1 made
  subst eenv
  refine And.intro (nl.keeps made.toInCall.keep) ?_
  apply codeAny_func
  obtain ⟨t, read, got⟩ := body cd A out s0 H vs Q E ⟨oc, od, x, qual, _, _, _, dV, kv, dc, pm, an, ct, osl, lk⟩ (room.deeper _) gd h
  have inv := inv_start (CX := L2.CX0) (E := E) sc room.hd env0 nlen rv made
  refine wpAny_mono (read.nox.run [] s1 _ H _ inv got) ?_ fun _ _ z => z
  intro fl s2 z
  cases fl with
  | brk => obtain ⟨_, _, _, w⟩ := z; exact w.elim
  | cont => obtain ⟨_, _, _, w⟩ := z; exact w.elim
  | next => obtain ⟨σ2, H2, J, w⟩ := z; exact ⟨V.non, H2, J.os, J.bare, J.base, J.hok, rfl, w⟩
  | ret u => obtain ⟨v2, σ2, H2, J, rv2, w⟩ := z; exact ⟨v2, H2, J.os, J.bare, J.base, J.hok, rv2, w⟩
open PySem.Spec PyProof.Rows in
theorem fnX_ofC {P : Program} {w : World} {K : PySem.W.Frag} {mg : Str → Option Value} {base : Heap} {k : Nat} {x qual : Str} {st : Stmt} {f : Addr} {fd : FuncData} {N ps : List Str} {sp : Sp} {dV : Value} (F : FunW K x qual st f fd dV) (sc : FnScope N ps (defScope st))
    (len : ∀ vs H Q E, sp vs H Q E → vs.length = ps.length)
    (body : ∀ (cd : Value) (A : Around) (out : List Env) (s : Shared) (H : Hp) (vs : List V) (Q : VK) (E : XK), CodeOf K f cd → Room k (A.deeper (envOfC qual (defScope st) s.heap.objs.size f cd)) → Gok (A.deeper (envOfC qual (defScope st) s.heap.objs.size f cd)) →
      sp vs H Q E → ∃ t, PSs (cxOf (L2.CX P w) P w K mg base N qual (defScope st) f cd A out s H E) (defBody st) t ∧ t ⟨fun _ h => Q .non h, Q, fun _ _ => False, fun _ _ => False⟩ (start N vs) H) :
    FnG P w K mg base (L2.CX P w) (k + 1) f fd ps sp := by
  rcases F.ex with ⟨oc, od, kv, dc, pm, an, cd, ct, osl, efd, lk, cin⟩
  subst efd
  constructor
  · exact len
  intro A out s0 H args us vs Q E room gd env0 bt rv h
  have nlen := len vs H Q E h
  have kin : K.In s0.heap := env0.mod.kin.keeps fun b o z => (env0.bs b o z).1
  have nl : s0.heap.NoLimit := env0.mod.nolimit.keeps fun b o z => (env0.bs b o z).1
  apply codeAny_call_function room.depth (kin _ _ lk) rfl sc.co sc.gen rfl (PySem.W.codeRec_of kin cin) (bt _ _ _ _ _)
  apply wpAny_newFunctionEnv_cells sc.kind
  · rintro ⟨n, v⟩ mem
    rcases sc.par n (List.of_mem_zip mem).1 with z | z
    · exact Or.inl z
    · exact Or.inr ⟨z, PySem.W.cellsFrom_some _ _ _ (Or.inl z)⟩
  intro env eenv s1 made
  subst eenv
  refine And.intro (nl.keeps made.toInCall.keep) ?_
  apply codeAny_func
  obtain ⟨t, read, got⟩ := body cd A out s0 H vs Q E ⟨oc, od, x, qual, _, _, _, dV, kv, dc, pm, an, ct, osl, lk⟩ (room.deeper _) gd h
  have inv := inv_start (CX := L2.CX P w) (E := E) sc room.hd env0 nlen rv made
  refine wpAny_mono (read.run [] s1 _ H _ inv got) ?_ fun _ _ z => z
  intro fl s2 z
  cases fl with
  | brk => obtain ⟨_, _, _, w⟩ := z; exact w.elim
  | cont => obtain ⟨_, _, _, w⟩ := z; exact w.elim
  | next => obtain ⟨σ2, H2, J, w⟩ := z; exact ⟨V.non, H2, J.os, J.bare, J.base, J.hok, rfl, w⟩
  | ret u => obtain ⟨v2, σ2, H2, J, rv2, w⟩ := z; exact ⟨v2, H2, J.os, J.bare, J.base, J.hok, rv2, w⟩
open PySem.Spec PyProof.Rows in
theorem fnG_tabC {P : Program} {w : World} {K : PySem.W.Frag} {mg : Str → Option Value} {base : Heap} {T : List Df} {k j r : Nat} {d : Df} {N ps : List Str} {x qual : Str} {st : Stmt} {fa : Addr} {fd : FuncData} {dV : Value} (F : FunW K x qual st fa fd dV) (sc : FnScope N ps (defScope st)) (hd : T[j]? = some d) (hN : N.length = d.ns) (hp : ps.length = d.np)
    (body : ∀ (cd : Value) (A : Around) (out : List Env) (s : Shared) (H : Hp) (E : XK), CodeOf K fa cd → Room r (A.deeper (envOfC qual (defScope st) s.heap.objs.size fa cd)) → Gok A →
      PSs (cxOf L2.CX0 P w K mg base N qual (defScope st) fa cd A out s H E).nox (defBody st) (tS K (execs (callN T k) d.body))) :
    FnG P w K mg base L2.CX0 (r + 1) fa fd ps (spD K (callN T (k + 1)) j) :=
  fnG_ofC (k := r) F sc (fun vs H Q E h => (spD_np hd h).trans hp.symm) fun cd A out s H vs Q E co room gd h => ⟨_, body cd A out s H E co room gd, read_fn hd hN h⟩
open PySem.Spec PyProof.Rows in
theorem fnX_tabC {P : Program} {w : World} {K : PySem.W.Frag} {mg : Str → Option Value} {base : Heap} {T : List Df} {k j r : Nat} {d : Df} {N ps : List Str} {x qual : Str} {st : Stmt} {fa : Addr} {fd : FuncData} {dV : Value} (F : FunW K x qual st fa fd dV) (sc : FnScope N ps (defScope st)) (hT : T.length ≤ XO) (hd : T[j]? = some d) (hN : N.length = d.ns) (hp : ps.length = d.np)
    (body : ∀ (cd : Value) (A : Around) (out : List Env) (s : Shared) (H : Hp) (E : XK), CodeOf K fa cd → Room r (A.deeper (envOfC qual (defScope st) s.heap.objs.size fa cd)) → Gok A →
      PSs (cxOf (L2.CX P w) P w K mg base N qual (defScope st) fa cd A out s H E) (defBody st) (tXS K (fun cls d _ h => E cls d h) (xexecs (callN T k) d.body))) :
    FnG P w K mg base (L2.CX P w) (r + 1) fa fd ps (spX K (callN T (k + 1)) j) :=
  fnX_ofC (k := r) F sc (fun vs H Q E h => (spX_np hT hd h).trans hp.symm) fun cd A out s H vs Q E co room gd h => ⟨_, body cd A out s H E co room gd, read_fnX hT hd hN h⟩
open PySem.Spec PyProof.Rows in
theorem fnI_tabC {P : Program} {w : World} {K : PySem.W.Frag} {mg : Str → Option Value} {base : Heap} {T : List Df} {k j c r : Nat} {d : Df} {N ps : List Str} {x qual : Str} {st : Stmt} {fa : Addr} {fd : FuncData} {dV : Value} (F : FunW K x qual st fa fd dV) (sc : FnScope N ps (defScope st)) (hd : T[j]? = some d) (hN : N.length = d.ns) (hp : ps.length = d.np)
    (body : ∀ (cd : Value) (A : Around) (out : List Env) (s : Shared) (H : Hp) (E : XK), CodeOf K fa cd → Room r (A.deeper (envOfC qual (defScope st) s.heap.objs.size fa cd)) → Gok A →
      PSs (cxOf L2.CX0 P w K mg base N qual (defScope st) fa cd A out s H E).nox (defBody st) (tSI K c (execs (callN T k) d.body))) :
    FnG P w K mg base L2.CX0 (r + 1) fa fd ps (spI K (callN T (k + 1)) j c) :=
  fnG_ofC (k := r) F sc (fun vs H Q E h => by
    obtain ⟨S, ds, us, xs, as', x, dx, C, rfl, hns, hx, nS, dom, rp, e, hl, q⟩ := h
    obtain ⟨d2, fl, ρ', e1, hlen, _⟩ := callN_split hd e
    rw [hd] at e1
    cases e1
    rw [hp, ← hlen]
    simp [rp.length]) fun cd A out s H vs Q E co room gd h => ⟨_, body cd A out s H E co room gd, read_init hd hN (fun _ _ z => z) h⟩
end DL
end
section
set_option autoImplicit false
/-! DLhd: the head by one kernel run; its facts by names. -/
namespace DL
open PySem PySem.Spec PyProof.Rows L2
variable [LTabs]
section
variable {fa : List He.Fa} {fb : List Fb} {fn : List He.DefD} {K : PySem.W.Frag}
theorem SaysX.d (c : SaysX fa fb fn K) : He.SaysD fa fn K := by
  have c1 := (He.ba (show ((fb.all fun f => f.ok K) && ((fa.all fun f => f.ok K) && fn.all fun d => d.ok K)) = true from congrArg (fun z : He.AlD => z.1) c)).2
  have e : fn.map (fun d => He.fnW K d.at_) = fn.map He.DefD.val := congrArg (fun z : He.AlD => z.2) c
  exact Prod.ext c1 e
theorem SaysX.b (c : SaysX fa fb fn K) (i : Nat) {f : Fb} (h : fb[i]? = some f := by rfl) : f.ok K = true := by
  have c1 := (He.ba (show ((fb.all fun f => f.ok K) && ((fa.all fun f => f.ok K) && fn.all fun d => d.ok K)) = true from congrArg (fun z : He.AlD => z.1) c)).1
  exact List.all_eq_true.mp c1 f (List.mem_of_getElem? h)
theorem SaysX.f (c : SaysX fa fb fn K) (i : Nat) {f : He.Fa} (h : fa[i]? = some f := by rfl) : f.ok K = true := c.d.fact i h
end
theorem exB : ∀ b, PySem.HandSPX.BaseE (exT b) (exN b)
  | 0 => PySem.HandSPX.base_VE
  | 1 => PySem.HandSPX.base_LE
  | _ + 2 => PySem.HandSPX.base_AE
theorem mroB_ok {T : List Value} : ∀ {l : List Value}, mroB T l = true → PySem.HandSPX.Mro T l
  | .ref c :: r, h => (mroB_ok (l := r) h).cons c
  | [], h => ⟨[], (beq_iff_eq.mp h)⟩
  | .none :: _, h => ⟨[], (beq_iff_eq.mp h)⟩
  | .ellipsis :: _, h => ⟨[], (beq_iff_eq.mp h)⟩
  | .notImplemented :: _, h => ⟨[], (beq_iff_eq.mp h)⟩
  | .bool _ :: _, h => ⟨[], (beq_iff_eq.mp h)⟩
  | .int _ _ :: _, h => ⟨[], (beq_iff_eq.mp h)⟩
  | .float _ _ :: _, h => ⟨[], (beq_iff_eq.mp h)⟩
  | .str _ _ :: _, h => ⟨[], (beq_iff_eq.mp h)⟩
  | .bytes _ _ :: _, h => ⟨[], (beq_iff_eq.mp h)⟩
  | .type _ :: _, h => ⟨[], (beq_iff_eq.mp h)⟩
  | .builtin _ :: _, h => ⟨[], (beq_iff_eq.mp h)⟩
theorem errB_ok {K : PySem.W.Frag} {C : Addr} {T : List Value} {newId : String} (q : errB K C T newId = true) :
    ∃ nm qn N bs bm sn sub ab col dd k0 k1 k2 k3 k5, K.lookup C = some (excClassObj nm qn C N bs bm true sn sub ab col dd k0 k1 k2 k3 k5 newId) ∧ PySem.HandSPX.Mro T bm := by
  unfold errB at q
  split at q
  · rename_i dd cd sl ho
    split at q
    · rename_i C' bm k0 k1 k2 k3 n k5 hm hs
      simp only [Bool.and_eq_true, beq_iff_eq, Bool.not_eq_true'] at q
      obtain ⟨⟨⟨⟨rfl, rfl⟩, hdel⟩, hdct⟩, ht⟩ := q
      obtain ⟨nm, bs, mro, ns, qn, hd, sn, sub, ab, col, del⟩ := cd
      dsimp only at hm hdel hdct
      subst hm hdel hdct
      have hsl : sl = #[k0, k1, k2, k3, some (.builtin n), k5] := by
        obtain ⟨l⟩ := sl
        simp only at hs
        rw [hs]
      subst hsl
      exact ⟨nm, qn, ns, bs, bm, sn, sub, ab, col, dd, k0, k1, k2, k3, k5, ho, mroB_ok ht⟩
    · cases q
  · cases q
theorem unitB_ok {K : PySem.W.Frag} {a : Addr} (h : unitB K a = true) : Cst K (.ref a) (.tup []) := by
  unfold unitB at h
  cases q : K.lookup a with
  | none => rw [q] at h; cases h
  | some o =>
    obtain ⟨oc, od, dt, osl⟩ := o
    rw [q] at h
    cases oc with
    | type c =>
      cases dt with
      | seq its n =>
        obtain ⟨h1, h2⟩ := He.ba (show (decide (c = "tuple") && decide (its.size = 0)) = true from h)
        have e1 : c = "tuple" := of_decide_eq_true h1
        have e2 : its = #[] := Array.eq_empty_of_size_eq_zero (of_decide_eq_true h2)
        subst e1 e2
        exact .unit q rfl rfl
      | _ => cases h
    | _ => cases dt <;> cases h
section
variable {K : PySem.W.Frag} {h : Heap} {mg : Str → Option Value} {x q : Str} {st : Stmt} {f : Addr} {dvs : List V} {dds : List D}
/-- a def without defaults -/
theorem funW0 (F : ∃ fd, FunD K x q (defArgs st) (defBody st) (defScope st) [] [] f fd) : ∃ fd, FunW K x q st f fd .none := by
  obtain ⟨fd, F⟩ := F
  obtain ⟨oc, od, dV, kV, doc, pm, an, cdv, ct, osl, e, lk, hcd, D, _⟩ := F.ex
  rcases D with ⟨_, e2⟩ | ⟨n, _⟩
  · subst e2
    exact ⟨fd, ⟨oc, od, kV, doc, pm, an, cdv, ct, osl, e, lk, hcd⟩, F.kp⟩
  · exact absurd rfl n
/-- a def with defaults -/
theorem funWd (F : ∃ fd, FunD K x q (defArgs st) (defBody st) (defScope st) dvs [] f fd) (hn : dvs ≠ []) (hc : Csts K dvs dds) : ∃ fd dV, FunW K x q st f fd dV ∧ DfW K dV dds := by
  obtain ⟨fd, F⟩ := F
  obtain ⟨oc, od, dV, kV, doc, pm, an, cdv, ct, osl, e, lk, hcd, D, _⟩ := F.ex
  rcases D with ⟨e2, _⟩ | ⟨_, T, o, its, n, e1, l1, d1, v1⟩
  · exact absurd e2 hn
  · exact ⟨fd, dV, ⟨⟨oc, od, kV, doc, pm, an, cdv, ct, osl, e, lk, hcd⟩, F.kp⟩, T, o, its, n, dvs, e1, l1, d1, v1, hc⟩
theorem clsF_ok {c : Nat} (h1 : (He.Fa.glo (cName c)).ok K = true) (h2 : (He.Fa.cls (cName c)).ok K = true) (h3 : ∀ f ∈ cFlds c, (He.Fa.noat (cName c) f).ok K = true) : ClsF K c (He.ga K (cName c)) :=
  ⟨He.eqO_ok h1, He.cls_ok h2, fun f hf => He.noat_ok (h3 f hf)⟩
theorem isiF_ok (b : (Fb.isi x).ok K = true) : IsiF K (He.ga K x) := by
  obtain ⟨c1, b⟩ := He.ba b
  obtain ⟨c2, b⟩ := He.ba b
  obtain ⟨c3, b⟩ := He.ba b
  obtain ⟨c4, c5⟩ := He.ba b
  exact ⟨He.eqO_ok c1, of_decide_eq_true c2, of_decide_eq_true c3, of_decide_eq_true c4, if_pos (beq_self_eq_true _), fun t ht => of_decide_eq_true (List.all_eq_true.mp c5 t ht)⟩
end
section
variable {K : PySem.W.Frag} {x y f q : Str} {b : Nat} {t : String} {k : Bool}
/-- an error's class -/
theorem err_ok {params : Arguments} {body : List Stmt} {scope : Scope} {p1 p2 q1 q2 q3 q4 : Pos} (h : (Fb.err x f b).ok K = true) (F : ∃ fd, FunD K "__init__" q params body scope [] [] (He.fAd K (x, some "__init__")) fd) (fld : PySem.ErrX.FldT f)
    (hp : params = PySem.ErrX.iA f p1 p2) (hb : body = PySem.ErrX.iB f q1 q2 q3 q4) (hs : scope = PySem.ErrX.iS f) :
    PySem.ErrX.ErrT K (exT b) (exN b) q f (He.ga K x) (He.fAd K (x, some "__init__")) ∧ PySem.W.nsIn K mainGlobals x = some (some (.ref (He.ga K x))) ∧ PySem.W.exmOne K (.ref (He.ga K x)) (.ref (He.ga K x)) = some true := by
  subst hp hb hs
  obtain ⟨c0, h⟩ := He.ba h
  obtain ⟨c1, h⟩ := He.ba h
  obtain ⟨c2, h⟩ := He.ba h
  obtain ⟨c3, h⟩ := He.ba h
  obtain ⟨c4, h⟩ := He.ba h
  obtain ⟨c5, h⟩ := He.ba h
  obtain ⟨c6, h⟩ := He.ba h
  obtain ⟨c7, h⟩ := He.ba h
  obtain ⟨c8, c9⟩ := He.ba h
  obtain ⟨fd, F⟩ := F
  obtain ⟨oc, od, dV, kV, doc, pm, an, cdv, ct, osl, e, lk, hcd, D, _⟩ := F.ex
  rcases D with ⟨_, e2⟩ | ⟨n, _⟩
  · subst e2
    subst e
    exact ⟨⟨exB b, errB_ok c1, He.eqO_ok c2, He.eqO_ok c3, He.eqO_ok c4, of_decide_eq_true c5, c6, of_decide_eq_true c7, of_decide_eq_true c8, ⟨oc, od, kV, doc, pm, an, cdv, ct, osl, p1, p2, q1, q2, q3, q4, lk, hcd⟩, fld⟩, He.eqO_ok c0, of_decide_eq_true c9⟩
  · exact absurd rfl n
theorem exi_ok (h : (Fb.exi x).ok K = true) : ExcC K (He.ga K x) ∧ XfC K (He.ga K x) := by
  obtain ⟨c0, h⟩ := He.ba h
  obtain ⟨c1, h⟩ := He.ba h
  obtain ⟨c2, h⟩ := He.ba h
  obtain ⟨c3, h⟩ := He.ba h
  obtain ⟨c4, h⟩ := He.ba h
  obtain ⟨c5, h⟩ := He.ba h
  obtain ⟨c6, c7⟩ := He.ba h
  exact ⟨⟨He.eqO_ok c0, He.eqO_ok c1, of_decide_eq_true c2, c3, He.eqO_ok c4, of_decide_eq_true c5, of_decide_eq_true c6, of_decide_eq_true c7⟩, ⟨He.eqO_ok c0, He.eqO_ok c1, of_decide_eq_true c2, c3⟩⟩
end
/-- the tables of the law's code objects stand as the head says -/
theorem tabs_of {K : PySem.W.Frag} {h : Heap} {cs : List ((Str × Option Str) × Addr)} (X : K.In h) (t : ∀ p ∈ cs, TabOf K h p) (hT : ∀ p ∈ LTabs.T, ∃ d, (d, p.1) ∈ cs) : TabsAt K h := fun p hp => by
  obtain ⟨d, hd⟩ := hT p hp
  obtain ⟨h1, h2, c, _, h3⟩ := t _ hd
  exact ⟨h1, c, (PySem.W.codeHd_of_K X h3).tab h2⟩
/-- the law's end over a head by facts -/
theorem end_walkE {l : PySem.W.OpenLaw} {n m k fi : Nat} {T : List Df} {q : Program} {loose : List Str} {XP : (Str → Option Value) → Heap → Prop} {YP : World → Heap → Prop} {d : DefRec} {x : Str}
    (hn : l.most = some n) (hn2 : n ≤ sizeLine) (hdf : d.params.defaults = []) (hr : Room m callerA)
    (F : ∀ (w : World) (mg : Str → Option Value) (fa : Addr) (h : Heap), YP w h → h.Ns mainGlobals mg → mg d.name = some (.ref fa) →
      ∃ (K : PySem.W.Frag) (fd : FuncData), K.In h ∧ TabsAt K h ∧ (∀ (s : Shared) (u : Value), BindsTo s fd ⟨[u], []⟩ [(x, u)]) ∧ ∀ base : Heap, K.In base → base.Ns mainGlobals mg → BltAt mg base → FnG l.prog w K mg base L2.CX0 m fa fd [x] (spD K (callN T k) fi))
    (hm : ∀ ns : List Int, ns.length ≤ n → ∃ as', callN T k fi [.fz (.scr (ns.map D.int))] = some (.fz (.bl true), as')) :
    PySem.W.WalkO q loose XP YP l.row.toRowW d [] (fun f vs => PySem.call f vs) :=
  Att.attach_call hn hdf fun w s0 s1 mg mb fa o pm cd doc a vs ns G Y ho hd hcd hmg hobj hints hlen hg => by
    obtain ⟨K, fd, kin, tabs, bt, hF⟩ := F w mg fa _ Y G.T.g hmg
    obtain ⟨as', e⟩ := hm ns hlen
    exact end_call kin G.T.g G.T.b G.T.builtins G.T.nolimit hg hobj hints (Nat.le_trans hlen hn2) hr hF bt e tabs G.T.bmain
end DL
end
section
set_option autoImplicit false
/-! DLeh: own errors over ValueError with two fields: made, raised. -/
namespace PySem
end PySem
namespace L2
open PySem PySem.Spec PyProof.Rows
end L2
namespace DL
open PySem L2
end DL
end
section
set_option autoImplicit false
/-! DLzb: bool of an instance whose class has no __bool__ and no __len__. -/
namespace DL
open PySem L2
end DL
end
section
set_option autoImplicit false
/-! DLze: enumerate(tuple, start=k); len of an instance by its own __len__. -/
namespace DL
open PySem L2
variable [LTabs]
section
variable {X : Cx} {Φ : Calls} {a : Expr} {ia : E} {p pos : Pos} {c fi : Nat} {f : Addr} {fd : FuncData} {ps : List Str} {k : Nat}
/-- the class's own __len__ -/
structure LenF (X : Cx) (Φ : Calls) (c fi : Nat) : Prop where
  ex : ∃ (C f : Addr) (fd : FuncData) (ps : List Str) (k : Nat) (dws : List Value) (dvs : List V), ClsF X.K c C ∧ Meth X.K C "__len__" f ∧ FnG X.prog X.w X.K X.mg X.base L2.CX0 k f fd ps (spD X.K Φ fi) ∧ Room (k + 1) X.A ∧ BindPd X.K fd ps 1 [] dws [0] ∧ Vals dvs dws ∧ Csts X.K dvs []
def AllL (X : Cx) (Φ : Calls) : List (Nat × Nat) → Prop
  | [] => True
  | (c, fi) :: r => LenF X Φ c fi ∧ AllL X Φ r
theorem AllL.at : ∀ {ms : List (Nat × Nat)}, AllL X Φ ms → ms.lookup c = some fi → LenF X Φ c fi
  | [], _, h => by cases h
  | (c', i') :: r, h, e => by
    unfold List.lookup at e
    cases q : c == c' with
    | true =>
      rw [q] at e
      cases e
      have := beq_iff_eq.mp q
      subst this
      exact h.1
    | false => rw [q] at e; exact AllL.at h.2 e
end
end DL
end
section
set_option autoImplicit false
/-! DLzq: == and != of an instance and any value. -/
namespace DL
open PySem L2
variable [LTabs]
/-- another class of the program is no kin -/
structure FarF (K : PySem.W.Frag) (C C2 : Addr) : Prop where
  cl : Cls K C2
  i2 : IsiF K C2
  no : PySem.W.kitOne K (.ref C2) (.ref C) = some false
/-- the own __eq__ takes any value but instances of strangers, and answers a truth -/
def GrdA (K : PySem.W.Frag) (Φ : Calls) (c fi : Nat) : Prop := ∀ d e r, Φ fi [.fz d, .fz e] = some r → (noObj e = true ∨ (∃ ys, e = .obj c ys) ∨ (∃ c2 ys, e = .obj c2 ys ∧ ∃ C C2, ClsF K c C ∧ ClsF K c2 C2 ∧ FarF K C C2)) ∧ ∃ b, r.1 = .fz (.bl b)
structure RowA (K : PySem.W.Frag) (Φ : Calls) (c fi : Nat) : Prop where
  g : GrdA K Φ c fi
  i : ∃ C, ClsF K c C ∧ IsiF K C
def RowsA (K : PySem.W.Frag) (Φ : Calls) : List (Nat × Nat) → Prop
  | [] => True
  | (c, fi) :: r => RowA K Φ c fi ∧ RowsA K Φ r
theorem RowsA.at {K : PySem.W.Frag} {Φ : Calls} {c fi : Nat} : ∀ {ms : List (Nat × Nat)}, RowsA K Φ ms → ms.lookup c = some fi → RowA K Φ c fi
  | [], _, h => by cases h
  | (c', i') :: r, h, e => by
    unfold List.lookup at e
    cases q : c == c' with
    | true =>
      rw [q] at e
      cases e
      have := beq_iff_eq.mp q
      subst this
      exact h.1
    | false => rw [q] at e; exact RowsA.at h.2 e
end DL
end
section
set_option autoImplicit false
/-! DLzx: == and != of lists with instances inside. -/
namespace DL
open PySem L2
variable [LTabs]
/-- somewhere below the running body, nothing being shown: room for a call, and j steps inside builtins -/
structure SubD (X : Cx) (k j : Nat) (A : Around) : Prop where
  hd : A.handled = none
  dp : A.depth + 3 * k + 5 < recursionLimit
  un : A.units + 16 * k + j + 200 < cLine
  fr : A.frames = X.A.frames
  gd : Gok A
section
variable {X : Cx} {k j m : Nat} {A : Around} {d e : D} {ds es : List D}
theorem SubD.room (s : SubD X k j A) : Room k A := ⟨s.hd, s.dp, by have := s.un; omega⟩
theorem SubD.in1 (s : SubD X k (j + 1) A) : SubD X k j A.in1 := ⟨s.hd, s.dp, by have := s.un; show A.units + 1 + 16 * k + j + 200 < _; omega, s.fr, s.gd⟩
theorem SubD.mono (s : SubD X k j A) (h : m ≤ j) : SubD X k m A := ⟨s.hd, s.dp, by have := s.un; omega, s.fr, s.gd⟩
def LpD (X : Cx) (pins : List (Addr × Obj)) (σ : St) (S : Addr → Prop) (H : Hp) (s' : Shared) : Prop := ∃ S' H', L2.Inv X pins σ H' s' ∧ Gn S H S' H'
/-- == gives True for two values that are d and e -/
def EqD (X : Cx) (k j : Nat) (d e : D) : Prop :=
  ∀ (A : Around) (pins : List (Addr × Obj)) (s : Shared) (σ : St) (S : Addr → Prop) (H : Hp) (x y : V) (u v : Value), SubD X k j A → L2.Inv X pins σ H s → Dm S H → RelV x u → RelV y v → Rp X.K S H x d → Rp X.K S H y e →
    wpAny (model X.prog X.w) A (eqBool u v) (fun r s' => r = true ∧ LpD X pins σ S H s') X.xe s
def EqsD (X : Cx) (k j : Nat) (ds es : List D) : Prop := ds.length = es.length ∧ ∀ (i : Nat) (d e : D), ds[i]? = some d → es[i]? = some e → EqD X k j d e
theorem EqD.mono (h : EqD X k j d e) (hn : j ≤ m) : EqD X k m d e := fun A pins s σ S H x y u v sb => h A pins s σ S H x y u v (sb.mono hn)
theorem EqsD.nil : EqsD X k j [] [] := ⟨rfl, fun i d e h _ => by simp at h⟩
theorem EqsD.cons (h : EqD X k j d e) (t : EqsD X k j ds es) : EqsD X k j (d :: ds) (e :: es) := by
  refine ⟨by rw [List.length_cons, List.length_cons, t.1], fun i a b h1 h2 => ?_⟩
  cases i with
  | zero =>
    simp at h1 h2
    subst h1; subst h2
    exact h
  | succ i =>
    simp at h1 h2
    exact t.2 i a b h1 h2
end
section
variable {X : Cx} {Φ : Calls} {k f0 : Nat} {a b : Expr} {pos : Pos} {ia ib : E} {o : D}
theorem Vd.lst {K : PySem.W.Frag} {S : Addr → Prop} {H : Hp} {v : V} {xs : List D} (h : Vd K S H v (.lst xs)) : ∃ a vs, v = .ref a ∧ H a = some (.lst vs) ∧ Rps K S H vs xs := by
  cases h with
  | fz h =>
    cases h with
    | lst h r => exact ⟨_, _, rfl, h.2, r⟩
  | ls e h r => exact ⟨_, _, e, h, r⟩
end
/-! the evidence, from the table -/
/-! isinstance of a class: False for the other class's instances -/
end DL
end
section
set_option autoImplicit false
/-! DLzl: bool of an instance by its own __len__. -/
namespace DL
open PySem L2
variable [LTabs]
section
variable {X : Cx} {Φ : Calls} {a : Expr} {ia : E} {p pos : Pos} {c fi : Nat}
/-- the class's own __len__, and no __bool__ -/
structure BooF (X : Cx) (Φ : Calls) (c fi : Nat) : Prop where
  ex : ∃ (C f : Addr) (fd : FuncData) (ps : List Str) (k : Nat), ClsF X.K c C ∧ Meth X.K C "__len__" f ∧ FnG X.prog X.w X.K X.mg X.base L2.CX0 k f fd ps (spD X.K Φ fi) ∧ Room (k + 1) X.A ∧ BindP X.K fd ps 1 [] [0] ∧ PySem.W.findIn X.K (.ref C) "__bool__" = some none
def AllB (X : Cx) (Φ : Calls) : List (Nat × Nat) → Prop
  | [] => True
  | (c, fi) :: r => BooF X Φ c fi ∧ AllB X Φ r
theorem AllB.at : ∀ {ms : List (Nat × Nat)}, AllB X Φ ms → ms.lookup c = some fi → BooF X Φ c fi
  | [], _, h => by cases h
  | (c', i') :: r, h, e => by
    unfold List.lookup at e
    cases q : c == c' with
    | true =>
      rw [q] at e
      cases e
      have := beq_iff_eq.mp q
      subst this
      exact h.1
    | false => rw [q] at e; exact AllB.at h.2 e
end
end DL
end
section
set_option autoImplicit false
/-! DLzy: texts walked, split, cut in three; isdigit; try: return e / except C: return None. -/
namespace DL
open PySem L2
variable [LTabs]
section
variable {X : Cx} {Φ : Calls} {a b tg : Expr} {pos apos p : Pos} {ia ib : E} {K : PySem.W.Frag}
def chD1 (c : Nat) : D := .str ⟨#[c]⟩
theorem Wk.chs {z : Str} : Wk K (Its z) (fun _ _ _ _ => True) (z.cps.toList.map chD1) where
  stop := fun S ρ σ H rel _ i h => by
    show z.cps.size ≤ i
    rw [List.length_map, Array.length_toList] at h
    exact h
  go := fun S ρ σ H rel _ i h => by
    show i < z.cps.size
    rw [List.length_map, Array.length_toList] at h
    exact h
  yld := fun S ρ σ H i d x H' rel _ hd hy => by
    obtain ⟨e1, c, e2, e3⟩ := hy
    subst e1 e3
    refine ⟨S, .refl, ?_⟩
    rw [List.getElem?_map, Array.getElem?_toList, e2] at hd
    cases hd
    exact .str _
  stay := fun _ _ _ _ _ _ _ _ _ _ _ _ => trivial
  wip := fun _ _ _ _ _ _ _ => trivial
end
end DL
end
section
set_option autoImplicit false
/-! DLzv: == and != of lists with instances inside, of one class alone. -/
namespace DL
open PySem L2
/-! the evidence, from the table: isinstance answers by isn or isd -/
end DL
end
section
set_option autoImplicit false
/-! DLri: repr of lists and tuples with instances inside. -/
namespace DL
open PySem L2
variable [LTabs]
/-! ### what is made raw while a def runs -/
section
variable {X : Cx} {pins : List (Addr × Obj)} {σ : St} {H : Hp} {s : Shared}
structure RawA (X : Cx) (pins : List (Addr × Obj)) (P : Addr) : Prop where
  s0 : X.s_0.heap.objs.size ≤ P
  lo : P ≠ X.env.locals
  fs : P ∉ X.fs
  ce : ∀ x c, X.env.cells.lookup x = some c → c ≠ P
  pn : ∀ p ∈ X.pn ++ pins, p.1 ≠ P
theorem RawA.of (I : L2.Inv X pins σ H s) : RawA X pins s.heap.objs.size :=
  ⟨I.sz, Nat.ne_of_gt I.lt, I.nofs (Nat.le_refl _), fun x c e z => by
    obtain ⟨v, o, ho, hd⟩ := I.cell x c e
    have := Heap.lt_size ho
    rw [z] at this
    exact Nat.lt_irrefl _ this, fun p hp z => by
    have := Heap.lt_size (I.pin p hp).1
    rw [z] at this
    exact Nat.lt_irrefl _ this⟩
abbrev lsO (acc : Array Value) (c : Nat) : Obj := { cls := .type "list", dict := none, data := .seq acc c, slots := #[] }
theorem pin_add {P : Addr} {o : Obj} (I : L2.Inv X pins σ H s) (r : RawA X pins P) (hP : s.heap.get? P = some o) (hH : H P = none) (nc : ∀ v, o.data ≠ .cell v) : L2.Inv X ((P, o) :: pins) σ H s :=
  I.pins_of fun p hp => by
    rcases List.mem_cons.mp hp with rfl | hp
    · exact ⟨hP, hH, r.lo, r.fs, nc⟩
    · exact I.pin p (List.mem_append_right _ hp)
theorem pin_off {p : Addr × Obj} (I : L2.Inv X (p :: pins) σ H s) : L2.Inv X pins σ H s := I.pins_of fun q hq => I.pin q (List.mem_append_right _ (List.mem_cons_of_mem _ hq))
theorem pin_at {P : Addr} {o : Obj} (I : L2.Inv X ((P, o) :: pins) σ H s) : s.heap.get? P = some o ∧ H P = none :=
  let h := I.pin (P, o) (List.mem_append_right _ (List.mem_cons_self ..))
  ⟨h.1, h.2.1⟩
theorem pin_set {P : Addr} {o o' : Obj} {h' : Heap} (I : L2.Inv X ((P, o) :: pins) σ H s) (r : RawA X pins P) (k : ∀ b u, b ≠ P → s.heap.get? b = some u → h'.get? b = some u) (hP : h'.get? P = some o') (nc : ∀ v, o'.data ≠ .cell v) : L2.Inv X ((P, o') :: pins) σ H { s with heap := h' } :=
  pin_add ((pin_off I).turned (t' := s.toks) k (pin_at I).2 r.lo (.inr r.s0) r.ce r.pn) r hP (pin_at I).2 nc
end
/-! ### who is inside of whom -/
/-- c stands in the list or tuple b -/
def InH (h : Heap) (c b : Addr) : Prop := ∃ o its n, h.get? b = some o ∧ (o.cls = .type "list" ∨ o.cls = .type "tuple") ∧ o.data = .seq its n ∧ Value.ref c ∈ its.toList
theorem acc_irr {r : Addr → Addr → Prop} {x : Addr} (h : Acc r x) : ¬ Relation.TransGen r x x := by
  induction h with
  | intro x _ ih =>
    intro t
    cases t with
    | single h1 => exact ih x h1 (.single h1)
    | tail t1 h1 => exact ih _ h1 (Relation.TransGen.trans (.single h1) t1)
theorem vals_ref {vs : List V} {us : List Value} (h : Vals vs us) {c : Addr} (hc : Value.ref c ∈ us) : V.ref c ∈ vs := by
  induction h with
  | nil => cases hc
  | cons r t ih =>
    rcases List.mem_cons.mp hc with e | hc
    · rename_i v u _ _
      subst e
      cases v with
      | ref a => cases r; exact List.mem_cons_self ..
      | non => cases r
      | bl b => cases r
      | int i => obtain ⟨t, e⟩ := r; cases e
      | str i => obtain ⟨t, e⟩ := r; cases e
      | byt i => obtain ⟨t, e⟩ := r; cases e
      | flt i => obtain ⟨t, e⟩ := r; cases e
      | ty n => cases r
    · exact List.mem_cons_of_mem _ (ih hc)
section
variable {X : Cx} {pins : List (Addr × Obj)} {σ : St} {H : Hp} {s : Shared} {S : Addr → Prop}
theorem acc_seq (I : L2.Inv X pins σ H s) {a : Addr} {vs : List V} (h : SqL X.K H a vs ∨ SqT X.K H a vs) (ih : ∀ c, V.ref c ∈ vs → Acc (InH s.heap) c) : Acc (InH s.heap) a := by
  refine .intro a fun c hc => ?_
  obtain ⟨o, its, n, h1, h2, h3, h4⟩ := hc
  rcases h with h | h
  · obtain ⟨its', rv, ⟨o', n', ho, hc', _, hd⟩, _⟩ := I.list h
    rw [h1] at ho
    cases ho
    rw [h3] at hd
    cases hd
    exact ih c (vals_ref rv (by simpa using h4))
  · obtain ⟨its', rv, ⟨o', ho, hc', n', hd⟩, _⟩ := I.tuple h
    rw [h1] at ho
    cases ho
    rw [h3] at hd
    cases hd
    exact ih c (vals_ref rv (by simpa using h4))
theorem acc_other {h : Heap} {a : Addr} {o : Obj} (ho : h.get? a = some o) (h1 : o.cls ≠ .type "list") (h2 : o.cls ≠ .type "tuple") : Acc (InH h) a := by
  refine .intro a fun c hc => ?_
  obtain ⟨o', its, n, e, hk, _, _⟩ := hc
  rw [ho] at e
  cases e
  exact (hk.elim h1 h2).elim
mutual
theorem Rp.acc (I : L2.Inv X pins σ H s) : ∀ {v : V} {d : D}, Rp X.K S H v d → ∀ a, v = .ref a → Acc (InH s.heap) a
  | _, _, .non, a, e => nomatch e
  | _, _, .bl b, a, e => nomatch e
  | _, _, .int b, a, e => nomatch e
  | _, _, .str b, a, e => nomatch e
  | _, _, .tup h r, a, e => by cases e; exact acc_seq I (.inr h.sq) (Rps.acc I r)
  | _, _, .lst h r, a, e => by cases e; exact acc_seq I (.inl h.sq) (Rps.acc I r)
  | _, _, .scr h r, a, e => by cases e; exact acc_seq I (.inl h.sq) (Rps.acc I r)
  | _, _, .obj n h1 h2 l r, a, e => by
    cases e
    obtain ⟨ox, od, ia⟩ := inst_of I.hok h2
    exact acc_other ia.at_ (by rw [ia.cls]; exact fun z => nomatch z) (by rw [ia.cls]; exact fun z => nomatch z)
  | _, _, .emp h1 h2, a, e => by
    cases e
    obtain ⟨_, z1, vs, k1, o, es, ep, ho, hc, _⟩ := dk_of I.hok h2
    exact acc_other ho (by rw [hc.1]; decide) (by rw [hc.1]; decide)
theorem Rps.acc (I : L2.Inv X pins σ H s) : ∀ {vs : List V} {ds : List D}, Rps X.K S H vs ds → ∀ c, V.ref c ∈ vs → Acc (InH s.heap) c
  | _, _, .nil, c, h => nomatch h
  | _, _, .cons h r, c, hc => by
    rcases List.mem_cons.mp hc with e | hc
    · exact Rp.acc I h c e.symm
    · exact Rps.acc I r c hc
end
end
/-! ### what cannot be read as data: an instance is inside -/
inductive Nr (K : PySem.W.Frag) (H : Hp) : Addr → Prop
  | ins {a C dx : Addr} {fs : List (Str × V)} : H a = some (.ins C dx fs) → Nr K H a
  | seq {a b : Addr} {vs : List V} : SqL K H a vs ∨ SqT K H a vs → V.ref b ∈ vs → Nr K H b → Nr K H a
theorem reads_mem {h : Heap} {vs : List Value} {ds : List PyData} {as : List Addr} (r : ReadsAll h vs ds as) {u : Value} (hu : u ∈ vs) : ∃ d bs, Reads h u d bs := by
  induction vs generalizing ds as with
  | nil => cases hu
  | cons v vs ih =>
    cases r with
    | cons r1 r2 =>
      rcases List.mem_cons.mp hu with e | hu
      · rw [e]; exact ⟨_, _, r1⟩
      · exact ih r2 hu
theorem ref_vals {vs : List V} {us : List Value} (h : Vals vs us) {c : Addr} (hc : V.ref c ∈ vs) : Value.ref c ∈ us := by
  induction h with
  | nil => cases hc
  | cons r t ih =>
    rcases List.mem_cons.mp hc with e | hc
    · subst e
      cases r
      exact List.mem_cons_self ..
    · exact List.mem_cons_of_mem _ (ih hc)
section
variable {X : Cx} {pins : List (Addr × Obj)} {σ : St} {H H1 : Hp} {s : Shared} {S S1 : Addr → Prop}
theorem rd_gn {a : Addr} {u : HO} (h : Rd H a u) (g : Gn S H S1 H1) (nt : NT u := by intro _ z; cases z) : Rd H1 a u :=
  h.elim (fun e => .inl (g.keep _ _ e (nt := nt))) fun ⟨o, e⟩ => .inr ⟨o, g.keep _ _ e⟩
theorem sqL_gn {K : PySem.W.Frag} {a : Addr} {vs : List V} (h : SqL K H a vs) (g : Gn S H S1 H1) : SqL K H1 a vs := h.imp (fun h => rd_gn h g) id
theorem sqT_gn {K : PySem.W.Frag} {a : Addr} {vs : List V} (h : SqT K H a vs) (g : Gn S H S1 H1) : SqT K H1 a vs := h.imp (fun h => rd_gn h g) id
theorem Nr.gn {K : PySem.W.Frag} {a : Addr} (n : Nr K H a) (g : Gn S H S1 H1) : Nr K H1 a := by
  induction n with
  | ins h => exact .ins (g.keep _ _ h)
  | seq h hb _ ih => exact .seq (h.imp (fun h => sqL_gn h g) (fun h => sqT_gn h g)) hb ih
theorem Nr.no (I : L2.Inv X pins σ H s) {a : Addr} (n : Nr X.K H a) : ∀ d as, ¬ Reads s.heap (.ref a) d as := by
  induction n with
  | ins h =>
    intro d as r
    obtain ⟨ox, od, ia⟩ := inst_of I.hok h
    cases r with
    | list h1 h2 h3 h4 => rw [ia.at_] at h1; cases h1; rw [ia.cls] at h2; cases h2
    | tuple h1 h2 h3 h4 => rw [ia.at_] at h1; cases h1; rw [ia.cls] at h2; cases h2
    | dict h1 h2 h3 h4 h5 => rw [ia.at_] at h1; cases h1; rw [ia.cls] at h2; cases h2
  | seq h hb _ ih =>
    intro d as r
    rcases h with h | h
    · obtain ⟨its, rv, ⟨o, n, ho, hc, _, hd⟩, _⟩ := I.list h
      cases r with
      | list h1 h2 h3 h4 =>
        rw [ho] at h1; cases h1
        rw [hd] at h3; cases h3
        obtain ⟨d', bs, r'⟩ := reads_mem h4 (ref_vals rv hb)
        exact ih d' bs r'
      | tuple h1 h2 h3 h4 => rw [ho] at h1; cases h1; rw [hc] at h2; exact absurd h2 (by decide)
      | dict h1 h2 h3 h4 h5 => rw [ho] at h1; cases h1; rw [hd] at h3; cases h3
    · obtain ⟨its, rv, ⟨o, ho, hc, n, hd⟩, _⟩ := I.tuple h
      cases r with
      | list h1 h2 h3 h4 => rw [ho] at h1; cases h1; rw [hc] at h2; exact absurd h2 (by decide)
      | tuple h1 h2 h3 h4 =>
        rw [ho] at h1; cases h1
        rw [hd] at h3; cases h3
        obtain ⟨d', bs, r'⟩ := reads_mem h4 (ref_vals rv hb)
        exact ih d' bs r'
      | dict h1 h2 h3 h4 h5 => rw [ho] at h1; cases h1; rw [hd] at h3; cases h3
end
end DL
end
section
set_option autoImplicit false
/-! DLrj: repr of lists and tuples: the walks. -/
namespace DL
open PySem L2
open PySem.Builtin PySem.Builtin.List
variable [LTabs]
/-- somewhere below the running body, while the lists and tuples of L are being shown -/
structure SubR (X : Cx) (k j : Nat) (A : Around) (g : List Code) (L : List Addr) : Prop where
  hd : A.handled = none
  dp : A.depth + 3 * k + j + 4 < recursionLimit
  un : A.units + 16 * k + 2 * j + 200 < cLine
  fr : A.frames = X.A.frames
  gd : A.guards = some g
  cl : ∀ b, b ∉ L → Clear g b
section
variable {X : Cx} {k j : Nat} {A : Around} {g : List Code} {L : List Addr}
theorem SubR.room (r : SubR X k (j + 1) A g L) : Room k A := ⟨r.hd, by have := r.dp; omega, by have := r.un; omega⟩
theorem SubR.in1 (r : SubR X k (j + 1) A g L) : SubR X k j A.in1 g L := ⟨r.hd, by have := r.dp; show A.depth + 3 * k + j + 4 < _; omega, by have := r.un; show A.units + 1 + 16 * k + 2 * j + 200 < _; omega, r.fr, r.gd, r.cl⟩
theorem SubR.mono {m : Nat} (r : SubR X k j A g L) (h : m ≤ j) : SubR X k m A g L := ⟨r.hd, by have := r.dp; omega, by have := r.un; omega, r.fr, r.gd, r.cl⟩
theorem wt_loop (args : Args) : (Code.builtin "list.__repr__.loop" args).weight = 1 := by
  show _ + _ + _ + _ = 1
  rw [isGuard_list_loop]; rfl
theorem wt_tup (args : Args) : (Code.builtin "tuple.__repr__.under" args).weight = 1 := by
  show _ + _ + _ + _ = 1
  rw [isGuard_tuple_repr_under]; rfl
theorem SubR.loop (r : SubR X k (j + 1) A g L) (a : Addr) (rest : List Value) : SubR X k j (A.under (.builtin "list.__repr__.loop" ⟨.ref a :: rest, []⟩)) (.builtin "list.__repr__.loop" ⟨.ref a :: rest, []⟩ :: g) (a :: L) where
  hd := r.hd
  dp := by
    show A.depth + (Code.builtin "list.__repr__.loop" ⟨.ref a :: rest, []⟩).weight + 3 * k + j + 4 < _
    rw [wt_loop]; have := r.dp; omega
  un := by rw [units_under_list_loop]; have := r.un; omega
  fr := r.fr
  gd := guards_under_guard (isGuard_list_loop _) r.gd
  cl := fun b hb => (r.cl b (fun z => hb (List.mem_cons_of_mem _ z))).cons (a := a) (fun e => hb (e ▸ List.mem_cons_self ..))
theorem SubR.tup (r : SubR X k (j + 1) A g L) (a : Addr) (rest : List Value) : SubR X k j (A.under (.builtin "tuple.__repr__.under" ⟨.ref a :: rest, []⟩)) (.builtin "tuple.__repr__.under" ⟨.ref a :: rest, []⟩ :: g) (a :: L) where
  hd := r.hd
  dp := by
    show A.depth + (Code.builtin "tuple.__repr__.under" ⟨.ref a :: rest, []⟩).weight + 3 * k + j + 4 < _
    rw [wt_tup]; have := r.dp; omega
  un := by rw [units_under_tuple_repr_under]; have := r.un; omega
  fr := r.fr
  gd := guards_under_guard (isGuard_tuple_repr_under _) r.gd
  cl := fun b hb => (r.cl b (fun z => hb (List.mem_cons_of_mem _ z))).cons (a := a) (fun e => hb (e ▸ List.mem_cons_self ..))
end
/-- v, shown inside of a list or tuple, gives t -/
def RepV (X : Cx) (k j : Nat) (h0 : Heap) (S : Addr → Prop) (H : Hp) (v : V) (t : Str) : Prop :=
  ∀ (A : Around) (g : List Code) (L : List Addr) (base : Nat) (pins : List (Addr × Obj)) (s : Shared) (σ : St) (S1 : Addr → Prop) (H1 : Hp) (u : Value), SubR X k j A g L → (∀ a ∈ L, ∀ b, v = .ref b → Relation.TransGen (InH h0) b a) → (∀ a ∈ L, Nr X.K H a) →
    base + t.length ≤ sizeLine → L2.Inv X pins σ H1 s → Gn S H S1 H1 → RelV v u → wpAny (model X.prog X.w) A (pyReprUnder base u) (fun r s' => r = t ∧ LpD X pins σ S H s') X.xe s
section
variable {X : Cx} {k j : Nat} {h0 : Heap} {S : Addr → Prop} {H : Hp}
theorem RepV.mono {v : V} {t : Str} {m : Nat} (h : RepV X k j h0 S H v t) (hm : j ≤ m) : RepV X k m h0 S H v t := fun A g L base pins s σ S1 H1 u r => h A g L base pins s σ S1 H1 u (r.mono hm)
theorem repV_pure {v : V} {d : D} {t : Str} (hd : shP d = some t) (hv : Rp X.K S H v d) : RepV X k j h0 S H v t := by
  intro A g L base pins s σ S1 H1 u r _ hL hz I g1 ru
  unfold shP at hd
  split at hd
  · rename_i hz0
    cases hd
    obtain ⟨hz0, z4⟩ := Bool.and_eq_true _ _ |>.mp hz0
    obtain ⟨hz0, z3⟩ := Bool.and_eq_true _ _ |>.mp hz0
    obtain ⟨zp, z1⟩ := Bool.and_eq_true _ _ |>.mp hz0
    have z3 := of_decide_eq_true z3
    have z4 := of_decide_eq_true z4
    have rq := Dq.rq I _ v u ((hv.mono g1.ke).dq zp) ru
    obtain ⟨bs, hb, hk⟩ := Rdq.reprK (prog := X.prog) (w := X.w) rq z1 z4
    refine hk base hz A g X.xe s _ r.gd (fun b hb' => r.cl b fun hl => ?_) (by have := r.un; omega) (fun _ _ e => e) (fun h' tk hkp => ⟨rfl, S1, H1, I.kept hkp, g1⟩)
    obtain ⟨d', as', r', _⟩ := hb b hb'
    exact ((hL b hl).gn g1).no I _ _ r'
  · cases hd
end
section
variable {X : Cx} {k j : Nat} {S : Addr → Prop} {H : Hp} {h0 : Heap} {A : Around} {g : List Code} {L : List Addr} {a P : Addr} {vs : List V} {ts : List Str} {base : Nat} {pins : List (Addr × Obj)} {σ : St} {R : Result → Shared → Prop}
theorem lst_loop (hs : SqL X.K H a vs) (hlen : ts.length = vs.length) (hT : ∀ (i : Nat) (v : V), vs[i]? = some v → ∃ t, ts[i]? = some t ∧ RepV X k j h0 S H v t) (hsz : base + (listText ts).length ≤ sizeLine)
    (r : SubR X k (j + 1) A g L) (hup : ∀ b, V.ref b ∈ vs → ∀ a' ∈ a :: L, Relation.TransGen (InH h0) b a') (hL : ∀ a' ∈ a :: L, Nr X.K H a') (raw : RawA X pins P)
    (hE : ∀ e s', X.xe e s' → R (.error e) s') (hR : ∀ s' u, LpD X pins σ S H s' → R (.ok (.ret (.str (listText ts) u))) s') :
    ∀ (n i : Nat) (s : Shared) (S1 : Addr → Prop) (H1 : Hp) (acc : Array Value) (c : Nat) (done : List (Str × Tok)), vs.length - i = n → i ≤ vs.length → L2.Inv X ((P, lsO acc c) :: pins) σ H1 s → Gn S H S1 H1 → acc.toList = strValues done → done.map (·.1) = ts.take i →
    codeAny (model X.prog X.w) A (.builtin "list.__repr__.loop" ⟨[.ref a, rawInt i, .ref P, rawInt ((base + piled (ts.take i) : Nat) : Int)], []⟩) R s := by
  have hX : (listText ts).length = (textFrom 0 "[" ts).length + 1 := by
    show (textFrom 0 "[" ts ++ "]").length = _
    rw [strLen_append]; rfl
  have hLn := textFrom_len ts 0 "["
  have hsz1 : vs.length ≤ sizeLine := by
    have h1 := hLn.1
    rw [if_neg (Nat.lt_irrefl 0)] at h1
    omega
  have hsz2 : ∀ t ∈ ts, t.length ≤ sizeLine := fun t ht => by
    have h2 := hLn.2.1 t ht
    omega
  have hsz3 : (listText ts).length ≤ sizeLine := by omega
  have hp3 := piled_le_listText ts
  intro n
  induction n with
  | zero =>
    intro i s S1 H1 acc c done hk hi I g1 hacc hdone
    have hin : i = vs.length := by omega
    obtain ⟨its, rv, ⟨o, n', ho, hc, _, hd⟩, _⟩ := I.list (sqL_gn hs g1)
    refine codeAny_builtin F.entry_list_repr_loop ?_
    show wpAny _ _ («list.__repr__.loop» ⟨[.ref a, .int i 0, .ref P, .int ((base + piled (ts.take i) : Nat) : Int) 0], []⟩) _ _ s
    rw [repr_loop_tree]
    refine wpAny_bind (wpAny_listItems ho hd ?_)
    have hnone : its.toArray[(i : Int).toNat]? = none := by
      have := rv.length
      simp; omega
    simp only [hnone]
    unfold reprEnd
    refine wpAny_bind (wpAny_listItems (pin_at I).1 rfl ?_)
    rw [hacc, repr_fold]
    refine wpAny_bind (wpAny_pure ?_)
    have hall : done.map (·.1) = ts := by rw [hdone, hin, ← hlen, List.take_length]
    rw [hall]
    refine wpAny_bind (wpAny_mkStr (wpAny_pure ?_) hsz3)
    exact hR _ _ ⟨S1, H1, (pin_off I).tok _, g1⟩
  | succ n ih =>
    intro i s S1 H1 acc c done hk hi I g1 hacc hdone
    have hlt : i < vs.length := by omega
    obtain ⟨its, rv, ⟨o, n', ho, hc, _, hd⟩, _⟩ := I.list (sqL_gn hs g1)
    have hv := List.getElem?_eq_getElem hlt
    obtain ⟨u, hu, ru⟩ := rv.get hv
    obtain ⟨t, ht, hrep⟩ := hT i _ hv
    have hp1 := piled_take_succ ht
    have hp2 := piled_take_le ts (i + 1)
    refine codeAny_builtin F.entry_list_repr_loop ?_
    show wpAny _ _ («list.__repr__.loop» ⟨[.ref a, .int i 0, .ref P, .int ((base + piled (ts.take i) : Nat) : Int) 0], []⟩) _ _ s
    rw [repr_loop_tree]
    refine wpAny_bind (wpAny_listItems ho hd ?_)
    have hsome : its.toArray[(i : Int).toNat]? = some u := by simpa using hu
    simp only [hsome]
    rw [Int.toNat_natCast]
    have mv : vs[i] ∈ vs := List.getElem_mem hlt
    refine wpAny_bind (wpAny_holding (wpAny_mono (hrep _ _ (a :: L) (base + piled (ts.take i) + 1) _ s σ S1 H1 u (r.loop a _) (fun a' ha' b hb => hup b (hb ▸ mv) a' ha') hL (by omega) I g1 ru) (fun t' s2 q => ?_) (fun e s' h => hE e s' h)))
    obtain ⟨rfl, S2, H2, I2, g2⟩ := q
    refine wpAny_bind (wpAny_mkStr ?_ (hsz2 _ (List.mem_of_getElem? ht)))
    refine wpAny_bind ?_
    show wpAny _ _ (updateSeq P _) _ _ _
    have I3 := I2.tok (s2.toks + 1)
    have hasz : acc.size ≤ sizeLine := by
      have e1 : acc.toList.length = acc.size := by simp
      have e2 : (strValues done).length = done.length := by simp [strValues]
      have e3 : done.length = (ts.take i).length := by rw [← hdone, List.length_map]
      have e4 : (ts.take i).length ≤ i := by rw [List.length_take]; omega
      rw [hacc] at e1; omega
    refine wpAny_updateSeq (pin_at I3).1 rfl (wpAny_pure ⟨F.quiet_list_repr_loop _, ?_⟩) hasz
    have e1 : ((i : Int) + 1) = ((i + 1 : Nat) : Int) := by omega
    have e2 : base + piled (ts.take i) + (t'.length + 2) = base + piled (ts.take (i + 1)) := by omega
    rw [e1, e2]
    exact ih (i + 1) _ S2 H2 (acc.push (.str t' s2.toks)) _ (done ++ [(t', s2.toks)]) (by omega) hlt (pin_set I3 raw (fun b u hb e => (Heap.get?_update_other _ _ (fun h : P = b => hb h.symm)).trans e) (Heap.get?_update_self _ (pin_at I3).1 rfl) (fun v z => nomatch z)) g2 (by simp [hacc, strValues]) (by simp [List.take_add_one, ht, hdone])
end
end DL
end
section
set_option autoImplicit false
/-! DLrk: repr of lists and tuples: the calls. -/
namespace DL
open PySem L2
open PySem.Builtin PySem.Builtin.List PySem.Builtin.Tuple
variable [LTabs]
section
variable {X : Cx} {k j : Nat} {S : Addr → Prop} {H : Hp} {h0 : Heap} {A : Around} {g : List Code} {L : List Addr} {a : Addr} {vs : List V} {ts : List Str} {base : Nat} {pins : List (Addr × Obj)} {σ : St} {R : Result → Shared → Prop}
theorem reprAtI {s : Shared} {S1 : Addr → Prop} {H1 : Hp} (hs : SqL X.K H a vs) (hne : vs ≠ []) (hlen : ts.length = vs.length) (hT : ∀ (i : Nat) (v : V), vs[i]? = some v → ∃ t, ts[i]? = some t ∧ RepV X k j h0 S H v t) (hsz : base + (listText ts).length ≤ sizeLine)
    (r : SubR X k (j + 1) A g L) (ha : a ∉ L) (hup : ∀ b, V.ref b ∈ vs → ∀ a' ∈ a :: L, Relation.TransGen (InH h0) b a') (hL : ∀ a' ∈ a :: L, Nr X.K H a')
    (hE : ∀ e s', X.xe e s' → R (.error e) s') (hR : ∀ s' u, LpD X pins σ S H s' → R (.ok (.ret (.str (listText ts) u))) s') (I : L2.Inv X pins σ H1 s) (g1 : Gn S H S1 H1) :
    wpAny (model X.prog X.w) A.in1 (listReprAt base ⟨[.ref a], []⟩) (fun fin s' => match fin with | .done f => R (.ok f) s' | .again c' => c'.quiet = true ∧ codeAny (model X.prog X.w) A c' R s') (fun e s' => R (.error e) s') s := by
  obtain ⟨its, rv, ⟨o, n', ho, hc, _, hd⟩, _⟩ := I.list (sqL_gn hs g1)
  cases its with
  | nil =>
    have := rv.length
    cases vs with
    | nil => exact absurd rfl hne
    | cons v vs => cases this
  | cons x l =>
    refine wpAny_list_repr_head (A := A.in1) (g := g) r.gd (fun v rest kw hm => listSameRef_of_ne (r.cl a ha _ _ _ _ hm)) ho hd ?_
    refine wpAny_bind (m := newList []) (wpAny_newObj_type ?_)
    refine wpAny_pure ⟨F.quiet_list_repr_loop _, ?_⟩
    have raw := RawA.of I
    have I2 := I.kept (h' := s.heap.push (lsO #[] 0)) (t' := s.toks) (fun b u e => Heap.get?_push_of_some _ e)
    have I3 := pin_add I2 raw (Heap.get?_push_size _ rfl) (I.hok.fresh (Nat.le_refl _)) (fun v z => nomatch z)
    exact lst_loop hs hlen hT hsz r hup hL raw hE hR vs.length 0 _ S1 H1 #[] _ [] (by omega) (Nat.zero_le _) I3 g1 rfl (by simp)
/-- a list inside of what is shown -/
theorem repV_lst {pins0 : List (Addr × Obj)} {σ0 : St} {s0 : Shared} (I0 : L2.Inv X pins0 σ0 H s0) (hs : SqL X.K H a vs) (hne : vs ≠ []) (hlen : ts.length = vs.length) (hT : ∀ (i : Nat) (v : V), vs[i]? = some v → ∃ t, ts[i]? = some t ∧ RepV X k j s0.heap S H v t)
    (ac : Acc (InH s0.heap) a) (nr : Nr X.K H a) : RepV X k (j + 1) s0.heap S H (.ref a) (listText ts) := by
  intro A g L base pins s σ S1 H1 u r hup hL hz I g1 ru
  cases (show u = Value.ref a from ru)
  have ha : a ∉ L := fun h => acc_irr ac (hup a h a rfl)
  obtain ⟨its0, rv0, ⟨o0, n0, ho0, hc0, _, hd0⟩, _⟩ := I0.list hs
  have h1 : ∀ b, V.ref b ∈ vs → InH s0.heap b a := fun b hb => ⟨o0, _, n0, ho0, .inl hc0, hd0, by simpa using ref_vals rv0 hb⟩
  have hup' : ∀ b, V.ref b ∈ vs → ∀ a' ∈ a :: L, Relation.TransGen (InH s0.heap) b a' := fun b hb a' ha' => by
    rcases List.mem_cons.mp ha' with rfl | ha'
    · exact .single (h1 b hb)
    · exact Relation.TransGen.trans (.single (h1 b hb)) (hup a' ha' a rfl)
  have hL' : ∀ a' ∈ a :: L, Nr X.K H a' := fun a' ha' => by
    rcases List.mem_cons.mp ha' with rfl | ha'
    · exact nr
    · exact hL a' ha'
  obtain ⟨its, rv, ⟨o, n', ho, hc, _, hd⟩, _⟩ := I.list (sqL_gn hs g1)
  have hTy : s.TypeIs (.ref a) "list" := ⟨o, ho, hc⟩
  refine wpAny_pyReprUnder_ref (by omega) (wpAny_pyReprObjUnder_twin (twin := "list.__repr__.under") hTy F.slot_list_repr.toG rfl (by have := r.un; omega)
    (call_twin_plain F.plain_list_repr_under F.entry_list_repr_under F.check_list_repr_under hTy F.slot_list_repr.toG (F.args_list_repr_1 _) ?_))
  exact reprAtI (R := callEnd _ X.xe) hs hne hlen hT hz r ha hup' hL' (fun e s' h => h) (fun s' u q => ⟨⟨_, _, rfl⟩, _, _, rfl, rfl, q⟩) I g1
/-! ### tuples -/
theorem tup_fold (r : SubR X k j A g L) (hL : ∀ a' ∈ L, Nr X.K H a') : ∀ (vs : List V) (l : List Value) (ts : List Str) (acc : Array Str) (n : Nat) (s : Shared) (S1 : Addr → Prop) (H1 : Hp) (Q : (Array Str × Nat) → Shared → Prop), Vals vs l → ts.length = vs.length →
    (∀ (i : Nat) (v : V), vs[i]? = some v → ∃ t, ts[i]? = some t ∧ RepV X k j h0 S H v t) → (∀ b, V.ref b ∈ vs → ∀ a' ∈ L, Relation.TransGen (InH h0) b a') → n + piled ts ≤ sizeLine →
    L2.Inv X pins σ H1 s → Gn S H S1 H1 → (∀ s', LpD X pins σ S H s' → Q ⟨acc ++ ts.toArray, n + piled ts⟩ s') → wpAny (model X.prog X.w) A (forIn l (⟨acc, n⟩ : (Array Str × Nat)) tupBody) Q X.xe s
  | [], l, ts, acc, n, s, S1, H1, Q, rv, hlen, _, _, _, I, g1, h => by
    cases rv
    cases ts with
    | nil =>
      simp only [List.forIn_nil]
      exact wpAny_pure (by simpa [piled] using h s ⟨S1, H1, I, g1⟩)
    | cons t ts => cases hlen
  | v :: vs, l, ts, acc, n, s, S1, H1, Q, rv, hlen, hT, hup, hn, I, g1, h => by
    cases rv with
    | cons ru rv =>
      rename_i u l
      cases ts with
      | nil => cases hlen
      | cons t ts =>
        obtain ⟨t', ht, hrep⟩ := hT 0 v rfl
        cases ht
        rw [piled_cons] at hn
        rw [List.forIn_cons]
        refine wpAny_bind (wpAny_bind (wpAny_mono (hrep A g L (n + 1) pins s σ S1 H1 u r (fun a' ha' b hb => hup b (hb ▸ List.mem_cons_self ..) a' ha') hL (by omega) I g1 ru) (fun t' s2 q => ?_) (fun e s' h => h)))
        obtain ⟨rfl, S2, H2, I2, g2⟩ := q
        refine wpAny_pure ?_
        refine tup_fold r hL vs l ts (acc.push t') (n + (t'.length + 2)) s2 S2 H2 Q rv (by simpa using hlen) (fun i v hv => hT (i + 1) v hv) (fun b hb => hup b (List.mem_cons_of_mem _ hb)) (by omega) I2 g2 fun s' q => ?_
        have h1 := h s' q
        have e : n + piled (t' :: ts) = n + (t'.length + 2) + piled ts := by rw [piled_cons]; omega
        rw [e] at h1
        simpa using h1
theorem tupAtI {s : Shared} {S1 : Addr → Prop} {H1 : Hp} (hs : SqT X.K H a vs) (hlen : ts.length = vs.length) (hT : ∀ (i : Nat) (v : V), vs[i]? = some v → ∃ t, ts[i]? = some t ∧ RepV X k j h0 S H v t) (hsz : base + (tupleText ts).length ≤ sizeLine)
    (r : SubR X k (j + 1) A g L) (ha : a ∉ L) (hup : ∀ b, V.ref b ∈ vs → ∀ a' ∈ a :: L, Relation.TransGen (InH h0) b a') (hL : ∀ a' ∈ a :: L, Nr X.K H a') {rest : List Value}
    (hE : ∀ e s', X.xe e s' → R (.error e) s') (hR : ∀ s' u, LpD X pins σ S H s' → R (.ok (.ret (.str (tupleText ts) u))) s') (I : L2.Inv X pins σ H1 s) (g1 : Gn S H S1 H1) :
    wpOwn (model X.prog X.w) A (.builtin "tuple.__repr__.under" ⟨.ref a :: rest, []⟩) (tupleReprAt base ⟨[.ref a], []⟩) (fun fin s' => match fin with | .done f => R (.ok f) s' | .again c' => c'.quiet = true ∧ codeAny (model X.prog X.w) A c' R s') (fun e s' => R (.error e) s') s := by
  obtain ⟨its, rv, ⟨o, ho, hc, n', hd⟩, _⟩ := I.tuple (sqT_gn hs g1)
  have hca : Clear g a := r.cl a ha
  have hp := piled_le_tupleText ts
  have hsz0 : (tupleText ts).length ≤ sizeLine := by omega
  have hl : its.length = ts.length := by rw [hlen]; exact rv.length.symm
  rw [tuple_repr_tree, tupleReprUnderWay_eq]
  refine wpOwn_bind (wpOwn_stackTailAny r.gd (tupGuardF_off _) (tupGuardF_pos _) ?_)
  have hn : (g.any fun c => tupGuardF (.ref a) (c, default)) = false := by
    rw [List.any_eq_false]
    intro c hcm
    rw [tupGuardF_of_clear hca c hcm]
    exact Bool.false_ne_true
  rw [hn]
  refine wpOwn_of_wpAny ?_
  show wpAny _ _ (tupleReprRest base (.ref a)) _ _ s
  unfold tupleReprRest Builtin.Tuple.tupleItemsOf
  refine wpAny_bind (wpAny_bind (wpAny_seqItems ho hd (wpAny_pure ?_)))
  rw [← Array.forIn_toList]
  refine wpAny_bind (wpAny_mono (tup_fold (r.tup a rest) hL vs its ts _ _ s S1 H1 (fun p s' => p = ⟨#[] ++ ts.toArray, base + piled ts⟩ ∧ LpD X pins σ S H s') rv hlen hT hup (by omega) I g1 (fun s' q => ⟨rfl, q⟩)) (fun p s' q => ?_) (fun e s' h => hE e s' h))
  obtain ⟨rfl, S2, H2, I2, g2⟩ := q
  refine wpAny_bind (wpAny_mkStr (wpAny_pure ?_) (by simpa [tupleText, hl] using hsz0))
  have h1 := hR _ s'.toks ⟨S2, H2, I2.tok (s'.toks + 1), g2⟩
  simpa [tupleText, hl] using h1
/-- a tuple inside of what is shown -/
theorem repV_tup {pins0 : List (Addr × Obj)} {σ0 : St} {s0 : Shared} (I0 : L2.Inv X pins0 σ0 H s0) (hs : SqT X.K H a vs) (hlen : ts.length = vs.length) (hT : ∀ (i : Nat) (v : V), vs[i]? = some v → ∃ t, ts[i]? = some t ∧ RepV X k j s0.heap S H v t)
    (ac : Acc (InH s0.heap) a) (nr : Nr X.K H a) : RepV X k (j + 1) s0.heap S H (.ref a) (tupleText ts) := by
  intro A g L base pins s σ S1 H1 u r hup hL hz I g1 ru
  cases (show u = Value.ref a from ru)
  have ha : a ∉ L := fun h => acc_irr ac (hup a h a rfl)
  obtain ⟨its0, rv0, ⟨o0, ho0, hc0, n0, hd0⟩, _⟩ := I0.tuple hs
  have h1 : ∀ b, V.ref b ∈ vs → InH s0.heap b a := fun b hb => ⟨o0, _, n0, ho0, .inr hc0, hd0, by simpa using ref_vals rv0 hb⟩
  have hup' : ∀ b, V.ref b ∈ vs → ∀ a' ∈ a :: L, Relation.TransGen (InH s0.heap) b a' := fun b hb a' ha' => by
    rcases List.mem_cons.mp ha' with rfl | ha'
    · exact .single (h1 b hb)
    · exact Relation.TransGen.trans (.single (h1 b hb)) (hup a' ha' a rfl)
  have hL' : ∀ a' ∈ a :: L, Nr X.K H a' := fun a' ha' => by
    rcases List.mem_cons.mp ha' with rfl | ha'
    · exact nr
    · exact hL a' ha'
  obtain ⟨its, rv, ⟨o, ho, hc, n', hd⟩, _⟩ := I.tuple (sqT_gn hs g1)
  have hTy : s.TypeIs (.ref a) "tuple" := ⟨o, ho, hc⟩
  refine wpAny_pyReprUnder_ref (by omega) (wpAny_pyReprObjUnder_twin (twin := "tuple.__repr__.under") hTy F.slot_tuple_repr rfl (by have := r.un; omega)
    (call_twin_own (F.quiet_tuple_repr_under _) F.entry_tuple_repr_under F.check_tuple_repr_under hTy F.slot_tuple_repr (F.args_tuple_repr_1 _) ?_))
  exact tupAtI (R := callEnd _ X.xe) hs hlen hT hz r ha hup' hL' (fun e s' h => h) (fun s' u q => ⟨⟨_, _, rfl⟩, _, _, rfl, rfl, q⟩) I g1
end
end DL
end
section
set_option autoImplicit false
/-! DLrl: repr of lists with instances inside: the rule. -/
namespace DL
section
open PySem PySem.Spec PyProof.Rows Builtin PySem.W
variable {prog : Program} {w : World} {A : Around} {E : Value → Shared → Prop} {s : Shared} {K : PySem.W.Frag} {x C f : Addr} {ox : Obj} {odd : Option Obj} {b : Nat}
theorem repr_ownU {Q : Value → Shared → Prop} (hu : A.units < cLine) (X : K.In s.heap) (I : InstAt s.heap x ox C odd) (hs : findIn K (.ref C) "__repr__" = some (some (.ref f))) (hf : isFn K (.ref f) = true)
    (h : wpAny (model prog w) A (call (.ref f) [.ref x]) (fun r s₁ => ∃ n u, r = Value.str n u ∧ Q r s₁) E s) : wpAny (model prog w) A (pyReprObjUnder b (.ref x)) Q E s := by
  unfold pyReprObjUnder pyReprObjBy
  refine wpAny_bind (wpAny_cRoomFor hu ?_)
  refine wpAny_bind (wpAny_bind (I.type.here ((looks_findIn X hs).here ?_)))
  show wpAny _ _ (if (some (Value.ref f)).isNone = true then _ else _) _ _ _
  rw [if_neg (by simp)]
  show wpAny _ _ (callSpecialIfBoundBy? _ _ _ >>= _) _ _ _
  refine wpAny_bind (wpAny_mono (Q := fun r s' => ∃ n u, r = some (Value.str n u) ∧ Q (.str n u) s') ?_ (fun r s' hr => ?_) fun _ _ y => y)
  · simp only [callSpecialIfBoundBy?, bindSpecialIfBound?]
    refine wpAny_holding (wpAny_bind (wpAny_bind (wpAny_bind (I.type.here ((looks_findIn X hs).here ?_)))))
    refine wpAny_bind (wpAny_askSetting (wpAny_ite ?_))
    have fin : wpAny (model prog w) A (call (.ref f) ([.ref x] ++ []) >>= fun v => pure (some v)) (fun r s' => ∃ n u, r = some (Value.str n u) ∧ Q (.str n u) s') E s :=
      wpAny_bind (wpAny_mono h (fun v s' h' => by
        obtain ⟨n, u, rfl, hq⟩ := h'
        exact wpAny_pure ⟨n, u, rfl, hq⟩) fun _ _ h' => h')
    split
    · exact wpAny_bind ((bind_fn X _ (beq_iff_eq.mp hf)).here (wpAny_pure (by exact fin)))
    · exact wpAny_tryCatch (wpAny_bind ((bind_fn X _ (beq_iff_eq.mp hf)).here (wpAny_pure (by exact fin))))
  · obtain ⟨n, u, rfl, hq⟩ := hr
    refine wpAny_bind (wpAny_isInstance (typeIs_str _ _ _) isSubtype_str_str ?_)
    exact wpAny_pure hq
end
open PySem L2
/-- anything may be shown while these defs run -/
abbrev anyG (I : LTabs) : LTabs := ⟨I.T, fun _ => True, trivial⟩
variable [LT : LTabs]
/-- the class's own __repr__, that may be run while a list is shown -/
structure RepG (X : Cx) (Φ : Calls) (k c fi : Nat) : Prop where
  ex : ∃ (C f : Addr) (fd : FuncData) (ps : List Str), ClsF X.K c C ∧ Meth X.K C "__repr__" f ∧ @FnG (anyG LT) X.prog X.w X.K X.mg X.base L2.CX0 k f fd ps (@spD (anyG LT) X.K Φ fi) ∧ BindP X.K fd ps 1 [] [0]
section
variable {X : Cx} {Φ : Calls} {k j c fi : Nat} {S : Addr → Prop} {H : Hp} {h0 : Heap}
theorem repV_obj (hx : Passes L2.CX0 X E0) (F : RepG X Φ k c fi) {fs : List D} {t : Str} {as' : List Sl} (hΦ : Φ fi [.fz (.obj c fs)] = some (.fz (.str t), as')) (dm : Dm S H) {v : V} (hv : Rp X.K S H v (.obj c fs)) : RepV X k (j + 1) h0 S H v t := by
  intro A g L base pins s σ S1 H1 u r hup hL hz I g1 ru
  clear hup hL
  have hv1 := hv.mono g1.ke
  have hv2 := hv1
  cases hv1 with
  | obj n1 s1 h1 l1 p1 =>
    rename_i a C dx vs
    cases (show u = Value.ref a from ru)
    obtain ⟨C', f, fd, ps, Fc, hm, G, hb⟩ := F.ex
    have := cls_inj n1 Fc.ns
    subst this
    obtain ⟨ox, od, ia⟩ := inst_of I.hok h1
    refine wpAny_pyReprUnder_ref (by omega) (repr_ownU r.room.units0 I.kIn ia hm.at_ hm.fn ?_)
    have dm1 : Dm S1 H1 := ⟨g1.dom dm.1, g1.tb dm.2⟩
    have hsp : @spD (anyG LT) X.K Φ fi [.ref a] H1 (fun v H' => v = .str t ∧ ∃ S', Gn S1 H1 S' H') E0 := by
      refine ⟨S1, [.fz (.obj c fs)], _, as', @Rel.mk (anyG LT) _ _ _ _ _ rfl (fun i s ov e1 e2 => ?_) (fun i j k l xs ys a e1 => ?_) dm1.1 dm1.2, hΦ, fun i k xs e => ?_, fun S' v H' g rel rn => ?_⟩
      · match i, e1, e2 with
        | 0, e1, e2 => cases e1; cases e2; exact ⟨_, rfl, hv2⟩
        | i + 1, e1, e2 => cases e1
      · match i, e1 with
        | 0, e1 => cases e1
        | i + 1, e1 => cases e1
      · match i, e with
        | 0, e => cases e
        | i + 1, e => cases e
      · have no : ∀ p, ¬ Own [Sl.fz (.obj c fs)] (([V.ref a] : List V).map some) p := fun p ⟨i, k, xs, e1, _⟩ => by
          match i, e1 with
          | 0, e1 => cases e1
          | i + 1, e1 => cases e1
        refine ⟨?_, S', g.sub, fun p hp => (g.new p hp).imp id fun h => h.resolve_right (no p), fun p o hp nt => g.keep p o hp (nt := nt) (no p), fun _ => @Rel.dom (anyG LT) _ _ _ _ _ rel, g.stay, fun _ => @Rel.tb (anyG LT) _ _ _ _ _ rel⟩
        cases rn
        rfl
    have e0 : Env0 X.prog X.w X.K X.mg X.base A X.stack s H1 := by
      have e := I.env0
      exact ⟨by rw [r.fr]; exact e.frames, e.mod, e.bs, e.bsz, e.funs, e.frf, e.hok, e.bare⟩
    refine wpAny_call (codeAny_mono (@FnG.run (anyG LT) _ _ _ _ _ _ _ _ _ _ _ G A X.stack s H1 ⟨[.ref a], []⟩ [.ref a] [.ref a] _ E0 r.room trivial e0 (hb s [.ref a] [] _ I.kIn rfl rfl rfl) (.cons rfl .nil) hsp) fun r s' hq => ?_)
    cases r with
    | error e => exact hx pins σ H1 s e s' I hq
    | ok fl =>
      cases fl with
      | ret w =>
        obtain ⟨z, H', I', rz, ez, S', g⟩ := I.after hq
        subst ez
        obtain ⟨tk, rfl⟩ := rz
        exact ⟨t, tk, rfl, t, tk, rfl, rfl, S', H', I', g1.trans g⟩
      | next => exact False.elim hq
      | brk => exact False.elim hq
      | cont => exact False.elim hq
end
theorem mapM_get {α β : Type} {f : α → Option β} : ∀ {l : List α} {ts : List β}, l.mapM f = some ts → ts.length = l.length ∧ ∀ (i : Nat) (d : α), l[i]? = some d → ∃ t, ts[i]? = some t ∧ f d = some t
  | [], ts, h => by
    rw [List.mapM_nil] at h
    cases h
    exact ⟨rfl, fun i d e => by simp at e⟩
  | x :: l, ts, h => by
    rw [List.mapM_cons] at h
    cases q : f x with
    | none => rw [q] at h; cases h
    | some y =>
      rw [q] at h
      cases q2 : l.mapM f with
      | none =>
        have h : (l.mapM f).bind (fun ys => some (y :: ys)) = some ts := h
        rw [q2] at h; cases h
      | some ys =>
        have h : (l.mapM f).bind (fun ys => some (y :: ys)) = some ts := h
        rw [q2] at h
        cases h
        obtain ⟨h1, h2⟩ := mapM_get q2
        refine ⟨by rw [List.length_cons, List.length_cons, h1], fun i d e => ?_⟩
        cases i with
        | zero => simp at e; subst e; exact ⟨y, rfl, q⟩
        | succ i => simp at e; obtain ⟨t, e1, e2⟩ := h2 i d e; exact ⟨t, by simpa using e1, e2⟩
theorem puresR_no : ∀ {ds : List D}, puresR ds = false → ∃ (i : Nat) (d : D), ds[i]? = some d ∧ pureR d = false
  | [], h => by cases h
  | d :: ds, h => by
    have h : (pureR d && puresR ds) = false := h
    cases q : pureR d with
    | false => exact ⟨0, d, rfl, q⟩
    | true =>
      rw [q, Bool.true_and] at h
      obtain ⟨i, d', e, n⟩ := puresR_no h
      exact ⟨i + 1, d', by simpa using e, n⟩
/-- the classes' own __repr__ -/
def AllG (X : Cx) (Φ : Calls) (k : Nat) (ms : List (Nat × Nat)) : Prop := ∀ c fi, ms.lookup c = some fi → RepG X Φ k c fi
section
variable {X : Cx} {Φ : Calls} {k : Nat} {ms : List (Nat × Nat)} {S : Addr → Prop} {H : Hp} {pins0 : List (Addr × Obj)} {σ0 : St} {s0 : Shared}
theorem txO_some {c : Nat} {xs : List D} {t : Str} (h : txO Φ ms c xs = some t) : ∃ fi as', ms.lookup c = some fi ∧ Φ fi [.fz (.obj c xs)] = some (.fz (.str t), as') := by
  unfold txO at h
  cases q : ms.lookup c with
  | none => rw [q] at h; cases h
  | some fi =>
    rw [q] at h
    have h : (match Φ fi [.fz (.obj c xs)] with | some (.fz (.str t), _) => some t | _ => none) = some t := h
    split at h
    · rename_i t' as' e
      cases h
      exact ⟨fi, as', rfl, e⟩
    · cases h
theorem repV_of (hx : Passes L2.CX0 X E0) (hM : AllG X Φ k ms) (I0 : L2.Inv X pins0 σ0 H s0) (dm : Dm S H) : ∀ (j : Nat) (v : V) (d : D) (t : Str), shO (txO Φ ms) j d = some t → Rp X.K S H v d →
    RepV X k j s0.heap S H v t ∧ (pureR d = false → ∃ a, v = .ref a ∧ Nr X.K H a)
  | 0, v, d, t, h, _ => by cases h
  | j + 1, v, d, t, h, hv => by
    unfold shO at h
    by_cases p : pureR d = true
    · rw [if_pos p] at h
      exact ⟨repV_pure h hv, fun q => by rw [p] at q; cases q⟩
    · rw [if_neg p] at h
      have items : ∀ {vs : List V} {ds : List D} {ts : List Str}, Rps X.K S H vs ds → ds.mapM (shO (txO Φ ms) j) = some ts → puresR ds = false → ts.length = vs.length ∧ (∀ (i : Nat) (v : V), vs[i]? = some v → ∃ t, ts[i]? = some t ∧ RepV X k j s0.heap S H v t) ∧ ∃ b, V.ref b ∈ vs ∧ Nr X.K H b := fun {vs ds ts} r m pn => by
        obtain ⟨m1, m2⟩ := mapM_get m
        refine ⟨by rw [m1, r.length], fun i v hi => ?_, ?_⟩
        · obtain ⟨d', e1, r'⟩ := r.getV hi
          obtain ⟨t', e2, e3⟩ := m2 i d' e1
          exact ⟨t', e2, (repV_of hx hM I0 dm j v d' t' e3 r').1⟩
        · obtain ⟨i, d', e1, n⟩ := puresR_no pn
          obtain ⟨v', e4, r'⟩ := r.get e1
          obtain ⟨t', e2, e3⟩ := m2 i d' e1
          obtain ⟨b, rfl, nr⟩ := (repV_of hx hM I0 dm j v' d' t' e3 r').2 n
          exact ⟨b, List.mem_of_getElem? e4, nr⟩
      cases d with
      | obj c xs =>
        obtain ⟨fi, as', e1, e2⟩ := txO_some h
        refine ⟨repV_obj hx (hM c fi e1) e2 dm hv, fun _ => ?_⟩
        cases hv with
        | obj n1 s1 h1 l1 p1 => exact ⟨_, rfl, .ins h1⟩
      | tup ds =>
        have h : (ds.mapM (shO (txO Φ ms) j)).bind (fun ts => if (tupleText ts).length ≤ sizeLine then some (tupleText ts) else none) = some t := h
        cases q : ds.mapM (shO (txO Φ ms) j) with
        | none => rw [q] at h; cases h
        | some ts =>
          rw [q] at h
          have h : (if (tupleText ts).length ≤ sizeLine then some (tupleText ts) else none) = some t := h
          split at h
          · cases h
            have ac := Rp.acc I0 hv
            cases hv with
            | tup hr rr =>
              obtain ⟨i1, i2, b, hb, nb⟩ := items rr q (show puresR ds = false from Bool.eq_false_iff.mpr p)
              have nr : Nr X.K H _ := .seq (.inr hr.sq) hb nb
              exact ⟨repV_tup I0 hr.sq i1 i2 (ac _ rfl) nr, fun _ => ⟨_, rfl, nr⟩⟩
          · cases h
      | lst ds =>
        have h : (ds.mapM (shO (txO Φ ms) j)).bind (fun ts => if (listText ts).length ≤ sizeLine then some (listText ts) else none) = some t := h
        cases q : ds.mapM (shO (txO Φ ms) j) with
        | none => rw [q] at h; cases h
        | some ts =>
          rw [q] at h
          have h : (if (listText ts).length ≤ sizeLine then some (listText ts) else none) = some t := h
          split at h
          · cases h
            have ac := Rp.acc I0 hv
            cases hv with
            | lst hr rr =>
              obtain ⟨i1, i2, b, hb, nb⟩ := items rr q (show puresR ds = false from Bool.eq_false_iff.mpr p)
              have nr : Nr X.K H _ := .seq (.inl hr.sq) hb nb
              exact ⟨repV_lst I0 hr.sq (fun z => by rw [z] at hb; cases hb) i1 i2 (ac _ rfl) nr, fun _ => ⟨_, rfl, nr⟩⟩
          · cases h
      | _ => cases h
end
end DL
end
section
set_option autoImplicit false
/-! DLrm: repr of lists with instances inside: the call. -/
namespace DL
open PySem L2
open PySem.Builtin
variable [LT : LTabs]
section
variable {X : Cx} {Φ : Calls} {k : Nat} {ms : List (Nat × Nat)}
def rRpr (X : Cx) (Φ : Calls) (ms : List (Nat × Nat)) : List V → Hp → VK → Prop := fun vs H Q => ∃ S d t v, vs = [v] ∧ Dm S H ∧ Vd X.K S H v d ∧ shT (txO Φ ms) d = some t ∧ ∀ S' H', Gn S H S' H' → Q (.str t) H'
theorem call_rpr (hr : Room (k + 1) X.A) (hg : X.A.guards = some []) (hx : Passes L2.CX0 X E0) (hM : AllG X Φ k ms) : CallR X (.builtin "repr") (rRpr X Φ ms) := by
  intro pins s σ H vs us Q I r ⟨S, d, t, v, ev, dm, w, h, q⟩
  subst ev
  unfold shT at h
  by_cases p : pureR d = true
  · rw [if_pos p] at h
    refine cr_reprD hg (by have := hr.un; omega) pins s σ H [v] us Q I r ⟨S, [d], .fz (.str t), dm.1, .cons w .nil, ?_, fun S' v' H' g rn => ?_⟩
    · unfold shP at h
      split at h
      · rename_i hz
        cases h
        cases d <;> first | exact if_pos hz | rfl | (cases p; done)
      · cases h
    · cases rn
      exact q S' H' g
  · rw [if_neg p] at h
    cases d with
    | lst ds =>
      have h : shO (txO Φ ms) 4 (.lst ds) = some t := h
      unfold shO at h
      rw [if_neg p] at h
      have h : (ds.mapM (shO (txO Φ ms) 3)).bind (fun ts => if (listText ts).length ≤ sizeLine then some (listText ts) else none) = some t := h
      cases qm : ds.mapM (shO (txO Φ ms) 3) with
      | none => rw [qm] at h; cases h
      | some ts =>
        rw [qm] at h
        have h : (if (listText ts).length ≤ sizeLine then some (listText ts) else none) = some t := h
        split at h
        · rename_i hz
          cases h
          obtain ⟨a, ws, rfl, ha, rr⟩ := w.lst
          obtain ⟨u, rfl, ru⟩ := vals1 r
          obtain rfl : u = Value.ref a := ru
          have hs : SqL X.K H a ws := .inl (.inl ha)
          obtain ⟨m1, m2⟩ := mapM_get qm
          have hlen : ts.length = ws.length := by rw [m1, rr.length]
          have hT : ∀ (i : Nat) (v : V), ws[i]? = some v → ∃ t, ts[i]? = some t ∧ RepV X k 3 s.heap S H v t := fun i v hi => by
            obtain ⟨d', e1, r'⟩ := rr.getV hi
            obtain ⟨t', e2, e3⟩ := m2 i d' e1
            exact ⟨t', e2, (repV_of hx hM I dm 3 v d' t' e3 r').1⟩
          obtain ⟨i, d', e1, n⟩ := puresR_no (show puresR ds = false from Bool.eq_false_iff.mpr p)
          obtain ⟨v', e4, r'⟩ := rr.get e1
          obtain ⟨t', e2, e3⟩ := m2 i d' e1
          obtain ⟨b, rfl, nb⟩ := (repV_of hx hM I dm 3 v' d' t' e3 r').2 n
          have hb := List.mem_of_getElem? e4
          have nr : Nr X.K H a := .seq (.inl hs) hb nb
          obtain ⟨its, rv, ⟨o, n', ho, hc, _, hd⟩, _⟩ := I.list hs
          have hTy : s.TypeIs (.ref a) "list" := ⟨o, ho, hc⟩
          have sr : SubR X k (3 + 1) X.A.in1 [] [] := ⟨hr.hd, by have := hr.dp; show X.A.depth + 3 * k + 4 + 4 < _; omega, by have := hr.un; show X.A.units + 1 + 16 * k + 2 * 4 + 200 < _; omega, rfl, hg, fun b _ => Clear.nil b⟩
          refine call_repr_slot (by have := hr.un; omega) hTy F.slot_list_repr.toG (wpAny_call (codeAny_call_builtin F.slot_list_repr.plain F.entry_list_repr (F.slot_list_repr.check _ _ _ _ _ _ _ _ hTy (F.args_list_repr_1 _) ?_)))
          refine reprAtI (R := callEnd _ X.xe) (base := 0) (h0 := s.heap) hs (fun z => by rw [z] at hb; cases hb) hlen hT (by omega) sr (fun z => nomatch z) (fun b hb a' ha' => ?_) (fun a' ha' => ?_) (fun e s' h => h) (fun s' u z => ?_) I .refl
          · rcases List.mem_cons.mp ha' with rfl | ha'
            · exact .single ⟨o, _, n', ho, .inl hc, hd, by simpa using ref_vals rv hb⟩
            · cases ha'
          · rcases List.mem_cons.mp ha' with rfl | ha'
            · exact nr
            · cases ha'
          · obtain ⟨S', H', I', g⟩ := z
            exact ⟨_, _, rfl, .str _, H', I', ⟨_, rfl⟩, q S' H' g⟩
        · cases h
    | _ => cases h
end
section
variable {X : Cx} {Φ : Calls} {k : Nat} {ms : List (Nat × Nat)} {a : Expr} {ia : E} {p pos : Pos}
theorem de_rpr (hr : Room (k + 1) X.A) (hg0 : X.A.guards = some []) (hx : Passes L2.CX0 X E0) (hM : AllG X Φ k ms) (hg : Gl X "repr") (hm : X.mg "repr" = none) (ha : PE X a (tD X.K (ev Φ ia)))
    (he : starEach [a] X.env = (false, eval a X.env) :: starEach [] X.env := by rfl) (hpl : (PySem.backTo pos (starEach [] X.env)).any (·.1) = false := by rfl) :
    PE X (.Call (.Name "repr" p) [a] [] pos) (tD X.K (ev Φ (.rpr ms ia))) :=
  peImp (pe_callB (call_rpr hr hg0 hx hM) hg hm bt_repr (pa_cons ha pa_nil he) (by decide) (by decide) he hpl) fun σ H Q q => by
    obtain ⟨S, ρ, r, ρ', rel, e, q⟩ := q
    rw [show ev Φ (.rpr ms ia) ρ = _ from by rw [ev]] at e
    obtain ⟨x, ρ1, e1, h1⟩ := bnd_eq e
    obtain ⟨d, ρ2, e2, h2⟩ := bnd_eq h1
    obtain ⟨t, ρ3, e3, h3⟩ := bnd_eq h2
    obtain ⟨q1, q2⟩ := ret_eq h3
    subst q1 q2
    obtain ⟨e4, q3⟩ := ofO_eq e3
    subst q3
    have e2' : view ρ1 x = some d ∧ ρ' = ρ1 := by
      unfold vw at e2
      cases qv : view ρ1 x with
      | none => rw [qv] at e2; cases e2
      | some d' => rw [qv] at e2; cases e2; exact ⟨rfl, rfl⟩
    obtain ⟨v1, rfl⟩ := e2'
    exact ⟨S, ρ, x, ρ', rel, e1, fun S1 v H1 g1 rel1 r1 => ⟨S1, d, t, v, rfl, ⟨rel1.dom, rel1.tb⟩, r1.view rel1 v1, e4, fun S' H' g => q S' _ H' (g1.trans g.go) (rel1.gn g) (.str _)⟩⟩
/-- the evidence: a class's own __repr__ -/
theorem allG1 {c fi : Nat} (h : RepG X Φ k c fi) : AllG X Φ k [(c, fi)] := fun c' fi' e => by
  unfold List.lookup at e
  cases q : c' == c with
  | true => rw [q] at e; cases e; rw [beq_iff_eq.mp q]; exact h
  | false => rw [q] at e; cases e
end
end DL
end
section
set_option autoImplicit false
/-! DLxl: what raises inside of tests, comparisons, alternatives; the facts that lambdas want. -/
namespace DL
open PySem L2
variable [LTabs]
/-! ### the errors' kinship -/
/-- all tables at P are of one lambda -/
theorem hu_of {P : Addr} {q : Str} (h : (LTabs.T.all fun p => !(p.1 == P) || p.2 == q) = true) : ∀ p ∈ LTabs.T, p.1 = P → p.2 = q := fun p hp e => by
  have := List.all_eq_true.mp h p hp
  rw [e] at this
  simpa using this
/-- the errors' classes -/
def Dn (K : PySem.W.Frag) (j : Nat) : Addr := He.ga K (xName j)
structure KinF (K : PySem.W.Frag) (mg : Str → Option Value) (c : Nat) : Prop where
  mg : ∀ j, j < 26 → mg (xName j) = some (.ref (Dn K j))
  kit : ∀ j, j < 26 → PySem.W.kitOne K (.ref (Dn K c)) (.ref (Dn K j)) = some (j == c)
  any : PySem.W.exmAny K (.ref (Dn K c)) [.ref (He.ga K "BandError"), .ref (He.ga K "StateError"), .ref (He.ga K "SizeError")] = some true
  no : ∀ f ∈ xFlds c, PySem.W.findIn K (.ref (Dn K c)) f = some none
  b1 : PySem.W.kitOne K (.ref (Dn K c)) (.ref (He.ga K "BandError")) = some (decide (c < 18))
  b2 : PySem.W.kitOne K (.ref (Dn K c)) (.ref (He.ga K "StateError")) = some (decide (17 < c) && decide (c < 21))
  b3 : PySem.W.kitOne K (.ref (Dn K c)) (.ref (He.ga K "SizeError")) = some (decide (20 < c))
  t1 : PySem.W.kitOne K (.ref (Dn K c)) (.type "ValueError") = some (decide (c < 18))
  t2 : PySem.W.kitOne K (.ref (Dn K c)) (.type "LookupError") = some (decide (17 < c) && decide (c < 21))
  t3 : PySem.W.kitOne K (.ref (Dn K c)) (.type "ArithmeticError") = some (decide (20 < c))
  ns : PySem.W.nsIn K mainGlobals (xName c) = some (some (.ref (Dn K c)))
  exc : ExcC K (Dn K c)
  xf : XfC K (Dn K c)
theorem KinF.kf {X : Cx} {c : Nat} (h : KinF X.K X.mg c) : L2.KindF X c (Dn X.K c) (Dn X.K) := ⟨h.mg, h.kit, h.no, h.exc, h.xf⟩
theorem kin_ok {K : PySem.W.Frag} {h : Heap} {mg : Str → Option Value} {c : Nat} (X : K.In h) (G : h.Ns mainGlobals mg) (hk : (Fb.kin c).ok K = true) (he : (Fb.exi (xName c)).ok K = true) (hn : Fb.nms.ok K = true) : KinF K mg c := by
  obtain ⟨k1, hk⟩ := He.ba hk
  obtain ⟨k2, hk⟩ := He.ba hk
  obtain ⟨k3, hk⟩ := He.ba hk
  obtain ⟨k4, hk⟩ := He.ba hk
  obtain ⟨k5, hk⟩ := He.ba hk
  obtain ⟨k6, hk⟩ := He.ba hk
  obtain ⟨k7, hk⟩ := He.ba hk
  obtain ⟨k8, hk⟩ := He.ba hk
  obtain ⟨k9, k10⟩ := He.ba hk
  obtain ⟨e1, e2⟩ := exi_ok he
  exact ⟨fun j hj => PySem.W.mg_of X G (He.eqO_ok (List.all_eq_true.mp hn j (List.mem_range.mpr hj))), fun j hj => of_decide_eq_true (List.all_eq_true.mp k1 j (List.mem_range.mpr hj)), of_decide_eq_true k2,
    fun f hf => He.eqO_ok (List.all_eq_true.mp k3 f hf), of_decide_eq_true k4, of_decide_eq_true k5, of_decide_eq_true k6, of_decide_eq_true k7, of_decide_eq_true k8, of_decide_eq_true k9, He.eqO_ok k10, e1, e2⟩
theorem rh_units {k : Nat} {A : Around} (r : L2H.RoomH k A) : A.units + 64 < cLine := by have := r.un; omega
theorem rh_units5 {k : Nat} {A : Around} (r : L2H.RoomH k A) : A.units + 65 < cLine := by have := r.un; omega
/-- the slots of `_law_kind` behind its lists -/
theorem kd_slots {ls : List (Nat × List Bool)} {kb bb ob : List Bool} (h1 : (1, kb) ∈ ls) (h2 : (2, bb) ∈ ls) (h3 : (3, ob) ∈ ls) : ∀ (i : Nat) (s : Sl), [Sl.un, .ls .own (kb.map D.bl), .ls .own (bb.map D.bl), .ls .own (ob.map D.bl), .un, .un][i]? = some s → s = .un ∨ ∃ bs, (i, bs) ∈ ls ∧ s = .ls .own (bs.map D.bl)
  | 0, _, h => by cases h; exact .inl rfl
  | 1, _, h => by cases h; exact .inr ⟨_, h1, rfl⟩
  | 2, _, h => by cases h; exact .inr ⟨_, h2, rfl⟩
  | 3, _, h => by cases h; exact .inr ⟨_, h3, rfl⟩
  | 4, _, h => by cases h; exact .inl rfl
  | 5, _, h => by cases h; exact .inl rfl
  | _ + 6, _, h => by cases h
/-! ### count and index of truths -/
section
variable {X : Cx} {Φ : Calls} {a b : Expr} {pos apos cpos : Pos} {ia ib : E}
theorem dpBs {K : PySem.W.Frag} {H : Hp} : ∀ bs : List Bool, DpAll K H (bs.map V.bl) (bs.map PyData.bool)
  | [] => .nil
  | b :: r => .cons (.bl b) (dpBs r)
theorem layBs : ∀ bs : List Bool, PyData.canLayAll0 (bs.map PyData.bool) = true
  | [] => rfl
  | _ :: r => by show (_ && PyData.canLayAll0 (r.map PyData.bool)) = true; rw [layBs r]; rfl
theorem dpthBs : ∀ bs : List Bool, PyData.depthAll (bs.map PyData.bool) = 0
  | [] => rfl
  | _ :: r => by show max _ (PyData.depthAll (r.map PyData.bool)) = 0; rw [dpthBs r]; rfl
theorem shBs (bs : List Bool) : SeqAt.shaped (.list (bs.map PyData.bool)) = true := by
  show (PyData.canLayAll0 (bs.map PyData.bool) && decide (PyData.depthAll (bs.map PyData.bool) + 1 ≤ 64)) = true
  rw [layBs, dpthBs]; rfl
theorem vals_blsB : ∀ {bs : List Bool} {us : List Value}, Vals (bs.map V.bl) us → us = bs.map Value.bool
  | [], _, .nil => rfl
  | c :: cs, _, .cons h r => by
    rw [vals_blsB r]
    exact congrArg (· :: _) h
theorem eqvB (a b : Bool) : PyData.eqv (.bool a) (.bool b) = (a == b) := by cases a <;> cases b <;> decide
def rCntB (K : PySem.W.Frag) : V → List V → Hp → VK → Prop := fun x xs H Q => ∃ (p : Addr) (bs : List Bool) (k : Bool), x = .ref p ∧ xs = [.bl k] ∧ SqL K H p (bs.map V.bl) ∧ Q (.int (bs.count k : Nat)) H
theorem cntP_bl {h : Heap} {k : Bool} : ∀ bs : List Bool, (bs.map Value.bool).countP (fun u => PyData.eqv (SeqAt.readOf h u) (.bool k)) = bs.count k
  | [] => rfl
  | b :: r => by
    rw [List.map_cons, List.countP_cons, cntP_bl r, List.count_cons]
    have e : SeqAt.readOf h (Value.bool b) = .bool b := SeqAt.readOf_eq (d := .bool b) rfl (.bool b)
    rw [e, eqvB]
open PySem.Spec PyProof.Rows in
theorem mt_lcountB (hu : X.A.units + 65 < cLine) : MtR X "list.count" (rCntB X.K) := by
  intro pins s σ H x xs v us Q I rx rxs h
  obtain ⟨p, bs, k, rfl, rfl, hs, q⟩ := h
  cases rx
  obtain ⟨u, rfl, ru⟩ := rxs.one
  obtain rfl : u = Value.bool k := ru
  obtain ⟨its, rv, ⟨⟨cls, dd, data, sl⟩, n, ho, hc, hdn, hd⟩, hlen⟩ := I.list hs
  simp only at hc hd
  subst hc hd
  obtain ⟨as, h4⟩ := Dp.readsAll I (bs.map PyData.bool) _ its (dpBs bs) rv
  refine call_meets PySem.F.slot_list_count ⟨_, ho, rfl⟩ PySem.F.entry_list_count (PySem.F.args_list_count_2 _ _)
    (SeqAt.list_countAt p its.toArray n dd sl (.bool k) (fun u => PyData.eqv (SeqAt.readOf s.heap u) (.bool k))) ⟨ho, SeqAt.items_eqAt (vs := its.toArray) (show ReadsAll s.heap its.toArray.toList _ as from h4) (.bool k) (layBs bs) rfl (by rw [dpthBs]; simp; show X.A.units + 1 < cLine; omega), ?_⟩
  refine ⟨.int (bs.count k : Nat), H, I.tok _, ⟨s.toks, ?_⟩, q⟩
  have e := vals_blsB rv
  subst e
  show Value.int (((bs.map Value.bool).countP _ : Nat) : Int) s.toks = _
  rw [cntP_bl]
theorem de_cntB {i : Nat} (hu : X.A.units + 65 < cLine) (ha : PE X a (tVar i)) (hb : PE X b (tD X.K (ev Φ ib)))
    (hbase : attributeBase a "count" X.env (eval a X.env) = eval a X.env := by rfl)
    (h1 : ((((PySem.backTo cpos (starEach [b] X.env)).all fun x => !x.1) && (backToKw cpos (keywordEach [] X.env)).all fun x => x.1.isSome) && decide (([b].length + ([] : List Keyword).length + if ([] : List Keyword).isEmpty = true then 0 else 1) < 30)) = true := by rfl)
    (h2 : (apos.endLine == cpos.line) = true := by rfl) (h3 : starEach [b] X.env = (false, eval b X.env) :: starEach [] X.env := by rfl) (h4 : ((PySem.backTo cpos (starEach [] X.env)).any fun x => x.1) = false := by rfl) :
    PE X (.Call (.Attribute a "count" apos) [b] [] cpos) (tD X.K (ev Φ (.bi .cntB (.cons (.var i) (.cons ib .nil))))) :=
  peImp (pe_bm PySem.F.plainAttrs_list PySem.F.slot_list_count ty_list_count (mt_lcountB hu) ha (pa_cons hb pa_nil h3) hbase h1 h2 h3 h4) fun σ H Q q => by
    obtain ⟨S, ρ, r, ρ', rel, e, q⟩ := q
    obtain ⟨y, z, ρ1, d, f, e1, e2, v1, v2, e3⟩ := bi2_split e
    cases d <;> (try (cases e3; done))
    cases f <;> (try (cases e3; done))
    rename_i xs k
    have e3 : ((boolsD xs).map fun ns => R.fz (.int (ns.count k : Nat))) = some r := e3
    cases q3 : boolsD xs with
    | none => rw [q3] at e3; cases e3
    | some ns =>
      rw [q3] at e3
      cases e3
      obtain ⟨q0, v, ev, ty, hL⟩ := varL_two rel e1 v1
      subst q0
      refine ⟨v, ev, ty, S, ρ1, z, ρ', rel, e2, fun S2 w H2 g2 rel2 r2 => ?_⟩
      obtain ⟨p, vs, rfl, hl, ra⟩ := hL S2 H2 g2 rel2
      have := (r2.view rel2 v2).b
      subst this
      have := ra.boolsD q3
      subst this
      exact ⟨p, ns, k, rfl, rfl, .inl (.inl hl), q S2 _ H2 g2 rel2 (.int _)⟩
theorem de_idxB {i : Nat} (hu : X.A.units + 65 < cLine) (ha : PE X a (tVar i)) (hb : PE X b (tD X.K (ev Φ ib)))
    (hbase : attributeBase a "index" X.env (eval a X.env) = eval a X.env := by rfl)
    (h1 : ((((PySem.backTo cpos (starEach [b] X.env)).all fun x => !x.1) && (backToKw cpos (keywordEach [] X.env)).all fun x => x.1.isSome) && decide (([b].length + ([] : List Keyword).length + if ([] : List Keyword).isEmpty = true then 0 else 1) < 30)) = true := by rfl)
    (h2 : (apos.endLine == cpos.line) = true := by rfl) (h3 : starEach [b] X.env = (false, eval b X.env) :: starEach [] X.env := by rfl) (h4 : ((PySem.backTo cpos (starEach [] X.env)).any fun x => x.1) = false := by rfl) :
    PE X (.Call (.Attribute a "index" apos) [b] [] cpos) (tD X.K (ev Φ (.bi .idxB (.cons (.var i) (.cons ib .nil))))) :=
  peImp (pe_bm PySem.F.plainAttrs_list PySem.F.slot_list_index ty_list_index (mt_indexD hu) ha (pa_cons hb pa_nil h3) hbase h1 h2 h3 h4) fun σ H Q q => by
    obtain ⟨S, ρ, r, ρ', rel, e, q⟩ := q
    obtain ⟨y, z, ρ1, d, f, e1, e2, v1, v2, e3⟩ := bi2_split e
    cases d <;> (try (cases e3; done))
    cases f <;> (try (cases e3; done))
    rename_i xs k
    have e3 : ((boolsD xs).bind fun ns => (ns.findIdx? fun i => i == k).map fun j => R.fz (.int (j : Nat))) = some r := e3
    cases q3 : boolsD xs with
    | none => rw [q3] at e3; cases e3
    | some ns =>
      rw [q3] at e3
      have e3 : ((ns.findIdx? fun i => i == k).map fun j => R.fz (.int (j : Nat))) = some r := e3
      cases q4 : ns.findIdx? fun i => i == k with
      | none => rw [q4] at e3; cases e3
      | some j =>
        rw [q4] at e3
        cases e3
        obtain ⟨hj, hk, hno⟩ := List.findIdx?_eq_some_iff_getElem.mp q4
        obtain ⟨q0, v, ev, ty, hL⟩ := varL_two rel e1 v1
        subst q0
        refine ⟨v, ev, ty, S, ρ1, z, ρ', rel, e2, fun S2 w H2 g2 rel2 r2 => ?_⟩
        obtain ⟨p, vs, rfl, hl, ra⟩ := hL S2 H2 g2 rel2
        have := (r2.view rel2 v2).b
        subst this
        have := ra.boolsD q3
        subst this
        refine ⟨p, .bl k, .bool k, ns.map PyData.bool, j, .bool ns[j], rfl, rfl, .lst (.inl (.inl hl)) (dpBs ns), .bl k, shBs ns, rfl, ?_, ?_, fun m z' hm hz => ?_, q S2 _ H2 g2 rel2 (.int _)⟩
        · rw [List.getElem?_map, List.getElem?_eq_getElem hj]; rfl
        · rw [eqvB]; exact hk
        · have hml : m < ns.length := by omega
          rw [List.getElem?_map, List.getElem?_eq_getElem hml] at hz
          cases hz
          rw [eqvB]
          have := hno m hm
          simpa using this
end
/-- the def's code object, as the head says it -/
theorem code_of {K : PySem.W.Frag} {x qual : Str} {st : Stmt} {f : Addr} {fd : FuncData} {dV : Value} {c : Addr} (F : FunW K x qual st f fd dV) (h : CdK K f c) : CodeOf K f (.ref c) := by
  obtain ⟨oc, od, kv, dc, pm, an, cd, ct, osl, efd, lk, cin⟩ := F.ex
  obtain ⟨oc2, od2, G, sl, lk2, hc⟩ := h
  have e := lk.symm.trans lk2
  cases e
  subst efd
  have hc : cd = .ref c := hc
  subst hc
  exact ⟨oc, od, x, qual, _, _, _, dV, kv, dc, pm, an, ct, osl, lk⟩
end DL
end
section
set_option autoImplicit false
/-! DLxm: what raises inside of a loop. -/
namespace DL
open PySem L2
variable [LTabs]
section
variable {X : Cx} {W : WX} {Φ : Calls} {pos : Pos} {tg : Tg} {is : Ss} {t iter : Expr} {it : DL.It} {body : List Stmt}
/-- a raising statement ahead of what does not raise -/
theorem dxs_last {st : Stmt} {sts : List Stmt} {s1 : S} (h2 : PS X st (tXS X.K W (xexec Φ s1))) (hn : ∀ ρ, xexecs Φ is ρ = none) : PSs X (st :: sts) (tXS X.K W (xexecs Φ (.cons s1 is))) :=
  pssImp (pss_cons h2 pss_never) fun D σ H q => by
    obtain ⟨S, ρ, c, fs, ρ', rel, e, q⟩ := q
    simp only [xexecs] at e
    cases q1 : exec Φ s1 ρ with
    | stk =>
      rw [q1] at e
      exact ⟨S, ρ, c, fs, ρ', rel, e, q⟩
    | ok fl ρ1 =>
      rw [q1] at e
      cases fl with
      | nx => exact absurd ((hn ρ1).symm.trans e) (by simp)
      | rt r => cases e
      | bk => cases e
      | ct => cases e
end
/-! ### the first part raises -/
end DL
end
section
set_option autoImplicit false
/-! DLxn: methods and makes with keywords that raise; __init__ that raises. -/
namespace DL
open PySem L2
variable [LTabs]
section
variable {X : Cx} {W : WX} {Φ : Calls} {k : Nat} {f C : Addr} {fd : FuncData} {ps ks : List Str} {sp : Sp} {x m : Str} {p pos apos : Pos} {e o : Expr} {es : List Expr} {kws : List Keyword} {t tk : TA} {te ta : TE} {perm : List Nat} {n c fi : Nat} {dws : List Value} {dvs : List V} {ies iks : As} {dds : List D}
/-! ### makes that raise -/
/-! ### methods of any classes, with keywords, that raise -/
structure MethXk (X : Cx) (Φ : Calls) (m : Str) (n : Nat) (ks : List Str) (perm : List Nat) (dds : List D) (c fi : Nat) : Prop where
  ex : ∃ (C f : Addr) (fd : FuncData) (ps : List Str) (k : Nat) (dws : List Value) (dvs : List V), ClsF X.K c C ∧ Meth X.K C m f ∧ FnG X.prog X.w X.K X.mg X.base (L2.CX X.prog X.w) k f fd ps (spX X.K Φ fi) ∧ Room k X.A ∧ BindPd X.K fd ps (n + 1) ks dws perm ∧ Vals dvs dws ∧ Csts X.K dvs dds
  no : (cFlds c).contains m = false
def AllXk (X : Cx) (Φ : Calls) (m : Str) (n : Nat) (ks : List Str) (perm : List Nat) (dds : List D) : List (Nat × Nat) → Prop
  | [] => True
  | (c, fi) :: r => MethXk X Φ m n ks perm dds c fi ∧ AllXk X Φ m n ks perm dds r
theorem AllXk.at {ms : List (Nat × Nat)} : AllXk X Φ m n ks perm dds ms → ms.lookup c = some fi → MethXk X Φ m n ks perm dds c fi := by
  induction ms with
  | nil => intro _ h; cases h
  | cons a r ih =>
    obtain ⟨c', i'⟩ := a
    intro h e
    unfold List.lookup at e
    cases q : c == c' with
    | true =>
      rw [q] at e
      cases e
      have := beq_iff_eq.mp q
      subst this
      exact h.1
    | false => rw [q] at e; exact ih h.2 e
end
end DL
end
section
set_option autoImplicit false
namespace DL
open PySem L2
def Pool (xs : List D) : Prop := ∃ s g c : Int, xs = [.int s, .int g, .int c] ∧ 0 ≤ s ∧ s < 1000000007 ∧ 0 ≤ g ∧ 0 ≤ c
structure Mk (n : Int) (ms : List Int) : Prop where
  pw : ms.Pairwise (· < ·)
  bd : ∀ m ∈ ms, 1 ≤ m ∧ m ≤ n
def cnt (ms : List Int) (x : Int) : Int := ((ms.filter (fun m => decide (m ≤ x))).length : Int)
abbrev cellB : Ss := .cons (.asg (.nm 2) (.bin .mod (.bin .add (.bin .mul (.var 2) (.cst (.int 30011))) (.var 3)) (.cst (.int 1000000007)))) .nil
def Loose (s : Sl) : Prop := s = .un ∨ ∃ d, s = .fz d
theorem ints_of : ∀ ms : List Int, intsD (ms.map D.int) = some ms
  | [] => rfl
  | m :: ms => by
    show (intsD (ms.map D.int)).map (m :: ·) = _
    rw [ints_of ms]; rfl
variable {x : Int} {lo hi : List Int}
end DL
end
section
set_option autoImplicit false
/-! DLgb: loops over mapped lists; racks; trees of parts. -/
namespace DL
open PySem L2
/-! ### loops -/
section
variable {P : Type} {g : P → D}
theorem forL_map {step : D → M Fl} (g : P → D) (I : List P → Ev → Prop) : ∀ (ps done : List P) (ρ : Ev), I done ρ → (∀ (d : List P) (p : P) (ρ : Ev), p ∈ ps → I d ρ → ∃ ρ', (step (g p) ρ = .ok .nx ρ' ∨ step (g p) ρ = .ok .ct ρ') ∧ I (d ++ [p]) ρ') →
    ∃ ρ', forL step (ps.map g) ρ = .ok .nx ρ' ∧ I (done ++ ps) ρ'
  | [], done, ρ, h, _ => ⟨ρ, rfl, by rw [List.append_nil]; exact h⟩
  | p :: ps, done, ρ, h, hs => by
    obtain ⟨ρ1, e, h1⟩ := hs done p ρ (List.mem_cons_self ..) h
    obtain ⟨ρ2, e2, h2⟩ := forL_map g I ps (done ++ [p]) ρ1 h1 fun d q ρ hq hI => hs d q ρ (List.mem_cons_of_mem _ hq) hI
    refine ⟨ρ2, ?_, by rw [List.append_assoc] at h2; exact h2⟩
    show (step (g p) ρ).then _ = _
    rcases e with e | e <;> (rw [e]; exact e2)
theorem cmpL_map {step : D → M (Option D)} {ρ : Ev} {f : P → Option D} : ∀ (ps : List P) (acc : List D), acc.length + ps.length ≤ sizeLine → (∀ p ∈ ps, step (g p) ρ = .ok (f p) ρ) → cmpL step (ps.map g) acc ρ = .ok (acc ++ ps.filterMap f) ρ
  | [], acc, _, _ => by rw [List.filterMap_nil, List.append_nil]; rfl
  | p :: ps, acc, hl, hs => by
    rw [List.length_cons] at hl
    have e := hs p (List.mem_cons_self ..)
    show (step (g p) ρ).then _ = _
    rw [e, List.filterMap_cons]
    cases q : f p with
    | none => exact cmpL_map ps acc (by omega) fun d h => hs d (List.mem_cons_of_mem _ h)
    | some y =>
      show (if acc.length < sizeLine then cmpL step (ps.map g) (acc ++ [y]) else stuck) ρ = _
      rw [if_pos (by omega)]
      refine (cmpL_map ps (acc ++ [y]) (by rw [List.length_append, List.length_singleton]; omega) fun d h => hs d (List.mem_cons_of_mem _ h)).trans ?_
      rw [List.append_assoc]
      rfl
end
/-! ### racks -/
/-! ### parts -/
inductive Pt where
  | lv (i : Int)
  | pr (ps : List Pt) (t : Int)
mutual
def dP : Pt → D
  | .lv i => .int i
  | .pr ps t => .tup [.tup (dPs ps), .int t]
def dPs : List Pt → List D
  | [] => []
  | p :: ps => dP p :: dPs ps
end
theorem dPs_map : ∀ ps : List Pt, dPs ps = ps.map dP
  | [] => by simp [dPs]
  | p :: ps => by rw [dPs, dPs_map ps]; rfl
theorem dPs_app (ps qs : List Pt) : dPs (ps ++ qs) = dPs ps ++ dPs qs := by rw [dPs_map, dPs_map, dPs_map, List.map_append]
theorem dPs_len (ps : List Pt) : (dPs ps).length = ps.length := by rw [dPs_map, List.length_map]
/-- the size -/
def szP : Pt → Nat
  | .lv _ => 1
  | .pr ps _ => 1 + (ps.map szP).sum
def szPs (ps : List Pt) : Nat := (ps.map szP).sum
theorem szP_lv (i : Int) : szP (.lv i) = 1 := by unfold szP; rfl
theorem szP_pr (ps : List Pt) (t : Int) : szP (.pr ps t) = 1 + szPs ps := by unfold szP szPs; rfl
theorem szPs_nil : szPs [] = 0 := rfl
theorem szPs_cons (p : Pt) (ps : List Pt) : szPs (p :: ps) = szP p + szPs ps := by unfold szPs; rw [List.map_cons, List.sum_cons]
theorem szPs_app (ps qs : List Pt) : szPs (ps ++ qs) = szPs ps + szPs qs := by unfold szPs; rw [List.map_append, List.sum_append]
theorem szP_pos (p : Pt) : 1 ≤ szP p := by
  cases p with
  | lv i => rw [szP_lv]; exact Nat.le_refl _
  | pr ps t => rw [szP_pr]; omega
theorem len_sz (ps : List Pt) : ps.length ≤ szPs ps := by
  induction ps with
  | nil => exact Nat.le_refl _
  | cons p ps ih => rw [szPs_cons, List.length_cons]; have := szP_pos p; omega
/-- the depth -/
def maxN : List Nat → Nat
  | [] => 1
  | x :: xs => max x (maxN xs)
def dpP : Pt → Nat
  | .lv _ => 1
  | .pr ps _ => maxN (ps.map dpP) + 1
def dpPs (ps : List Pt) : Nat := maxN (ps.map dpP)
theorem dpP_lv (i : Int) : dpP (.lv i) = 1 := by unfold dpP; rfl
theorem dpP_pr (ps : List Pt) (t : Int) : dpP (.pr ps t) = dpPs ps + 1 := by unfold dpP dpPs; rfl
theorem dpPs_nil : dpPs [] = 1 := rfl
theorem dpPs_cons (p : Pt) (ps : List Pt) : dpPs (p :: ps) = max (dpP p) (dpPs ps) := by unfold dpPs; rw [List.map_cons]; rfl
theorem dpPs_pos (ps : List Pt) : 1 ≤ dpPs ps := by
  induction ps with
  | nil => exact Nat.le_refl _
  | cons p ps ih => rw [dpPs_cons]; omega
theorem dp_mem {p : Pt} {ps : List Pt} (h : p ∈ ps) : dpP p ≤ dpPs ps := by
  induction ps with
  | nil => cases h
  | cons q ps ih =>
    rw [dpPs_cons]
    rcases List.mem_cons.mp h with e | h
    · subst e; omega
    · have := ih h; omega
/-- levels from 1 to n, times from 1 to m -/
inductive OkP (n m : Int) : Pt → Prop
  | lv {i : Int} : 1 ≤ i → i ≤ n → OkP n m (.lv i)
  | pr {ps : List Pt} {t : Int} : (∀ p ∈ ps, OkP n m p) → 1 ≤ t → t ≤ m → OkP n m (.pr ps t)
abbrev OkPs (n m : Int) (ps : List Pt) : Prop := ∀ p ∈ ps, OkP n m p
theorem OkPs.app {n m : Int} {ps qs : List Pt} (h1 : OkPs n m ps) (h2 : OkPs n m qs) : OkPs n m (ps ++ qs) := fun p hp => (List.mem_append.mp hp).elim (h1 p) (h2 p)
theorem OkPs.one {n m : Int} {p : Pt} (h : OkP n m p) : OkPs n m [p] := fun q hq => by rw [List.mem_singleton] at hq; subst hq; exact h
theorem ok_sub {n m : Int} {ps : List Pt} {t : Int} (h : OkP n m (.pr ps t)) : OkPs n m ps ∧ 1 ≤ t ∧ t ≤ m := by cases h with | pr a b c => exact ⟨a, b, c⟩
theorem ok_lv {n m i : Int} (h : OkP n m (.lv i)) : 1 ≤ i ∧ i ≤ n := by cases h with | lv a b => exact ⟨a, b⟩
/-- induction over trees -/
theorem Pt.ind {Q : List Pt → Prop} (h0 : Q []) (hl : ∀ i ps, Q ps → Q (.lv i :: ps)) (hp : ∀ qs t ps, Q qs → Q ps → Q (.pr qs t :: ps)) : ∀ ps, Q ps
  | [] => h0
  | .lv i :: ps => hl i ps (Pt.ind h0 hl hp ps)
  | .pr qs t :: ps => hp qs t ps (Pt.ind h0 hl hp qs) (Pt.ind h0 hl hp ps)
end DL
namespace DL
open PySem L2
theorem maxN_app (a b : List Nat) (ha : ∀ x ∈ a, 1 ≤ x) : maxN (a ++ b) = max (maxN a) (maxN b) := by
  have one : ∀ l : List Nat, 1 ≤ maxN l := fun l => by
    induction l with
    | nil => exact Nat.le_refl _
    | cons x l ih => show 1 ≤ max x (maxN l); omega
  induction a with
  | nil => show maxN b = max 1 (maxN b); have := one b; omega
  | cons x a ih =>
    show max x (maxN (a ++ b)) = max (max x (maxN a)) (maxN b)
    rw [ih fun y hy => ha y (List.mem_cons_of_mem _ hy)]
    omega
theorem dpP_pos (p : Pt) : 1 ≤ dpP p := by
  cases p with
  | lv i => rw [dpP_lv]; exact Nat.le_refl _
  | pr ps t => rw [dpP_pr]; omega
theorem dpPs_app (ps qs : List Pt) : dpPs (ps ++ qs) = max (dpPs ps) (dpPs qs) := by
  unfold dpPs
  rw [List.map_append, maxN_app]
  intro x hx
  obtain ⟨p, _, rfl⟩ := List.mem_map.mp hx
  exact dpP_pos p
theorem dpPs_one (p : Pt) : dpPs [p] = dpP p := by rw [dpPs_cons, dpPs_nil]; have := dpP_pos p; omega
theorem szPs_one (p : Pt) : szPs [p] = szP p := by rw [szPs_cons, szPs_nil]; rfl
theorem szI (done : List Pt) (p : Pt) : ((szPs (done ++ [p]) : Nat) : Int) = (szPs done : Int) + (szP p : Int) := by rw [szPs_app, szPs_one]; rfl
theorem dpI (done : List Pt) (p : Pt) : ((dpPs (done ++ [p]) : Nat) : Int) = if (dpP p : Int) > (dpPs done : Int) then (dpP p : Int) else (dpPs done : Int) := by
  rw [dpPs_app, dpPs_one]
  split <;> omega
end DL
namespace DL
@[simp] theorem i_tupI {xs : List D} : isD (.tup xs) .int = false := rfl
@[simp] theorem i_tupB {xs : List D} : isD (.tup xs) .bool = false := rfl
@[simp] theorem i_lstI {xs : List D} : isD (.lst xs) .int = false := rfl
@[simp] theorem i_nonT : isD .non .tuple = false := rfl
@[simp] theorem i_nonI : isD .non .int = false := rfl
end DL
namespace DL
theorem forL_cons {step : D → M Fl} {x : D} {xs : List D} {ρ ρ1 : Ev} {r : Out Fl} (e : step x ρ = .ok .nx ρ1) (e2 : forL step xs ρ1 = r) : forL step (x :: xs) ρ = r := by
  show (step x ρ).then _ = _
  rw [e]
  exact e2
end DL
namespace DL
open PySem L2
/-! ### bounds -/
theorem sz_mem {p : Pt} {ps : List Pt} (h : p ∈ ps) : szP p ≤ szPs ps := by
  induction ps with
  | nil => cases h
  | cons q ps ih =>
    rw [szPs_cons]
    rcases List.mem_cons.mp h with e | h
    · subst e; omega
    · have := ih h; omega
/-- a loop over a mapped list, with what is left -/
theorem forL_mapR {P : Type} {step : D → M Fl} (g : P → D) (I : List P → Ev → Prop) : ∀ (ps done : List P) (ρ : Ev), I done ρ → (∀ (d : List P) (p : P) (r : List P) (ρ : Ev), done ++ ps = d ++ p :: r → I d ρ → ∃ ρ', (step (g p) ρ = .ok .nx ρ' ∨ step (g p) ρ = .ok .ct ρ') ∧ I (d ++ [p]) ρ') →
    ∃ ρ', forL step (ps.map g) ρ = .ok .nx ρ' ∧ I (done ++ ps) ρ'
  | [], done, ρ, h, _ => ⟨ρ, rfl, by rw [List.append_nil]; exact h⟩
  | p :: ps, done, ρ, h, hs => by
    obtain ⟨ρ1, e, h1⟩ := hs done p ps ρ rfl h
    obtain ⟨ρ2, e2, h2⟩ := forL_mapR g I ps (done ++ [p]) ρ1 h1 fun d q r ρ hq hI => hs d q r ρ (by rw [List.append_assoc] at hq; exact hq) hI
    refine ⟨ρ2, ?_, by rw [List.append_assoc] at h2; exact h2⟩
    show (step (g p) ρ).then _ = _
    rcases e with e | e <;> (rw [e]; exact e2)
theorem mem_split {P : Type} {a d r : List P} {p : P} (h : a = d ++ p :: r) : p ∈ a := by rw [h]; exact List.mem_append_right _ (List.mem_cons_self ..)
end DL
end
section
set_option autoImplicit false
/-! DLgc: comparisons of tuples, counts and routes of racks. -/
namespace DL
open PySem L2
/-! ### == of plain values -/
structure Shp (h : Nat) (d : D) : Prop where
  pur : pureD d = true
  lay : (toPy d).canLay0 = true
  ht : (toPy d).depth ≤ h
structure Shps (h : Nat) (ds : List D) : Prop where
  pur : puresD ds = true
  lay : PyData.canLayAll0 (toPy.toPys ds) = true
  ht : PyData.depthAll (toPy.toPys ds) ≤ h
theorem Shp.int (i : Int) : Shp 0 (.int i) := ⟨rfl, rfl, Nat.le_refl _⟩
theorem Shp.non : Shp 0 .non := ⟨rfl, rfl, Nat.le_refl _⟩
theorem Shp.bl (b : Bool) : Shp 0 (.bl b) := ⟨rfl, rfl, Nat.le_refl _⟩
theorem Shp.mono {h g : Nat} {d : D} (s : Shp h d) (l : h ≤ g) : Shp g d := ⟨s.pur, s.lay, Nat.le_trans s.ht l⟩
theorem Shps.of {h : Nat} : ∀ {ds : List D}, (∀ d ∈ ds, Shp h d) → Shps h ds
  | [], _ => ⟨rfl, rfl, Nat.zero_le _⟩
  | d :: ds, hs => by
    have a := hs d (List.mem_cons_self ..)
    have b := Shps.of (ds := ds) fun x hx => hs x (List.mem_cons_of_mem _ hx)
    refine ⟨?_, ?_, ?_⟩
    · show (pureD d && puresD ds) = true
      rw [a.pur, b.pur]; rfl
    · show ((toPy d).canLay0 && PyData.canLayAll0 (toPy.toPys ds)) = true
      rw [a.lay, b.lay]; rfl
    · exact Nat.max_le.mpr ⟨a.ht, b.ht⟩
theorem Shp.tup {h : Nat} {ds : List D} (hs : ∀ d ∈ ds, Shp h d) : Shp (h + 1) (.tup ds) := by
  have b := Shps.of hs
  exact ⟨b.pur, b.lay, Nat.succ_le_succ b.ht⟩
theorem Shp.lst {h : Nat} {ds : List D} (hs : ∀ d ∈ ds, Shp h d) : Shp (h + 1) (.lst ds) := by
  have b := Shps.of hs
  exact ⟨b.pur, b.lay, Nat.succ_le_succ b.ht⟩
theorem Shp.ok {h : Nat} {d : D} (s : Shp h d) (hh : h ≤ 64) : shapedD d = true := by
  show (pureD d && ((toPy d).canLay0 && decide ((toPy d).depth ≤ 64))) = true
  rw [s.pur, s.lay, decide_eq_true (Nat.le_trans s.ht hh)]
  rfl
/-! ### one-item cuts -/
/-! ### counts -/
/-! ### routes -/
def rt : List Int → List Int → List Int
  | _, [] => []
  | [], b :: bs => b :: rt [] bs
  | a :: as, b :: bs => if a = b then rt as bs else b :: rt as bs
def gn (n : Int) : List Int → List Int → Int
  | _, [] => 0
  | [], b :: bs => (n + 1 - b) + gn n [] bs
  | a :: as, b :: bs => (a - b) + gn n as bs
/-! sums of counts -/
end DL
end
section
set_option autoImplicit false
/-! DLgd: tables of band lengths as operators on counts. -/
namespace DL
open PySem L2
/-- the greatest of f j .. f (j + d) -/
def mxO (f : Nat → Int) (j : Nat) : Nat → Int
  | 0 => f j
  | d + 1 => max (mxO f j d) (f (j + d + 1))
/-- tables as operators -/
def act (T : Nat → Nat → Int) (c : Nat → Int) (k : Nat) : Int := mxO (fun j => c j + T j k) 0 k
def prT (A B : Nat → Nat → Int) (j k : Nat) : Int := if k < j then 0 else mxO (fun m => A j m + B m k) j (k - j)
def stp (x : Nat) (c : Nat → Int) (k : Nat) : Int := if k < x then c k else max (c k) (c (x - 1) + 1)
def stps (w : List Nat) (c : Nat → Int) : Nat → Int := w.foldl (fun c x => stp x c) c
/-! ### as often as there are levels -/
/-- the different levels of w in (j, k] -/
def dif (w : List Nat) (j k : Nat) : Nat := ((List.range (k + 1)).filter fun y => decide (j < y ∧ y ∈ w)).length
/-- what is reached in the end -/
def fin (w : List Nat) (c : Nat → Int) : Nat → Int := act (fun j k => (dif w j k : Int)) c
/-! ### racks -/
end DL
end
section
set_option autoImplicit false
/-! DLge: readings step by step. -/
namespace DL
open PySem L2
section
variable {Φ : Calls} {ρ ρ1 ρ2 : Ev} {s : S} {ss : Ss} {r : Out Fl} {P : Type}
theorem sq (e : exec Φ s ρ = .ok .nx ρ1) (e2 : execs Φ ss ρ1 = r) : execs Φ (.cons s ss) ρ = r := by
  show (exec Φ s ρ).then _ = _
  rw [e]; exact e2
theorem sq_rt {v : R} (e : exec Φ s ρ = .ok (.rt v) ρ1) : execs Φ (.cons s ss) ρ = .ok (.rt v) ρ1 := by
  show (exec Φ s ρ).then _ = _
  rw [e]; rfl
theorem sq_end (e : exec Φ s ρ = .ok .nx ρ1) : execs Φ (.cons s .nil) ρ = .ok .nx ρ1 := sq e rfl
theorem x_ret {e : E} {v : R} (h : ev Φ e ρ = .ok v ρ1) : exec Φ (.ret e) ρ = .ok (.rt v) ρ1 := by
  show (ev Φ e ρ).then _ = _
  rw [h]; rfl
theorem x_if {c : E} {a b : Ss} {d : D} (k : Bool) (h : ev Φ c ρ = .ok (.fz d) ρ1) (ht : truthD d = some k) (e : execs Φ (if k then a else b) ρ1 = r) : exec Φ (.ifs c a b) ρ = r := by
  show (ev Φ c ρ).then _ = _
  rw [h]
  show ((ofO (truthD d) ρ1).then _) = _
  rw [ht]
  cases k <;> exact e
theorem x_iff {c : E} {a b : Ss} (h : ev Φ c ρ = .ok (.fz (.bl false)) ρ1) (e : execs Φ b ρ1 = r) : exec Φ (.ifs c a b) ρ = r := x_if false h rfl e
/-- a name gets frozen data -/
theorem x_asgD {i : Nat} {e : E} {d : D} (h : ev Φ e ρ = .ok (.fz d) ρ1) (hw : setD i d ρ1 = .ok () (ρ1.set i (.fz d)) := by rfl) : exec Φ (.asg (.nm i) e) ρ = .ok .nx (ρ1.set i (.fz d)) := by
  show (ev Φ e ρ).then _ = _
  rw [h]
  show ((setD i d ρ1).then _) = _
  rw [hw]; rfl
/-- a name gets a fresh list -/
theorem x_asgL {i : Nat} {e : E} {xs : List D} (h : ev Φ e ρ = .ok (.fr xs) ρ1) (hw : setL i xs ρ1 = .ok () (ρ1.set i (.ls .own xs)) := by rfl) : exec Φ (.asg (.nm i) e) ρ = .ok .nx (ρ1.set i (.ls .own xs)) := by
  show (ev Φ e ρ).then _ = _
  rw [h]
  show ((setL i xs ρ1).then _) = _
  rw [hw]; rfl
theorem getL_ok {ρ ρ2 : Ev} {i : Nat} {k : Lk} {xs ys : List D} {u : Unit} (h1 : ρ[i]? = some (.ls k xs)) (hk : putL i ys ρ = .ok u ρ2) : getL i ρ = .ok xs ρ := by
  obtain ⟨k', zs, e, nk, _⟩ := putL_eq hk
  rw [h1] at e
  cases e
  unfold getL
  rw [h1]
  cases k <;> first | rfl | exact absurd rfl nk.2
theorem x_app {i : Nat} {e : E} {d : D} {xs : List D} {k : Lk} (h : ev Φ e ρ = .ok (.fz d) ρ) (hl : xs.length < sizeLine) (h1 : ρ[i]? = some (.ls k xs) := by rfl) (hk : putL i (xs ++ [d]) ρ = .ok () (ρ.set i (.ls k (xs ++ [d]))) := by rfl) : exec Φ (.ex (.app i e)) ρ = .ok .nx (ρ.set i (.ls k (xs ++ [d]))) := by
  have g : getL i ρ = .ok xs ρ := getL_ok h1 hk
  show ((getL i ρ).then _).then _ = _
  rw [g]
  show ((ev Φ e ρ).then _).then _ = _
  rw [h]
  show ((getL i ρ).then _).then _ = _
  rw [g]
  show (((if xs.length < sizeLine then bnd (putL i (xs ++ [d])) fun _ => DL.ret (R.fz .non) else stuck) ρ)).then _ = _
  rw [if_pos hl]
  show ((putL i (xs ++ [d]) ρ).then _).then _ = _
  rw [hk]; rfl
/-! ### loops -/
theorem for_ps {t : Tg} {it : DL.It} {b : Ss} (g : P → D) (ps : List P) (st : List P → Ev) (hi : evit Φ it ρ = .ok (none, ps.map g) ρ1) (h0 : st [] = ρ1)
    (hs : ∀ done p rest, ps = done ++ p :: rest → (bnd (asgn Φ t (g p)) fun _ => execs Φ b) (st done) = .ok .nx (st (done ++ [p])) ∨ (bnd (asgn Φ t (g p)) fun _ => execs Φ b) (st done) = .ok .ct (st (done ++ [p]))) : exec Φ (.for_ t it b) ρ = .ok .nx (st ps) := by
  have key : ∀ (qs done : List P), ps = done ++ qs → forL (fun x => bnd (asgn Φ t x) fun _ => execs Φ b) (qs.map g) (st done) = .ok .nx (st ps) := fun qs => by
    induction qs with
    | nil => intro done h; rw [List.append_nil] at h; subst h; rfl
    | cons q qs ih =>
      intro done h
      show ((bnd (asgn Φ t (g q)) fun _ => execs Φ b) (st done)).then _ = _
      rcases hs done q qs h with e | e <;> (rw [e]; exact ih (done ++ [q]) (by rw [h, List.append_assoc]; rfl))
  show (evit Φ it ρ).then _ = _
  rw [hi, ← h0]
  exact key ps [] rfl
/-- the usual case: no continue -/
theorem for_nx {t : Tg} {it : DL.It} {b : Ss} (g : P → D) (ps : List P) (st : List P → Ev) (hi : evit Φ it ρ = .ok (none, ps.map g) ρ1) (h0 : st [] = ρ1)
    (hs : ∀ done p rest, ps = done ++ p :: rest → (bnd (asgn Φ t (g p)) fun _ => execs Φ b) (st done) = .ok .nx (st (done ++ [p]))) : exec Φ (.for_ t it b) ρ = .ok .nx (st ps) :=
  for_ps g ps st hi h0 fun a b c d => .inl (hs a b c d)
/-! ### comprehensions -/
theorem e_comp {own : List Nat} {tg : Tg} {it : DL.It} {co : Eo} {e : E} (g : P → D) (ps : List P) (f : P → D) (hi : evit Φ it ρ = .ok (none, ps.map g) ρ) (hl : ps.length ≤ sizeLine)
    (hs : ∀ p ∈ ps, compStep Φ own tg co e (g p) ρ = .ok (some (f p)) ρ) (ho : ownOk ρ own = true := by rfl) (hw : wipeS ρ own = ρ := by rfl) (hb : backS ρ ρ own = ρ := by rfl) : ev Φ (.comp own tg it co e) ρ = .ok (.fr (ps.map f)) ρ := by
  rw [r_comp, hi]
  show ((wipeM own ρ).then _).then _ = _
  rw [show wipeM own ρ = if ownOk ρ own then .ok () (wipeS ρ own) else .stk from rfl, if_pos ho, hw]
  show (cmpL (compStep Φ own tg co e) (ps.map g) [] ρ).then _ = _
  rw [cmpL_map (f := fun p => some (f p)) ps [] (by rw [List.length_nil, Nat.zero_add]; exact hl) hs, List.nil_append, show ps.filterMap (fun p => some (f p)) = ps.map f from congrFun List.filterMap_eq_map' ps]
  show Out.ok _ (backS ρ ρ own) = _
  rw [hb]
theorem c_some {own : List Nat} {tg : Tg} {e : E} {x d : D} {ρ ρ' : Ev} (h1 : asgn Φ tg x ρ = .ok () ρ') (h2 : ev Φ e ρ' = .ok (.fz d) ρ') (ho : ownOk ρ' own = true := by rfl) (hw : wipeS ρ' own = ρ := by rfl) : compStep Φ own tg .none e x ρ = .ok (some d) ρ := by
  show (asgn Φ tg x ρ).then _ = _
  rw [h1]
  show (ev Φ e ρ').then _ = _
  rw [h2]
  show ((wipeM own ρ').then _) = _
  rw [show wipeM own ρ' = if ownOk ρ' own then .ok () (wipeS ρ' own) else .stk from rfl, if_pos ho, hw]
  rfl
/-! ### expressions -/
theorem e_bi1 {b : Bi} {a : E} {v v2 : R} {d : D} (h : ev Φ a ρ = .ok v ρ1) (hv : view ρ1 v = some d) (hb : biD b [d] = some v2) : ev Φ (.bi b (.cons a .nil)) ρ = .ok v2 ρ1 := by
  rw [r_bi, r_evrs1, h]
  show (match List.mapM (view ρ1) [v] with | some ds => ofO (biD b ds) ρ1 | none => .stk) = _
  rw [r_mapM1, r_mapM0, hv]
  show ofO (biD b [d]) ρ1 = _
  rw [hb]; rfl
theorem i_rng1Z {e : E} {z : Int} {X : List D} (h : ev Φ e ρ = .ok (.fz (.int z)) ρ1) (h6 : DL.small62 z = true) (this : rngL 0 z = X) : evit Φ (.rng1 e) ρ = .ok (none, X) ρ1 := by
  simp [h, h6, this]
theorem s62N {q : Nat} (hq : q ≤ 1000000) : DL.small62 (q : Int) = true := s62 (by omega) (by omega)
theorem rng1_map (q : Nat) : rngL 0 (q : Int) = (List.range q).map fun i : Nat => D.int (i : Int) := by
  unfold rngL
  rw [show ((q : Int) - 0).toNat = q from by omega]
  refine congrArg (fun f => List.map f (List.range q)) (funext fun i => ?_)
  show D.int (0 + (i : Int)) = _
  rw [Int.zero_add]
theorem i_rng1 {e : E} {q : Nat} (h : ev Φ e ρ = .ok (.fz (.int q)) ρ1) (hq : q ≤ 1000000) : evit Φ (.rng1 e) ρ = .ok (none, (List.range q).map fun i : Nat => D.int (i : Int)) ρ1 := i_rng1Z h (s62N hq) (rng1_map q)
theorem bd {t : Tg} {b : Ss} {x : D} (h : asgn Φ t x ρ = .ok () ρ1) (e : execs Φ b ρ1 = r) : (bnd (asgn Φ t x) fun _ => execs Φ b) ρ = r := by
  show (asgn Φ t x ρ).then _ = _
  rw [h]; exact e
theorem e_nil : ev Φ (.lst .nil) ρ = .ok (.fr []) ρ := rfl
theorem x_wip {ws : List Nat} (h : dropOk ρ ws = true := by rfl) : exec Φ (.wip ws) ρ = .ok .nx (wipeS ρ ws) := by
  rw [s_wip, if_pos h]
theorem e_bin {o : Bop} {a b : E} {d d2 : D} {x y v : R} (ha : ev Φ a ρ = .ok x ρ) (hb : ev Φ b ρ = .ok y ρ) (h1 : view ρ x = some d) (h2 : view ρ y = some d2) (h : binD o d d2 = some v) : ev Φ (.bin o a b) ρ = .ok v ρ := by
  rw [r_bin, ha]
  show ((ev Φ b ρ).then _) = _
  rw [hb]
  show (((match view ρ x with | some d => Out.ok d ρ | none => .stk) : Out D).then _) = _
  rw [h1]
  show (((match view ρ y with | some d => Out.ok d ρ | none => .stk) : Out D).then _) = _
  rw [h2]
  show ofO (binD o d d2) ρ = _
  rw [h]; rfl
theorem e_call1 {f : Nat} {a : E} {d : D} {x v : R} (ha : ev Φ a ρ = .ok x ρ) (h : Φ f [.fz d] = some (v, [.fz d])) (h1 : DL.share x ρ = .ok d ρ := by rfl) : ev Φ (.call f [0] (.val a .nil) .nil) ρ = .ok v ρ := by
  have e : evas Φ (.val a .nil) ρ = .ok [.val d] ρ := by
    rw [r_evas1, ha]
    show ((DL.share x ρ).then _) = _
    rw [h1]; rfl
  rw [r_call, e]
  show callM Φ f [0] [.val d] ρ = _
  rw [c_call]
  show (match Φ f [.fz d] with | none => Out.stk | some (r, ss') => Out.ok r (putBack [.val d] ss' ρ)) = _
  rw [h]; rfl
theorem e_call3 {f : Nat} {a b c : E} {d d2 d3 : D} {x y z v : R} (ha : ev Φ a ρ = .ok x ρ) (hb : ev Φ b ρ = .ok y ρ) (hc : ev Φ c ρ = .ok z ρ) (h : Φ f [.fz d, .fz d2, .fz d3] = some (v, [.fz d, .fz d2, .fz d3])) (h1 : DL.share x ρ = .ok d ρ := by rfl) (h2 : DL.share y ρ = .ok d2 ρ := by rfl) (h3 : DL.share z ρ = .ok d3 ρ := by rfl) : ev Φ (.call f [0, 1, 2] (.val a (.val b (.val c .nil))) .nil) ρ = .ok v ρ := by
  have e : evas Φ (.val a (.val b (.val c .nil))) ρ = .ok [.val d, .val d2, .val d3] ρ := by
    rw [r_evas1, ha]
    show ((DL.share x ρ).then _) = _
    rw [h1]
    show (evas Φ (.val b (.val c .nil)) ρ).then _ = _
    rw [r_evas1, hb]
    show ((DL.share y ρ).then _).then _ = _
    rw [h2]
    show ((evas Φ (.val c .nil) ρ).then _).then _ = _
    rw [r_evas1, hc]
    show (((DL.share z ρ).then _).then _).then _ = _
    rw [h3]; rfl
  rw [r_call, e]
  show callM Φ f [0, 1, 2] [.val d, .val d2, .val d3] ρ = _
  rw [c_call]
  show (match Φ f [.fz d, .fz d2, .fz d3] with | none => Out.stk | some (r, ss') => Out.ok r (putBack [.val d, .val d2, .val d3] ss' ρ)) = _
  rw [h]; rfl
theorem e_cmp {o : Cop} {a b : E} {d d2 : D} {x y : R} {k : Bool} (ha : ev Φ a ρ = .ok x ρ) (hb : ev Φ b ρ = .ok y ρ) (h1 : view ρ x = some d) (h2 : view ρ y = some d2) (h : cmpD o d d2 = some k) : ev Φ (.cmp o a b) ρ = .ok (.fz (.bl k)) ρ := by
  rw [r_cmp, ha]
  show ((ev Φ b ρ).then _) = _
  rw [hb]
  show (((match view ρ x with | some d => Out.ok d ρ | none => .stk) : Out D).then _) = _
  rw [h1]
  show (((match view ρ y with | some d => Out.ok d ρ | none => .stk) : Out D).then _) = _
  rw [h2]
  show (ofO (cmpD o d d2) ρ).then _ = _
  rw [h]; rfl
theorem e_bi2 {b : Bi} {a c : E} {x y v : R} {d d2 : D} (ha : ev Φ a ρ = .ok x ρ) (hc : ev Φ c ρ = .ok y ρ) (h1 : view ρ x = some d) (h2 : view ρ y = some d2) (hb : biD b [d, d2] = some v) : ev Φ (.bi b (.cons a (.cons c .nil))) ρ = .ok v ρ := by
  rw [r_bi, r_evrs1, ha]
  show ((evrs Φ (.cons c .nil) ρ).then _).then _ = _
  rw [r_evrs1, hc]
  show (match List.mapM (view ρ) [x, y] with | some ds => ofO (biD b ds) ρ | none => .stk) = _
  rw [r_mapM1, r_mapM1, r_mapM0, h1, h2]
  show ofO (biD b [d, d2]) ρ = _
  rw [hb]; rfl
theorem e_and {a b : E} {k : Bool} {v : R} (ha : ev Φ a ρ = .ok (.fz (.bl k)) ρ) (hb : k = true → ev Φ b ρ = .ok v ρ) (hf : k = false → v = .fz (.bl false)) : ev Φ (.and a b) ρ = .ok v ρ := by
  rw [r_and, ha]
  cases k with
  | true => exact hb rfl
  | false => rw [hf rfl]; rfl
theorem e_or {a b : E} {k : Bool} {v : R} (ha : ev Φ a ρ = .ok (.fz (.bl k)) ρ) (hb : k = false → ev Φ b ρ = .ok v ρ) (hf : k = true → v = .fz (.bl true)) : ev Φ (.or a b) ρ = .ok v ρ := by
  rw [r_or, ha]
  cases k with
  | false => exact hb rfl
  | true => rw [hf rfl]; rfl
theorem e_not {a : E} {d : D} {x : R} {k : Bool} (ha : ev Φ a ρ = .ok x ρ) (h1 : view ρ x = some d) (ht : truthD d = some k) : ev Φ (.not a) ρ = .ok (.fz (.bl (!k))) ρ := by
  rw [r_not, ha]
  show (((match view ρ x with | some d => Out.ok d ρ | none => .stk) : Out D).then _) = _
  rw [h1]
  show (ofO (truthD d) ρ).then _ = _
  rw [ht]; rfl
theorem e_ite {t a b : E} {d : D} {x v : R} (k : Bool) (ha : ev Φ t ρ = .ok x ρ) (h1 : view ρ x = some d) (ht : truthD d = some k) (h : ev Φ (if k then a else b) ρ = .ok v ρ) : ev Φ (.ite t a b) ρ = .ok v ρ := by
  rw [r_ite, ha]
  show (((match view ρ x with | some d => Out.ok d ρ | none => .stk) : Out D).then _) = _
  rw [h1]
  show (ofO (truthD d) ρ).then _ = _
  rw [ht]
  cases k <;> exact h
/-- what is walked: frozen, or a fresh list -/
theorem i_val {e : E} {x : R} {d : D} {xs : List D} (h : ev Φ e ρ = .ok x ρ1) (h1 : view ρ1 x = some d) (h2 : itemsD d = some xs) (h3 : lockOf ρ1 x = none := by rfl) : evit Φ (.val e) ρ = .ok (none, xs) ρ1 := by
  show (ev Φ e ρ).then _ = _
  rw [h]
  show (((match view ρ1 x with | some d => Out.ok d ρ1 | none => .stk) : Out D).then _) = _
  rw [h1]
  show (ofO (itemsD d) ρ1).then _ = _
  rw [h2]
  show Out.ok (lockOf ρ1 x, xs) ρ1 = _
  rw [h3]
end
/-! ### rows of numbers -/
end DL
end
section
set_option autoImplicit false
/-! DLgf: equality of plain values; powers of tables. -/
namespace DL
open PySem L2
mutual
/-- no truths, no instances -/
def plain : D → Bool
  | .non => true
  | .int _ => true
  | .str _ => true
  | .tup xs => plains xs
  | .lst xs => plains xs
  | _ => false
def plains : List D → Bool
  | [] => true
  | x :: xs => plain x && plains xs
end
theorem plains_of : ∀ {xs : List D}, (∀ x ∈ xs, plain x = true) → plains xs = true
  | [], _ => rfl
  | x :: xs, h => by
    show (plain x && plains xs) = true
    rw [h x (List.mem_cons_self ..), plains_of fun y hy => h y (List.mem_cons_of_mem _ hy)]
    rfl
/-- plain and not too deep -/
structure Pl (h : Nat) (d : D) : Prop where
  pl : plain d = true
  sh : Shp h d
theorem Pl.int (i : Int) : Pl 0 (.int i) := ⟨rfl, .int i⟩
theorem Pl.non : Pl 0 .non := ⟨rfl, .non⟩
theorem Pl.mono {h g : Nat} {d : D} (s : Pl h d) (l : h ≤ g) : Pl g d := ⟨s.pl, s.sh.mono l⟩
theorem Pl.tup {h : Nat} {ds : List D} (hs : ∀ d ∈ ds, Pl h d) : Pl (h + 1) (.tup ds) := ⟨plains_of fun d hd => (hs d hd).pl, .tup fun d hd => (hs d hd).sh⟩
theorem Pl.lst {h : Nat} {ds : List D} (hs : ∀ d ∈ ds, Pl h d) : Pl (h + 1) (.lst ds) := ⟨plains_of fun d hd => (hs d hd).pl, .lst fun d hd => (hs d hd).sh⟩
theorem cmp_neqv {x y : D} (hx : shapedD x = true) (hy : shapedD y = true) : cmpD .ne x y = some (!(toPy x).eqv (toPy y)) := by
  have e : (if shapedD x && shapedD y then some (!(toPy x).eqv (toPy y)) else none) = some (!(toPy x).eqv (toPy y)) := by rw [hx, hy]; rfl
  have s : ∀ a b : Str, decide (a = b) = (a == b) := fun a b => by rw [Bool.eq_iff_iff, beq_iff_eq, decide_eq_true_iff]
  have i : ∀ a b : Int, decide (a = b) = (a == b) := fun a b => by rw [Bool.eq_iff_iff, beq_iff_eq, decide_eq_true_iff]
  cases x with
  | int a => cases y with
    | int b => exact congrArg (fun z => some (!z)) (i a b)
    | _ => exact e
  | str a => cases y with
    | str b => exact congrArg (fun z => some (!z)) (s a b)
    | _ => exact e
  | _ => exact e
/-! ### tables that agree up to n -/
def Eq2 (n : Nat) (A B : Nat → Nat → Int) : Prop := ∀ j k, j ≤ n → k ≤ n → A j k = B j k
theorem Eq2.refl (n : Nat) (A : Nat → Nat → Int) : Eq2 n A A := fun _ _ _ _ => rfl
theorem Eq2.symm {n : Nat} {A B : Nat → Nat → Int} (h : Eq2 n A B) : Eq2 n B A := fun j k a b => (h j k a b).symm
theorem Eq2.trans {n : Nat} {A B C : Nat → Nat → Int} (h : Eq2 n A B) (g : Eq2 n B C) : Eq2 n A C := fun j k a b => (h j k a b).trans (g j k a b)
/-! ### tables of parts -/
end DL
end
section
set_option autoImplicit false
/-! DLgg: what the tables of parts do. -/
namespace DL
open PySem L2
end DL
end
section
set_option autoImplicit false
/-! DLgh: what repr needs, with numbers of up to 31 digits. -/
namespace DL
open PySem L2
structure Rq (w h : Nat) (d : D) : Prop where
  pur : pureR d = true
  show_ : (toPy d).showable = true
  short : (toPy d).leavesShort 32 = true
  ht : (toPy d).depth ≤ h
  wt : (toPy d).weight ≤ w
structure Rqs (w h : Nat) (ds : List D) : Prop where
  pur : puresR ds = true
  show_ : PyData.showableAll (toPy.toPys ds) = true
  short : PyData.leavesShortAll 32 (toPy.toPys ds) = true
  ht : PyData.depthAll (toPy.toPys ds) ≤ h
  wt : PyData.weightAll (toPy.toPys ds) ≤ w
theorem Rq.mono {w h w' h' : Nat} {d : D} (s : Rq w h d) (h1 : w ≤ w') (h2 : h ≤ h') : Rq w' h' d := ⟨s.pur, s.show_, s.short, Nat.le_trans s.ht h2, Nat.le_trans s.wt h1⟩
theorem Rqs.mono {w h w' h' : Nat} {d : List D} (s : Rqs w h d) (h1 : w ≤ w') (h2 : h ≤ h') : Rqs w' h' d := ⟨s.pur, s.show_, s.short, Nat.le_trans s.ht h2, Nat.le_trans s.wt h1⟩
theorem Rq.non : Rq 0 0 .non := ⟨rfl, rfl, rfl, Nat.le_refl _, Nat.le_refl _⟩
theorem Rq.bl (b : Bool) : Rq 0 0 (.bl b) := ⟨rfl, rfl, rfl, Nat.le_refl _, Nat.le_refl _⟩
theorem Rq.emp : Rq 0 1 .emp := ⟨rfl, rfl, rfl, Nat.le_refl _, Nat.le_refl _⟩
theorem log2_31 {n : Nat} (h : n < 10 ^ 31) : n.log2 < 104 := by
  by_cases z : n = 0
  · subst z; decide
  · exact (Nat.log2_lt z).mpr (Nat.lt_of_lt_of_le h (by decide +kernel))
theorem Rq.int {i : Int} (h1 : -(10 ^ 31) < i) (h2 : i < 10 ^ 31) : Rq 104 0 (.int i) := by
  have h : i.natAbs < 10 ^ 31 := by omega
  have l := log2_31 h
  refine ⟨rfl, decide_eq_true (by omega), decide_eq_true ?_, Nat.le_refl _, ?_⟩
  · show (Str.ofString (toString i)).length ≤ 32
    rw [ofString_length]
    exact int_text_length_le10 (by decide) h
  · show (if (i == 0) = true then 0 else i.natAbs.log2 + 1) ≤ 104
    split <;> omega
theorem Rq.str {x : Str} (h : x.cps.toList.all (fun c => decide (c < 0x110000)) = true) : Rq x.length 0 (.str x) := by
  refine ⟨rfl, rfl, ?_, Nat.le_refl _, Nat.le_refl _⟩
  show (x.cps.toList.all fun c => decide (c < 16 ^ 8)) = true
  rw [List.all_eq_true] at h ⊢
  intro c hc
  have := of_decide_eq_true (h c hc)
  exact decide_eq_true (by omega)
theorem Rqs.nil (h : Nat) : Rqs 0 h [] := ⟨rfl, rfl, rfl, Nat.zero_le _, Nat.zero_le _⟩
theorem Rqs.cons {w v h : Nat} {d : D} {ds : List D} (a : Rq w h d) (b : Rqs v h ds) : Rqs (w + 1 + v) h (d :: ds) := by
  refine ⟨?_, ?_, ?_, ?_, ?_⟩
  · show (pureR d && puresR ds) = true
    rw [a.pur, b.pur]; rfl
  · show ((toPy d).showable && PyData.showableAll (toPy.toPys ds)) = true
    rw [a.show_, b.show_]; rfl
  · show ((toPy d).leavesShort 32 && PyData.leavesShortAll 32 (toPy.toPys ds)) = true
    rw [a.short, b.short]; rfl
  · exact Nat.max_le.mpr ⟨a.ht, b.ht⟩
  · show (toPy d).weight + 1 + PyData.weightAll (toPy.toPys ds) ≤ _
    have := a.wt
    have := b.wt
    omega
theorem Rqs.tup {w h : Nat} {ds : List D} (b : Rqs w h ds) : Rq w (h + 1) (.tup ds) := ⟨b.pur, b.show_, b.short, Nat.succ_le_succ b.ht, b.wt⟩
theorem Rqs.lst {w h : Nat} {ds : List D} (b : Rqs w h ds) : Rq w (h + 1) (.lst ds) := ⟨b.pur, b.show_, b.short, Nat.succ_le_succ b.ht, b.wt⟩
theorem Rqs.of {w h : Nat} : ∀ {ds : List D}, (∀ d ∈ ds, Rq w h d) → Rqs (ds.length * (w + 1)) h ds
  | [], _ => (Rqs.nil h).mono (Nat.zero_le _) (Nat.le_refl _)
  | d :: ds, hs => (Rqs.cons (hs d (List.mem_cons_self ..)) (Rqs.of fun x hx => hs x (List.mem_cons_of_mem _ hx))).mono (by rw [List.length_cons, Nat.succ_mul]; omega) (Nat.le_refl _)
theorem Rq.tup {w h n : Nat} {ds : List D} (hn : ds.length ≤ n) (hs : ∀ d ∈ ds, Rq w h d) : Rq (n * (w + 1)) (h + 1) (.tup ds) := ((Rqs.of hs).mono (Nat.mul_le_mul_right _ hn) (Nat.le_refl _)).tup
theorem Rq.lst {w h n : Nat} {ds : List D} (hn : ds.length ≤ n) (hs : ∀ d ∈ ds, Rq w h d) : Rq (n * (w + 1)) (h + 1) (.lst ds) := ((Rqs.of hs).mono (Nat.mul_le_mul_right _ hn) (Nat.le_refl _)).lst
theorem rp_ok {w h : Nat} {d : D} (s : Rq w h d) (hw : w ≤ 400000) (hh : h ≤ 64) : biD .repr [d] = some (.fz (.str (toPy d).shown)) := by
  have l : (toPy d).shown.length ≤ sizeLine := by
    have h1 := PyData.shown_le 32 (by decide) (toPy d) s.short
    have h2 : (32 + 2) * (toPy d).weight ≤ 34 * 400000 := Nat.mul_le_mul (by omega) (Nat.le_trans s.wt hw)
    rw [sizeLine_eq]; omega
  show (if _ then _ else _) = _
  rw [if_pos]
  rw [s.pur, s.show_, decide_eq_true (Nat.le_trans s.ht hh), decide_eq_true l]
  rfl
theorem rq_small {i : Int} (h1 : -1000000 ≤ i) (h2 : i ≤ 1000000) : Rq 104 0 (.int i) := Rq.int (by omega) (by omega)
theorem rq_pts {n M : Int} (hn : n ≤ 12) (hM : M ≤ 1000000000000000000000000000000) : ∀ ps : List Pt, OkPs n M ps → Rqs (240 * szPs ps) (2 * dpPs ps) (dPs ps) := by
  refine Pt.ind (fun _ => Rqs.nil _) (fun i ps ih ok => ?_) (fun qs t ps ih1 ih2 ok => ?_)
  · obtain ⟨a, b⟩ := ok_lv (ok _ (List.mem_cons_self ..))
    have i1 := ih fun p hp => ok p (List.mem_cons_of_mem _ hp)
    have i2 : Rq 104 (2 * dpPs (.lv i :: ps)) (.int i) := (rq_small (by omega) (by omega)).mono (Nat.le_refl _) (Nat.zero_le _)
    exact (Rqs.cons i2 (i1.mono (Nat.le_refl _) (by rw [dpPs_cons]; omega))).mono (by rw [szPs_cons, szP_lv]; omega) (Nat.le_refl _)
  · obtain ⟨o1, t1, t2⟩ := ok_sub (ok _ (List.mem_cons_self ..))
    have i1 := ih1 o1
    have i2 := ih2 fun p hp => ok p (List.mem_cons_of_mem _ hp)
    have i3 : Rq 104 (2 * dpPs qs + 1) (.int t) := (Rq.int (by omega) (by omega)).mono (Nat.le_refl _) (Nat.zero_le _)
    have i4 := (Rqs.cons i1.tup (Rqs.cons i3 (Rqs.nil _))).tup
    exact (Rqs.cons (i4.mono (Nat.le_refl _) (by rw [dpPs_cons, dpP_pr]; omega)) (i2.mono (Nat.le_refl _) (by rw [dpPs_cons]; omega))).mono (by rw [szPs_cons, szP_pr]; omega) (Nat.le_refl _)
theorem rq_parts {n M : Int} (hn : n ≤ 12) (hM : M ≤ 1000000000000000000000000000000) {ps : List Pt} (ok : OkPs n M ps) : Rq (240 * szPs ps) (2 * dpPs ps + 1) (.tup (dPs ps)) := (rq_pts hn hM ps ok).tup
end DL
end
section
set_option autoImplicit false
/-! DLgi: the law's own last lines. -/
namespace DL
open PySem L2
def lawN (q N : Nat) : Nat := max 2 (min q N)
theorem lawN_max {q N : Nat} : biD .max2 [.int 2, .int ((min q N : Nat) : Int)] = some (.fz (.int (lawN q N : Nat))) := by
  refine congrArg (fun z => some (R.fz (D.int z))) ?_
  unfold lawN
  show (if ((min q N : Nat) : Int) > 2 then ((min q N : Nat) : Int) else 2) = _
  split <;> omega
theorem lawN_min {q N : Nat} : biD .min2 [.int (q : Nat), .int (N : Nat)] = some (.fz (.int ((min q N : Nat) : Int))) := by
  refine congrArg (fun z => some (R.fz (D.int z))) ?_
  show (if (N : Int) < (q : Int) then (N : Int) else (q : Int)) = _
  split <;> omega
theorem boolsD_rep {P : Type} (l : List P) : boolsD (l.map fun _ => D.bl true) = some (l.map fun _ => true) := by
  have := boolsD_map (l.map fun _ => true)
  rw [List.map_map] at this
  exact this
theorem all_true {P : Type} (l : List P) : biD .all [.lst (l.map fun _ => D.bl true)] = some (.fz (.bl true)) := by
  rw [b_all, boolsD_rep]
  show some (R.fz (D.bl ((l.map fun _ => true).all id))) = _
  congr 3
  simp
end DL
end
section
set_option autoImplicit false
/-! DLgj: racks of counts; greater and smaller counts. -/
namespace DL
open PySem L2
end DL
end
section
set_option autoImplicit false
/-! DLgk: the entries of the table of parts are lengths of longest ascending subsequences. -/
namespace DL
open PySem L2
/-- the length in the band (b, k] -/
def lis (w : List Nat) (b k : Nat) : Int := stps (w.filter fun x => decide (b < x)) (fun _ => 0) k
theorem whl_inv {test : M Bool} {body : M Fl} (I : Nat → Ev → Prop) (J : Ev → Prop) (hs : ∀ m ρ, I m ρ → (∃ ρ1, test ρ = .ok false ρ1 ∧ J ρ1) ∨ (∃ ρ1 ρ2 m', test ρ = .ok true ρ1 ∧ (body ρ1 = .ok .nx ρ2 ∨ body ρ1 = .ok .ct ρ2) ∧ m' < m ∧ I m' ρ2)) :
    ∀ (n m : Nat) (ρ : Ev), m < n → I m ρ → ∃ ρ', whileN test body n ρ = .ok .nx ρ' ∧ J ρ'
  | 0, m, ρ, h, _ => absurd h (Nat.not_lt_zero _)
  | n + 1, m, ρ, h, hI => by
    rcases hs m ρ hI with ⟨ρ1, e, hj⟩ | ⟨ρ1, ρ2, m', e, eb, hm, hI2⟩
    · refine ⟨ρ1, ?_, hj⟩
      show (test ρ).then _ = _
      rw [e]; rfl
    · obtain ⟨ρ', e2, hj⟩ := whl_inv I J hs n m' ρ2 (by omega) hI2
      refine ⟨ρ', ?_, hj⟩
      show (test ρ).then _ = _
      rw [e]
      show (body ρ1).then _ = _
      rcases eb with eb | eb <;> (rw [eb]; exact e2)
end DL
end
section
set_option autoImplicit false
/-! DLgl: tables of words. -/
namespace DL
open PySem L2
/-! ### tables as lists of lists -/
theorem addL {xs ys : List D} (h : xs.length + ys.length ≤ 1000000) : binD .add (.lst xs) (.lst ys) = some (.fr (xs ++ ys)) := by
  rw [d_addL, if_pos (by show _ ≤ 16777216; omega)]
end DL
end
section
set_option autoImplicit false
/-! DLgm: initial racks; where two tables differ. -/
namespace DL
open PySem L2
section
variable {Φ : Calls} {ρ ρ1 : Ev} {P β : Type}
theorem x_ex {e : E} {v : R} (h : ev Φ e ρ = .ok v ρ1) : exec Φ (.ex e) ρ = .ok .nx ρ1 := by
  show (ev Φ e ρ).then _ = _
  rw [h]; rfl
end
section
variable {Φ : Calls} {ρ ρ1 ρ2 : Ev}
/-- a draw: the pool in slot i -/
theorem e_draw {f i : Nat} {e : E} {d : D} {x v : R} {xs ys : List D} (he : ev Φ e ρ = .ok x ρ) (h : Φ f [.ls .bor xs, .fz d] = some (v, [.ls .bor ys, .fz d])) (h0 : ρ[i]? = some (.ls .bor xs) := by rfl) (hx : DL.share x ρ = .ok d ρ := by rfl) : ev Φ (.call f [0, 1] (.ref (.var i) (.val e .nil)) .nil) ρ = .ok v (ρ.set i (.ls .bor ys)) := by
  have hv : ev Φ (.var i) ρ = .ok (.rf i) ρ := by rw [r_var, h0]
  have e1 : evas Φ (.ref (.var i) (.val e .nil)) ρ = .ok [.rf i, .val d] ρ := by
    rw [r_evas2, hv]
    show (evas Φ (.val e .nil) ρ).then _ = _
    rw [r_evas1, he]
    show ((DL.share x ρ).then _).then _ = _
    rw [hx]; rfl
  rw [r_call, e1]
  show callM Φ f [0, 1] [.rf i, .val d] ρ = _
  rw [c_call]
  have hs : slotsOf ρ [.rf i, .val d] = some [.ls .bor xs, .fz d] := by
    show (match slotOf ρ (.rf i), slotsOf ρ [.val d] with | some s, some ss => some (s :: ss) | _, _ => none) = _
    rw [show slotOf ρ (.rf i) = some (.ls .bor xs) from by rw [so_4, h0]]
    rfl
  have hd : (refs [A.rf i, A.val d]).Nodup ∧ frs [A.rf i, A.val d] ≤ 1 := ⟨by show [i].Nodup; simp, Nat.zero_le _⟩
  show (if (refs [A.rf i, A.val d]).Nodup ∧ frs [A.rf i, A.val d] ≤ 1 then match slotsOf ρ [.rf i, .val d] with | none => Out.stk | some ss => match Φ f ss with | none => .stk | some (r, ss') => .ok r (putBack [.rf i, .val d] ss' ρ) else .stk) = _
  rw [if_pos hd, hs]
  show (match Φ f [.ls .bor xs, .fz d] with | none => Out.stk | some (r, ss') => .ok r (putBack [.rf i, .val d] ss' ρ)) = _
  rw [h]
  show Out.ok v (putBack [.val d] [.fz d] (match ρ[i]? with | some (.ls k _) => ρ.set i (.ls k ys) | _ => ρ)) = _
  rw [h0]; rfl
theorem es_cons {e : E} {es : Es} {x : R} {d : D} {ds : List D} (h : ev Φ e ρ = .ok x ρ1) {ρ3 : Ev} (h2 : evs Φ es ρ2 = .ok ds ρ3) (hs : DL.share x ρ1 = .ok d ρ2 := by rfl) : evs Φ (.cons e es) ρ = .ok (d :: ds) ρ3 := by
  rw [r_evs1, h]
  show ((DL.share x ρ1).then _) = _
  rw [hs]
  show (evs Φ es ρ2).then _ = _
  rw [h2]; rfl
theorem es_nil : evs Φ .nil ρ = .ok [] ρ := rfl
theorem e_lst {es : Es} {ds : List D} (h : evs Φ es ρ = .ok ds ρ1) (hl : ds.length ≤ sizeLine := by exact Nat.le_of_ble_eq_true rfl) : ev Φ (.lst es) ρ = .ok (.fr ds) ρ1 := by
  rw [r_lst, h]
  show (if ds.length ≤ sizeLine then DL.ret (R.fr ds) else stuck) ρ1 = _
  rw [if_pos hl]; rfl
end
section
variable {Φ : Calls} {ρ ρ1 : Ev} {P : Type}
theorem i_lk {i : Nat} {k : Lk} {xs : List D} (h : ρ[i]? = some (.ls k xs)) (nk : k ≠ .dic := by decide) : evit Φ (.val (.var i)) ρ = .ok (some (i, k), xs) ρ := by
  have hv : ev Φ (.var i) ρ = .ok (.rf i) ρ := by rw [r_var, h]; cases k <;> first | rfl | exact absurd rfl nk
  show (ev Φ (.var i) ρ).then _ = _
  rw [hv]
  show (vw (.rf i) ρ).then _ = _
  rw [r_vwi, h]
  have hl : lockOf ρ (.rf i) = some (i, k) := by rw [k_rf, h]; cases k <;> first | rfl | exact absurd rfl nk
  cases k with
  | dic => exact absurd rfl nk
  | own => show Out.ok (lockOf ρ (.rf i), xs) ρ = _; rw [hl]
  | bor => show Out.ok (lockOf ρ (.rf i), xs) ρ = _; rw [hl]
  | lck => show Out.ok (lockOf ρ (.rf i), xs) ρ = _; rw [hl]
/-- a comprehension over an own list, which is locked meanwhile -/
theorem e_compK {own : List Nat} {tg : Tg} {co : Eo} {e : E} {i : Nat} {k : Lk} {ρL : Ev} (g : P → D) (ps : List P) (f : P → D) (hl : ps.length ≤ sizeLine)
    (hs : ∀ p ∈ ps, compStep Φ own tg co e (g p) ρL = .ok (some (f p)) ρL) (h0 : ρ[i]? = some (.ls k (ps.map g)) := by rfl) (ho : ownOk ρ own = true := by rfl) (hwi : (wipeS ρ own)[i]? = some (.ls k (ps.map g)) := by rfl) (hw : (wipeS ρ own).set i (.ls .lck (ps.map g)) = ρL := by rfl)
    (hL : ρL[i]? = some (.ls .lck (ps.map g)) := by rfl) (hb : backS ρ (ρL.set i (.ls k (ps.map g))) own = ρ := by rfl) (nk : k ≠ .dic := by decide) : ev Φ (.comp own tg (.val (.var i)) co e) ρ = .ok (.fr (ps.map f)) ρ := by
  rw [r_comp, i_lk h0 nk]
  show ((wipeM own ρ).then _).then _ = _
  rw [show wipeM own ρ = if ownOk ρ own then .ok () (wipeS ρ own) else .stk from rfl, if_pos ho]
  show (withLock (some (i, k)) (cmpL (compStep Φ own tg co e) (ps.map g) []) (wipeS ρ own)).then _ = _
  rw [w_some, hwi]
  show (((cmpL (compStep Φ own tg co e) (ps.map g) [] ((wipeS ρ own).set i (.ls .lck (ps.map g)))).then _).then _) = _
  rw [hw, cmpL_map (f := fun p => some (f p)) ps [] (by rw [List.length_nil, Nat.zero_add]; exact hl) hs, List.nil_append, show ps.filterMap (fun p => some (f p)) = ps.map f from congrFun List.filterMap_eq_map' ps]
  show (match ρL[i]? with | some (.ls _ ys) => Out.ok (ps.map f) (ρL.set i (.ls k ys)) | _ => .stk).then _ = _
  rw [hL]
  show Out.ok _ (backS ρ (ρL.set i (.ls k (ps.map g))) own) = _
  rw [hb]
/-- a loop over an own list, which is locked meanwhile -/
theorem for_nxK {t : Tg} {b : Ss} {i : Nat} {k : Lk} {ρ2 : Ev} (g : P → D) (ps : List P) (st : List P → Ev)
    (hs : ∀ done p rest, ps = done ++ p :: rest → (bnd (asgn Φ t (g p)) fun _ => execs Φ b) (st done) = .ok .nx (st (done ++ [p]))) (h0 : ρ[i]? = some (.ls k (ps.map g)) := by rfl) (hst : st [] = ρ.set i (.ls .lck (ps.map g)) := by rfl) (hL : (st ps)[i]? = some (.ls .lck (ps.map g)) := by rfl) (h2 : (st ps).set i (.ls k (ps.map g)) = ρ2 := by rfl) (nk : k ≠ .dic := by decide) : exec Φ (.for_ t (.val (.var i)) b) ρ = .ok .nx ρ2 := by
  have key : ∀ (qs done : List P), ps = done ++ qs → forL (fun x => bnd (asgn Φ t x) fun _ => execs Φ b) (qs.map g) (st done) = .ok .nx (st ps) := fun qs => by
    induction qs with
    | nil => intro done h; rw [List.append_nil] at h; subst h; rfl
    | cons q qs ih =>
      intro done h
      show ((bnd (asgn Φ t (g q)) fun _ => execs Φ b) (st done)).then _ = _
      rw [hs done q qs h]
      exact ih (done ++ [q]) (by rw [h, List.append_assoc]; rfl)
  show (evit Φ (.val (.var i)) ρ).then _ = _
  rw [i_lk h0 nk]
  show withLock (some (i, k)) (forL (fun x => bnd (asgn Φ t x) fun _ => execs Φ b) (ps.map g)) ρ = _
  rw [w_some, h0]
  show ((forL (fun x => bnd (asgn Φ t x) fun _ => execs Φ b) (ps.map g) (ρ.set i (.ls .lck (ps.map g)))).then _) = _
  rw [← hst, key ps [] rfl]
  show (match (st ps)[i]? with | some (.ls _ ys) => Out.ok Fl.nx ((st ps).set i (.ls k ys)) | _ => .stk) = _
  rw [hL]
  show Out.ok Fl.nx ((st ps).set i (.ls k (ps.map g))) = _
  rw [h2]
end
end DL
end
section
set_option autoImplicit false
/-! DLgn: the same parts with small times; comprehensions that draw. -/
namespace DL
open PySem L2
section
variable {Φ : Calls} {ρ ρ1 : Ev} {P : Type}
/-- a loop by an invariant, with what is still to come -/
theorem for_exR {t : Tg} {it : DL.It} {b : Ss} (g : P → D) (ps : List P) (I : List P → Ev → Prop) (hi : evit Φ it ρ = .ok (none, ps.map g) ρ1) (h0 : I [] ρ1)
    (hs : ∀ done p rest ρ, ps = done ++ p :: rest → I done ρ → ∃ ρ', (bnd (asgn Φ t (g p)) fun _ => execs Φ b) ρ = .ok .nx ρ' ∧ I (done ++ [p]) ρ') : ∃ ρ', exec Φ (.for_ t it b) ρ = .ok .nx ρ' ∧ I ps ρ' := by
  obtain ⟨ρ', e, h⟩ := forL_mapR (step := fun x => bnd (asgn Φ t x) fun _ => execs Φ b) g I ps [] ρ1 h0 fun d p r ρ hp hI => by
    obtain ⟨ρ', e, h⟩ := hs d p r ρ hp hI
    exact ⟨ρ', .inl e, h⟩
  refine ⟨ρ', ?_, h⟩
  show (evit Φ it ρ).then _ = _
  rw [hi]; exact e
end
end DL
end
section
set_option autoImplicit false
/-! DLgo: Monge, targets, the table that belongs to targets; repetitions. -/
namespace DL
open PySem L2
/-! Monge, targets -/
/-! the difference of two rows, of level l at height k -/
/-! at one height at most one difference falls, and then its level is used -/
/-! the target of a level, as the program finds it -/
/-! targets_of -/
/-! links_of -/
/-! distinct letters, cut times, doubling -/
-- v v = v : one v is as good as many
/-! the table that belongs to targets -/
-- what level l brings to a band with the upper end h
def gv (g : Nat → Option Nat) (h l : Nat) : Int := match g l with
  | none => 0
  | some t => if t = 0 ∨ h < t then 1 else 0
def fi (h : Int) : D → Option D
  | .int t => if 0 < t ∧ t ≤ h then some (.int t) else none
  | _ => none
end DL
end
section
set_option autoImplicit false
/-! DLgp: methods and makes as terms; powers of tables; logs repeated often. -/
namespace DL
open PySem L2
@[simp] theorem lkA {x y : Nat} : List.lookup 0 [((0 : Nat), x), (1, y)] = some x := rfl
@[simp] theorem lkB {x y : Nat} : List.lookup 1 [((0 : Nat), x), (1, y)] = some y := rfl
section
variable {Φ : Calls} {ρ ρ1 ρ2 : Ev}
theorem e_meth0 {o : E} {ms : List (Nat × Nat)} {c fi : Nat} {xs : List D} {v : R} (ho : ev Φ o ρ = .ok (.fz (.obj c xs)) ρ1) (h : Φ fi [.fz (.obj c xs)] = some (v, [.fz (.obj c xs)])) (hl : ms.lookup c = some fi := by rfl) : ev Φ (.meth o ms [0] .nil .nil) ρ = .ok v ρ1 := by
  simp [ho, hl, h]
end
/-! ### powers -/
end DL
end
section
set_option autoImplicit false
/-! DLgq: comprehensions over own lists that change the state. -/
namespace DL
open PySem L2
end DL
end
section
set_option autoImplicit false
/-! DLgr: steps that change nothing. -/
namespace DL
open PySem L2
/-- two words that do the same between any others -/
def Smw (n : Nat) (u v : List Int) : Prop := Eq2 n (lis (u.map Int.toNat)) (lis (v.map Int.toNat))
theorem Smw.refl (n : Nat) (u : List Int) : Smw n u u := Eq2.refl _ _
theorem Smw.symm {n : Nat} {u v : List Int} (h : Smw n u v) : Smw n v u := Eq2.symm h
theorem Smw.trans {n : Nat} {u v w : List Int} (h : Smw n u v) (g : Smw n v w) : Smw n u w := Eq2.trans h g
end DL
end
section
set_option autoImplicit false
/-! DLgs: mirrored words, words of a band. -/
namespace DL
open PySem L2
/-! ### the links of the mirrored word -/
end DL
end
section
set_option autoImplicit false
/-! DLgt: the log that is built from a table of targets. -/
namespace DL
open PySem L2
/-! what is counted in an ascending list -/
/-! reading markers again -/
/-! a valid table is its word's table -/
/-! the same, level by level over the used levels -/
end DL
end
section
set_option autoImplicit false
/-! DLgu: steps over dicts; targets that are drawn by groups; the word that a table of links builds. -/
namespace DL
open PySem L2
/-! targets by groups -/
/-! lists in order -/
/-! the steps of the draws -/
theorem e_orV {Φ : Calls} {ρ : Ev} {a b : E} {p q : Bool} (ha : ev Φ a ρ = .ok (.fz (.bl p)) ρ) (hb : ev Φ b ρ = .ok (.fz (.bl q)) ρ) : ev Φ (.or a b) ρ = .ok (.fz (.bl (p || q))) ρ :=
  e_or ha (fun h => by rw [h, Bool.false_or]; exact hb) fun h => by rw [h]; rfl
theorem e_andV {Φ : Calls} {ρ : Ev} {a b : E} {p q : Bool} (ha : ev Φ a ρ = .ok (.fz (.bl p)) ρ) (hb : ev Φ b ρ = .ok (.fz (.bl q)) ρ) : ev Φ (.and a b) ρ = .ok (.fz (.bl (p && q))) ρ :=
  e_and ha (fun h => by rw [h, Bool.true_and]; exact hb) fun h => by rw [h]; rfl
end DL
end
section
set_option autoImplicit false
/-! DLgv: growths (restricted growth sequences), their numbers, their tables. -/
namespace DL
open PySem L2
/-! the table of groups -/
/-! the growth of a table -/
end DL
end
section
set_option autoImplicit false
/-! DLgw: runs over growths: steps of the language, the states of links_by, chains. -/
namespace DL
open PySem L2
theorem e_call1x {Φ : Calls} {ρ : Ev} {f : Nat} {a : E} {d : D} {v : R} (ha : ev Φ a ρ = .ok (.fz d) ρ) (h : Φ f [.fz d] = some (v, [.fz d])) : ev Φ (.call f [0] .nil (.val a .nil)) ρ = .ok v ρ := by
  simp [ha, h]
/-! numbers of growths are small -/
/-! growths as rows of data -/
/-! links_by -/
/-! chains -/
/-! the number of a growth, from the left -/
end DL
end
section
set_option autoImplicit false
/-! DLgx: raising, run forward. -/
namespace DL
open PySem
theorem call_x {T : List Df} {k f c : Nat} {as : List Sl} {fs : List D} {ρ' : Ev} (d : Df) (hx : xexecs (callN T k) d.body (as ++ List.replicate (d.ns - d.np) .un) = some (c, fs, ρ')) (hT : T.length ≤ XO) (hd : T[f]? = some d := by rfl) (hl : as.length = d.np := by rfl) :
    callN T (k + 1) (f + XO) as = some (.fz (.tup [.int c, .tup fs]), as) := by
  unfold callN
  have h0 : T[f + XO]? = none := List.getElem?_eq_none (by omega)
  rw [h0]
  show (if XO ≤ f + XO then match T[f + XO - XO]? with
    | none => none
    | some d => if as.length = d.np then match xexecs (callN T k) d.body (as ++ List.replicate (d.ns - d.np) .un) with
        | some (c, fs, _) => some (R.fz (.tup [.int c, .tup fs]), as)
        | none => none
      else none
    else none) = _
  rw [if_pos (by omega), Nat.add_sub_cancel, hd]
  show (if as.length = d.np then _ else none) = _
  rw [if_pos hl, hx]
theorem call_stk {T : List Df} {k f : Nat} {as : List Sl} (d : Df) (he : execs (callN T k) d.body (as ++ List.replicate (d.ns - d.np) .un) = .stk) (hd : T[f]? = some d := by rfl) : callN T (k + 1) f as = none := by
  unfold callN
  rw [hd]
  show (if as.length = d.np then _ else none) = _
  split
  · rw [he]
  · rfl
section
variable {Φ : Calls} {ρ ρ1 ρ2 : Ev} {s : S} {ss a b : Ss} {c e : E} {r : Nat × List D × Ev}
theorem xs_st (h1 : exec Φ s ρ = .stk) (h2 : xexec Φ s ρ = some r) : xexecs Φ (.cons s ss) ρ = some r := by
  simp only [xexecs]; rw [h1]; exact h2
theorem sk_st (h1 : exec Φ s ρ = .stk) : execs Φ (.cons s ss) ρ = .stk := by
  show (exec Φ s ρ).then _ = _
  rw [h1]; rfl
theorem xi (k : Bool) (h : ev Φ c ρ = .ok (.fz (.bl k)) ρ1) (h2 : xexecs Φ (if k then a else b) ρ1 = some r) : xexec Φ (.ifs c a b) ρ = some r := by
  simp only [xexec]
  have e : (bnd (ev Φ c) fun x => bnd (vw x) fun d => ofO (truthD d)) ρ = .ok k ρ1 := by
    show (ev Φ c ρ).then _ = _
    rw [h]; rfl
  rw [e]
  cases k <;> exact h2
theorem xr {k : Nat} {es : Es} {ds : List D} (h : evs Φ es ρ = .ok ds ρ1) : xexec Φ (.ex (.rse k es)) ρ = some (k, ds, ρ1) := by
  simp only [xexec, xev]; rw [h]
theorem sk_r {k : Nat} {es : Es} : exec Φ (.ex (.rse k es)) ρ = .stk := rfl
theorem ev_xc {v : R} (h : ev Φ e ρ = .ok v ρ1) : ev Φ (.xc e) ρ = .ok v ρ1 := by simp only [ev]; exact h
end
end DL
end
section
set_option autoImplicit false
/-! DLgy: calls that raise, `_law_caught`, run forward; values of all kinds. -/
namespace DL
open PySem
section
variable {Φ : Calls} {ρ ρ1 ρ2 : Ev} {e : E}
@[simp] theorem x_xc : ev Φ (.xc e) = ev Φ e := by funext ρ; simp only [ev]
@[simp] theorem x_xa : ev Φ (.xa e) = ev Φ e := by funext ρ; simp only [ev]
/-- f(..) raises the error c with the field d -/
def Er (Φ : Calls) (f : Nat) (as : List Sl) (c : Nat) (d : D) : Prop := Φ f as = none ∧ ∃ ss, Φ (f + XO) as = some (.fz (.tup [.int (c : Int), .tup [d]]), ss)
theorem slots_val : ∀ (ds : List D), slotsOf ρ (ds.map .val) = some (ds.map .fz)
  | [] => rfl
  | d :: ds => by
    show (match some (Sl.fz d), slotsOf ρ (ds.map .val) with | some s, some ss => some (s :: ss) | _, _ => none) = _
    rw [slots_val ds]; rfl
theorem vals_val : ∀ (ds : List D), valsOf (ds.map .val) = some ds
  | [] => rfl
  | d :: ds => by
    show (valsOf (ds.map .val)).map (d :: ·) = _
    rw [vals_val ds]; rfl
variable {c : Nat} {d : D} {a b t : E} {s : S} {ss is js : Ss}
/-! the first part raises -/
end
/-! ### values of all kinds -/
/-- no instance -/
def isO : D → Bool
  | .obj _ _ => true
  | _ => false
end DL
end
section
set_option autoImplicit false
/-! DLgz: errors with any fields: calls, methods, makes that raise. -/
namespace DL
section
variable {Φ : Calls} {ρ ρ0 ρ1 ρ2 : Ev} {e a b : E} {s : S} {ss is js : Ss} {c : Nat} {fs : List D}
def ErL (Φ : Calls) (f : Nat) (as : List Sl) (c : Nat) (fs : List D) : Prop := Φ f as = none ∧ ∃ ss, Φ (f + XO) as = some (.fz (.tup [.int (c : Int), .tup fs]), ss)
def RsL (Φ : Calls) (e : E) (ρ : Ev) (c : Nat) (fs : List D) : Prop := ev Φ e ρ = .stk ∧ ∃ ρ', xev Φ e ρ = some (c, fs, ρ')
def RssL (Φ : Calls) (ss : Ss) (ρ : Ev) (c : Nat) (fs : List D) : Prop := execs Φ ss ρ = .stk ∧ ∃ ρ', xexecs Φ ss ρ = some (c, fs, ρ')
theorem Er.l {f : Nat} {as : List Sl} {d : D} (h : Er Φ f as c d) : ErL Φ f as c [d] := h
theorem erL_of {T : List Df} {k f c : Nat} {as : List Sl} {fs : List D} (d : Df) (h : RssL (callN T k) d.body (as ++ List.replicate (d.ns - d.np) .un) c fs) (hT : T.length ≤ XO := by decide) (hd : T[f]? = some d := by rfl) (hl : as.length = d.np := by rfl) : ErL (callN T (k + 1)) f as c fs := by
  obtain ⟨h1, ρ', h2⟩ := h
  exact ⟨call_stk d h1 hd, _, call_x d h2 hT hd hl⟩
theorem rssL_rse {es : Es} (h : evs Φ es ρ = .ok fs ρ1) : RssL Φ (.cons (.ex (.rse c es)) ss) ρ c fs := ⟨sk_st sk_r, ρ1, xs_st sk_r (xr h)⟩
theorem rssL_if (k : Bool) (he : ev Φ e ρ = .ok (.fz (.bl k)) ρ1) (h : RssL Φ (if k then is else js) ρ1 c fs) : RssL Φ (.cons (.ifs e is js) ss) ρ c fs := by
  obtain ⟨h1, ρ', h2⟩ := h
  have e1 : exec Φ (.ifs e is js) ρ = .stk := x_if k he rfl h1
  exact ⟨sk_st e1, ρ', xs_st e1 (xi k he h2)⟩
theorem rssL_ex (h : RsL Φ e ρ c fs) : RssL Φ (.cons (.ex e) ss) ρ c fs := by
  obtain ⟨h1, ρ', h2⟩ := h
  have e1 : exec Φ (.ex e) ρ = .stk := by show (ev Φ e ρ).then _ = _; rw [h1]; rfl
  exact ⟨sk_st e1, ρ', xs_st e1 (by simp only [xexec]; exact h2)⟩
/-- both sides of an expression that raises -/
abbrev Xx (Φ : Calls) (e : E) (ρ : Ev) (c : Nat) (fs : List D) (ρ2 : Ev) : Prop := ev Φ e ρ = .stk ∧ xev Φ e ρ = some (c, fs, ρ2)
theorem Xx.rs (h : Xx Φ e ρ c fs ρ2) : RsL Φ e ρ c fs := ⟨h.1, _, h.2⟩
theorem two_args {as ks : As} {al kl : List A} (ha : evas Φ as ρ = .ok al ρ1) (hk : evas Φ ks ρ1 = .ok kl ρ2) : (bnd (evas Φ as) fun a => bnd (evas Φ ks) fun b => DL.ret (a ++ b)) ρ = .ok (al ++ kl) ρ2 := by
  show (evas Φ as ρ).then _ = _
  rw [ha]
  show (evas Φ ks ρ1).then _ = _
  rw [hk]; rfl
theorem callM_stk {f : Nat} {perm : List Nat} {al : List A} {ds : List D} (hp : pick perm al = some (ds.map .val)) (h : Φ f (ds.map .fz) = none) : callM Φ f perm al ρ = .stk := by
  unfold callM
  rw [hp]
  show (if _ then _ else _) = _
  split
  · rw [slots_val]
    show (match Φ f (ds.map .fz) with | none => _ | some (r, ss') => _) = _
    rw [h]
  · rfl
theorem xcallA_of {f : Nat} {perm : List Nat} {al : List A} {ds : List D} {ss : List Sl} (hp : pick perm al = some (ds.map .val)) (h : Φ (f + XO) (ds.map .fz) = some (.fz (.tup [.int (c : Int), .tup fs]), ss)) : xcallA Φ f perm al ρ = some (c, fs, ρ) := by
  unfold xcallA
  rw [hp]
  show (match valsOf (ds.map .val) with | some ds => xcall Φ f (ds.map .fz) ρ | none => none) = _
  rw [vals_val]
  show xcall Φ f (ds.map .fz) ρ = _
  unfold xcall
  rw [h]
  rfl
theorem xx_call {f : Nat} {perm : List Nat} {as ks : As} {al kl : List A} {ds : List D} (ha : evas Φ as ρ = .ok al ρ1) (hk : evas Φ ks ρ1 = .ok kl ρ2) (hp : pick perm (al ++ kl) = some (ds.map .val)) (h : ErL Φ f (ds.map .fz) c fs) : Xx Φ (.xc (.call f perm as ks)) ρ c fs ρ2 := by
  obtain ⟨h1, ss, h2⟩ := h
  refine ⟨?_, ?_⟩
  · rw [x_xc]
    simp only [ev]
    show (evas Φ as ρ).then _ = _
    rw [ha]
    show (evas Φ ks ρ1).then _ = _
    rw [hk]
    exact callM_stk hp h1
  · simp only [xev, xcev]
    rw [two_args ha hk]
    exact xcallA_of hp h2
theorem e_cauL {cs : List Nat} (h : Xx Φ e ρ c fs ρ1) (hc : c ∈ cs) (ha : fs.length = xAr c) : ev Φ (.caught cs e) ρ = .ok (.fr (.str (xWord c) :: fs)) ρ1 := by
  obtain ⟨h1, h2⟩ := h
  have e1 : (bnd (ev Φ e) share) ρ = .stk := by show (ev Φ e ρ).then _ = _; rw [h1]; rfl
  simp only [ev]
  rw [e1, h2]
  show (if _ then _ else _) = _
  rw [if_pos ⟨ha, hc⟩]
/-- a class's call with any arguments -/
theorem e_makeK {f c0 : Nat} {perm : List Nat} {as ks : As} {al kl : List A} {ds xs : List D} {ss : List Sl} (ha : evas Φ as ρ = .ok al ρ1) (hk : evas Φ ks ρ1 = .ok kl ρ2) (hp : pick perm (al ++ kl) = some (ds.map .val)) (h : Φ f (.un :: ds.map .fz) = some (.fz (.tup xs), ss)) (hl : xs.length = (cFlds c0).length := by rfl) : ev Φ (.make c0 f perm as ks) ρ = .ok (.fz (.obj c0 xs)) ρ2 := by
  simp only [ev]
  show (evas Φ as ρ).then _ = _
  rw [ha]
  show (evas Φ ks ρ1).then _ = _
  rw [hk]
  show makeM Φ c0 f perm (al ++ kl) ρ2 = _
  unfold makeM
  simp only [hp, Option.bind_some, vals_val, h]
  exact if_pos hl
end
end DL
end
section
set_option autoImplicit false
/-! DLha: short texts: bounds that their repr wants; errors' and methods' helpers. -/
namespace DL
open PySem PySem.Spec PySem.Builtin.Str PyProof.Rows
structure Tx (n : Nat) (s : Str) : Prop where
  len : s.length ≤ n
  ok : ∀ c ∈ s.cps.toList, c < 0x110000
theorem Tx.mono {n m : Nat} {s : Str} (h : Tx n s) (hm : n ≤ m) : Tx m s := ⟨Nat.le_trans h.len hm, h.ok⟩
theorem Tx.app {n m : Nat} {a b : Str} (ha : Tx n a) (hb : Tx m b) : Tx (n + m) (a ++ b) := by
  refine ⟨?_, fun c hc => ?_⟩
  · rw [Str.length_append]
    exact Nat.add_le_add ha.len hb.len
  · rw [PySem.Str.cps_append, Array.toList_append, List.mem_append] at hc
    exact hc.elim (ha.ok c) (hb.ok c)
theorem Tx.int {i : Int} (h1 : -(10 ^ 31) < i) (h2 : i < 10 ^ 31) : Tx 32 (Str.ofString (toString i)) := by
  refine ⟨?_, fun c hc => ?_⟩
  · rw [PySem.ofString_length]
    exact int_text_length_le10 (k := 31) (by decide) (by omega)
  · by_cases q : c ≠ 45 ∧ (c < 48 ∨ 57 < c)
    · exact absurd hc (int_text_free' c q i)
    · omega
theorem Tx.join {sep : Str} (hs : Tx 1 sep) : ∀ {ws : List Str} {f : Str → Nat}, (∀ w ∈ ws, Tx (f w) w) → Tx ((ws.map f).sum + ws.length) (Str.join sep ws)
  | [], _, _ => ⟨Nat.zero_le _, fun c hc => by cases hc⟩
  | [x], f, h => (h x (List.mem_cons_self ..)).mono (by simp only [List.map_cons, List.map_nil, List.sum_cons, List.sum_nil]; omega)
  | x :: y :: r, f, h => by
    have ih := Tx.join hs (ws := y :: r) (f := f) fun w hw => h w (List.mem_cons_of_mem _ hw)
    refine ((h x (List.mem_cons_self ..)).app hs |>.app ih).mono ?_
    simp only [List.map_cons, List.sum_cons, List.length_cons]
    omega
theorem Tx.txt {sep : Str} (hs : Tx 1 sep) {ws : List Str} {f : Str → Nat} (h : ∀ w ∈ ws, Tx (f w) w) : Tx ((ws.map f).sum + ws.length) (Txt.join sep ws) := by
  show Tx _ (glued sep ws)
  rw [StrLaws.glued_eq_join]
  exact Tx.join hs h
theorem Tx.rq {n : Nat} {s : Str} (h : Tx n s) : Rq n 0 (.str s) := (Rq.str (by
  rw [List.all_eq_true]
  exact fun c hc => decide_eq_true (h.ok c hc))).mono h.len (Nat.le_refl _)
theorem strs_map (ws : List Str) : strsD (ws.map D.str) = some ws := by
  induction ws with
  | nil => rfl
  | cons w ws ih =>
    show (match strsD (ws.map D.str) with | _ => _) = _
    simp only [List.map_cons, strsD, ih]
    rfl
open PySem L2
mutual
theorem ls_up : ∀ d : PyData, d.leavesShort 32 = true → d.leavesShort 170 = true
  | .none, _ => rfl
  | .bool _, _ => rfl
  | .int i, h => decide_eq_true (Nat.le_trans (of_decide_eq_true (show decide ((PyData.shown (.int i)).length ≤ 32) = true from h)) (by decide))
  | .str x, h => h
  | .list xs, h => ls_upA xs h
  | .tuple xs, h => ls_upA xs h
  | .dict kvs, h => ls_upK kvs h
theorem ls_upA : ∀ ds : List PyData, PyData.leavesShortAll 32 ds = true → PyData.leavesShortAll 170 ds = true
  | [], _ => rfl
  | d :: ds, h => by
    obtain ⟨h1, h2⟩ := Bool.and_eq_true _ _ |>.mp (show (d.leavesShort 32 && PyData.leavesShortAll 32 ds) = true from h)
    show (d.leavesShort 170 && PyData.leavesShortAll 170 ds) = true
    rw [ls_up d h1, ls_upA ds h2]; rfl
theorem ls_upK : ∀ ds : List (PyData × PyData), PyData.leavesShortKv 32 ds = true → PyData.leavesShortKv 170 ds = true
  | [], _ => rfl
  | (k, v) :: ds, h => by
    obtain ⟨h0, h2⟩ := Bool.and_eq_true _ _ |>.mp (show (k.leavesShort 32 && v.leavesShort 32 && PyData.leavesShortKv 32 ds) = true from h)
    obtain ⟨h0, h1⟩ := Bool.and_eq_true _ _ |>.mp h0
    show (k.leavesShort 170 && v.leavesShort 170 && PyData.leavesShortKv 170 ds) = true
    rw [ls_up k h0, ls_up v h1, ls_upK ds h2]; rfl
end
/-- what repr needs, with ints of up to 160 digits -/
structure Rws (w h : Nat) (ds : List D) : Prop where
  pur : puresR ds = true
  show_ : PyData.showableAll (toPy.toPys ds) = true
  short : PyData.leavesShortAll 170 (toPy.toPys ds) = true
  ht : PyData.depthAll (toPy.toPys ds) ≤ h
  wt : PyData.weightAll (toPy.toPys ds) ≤ w
theorem Rws.nil (h : Nat) : Rws 0 h [] := ⟨rfl, rfl, rfl, Nat.zero_le _, Nat.zero_le _⟩
theorem Rws.cons {w v h : Nat} {d : D} {ds : List D} (a : Rq w h d) (b : Rws v h ds) : Rws (w + 1 + v) h (d :: ds) := by
  refine ⟨?_, ?_, ?_, ?_, ?_⟩
  · show (pureR d && puresR ds) = true
    rw [a.pur, b.pur]; rfl
  · show ((toPy d).showable && PyData.showableAll (toPy.toPys ds)) = true
    rw [a.show_, b.show_]; rfl
  · show ((toPy d).leavesShort 170 && PyData.leavesShortAll 170 (toPy.toPys ds)) = true
    rw [ls_up _ a.short, b.short]; rfl
  · exact Nat.max_le.mpr ⟨a.ht, b.ht⟩
  · show (toPy d).weight + 1 + PyData.weightAll (toPy.toPys ds) ≤ _
    have := a.wt
    have := b.wt
    omega
end DL
end
namespace Q_bandlinks_k07_logs_are_formatted
open PySem PySem.Spec PyProof.Rows L2 DL
/-! the text -/
/- 0: law(_law_script); slots _law_script, _law_k -/
abbrev N0 : List Str := ["_law_script", "_law_k"]
abbrev p0 : List Str := ["_law_script"]
theorem sc0 : FnScope N0 p0 (defScope st0) := ⟨rfl, rfl, rfl, by decide +kernel, rfl, by decide +kernel, by decide +kernel⟩
/- 1: _law_fixed_right(); slots _law_deep, _law_text_here, _law_turn, _law_times_here, _law_some, _law_levels_here, _law_parts_here, _law_due -/
abbrev N1 : List Str := ["_law_deep", "_law_text_here", "_law_turn", "_law_times_here", "_law_some", "_law_levels_here", "_law_parts_here", "_law_due"]
abbrev p1 : List Str := []
theorem sc1 : FnScope N1 p1 (defScope st1) := ⟨rfl, rfl, rfl, by decide +kernel, rfl, by decide +kernel, by decide +kernel⟩
/- 2: _law_right(_law_pool_here); slots _law_pool_here, _law_levels_here, _law_parts_here, _law_text_here -/
abbrev N2 : List Str := ["_law_pool_here", "_law_levels_here", "_law_parts_here", "_law_text_here"]
abbrev p2 : List Str := ["_law_pool_here"]
theorem sc2 : FnScope N2 p2 (defScope st2) := ⟨rfl, rfl, rfl, by decide +kernel, rfl, by decide +kernel, by decide +kernel⟩
/- 3: _law_pool(_law_cell_here); slots _law_cell_here, _law_digits -/
abbrev N3 : List Str := ["_law_cell_here", "_law_digits"]
abbrev p3 : List Str := ["_law_cell_here"]
theorem sc3 : FnScope N3 p3 (defScope st3) := ⟨rfl, rfl, rfl, by decide +kernel, rfl, by decide +kernel, by decide +kernel⟩
/- 4: _law_cell(_law_script, _law_k); slots _law_script, _law_k, _law_state, _law_cell_here -/
abbrev N4 : List Str := ["_law_script", "_law_k", "_law_state", "_law_cell_here"]
abbrev p4 : List Str := ["_law_script", "_law_k"]
theorem sc4 : FnScope N4 p4 (defScope st4) := ⟨rfl, rfl, rfl, by decide +kernel, rfl, by decide +kernel, by decide +kernel⟩
/- 5: _law_one_right(_law_levels_here, _law_parts_here, _law_due); slots _law_levels_here, _law_parts_here, _law_due, _law_made, _law_told -/
abbrev N5 : List Str := ["_law_levels_here", "_law_parts_here", "_law_due", "_law_made", "_law_told"]
abbrev p5 : List Str := ["_law_levels_here", "_law_parts_here", "_law_due"]
theorem sc5 : FnScope N5 p5 (defScope st5) := ⟨rfl, rfl, rfl, by decide +kernel, rfl, by decide +kernel, by decide +kernel⟩
/- 6: _law_levels(_law_pool_here, _law_most); slots _law_pool_here, _law_most, _law_wide -/
abbrev N6 : List Str := ["_law_pool_here", "_law_most", "_law_wide"]
abbrev p6 : List Str := ["_law_pool_here", "_law_most"]
theorem sc6 : FnScope N6 p6 (defScope st6) := ⟨rfl, rfl, rfl, by decide +kernel, rfl, by decide +kernel, by decide +kernel⟩
/- 7: _law_parts(_law_pool_here, _law_height, _law_room, _law_deep); slots _law_pool_here, _law_height, _law_room, _law_deep, _law_pieces, _law_inner -/
abbrev N7 : List Str := ["_law_pool_here", "_law_height", "_law_room", "_law_deep", "_law_pieces", "_law_inner"]
abbrev p7 : List Str := ["_law_pool_here", "_law_height", "_law_room", "_law_deep"]
theorem sc7 : FnScope N7 p7 (defScope st7) := ⟨rfl, rfl, rfl, by decide +kernel, rfl, by decide +kernel, by decide +kernel⟩
/- 8: _law_draw(_law_pool_here, _law_count); slots _law_pool_here, _law_count, _law_state, _law_digit -/
abbrev N8 : List Str := ["_law_pool_here", "_law_count", "_law_state", "_law_digit"]
abbrev p8 : List Str := ["_law_pool_here", "_law_count"]
theorem sc8 : FnScope N8 p8 (defScope st8) := ⟨rfl, rfl, rfl, by decide +kernel, rfl, by decide +kernel, by decide +kernel⟩
/- 9: _law_text(_law_parts_here); slots _law_parts_here, _law_words, _law_part -/
abbrev N9 : List Str := ["_law_parts_here", "_law_words", "_law_part"]
abbrev p9 : List Str := ["_law_parts_here"]
theorem sc9 : FnScope N9 p9 (defScope st9) := ⟨rfl, rfl, rfl, by decide +kernel, rfl, by decide +kernel, by decide +kernel⟩
/- 10: _law_others_right(_law_levels_here, _law_parts_here, _law_text_here); slots _law_levels_here, _law_parts_here, _law_text_here, _law_made, _law_things, _law_thing -/
abbrev N10 : List Str := ["_law_levels_here", "_law_parts_here", "_law_text_here", "_law_made", "_law_things", "_law_thing"]
abbrev p10 : List Str := ["_law_levels_here", "_law_parts_here", "_law_text_here"]
theorem sc10 : FnScope N10 p10 (defScope st10) := ⟨rfl, rfl, rfl, by decide +kernel, rfl, by decide +kernel, by decide +kernel⟩
/- 11: Log.__init__(self, levels, parts); slots self, levels, parts, invalid -/
abbrev N11 : List Str := ["self", "levels", "parts", "invalid"]
abbrev p11 : List Str := ["self", "levels", "parts"]
theorem sc11 : FnScope N11 p11 (defScope st11) := ⟨rfl, rfl, rfl, by decide +kernel, rfl, by decide +kernel, by decide +kernel⟩
/- 12: format_log(log); slots log -/
abbrev N12 : List Str := ["log"]
abbrev p12 : List Str := ["log"]
theorem sc12 : FnScope N12 p12 (defScope st12) := ⟨rfl, rfl, rfl, by decide +kernel, rfl, by decide +kernel, by decide +kernel⟩
/- 13: Log.__str__(self); slots self -/
abbrev N13 : List Str := ["self"]
abbrev p13 : List Str := ["self"]
theorem sc13 : FnScope N13 p13 (defScope st13) := ⟨rfl, rfl, rfl, by decide +kernel, rfl, by decide +kernel, by decide +kernel⟩
/- 14: _law_size(_law_pieces); slots _law_pieces, _law_piece -/
abbrev N14 : List Str := ["_law_pieces", "_law_piece"]
abbrev p14 : List Str := ["_law_pieces"]
theorem sc14 : FnScope N14 p14 (defScope st14) := ⟨rfl, rfl, rfl, by decide +kernel, rfl, by decide +kernel, by decide +kernel⟩
/- 15: _law_times(_law_pool_here); slots _law_pool_here -/
abbrev N15 : List Str := ["_law_pool_here"]
abbrev p15 : List Str := ["_law_pool_here"]
theorem sc15 : FnScope N15 p15 (defScope st15) := ⟨rfl, rfl, rfl, by decide +kernel, rfl, by decide +kernel, by decide +kernel⟩
/- 16: Log.__repr__(self); slots self -/
abbrev N16 : List Str := ["self"]
abbrev p16 : List Str := ["self"]
theorem sc16 : FnScope N16 p16 (defScope st16) := ⟨rfl, rfl, rfl, by decide +kernel, rfl, by decide +kernel, by decide +kernel⟩
/- 17: is_level_count(thing); slots thing -/
abbrev N17 : List Str := ["thing"]
abbrev p17 : List Str := ["thing"]
theorem sc17 : FnScope N17 p17 (defScope st17) := ⟨rfl, rfl, rfl, by decide +kernel, rfl, by decide +kernel, by decide +kernel⟩
/- 18: first_invalid(levels, parts); slots levels, parts, size, index, part, found -/
abbrev N18 : List Str := ["levels", "parts", "size", "index", "part", "found"]
abbrev p18 : List Str := ["levels", "parts"]
theorem sc18 : FnScope N18 p18 (defScope st18) := ⟨rfl, rfl, rfl, by decide +kernel, rfl, by decide +kernel, by decide +kernel⟩
/- 19: check_log(thing); slots thing -/
abbrev N19 : List Str := ["thing"]
abbrev p19 : List Str := ["thing"]
theorem sc19 : FnScope N19 p19 (defScope st19) := ⟨rfl, rfl, rfl, by decide +kernel, rfl, by decide +kernel, by decide +kernel⟩
/- 20: parts_text(parts); slots parts, words, part -/
abbrev N20 : List Str := ["parts", "words", "part"]
abbrev p20 : List Str := ["parts"]
theorem sc20 : FnScope N20 p20 (defScope st20) := ⟨rfl, rfl, rfl, by decide +kernel, rfl, by decide +kernel, by decide +kernel⟩
/- 21: is_between(thing, least, most); slots thing, least, most -/
abbrev N21 : List Str := ["thing", "least", "most"]
abbrev p21 : List Str := ["thing", "least", "most"]
theorem sc21 : FnScope N21 p21 (defScope st21) := ⟨rfl, rfl, rfl, by decide +kernel, rfl, by decide +kernel, by decide +kernel⟩
/- 22: measure_part(levels, part); slots levels, part, inner -/
abbrev N22 : List Str := ["levels", "part", "inner"]
abbrev p22 : List Str := ["levels", "part"]
theorem sc22 : FnScope N22 p22 (defScope st22) := ⟨rfl, rfl, rfl, by decide +kernel, rfl, by decide +kernel, by decide +kernel⟩
/- 23: is_log(thing); slots thing -/
abbrev N23 : List Str := ["thing"]
abbrev p23 : List Str := ["thing"]
theorem sc23 : FnScope N23 p23 (defScope st23) := ⟨rfl, rfl, rfl, by decide +kernel, rfl, by decide +kernel, by decide +kernel⟩
/- 24: is_whole(thing); slots thing -/
abbrev N24 : List Str := ["thing"]
abbrev p24 : List Str := ["thing"]
theorem sc24 : FnScope N24 p24 (defScope st24) := ⟨rfl, rfl, rfl, by decide +kernel, rfl, by decide +kernel, by decide +kernel⟩
/- 25: is_level(levels, thing); slots levels, thing -/
abbrev N25 : List Str := ["levels", "thing"]
abbrev p25 : List Str := ["levels", "thing"]
theorem sc25 : FnScope N25 p25 (defScope st25) := ⟨rfl, rfl, rfl, by decide +kernel, rfl, by decide +kernel, by decide +kernel⟩
/- 26: measure(levels, parts); slots levels, parts, size, depth, part, found -/
abbrev N26 : List Str := ["levels", "parts", "size", "depth", "part", "found"]
abbrev p26 : List Str := ["levels", "parts"]
theorem sc26 : FnScope N26 p26 (defScope st26) := ⟨rfl, rfl, rfl, by decide +kernel, rfl, by decide +kernel, by decide +kernel⟩
/-! the lambdas' tables -/
instance tabsQ : LTabs := ⟨[(843, ("_law_others_right" ++ ".<locals>.") ++ "<lambda>")], fun g => g = some [], rfl⟩
abbrev CS : List Nat := [16]
abbrev Nca : List Str := ["_law_call", "_law_e"]
abbrev Nkd : List Str := ["_law_e", "_law_kinds", "_law_bases", "_law_own", "_law_at", "_law_words"]
abbrev Nfl : List Str := ["_law_e"]
theorem scca : FnScope Nca ["_law_call"] (defScope strca) := ⟨rfl, rfl, rfl, by decide +kernel, rfl, by decide +kernel, by decide +kernel⟩
theorem sckd : FnScope Nkd ["_law_e"] (defScope strkd) := ⟨rfl, rfl, rfl, by decide +kernel, rfl, by decide +kernel, by decide +kernel⟩
theorem scfl : FnScope Nfl ["_law_e"] (defScope strfl) := ⟨rfl, rfl, rfl, by decide +kernel, rfl, by decide +kernel, by decide +kernel⟩
/-! the table -/
def ir0 : Ss := .cons (.ifs (.not (.call 1 [] .nil .nil)) (.cons (.ret (.cst (.bl false)))
    (.nil)) (.nil))
    (.cons (.ret (.bi .all (.cons (.comp [1] (.nm 1) (.rng1 (.bi .max2 (.cons (.cst (.int 2)) (.cons (.bi .min2 (.cons (.bi .len (.cons (.var 0) (.nil))) (.cons (.cst (.int 6)) (.nil)))) (.nil))))) (.none) (.call 2 [0] (.ref (.call 3 [0] (.val (.call 4 [0, 1] (.val (.var 0) (.val (.var 1) (.nil))) .nil) (.nil)) .nil) (.nil)) .nil)) (.nil))))
    (.nil))
def ir1 : Ss := .cons (.asg (.tp (.cons (.nm 0) (.cons (.nm 1) (.nil)))) (.tup (.cons (.tup (.cons (.cst (.int 1)) (.cons (.cst (.int 12)) (.nil)))) (.cons (.cst (.str "1 12")) (.nil)))))
    (.cons (.for_ (.nm 2) (.rng1 (.cst (.int 4))) (.cons (.ifs (.not (.call 5 [0, 1, 2] (.val (.cst (.int 12)) (.val (.var 0) (.val (.var 1) (.nil)))) .nil)) (.cons (.ret (.cst (.bl false)))
    (.nil)) (.nil))
    (.cons (.asg (.nm 3) (.bin .sub (.bin .pow (.cst (.int 10)) (.cst (.int 30))) (.var 2)))
    (.cons (.par 0 1 (.tup (.cons (.tup (.cons (.var 0) (.cons (.var 3) (.nil)))) (.cons (.bin .add (.var 2) (.cst (.int 1))) (.nil)))) (.bin .add (.bin .add (.bin .add (.bin .add (.bin .add (.cst (.str "(")) (.var 1)) (.cst (.str ")x"))) (.bi .str1 (.cons (.var 3) (.nil)))) (.cst (.str " "))) (.bi .str1 (.cons (.bin .add (.var 2) (.cst (.int 1))) (.nil)))))
    (.cons (.wip [3, 2])
    (.nil))))))
    (.cons (.asg (.nm 4) (.lst (.cons (.tup (.cons (.cst (.int 12)) (.cons (.var 0) (.cons (.var 1) (.nil))))) (.cons (.tup (.cons (.cst (.int 1)) (.cons (.tup (.nil)) (.cons (.cst (.str "-")) (.nil))))) (.cons (.tup (.cons (.cst (.int 12)) (.cons (.tup (.nil)) (.cons (.cst (.str "-")) (.nil))))) (.cons (.tup (.cons (.cst (.int 1)) (.cons (.tup (.cons (.cst (.int 1)) (.nil))) (.cons (.cst (.str "1")) (.nil))))) (.nil)))))))
    (.cons (.asg (.nm 4) (.bin .add (.var 4) (.lst (.cons (.tup (.cons (.cst (.int 12)) (.cons (.bin .mul (.tup (.cons (.cst (.int 12)) (.nil))) (.cst (.int 120))) (.cons (.bi .join (.cons (.cst (.str " ")) (.cons (.bin .mul (.lst (.cons (.cst (.str "12")) (.nil))) (.cst (.int 120))) .nil))) (.nil))))) (.nil)))))
    (.cons (.asg (.nm 4) (.bin .add (.var 4) (.lst (.cons (.tup (.cons (.cst (.int 3)) (.cons (.bin .mul (.tup (.cons (.tup (.cons (.tup (.nil)) (.cons (.cst (.int 1)) (.nil)))) (.nil))) (.cst (.int 120))) (.cons (.bi .join (.cons (.cst (.str " ")) (.cons (.bin .mul (.lst (.cons (.cst (.str "(-)x1")) (.nil))) (.cst (.int 120))) .nil))) (.nil))))) (.nil)))))
    (.cons (.asg (.nm 4) (.bin .add (.var 4) (.lst (.cons (.tup (.cons (.cst (.int 12)) (.cons (.tup (.cons (.cst (.int 10)) (.cons (.tup (.cons (.tup (.cons (.tup (.cons (.tup (.nil)) (.cons (.cst (.int 2)) (.nil)))) (.cons (.cst (.int 1)) (.nil)))) (.cons (.cst (.int 1000)) (.nil)))) (.nil)))) (.cons (.cst (.str "10 ((-)x2 1)x1000")) (.nil))))) (.nil)))))
    (.cons (.asg (.nm 4) (.bin .add (.var 4) (.lst (.cons (.tup (.cons (.cst (.int 12)) (.cons (.bi .tupRng2 (.cons (.cst (.int 1)) (.cons (.cst (.int 13)) .nil))) (.cons (.cst (.str "1 2 3 4 5 6 7 8 9 10 11 12")) (.nil))))) (.nil)))))
    (.cons (.asg (.nm 4) (.bin .add (.var 4) (.lst (.cons (.tup (.cons (.cst (.int 2)) (.cons (.tup (.cons (.tup (.cons (.tup (.cons (.cst (.int 2)) (.cons (.cst (.int 1)) (.nil)))) (.cons (.bin .pow (.cst (.int 10)) (.cst (.int 30))) (.nil)))) (.nil))) (.cons (.bin .add (.cst (.str "(2 1)x1")) (.bin .mul (.cst (.str "0")) (.cst (.int 30)))) (.nil))))) (.nil)))))
    (.cons (.ret (.bi .all (.cons (.comp [5, 6, 7] (.tp (.cons (.nm 5) (.cons (.nm 6) (.cons (.nm 7) (.nil))))) (.val (.var 4)) (.none) (.call 5 [0, 1, 2] (.val (.var 5) (.val (.var 6) (.val (.var 7) (.nil)))) .nil)) (.nil))))
    (.nil)))))))))
abbrev lt1_0 : Tg := .nm 2
abbrev lb1_0 : Ss := .cons (.ifs (.not (.call 5 [0, 1, 2] (.val (.cst (.int 12)) (.val (.var 0) (.val (.var 1) (.nil)))) .nil)) (.cons (.ret (.cst (.bl false)))
    (.nil)) (.nil))
    (.cons (.asg (.nm 3) (.bin .sub (.bin .pow (.cst (.int 10)) (.cst (.int 30))) (.var 2)))
    (.cons (.par 0 1 (.tup (.cons (.tup (.cons (.var 0) (.cons (.var 3) (.nil)))) (.cons (.bin .add (.var 2) (.cst (.int 1))) (.nil)))) (.bin .add (.bin .add (.bin .add (.bin .add (.bin .add (.cst (.str "(")) (.var 1)) (.cst (.str ")x"))) (.bi .str1 (.cons (.var 3) (.nil)))) (.cst (.str " "))) (.bi .str1 (.cons (.bin .add (.var 2) (.cst (.int 1))) (.nil)))))
    (.cons (.wip [3, 2])
    (.nil))))
def ir2 : Ss := .cons (.asg (.nm 1) (.call 6 [0, 1] (.ref (.var 0) (.val (.cst (.int 12)) (.nil))) .nil))
    (.cons (.asg (.nm 2) (.call 7 [0, 1, 2, 3] (.ref (.var 0) (.val (.var 1) (.val (.idx (.lst (.cons (.cst (.int 8)) (.cons (.cst (.int 40)) (.cons (.cst (.int 120)) (.nil))))) (.call 8 [0, 1] (.ref (.var 0) (.val (.cst (.int 3)) (.nil))) .nil)) (.val (.bin .add (.cst (.int 1)) (.call 8 [0, 1] (.ref (.var 0) (.val (.cst (.int 5)) (.nil))) .nil)) (.nil))))) .nil))
    (.cons (.asg (.nm 3) (.call 9 [0] (.val (.var 2) (.nil)) .nil))
    (.cons (.ret (.and (.call 5 [0, 1, 2] (.val (.var 1) (.val (.var 2) (.val (.var 3) (.nil)))) .nil) (.call 10 [0, 1, 2] (.val (.var 1) (.val (.var 2) (.val (.var 3) (.nil)))) .nil)))
    (.nil))))
def ir3 : Ss := .cons (.asg (.nm 1) (.cst (.int 0)))
    (.cons (.ifs (.or (.cmp .lt (.var 0) (.cst (.int 0))) (.cmp .ge (.var 0) (.bin .pow (.cst (.int 10)) (.cst (.int 18))))) (.cons (.asg (.nm 1) (.bi .abs (.cons (.var 0) (.nil))))
    (.nil)) (.nil))
    (.cons (.ret (.lst (.cons (.bin .mod (.var 0) (.cst (.int 1000000007))) (.cons (.var 1) (.cons (.cst (.int 0)) (.nil))))))
    (.nil)))
def ir4 : Ss := .cons (.ifs (.cmp .lt (.var 1) (.bi .len (.cons (.var 0) (.nil)))) (.cons (.ret (.idx (.var 0) (.var 1)))
    (.nil)) (.nil))
    (.cons (.asg (.nm 2) (.bin .mod (.bin .mul (.cst (.int 50021)) (.bin .add (.bin .add (.bin .mul (.var 1) (.var 1)) (.bin .mul (.cst (.int 7)) (.var 1))) (.cst (.int 3)))) (.cst (.int 1000000007))))
    (.cons (.for_ (.nm 3) (.val (.slc (.var 0) (.none) (.some (.cst (.int 3))))) (.cons (.asg (.nm 2) (.bin .mod (.bin .add (.bin .mul (.var 2) (.cst (.int 30011))) (.var 3)) (.cst (.int 1000000007))))
    (.nil)))
    (.cons (.ret (.var 2))
    (.nil))))
def ir5 : Ss := .cons (.asg (.nm 3) (.make 0 11 [0, 1] (.val (.var 0) (.val (.var 1) (.nil))) (.val (.cst (.tup [])) (.nil))))
    (.cons (.for_ (.nm 4) (.val (.lst (.cons (.call 12 [0] (.val (.var 3) (.nil)) .nil) (.cons (.call 12 [0] .nil (.val (.var 3) (.nil))) (.cons (.meth (.var 3) [(0, 13)] [0] .nil .nil) (.cons (.call 12 [0] (.val (.var 3) (.nil)) .nil) (.nil))))))) (.cons (.ifs (.or (.not (.bi (.isi .str) (.cons (.var 4) .nil))) (.cmp .ne (.var 4) (.var 2))) (.cons (.ret (.cst (.bl false)))
    (.nil)) (.nil))
    (.cons (.wip [4])
    (.nil))))
    (.cons (.ret (.and (.cmp .eq (.bi .repr (.cons (.fld (.var 3) [(0, 1)]) (.nil))) (.bi .repr (.cons (.var 1) (.nil)))) (.cmp .eq (.fld (.var 3) [(0, 0)]) (.var 0))))
    (.nil)))
abbrev lt5_0 : Tg := .nm 4
abbrev lb5_0 : Ss := .cons (.ifs (.or (.not (.bi (.isi .str) (.cons (.var 4) .nil))) (.cmp .ne (.var 4) (.var 2))) (.cons (.ret (.cst (.bl false)))
    (.nil)) (.nil))
    (.cons (.wip [4])
    (.nil))
def ir6 : Ss := .cons (.asg (.nm 2) (.cmp .eq (.call 8 [0, 1] (.ref (.var 0) (.val (.cst (.int 3)) (.nil))) .nil) (.cst (.int 0))))
    (.cons (.ret (.bin .add (.cst (.int 1)) (.call 8 [0, 1] (.ref (.var 0) (.val (.ite (.var 2) (.var 1) (.bi .min2 (.cons (.cst (.int 5)) (.cons (.var 1) (.nil))))) (.nil))) .nil)))
    (.nil))
def ir7 : Ss := .cons (.asg (.nm 4) (.lst (.nil)))
    (.cons (.whl (.and (.cmp .gt (.var 2) (.cst (.int 0))) (.cmp .gt (.call 8 [0, 1] (.ref (.var 0) (.val (.cst (.int 9)) (.nil))) .nil) (.cst (.int 0)))) (.cons (.asg (.nm 2) (.bin .sub (.var 2) (.cst (.int 1))))
    (.cons (.ifs (.and (.cmp .gt (.var 3) (.cst (.int 1))) (.cmp .eq (.call 8 [0, 1] (.ref (.var 0) (.val (.cst (.int 4)) (.nil))) .nil) (.cst (.int 0)))) (.cons (.asg (.nm 5) (.call 7 [0, 1, 2, 3] (.ref (.var 0) (.val (.var 1) (.val (.call 8 [0, 1] (.ref (.var 0) (.val (.bin .add (.var 2) (.cst (.int 1))) (.nil))) .nil) (.val (.bin .sub (.var 3) (.cst (.int 1))) (.nil))))) .nil))
    (.cons (.asg (.nm 2) (.bin .sub (.var 2) (.call 14 [0] (.val (.var 5) (.nil)) .nil)))
    (.cons (.ex (.app 4 (.tup (.cons (.var 5) (.cons (.call 15 [0] (.ref (.var 0) (.nil)) .nil) (.nil))))))
    (.nil)))) (.cons (.ex (.app 4 (.bin .add (.cst (.int 1)) (.call 8 [0, 1] (.ref (.var 0) (.val (.var 1) (.nil))) .nil))))
    (.nil)))
    (.cons (.wip [5])
    (.nil)))))
    (.cons (.wip [2])
    (.cons (.ret (.bi .tuple (.cons (.var 4) (.nil))))
    (.nil))))
abbrev wc7_0 : DL.E := .and (.cmp .gt (.var 2) (.cst (.int 0))) (.cmp .gt (.call 8 [0, 1] (.ref (.var 0) (.val (.cst (.int 9)) (.nil))) .nil) (.cst (.int 0)))
abbrev wb7_0 : Ss := .cons (.asg (.nm 2) (.bin .sub (.var 2) (.cst (.int 1))))
    (.cons (.ifs (.and (.cmp .gt (.var 3) (.cst (.int 1))) (.cmp .eq (.call 8 [0, 1] (.ref (.var 0) (.val (.cst (.int 4)) (.nil))) .nil) (.cst (.int 0)))) (.cons (.asg (.nm 5) (.call 7 [0, 1, 2, 3] (.ref (.var 0) (.val (.var 1) (.val (.call 8 [0, 1] (.ref (.var 0) (.val (.bin .add (.var 2) (.cst (.int 1))) (.nil))) .nil) (.val (.bin .sub (.var 3) (.cst (.int 1))) (.nil))))) .nil))
    (.cons (.asg (.nm 2) (.bin .sub (.var 2) (.call 14 [0] (.val (.var 5) (.nil)) .nil)))
    (.cons (.ex (.app 4 (.tup (.cons (.var 5) (.cons (.call 15 [0] (.ref (.var 0) (.nil)) .nil) (.nil))))))
    (.nil)))) (.cons (.ex (.app 4 (.bin .add (.cst (.int 1)) (.call 8 [0, 1] (.ref (.var 0) (.val (.var 1) (.nil))) .nil))))
    (.nil)))
    (.cons (.wip [5])
    (.nil)))
def ir8 : Ss := .cons (.asg (.sub 0 (.cst (.int 2))) (.bin .add (.idx (.var 0) (.cst (.int 2))) (.cst (.int 1))))
    (.cons (.asg (.nm 2) (.idx (.var 0) (.cst (.int 0))))
    (.cons (.asg (.sub 0 (.cst (.int 0))) (.bin .mod (.bin .add (.bin .add (.bin .mul (.var 2) (.bin .add (.bin .mod (.bi .int1 (.cons (.var 2) (.nil))) (.cst (.int 46007))) (.cst (.int 20011)))) (.bin .mul (.cst (.int 60013)) (.idx (.var 0) (.cst (.int 2))))) (.cst (.int 5))) (.cst (.int 1000000007))))
    (.cons (.ifs (.cmp .gt (.idx (.var 0) (.cst (.int 1))) (.cst (.int 0))) (.cons (.asg (.tp (.cons (.sub 0 (.cst (.int 1))) (.cons (.nm 3) (.nil)))) (.bi .divmod (.cons (.idx (.var 0) (.cst (.int 1))) (.cons (.var 1) (.nil)))))
    (.cons (.ret (.var 3))
    (.nil))) (.nil))
    (.cons (.ret (.bin .mod (.bin .fdiv (.idx (.var 0) (.cst (.int 0))) (.cst (.int 32))) (.var 1)))
    (.nil)))))
def ir9 : Ss := .cons (.asg (.nm 1) (.lst (.nil)))
    (.cons (.for_ (.nm 2) (.val (.var 0)) (.cons (.ex (.app 1 (.ite (.bi (.isi .int) (.cons (.var 2) .nil)) (.bi .str1 (.cons (.var 2) (.nil))) (.bin .add (.bin .add (.bin .add (.cst (.str "(")) (.call 9 [0] (.val (.idx (.var 2) (.cst (.int 0))) (.nil)) .nil)) (.cst (.str ")x"))) (.bi .str1 (.cons (.idx (.var 2) (.cst (.int 1))) (.nil)))))))
    (.cons (.wip [2])
    (.nil))))
    (.cons (.ret (.ite (.cmp .ne (.var 1) (.lst (.nil))) (.bi .join (.cons (.cst (.str " ")) (.cons (.var 1) .nil))) (.cst (.str "-"))))
    (.nil)))
abbrev lt9_0 : Tg := .nm 2
abbrev lb9_0 : Ss := .cons (.ex (.app 1 (.ite (.bi (.isi .int) (.cons (.var 2) .nil)) (.bi .str1 (.cons (.var 2) (.nil))) (.bin .add (.bin .add (.bin .add (.cst (.str "(")) (.call 9 [0] (.val (.idx (.var 2) (.cst (.int 0))) (.nil)) .nil)) (.cst (.str ")x"))) (.bi .str1 (.cons (.idx (.var 2) (.cst (.int 1))) (.nil)))))))
    (.cons (.wip [2])
    (.nil))
def ir10 : Ss := .cons (.asg (.nm 3) (.make 0 11 [0, 1] (.val (.var 0) (.val (.var 1) (.nil))) (.val (.cst (.tup [])) (.nil))))
    (.cons (.asg (.nm 4) (.lst (.cons (.cst .non) (.cons (.cst (.int 0)) (.cons (.cst (.int 7)) (.cons (.cst (.bl true)) (.cons (.cst (.str "")) (.cons (.cst (.str "-")) (.cons (.var 2) (.cons (.tup (.nil)) (.cons (.var 1) (.cons (.lst (.nil)) (.cons (.cst .emp) (.nil))))))))))))))
    (.cons (.asg (.nm 4) (.bin .add (.var 4) (.lst (.cons (.lst (.cons (.var 3) (.nil))) (.cons (.tup (.cons (.var 3) (.nil))) (.cons (.tup (.cons (.var 0) (.cons (.var 1) (.nil)))) (.cons (.bi .list (.cons (.var 1) (.nil))) (.cons (.lst (.cons (.var 1) (.nil))) (.nil)))))))))
    (.cons (.for_ (.nm 5) (.val (.var 4)) (.cons (.ifs (.cmp .ne (.rpr [(0, 16)] (.caught CS (.xc (.call 12 [0] (.val (.var 5) (.nil)) .nil)))) (.rpr [(0, 16)] (.lst (.cons (.cst (.str "notalog")) (.cons (.var 5) (.nil)))))) (.cons (.ret (.cst (.bl false)))
    (.nil)) (.nil))
    (.cons (.ifs (.cmp .ne (.rpr [(0, 16)] (.caught CS (.xc (.call 12 [0] .nil (.val (.var 5) (.nil)))))) (.rpr [(0, 16)] (.lst (.cons (.cst (.str "notalog")) (.cons (.var 5) (.nil)))))) (.cons (.ret (.cst (.bl false)))
    (.nil)) (.nil))
    (.cons (.wip [5])
    (.nil)))))
    (.cons (.ret (.cst (.bl true)))
    (.nil)))))
abbrev lt10_0 : Tg := .nm 5
abbrev lb10_0 : Ss := .cons (.ifs (.cmp .ne (.rpr [(0, 16)] (.caught CS (.xc (.call 12 [0] (.val (.var 5) (.nil)) .nil)))) (.rpr [(0, 16)] (.lst (.cons (.cst (.str "notalog")) (.cons (.var 5) (.nil)))))) (.cons (.ret (.cst (.bl false)))
    (.nil)) (.nil))
    (.cons (.ifs (.cmp .ne (.rpr [(0, 16)] (.caught CS (.xc (.call 12 [0] .nil (.val (.var 5) (.nil)))))) (.rpr [(0, 16)] (.lst (.cons (.cst (.str "notalog")) (.cons (.var 5) (.nil)))))) (.cons (.ret (.cst (.bl false)))
    (.nil)) (.nil))
    (.cons (.wip [5])
    (.nil)))
def ir11 : Ss := .cons (.ifs (.not (.call 17 [0] (.val (.var 1) (.nil)) .nil)) (.cons (.ex stkE) .nil) .nil)
    (.cons (.ifs (.not (.bi (.isi .tuple) (.cons (.var 2) .nil))) (.cons (.ex stkE) .nil) .nil)
    (.cons (.asg (.nm 3) (.call 18 [0, 1] (.val (.var 1) (.val (.var 2) (.nil))) .nil))
    (.cons (.ifs (.cmp .notN (.var 3) (.cst .non)) (.cons (.ex stkE) .nil) .nil)
    (.cons (.ret (.tup (.cons (.var 1) (.cons (.var 2) .nil)))) .nil))))
def ir12 : Ss := .cons (.ex (.xc (.call 19 [0] (.val (.var 0) (.nil)) .nil)))
    (.cons (.ret (.call 20 [0] (.val (.fld (.var 0) [(0, 1)]) (.nil)) .nil))
    (.nil))
def ir13 : Ss := .cons (.ret (.bi .str1 (.cons (.call 20 [0] (.val (.fld (.var 0) [(0, 1)]) (.nil)) .nil) (.nil))))
    (.nil)
def ir14 : Ss := .cons (.ret (.bi .sum (.cons (.comp [1] (.nm 1) (.val (.var 0)) (.none) (.ite (.bi (.isi .int) (.cons (.var 1) .nil)) (.cst (.int 1)) (.bin .add (.cst (.int 1)) (.call 14 [0] (.val (.idx (.var 1) (.cst (.int 0))) (.nil)) .nil)))) (.nil))))
    (.nil)
abbrev co14_0 : List Nat := [1]
abbrev ct14_0 : Tg := .nm 1
abbrev cc14_0 : Eo := .none
abbrev ce14_0 : DL.E := .ite (.bi (.isi .int) (.cons (.var 1) .nil)) (.cst (.int 1)) (.bin .add (.cst (.int 1)) (.call 14 [0] (.val (.idx (.var 1) (.cst (.int 0))) (.nil)) .nil))
def ir15 : Ss := .cons (.ret (.idx (.lst (.cons (.cst (.int 1)) (.cons (.cst (.int 2)) (.cons (.bin .add (.cst (.int 3)) (.call 8 [0, 1] (.ref (.var 0) (.val (.cst (.int 12)) (.nil))) .nil)) (.cons (.bin .add (.cst (.int 1)) (.call 8 [0, 1] (.ref (.var 0) (.val (.bin .pow (.cst (.int 10)) (.cst (.int 30))) (.nil))) .nil)) (.cons (.bin .pow (.cst (.int 10)) (.cst (.int 30))) (.nil))))))) (.call 8 [0, 1] (.ref (.var 0) (.val (.cst (.int 5)) (.nil))) .nil)))
    (.nil)
def ir16 : Ss := .cons (.ret (.bi .fs (.cons (.cst (.str "Log(")) (.cons (.fld (.var 0) [(0, 0)]) (.cons (.cst (.str ", '")) (.cons (.call 20 [0] (.val (.fld (.var 0) [(0, 1)]) (.nil)) .nil) (.cons (.cst (.str "')")) (.nil))))))))
    (.nil)
def ir17 : Ss := .cons (.ret (.call 21 [0, 1, 2] (.val (.var 0) (.val (.cst (.int 1)) (.val (.cst (.int 12)) (.nil)))) .nil))
    (.nil)
def ir18 : Ss := .cons (.asg (.nm 2) (.cst (.int 0)))
    (.cons (.for_ (.tp (.cons (.nm 3) (.cons (.nm 4) (.nil)))) (.enum (.var 1)) (.cons (.asg (.nm 5) (.call 22 [0, 1] (.val (.var 0) (.val (.var 4) (.nil))) .nil))
    (.cons (.ifs (.or (.cmp .isN (.var 5) (.cst .non)) (.or (.cmp .gt (.bin .add (.var 2) (.idx (.var 5) (.cst (.int 0)))) (.cst (.int 120))) (.cmp .gt (.idx (.var 5) (.cst (.int 1))) (.cst (.int 5))))) (.cons (.ret (.var 3))
    (.nil)) (.nil))
    (.cons (.aug 2 .add (.idx (.var 5) (.cst (.int 0))))
    (.nil)))))
    (.cons (.ret (.cst .non))
    (.nil)))
abbrev lt18_0 : Tg := .tp (.cons (.nm 3) (.cons (.nm 4) (.nil)))
abbrev lb18_0 : Ss := .cons (.asg (.nm 5) (.call 22 [0, 1] (.val (.var 0) (.val (.var 4) (.nil))) .nil))
    (.cons (.ifs (.or (.cmp .isN (.var 5) (.cst .non)) (.or (.cmp .gt (.bin .add (.var 2) (.idx (.var 5) (.cst (.int 0)))) (.cst (.int 120))) (.cmp .gt (.idx (.var 5) (.cst (.int 1))) (.cst (.int 5))))) (.cons (.ret (.var 3))
    (.nil)) (.nil))
    (.cons (.aug 2 .add (.idx (.var 5) (.cst (.int 0))))
    (.nil)))
def ir19 : Ss := .cons (.ifs (.not (.call 23 [0] (.val (.var 0) (.nil)) .nil)) (.cons (.ex (.rse 16 (.cons (.var 0) .nil)))
    (.nil)) (.nil))
    (.nil)
def ir20 : Ss := .cons (.asg (.nm 1) (.lst (.nil)))
    (.cons (.for_ (.nm 2) (.val (.var 0)) (.cons (.ex (.app 1 (.ite (.bi (.isi .tuple) (.cons (.var 2) .nil)) (.bin .add (.bin .add (.bin .add (.cst (.str "(")) (.call 20 [0] (.val (.idx (.var 2) (.cst (.int 0))) (.nil)) .nil)) (.cst (.str ")x"))) (.bi .str1 (.cons (.idx (.var 2) (.cst (.int 1))) (.nil)))) (.bi .str1 (.cons (.var 2) (.nil))))))
    (.cons (.wip [2])
    (.nil))))
    (.cons (.ret (.or (.bi .join (.cons (.cst (.str " ")) (.cons (.var 1) .nil))) (.cst (.str "-"))))
    (.nil)))
abbrev lt20_0 : Tg := .nm 2
abbrev lb20_0 : Ss := .cons (.ex (.app 1 (.ite (.bi (.isi .tuple) (.cons (.var 2) .nil)) (.bin .add (.bin .add (.bin .add (.cst (.str "(")) (.call 20 [0] (.val (.idx (.var 2) (.cst (.int 0))) (.nil)) .nil)) (.cst (.str ")x"))) (.bi .str1 (.cons (.idx (.var 2) (.cst (.int 1))) (.nil)))) (.bi .str1 (.cons (.var 2) (.nil))))))
    (.cons (.wip [2])
    (.nil))
def ir21 : Ss := .cons (.ret (.and (.call 24 [0] (.val (.var 0) (.nil)) .nil) (.chn .le .le (.var 1) (.var 0) (.var 2))))
    (.nil)
def ir22 : Ss := .cons (.ifs (.call 25 [0, 1] (.val (.var 0) (.val (.var 1) (.nil))) .nil) (.cons (.ret (.tup (.cons (.cst (.int 1)) (.cons (.cst (.int 1)) (.nil)))))
    (.nil)) (.nil))
    (.cons (.ifs (.or (.not (.bi (.isi .tuple) (.cons (.var 1) .nil))) (.or (.cmp .ne (.bi .len (.cons (.var 1) (.nil))) (.cst (.int 2))) (.not (.call 21 [0, 1, 2] (.val (.idx (.var 1) (.cst (.int 1))) (.val (.cst (.int 1)) (.val (.cst (.int 1000000000000000000000000000000)) (.nil)))) .nil)))) (.cons (.ret (.cst .non))
    (.nil)) (.nil))
    (.cons (.asg (.nm 2) (.call 26 [0, 1] (.val (.var 0) (.val (.idx (.var 1) (.cst (.int 0))) (.nil))) .nil))
    (.cons (.ret (.ite (.cmp .isN (.var 2) (.cst .non)) (.cst .non) (.tup (.cons (.bin .add (.idx (.var 2) (.cst (.int 0))) (.cst (.int 1))) (.cons (.bin .add (.idx (.var 2) (.cst (.int 1))) (.cst (.int 1))) (.nil))))))
    (.nil))))
def ir23 : Ss := .cons (.ret (.bi (.isn 0) (.cons (.var 0) .nil)))
    (.nil)
def ir24 : Ss := .cons (.ret (.and (.bi (.isi .int) (.cons (.var 0) .nil)) (.not (.bi (.isi .bool) (.cons (.var 0) .nil)))))
    (.nil)
def ir25 : Ss := .cons (.ret (.call 21 [0, 1, 2] (.val (.var 1) (.val (.cst (.int 1)) (.val (.var 0) (.nil)))) .nil))
    (.nil)
def ir26 : Ss := .cons (.ifs (.not (.bi (.isi .tuple) (.cons (.var 1) .nil))) (.cons (.ret (.cst .non))
    (.nil)) (.nil))
    (.cons (.asg (.tp (.cons (.nm 2) (.cons (.nm 3) (.nil)))) (.tup (.cons (.cst (.int 0)) (.cons (.cst (.int 1)) (.nil)))))
    (.cons (.for_ (.nm 4) (.val (.var 1)) (.cons (.asg (.nm 5) (.call 22 [0, 1] (.val (.var 0) (.val (.var 4) (.nil))) .nil))
    (.cons (.ifs (.cmp .isN (.var 5) (.cst .non)) (.cons (.ret (.cst .non))
    (.nil)) (.nil))
    (.cons (.par 2 3 (.bin .add (.var 2) (.idx (.var 5) (.cst (.int 0)))) (.bi .max2 (.cons (.var 3) (.cons (.idx (.var 5) (.cst (.int 1))) (.nil)))))
    (.nil)))))
    (.cons (.ret (.tup (.cons (.var 2) (.cons (.var 3) (.nil)))))
    (.nil))))
abbrev lt26_0 : Tg := .nm 4
abbrev lb26_0 : Ss := .cons (.asg (.nm 5) (.call 22 [0, 1] (.val (.var 0) (.val (.var 4) (.nil))) .nil))
    (.cons (.ifs (.cmp .isN (.var 5) (.cst .non)) (.cons (.ret (.cst .non))
    (.nil)) (.nil))
    (.cons (.par 2 3 (.bin .add (.var 2) (.idx (.var 5) (.cst (.int 0)))) (.bi .max2 (.cons (.var 3) (.cons (.idx (.var 5) (.cst (.int 1))) (.nil)))))
    (.nil)))
def tbl : List Df := [⟨1, 2, ir0⟩,
  ⟨0, 8, ir1⟩,
  ⟨1, 4, ir2⟩,
  ⟨1, 2, ir3⟩,
  ⟨2, 4, ir4⟩,
  ⟨3, 5, ir5⟩,
  ⟨2, 3, ir6⟩,
  ⟨4, 6, ir7⟩,
  ⟨2, 4, ir8⟩,
  ⟨1, 3, ir9⟩,
  ⟨3, 6, ir10⟩,
  ⟨3, 4, ir11⟩,
  ⟨1, 1, ir12⟩,
  ⟨1, 1, ir13⟩,
  ⟨1, 2, ir14⟩,
  ⟨1, 1, ir15⟩,
  ⟨1, 1, ir16⟩,
  ⟨1, 1, ir17⟩,
  ⟨2, 6, ir18⟩,
  ⟨1, 1, ir19⟩,
  ⟨1, 3, ir20⟩,
  ⟨3, 3, ir21⟩,
  ⟨2, 3, ir22⟩,
  ⟨1, 1, ir23⟩,
  ⟨1, 1, ir24⟩,
  ⟨2, 2, ir25⟩,
  ⟨2, 6, ir26⟩]
theorem gs13 : ∀ k, GrdS (callN tbl k) 13 := grdS_of rfl
def psn (j : Nat) : List Str := [p0, p1, p2, p3, p4, p5, p6, p7, p8, p9, p10, p11, p12, p13, p14, p15, p16, p17, p18, p19, p20, p21, p22, p23, p24, p25, p26].getD j []
def sps (K : PySem.W.Frag) (Φ : Calls) (j : Nat) : Sp := ([spD K Φ 0, spD K Φ 1, spD K Φ 2, spD K Φ 3, spD K Φ 4, spD K Φ 5, spD K Φ 6, spD K Φ 7, spD K Φ 8, spD K Φ 9, spD K Φ 10, spI K Φ 11 0, spD K Φ 12, spD K Φ 13, spD K Φ 14, spD K Φ 15, spD K Φ 16, spD K Φ 17, spD K Φ 18, spD K Φ 19, spD K Φ 20, spD K Φ 21, spD K Φ 22, spD K Φ 23, spD K Φ 24, spD K Φ 25, spD K Φ 26] : List Sp).getD j (fun _ _ _ _ => False)
def spsX (K : PySem.W.Frag) (Φ : Calls) (j : Nat) : Sp := ([fun _ _ _ _ => False, fun _ _ _ _ => False, fun _ _ _ _ => False, fun _ _ _ _ => False, fun _ _ _ _ => False, fun _ _ _ _ => False, fun _ _ _ _ => False, fun _ _ _ _ => False, fun _ _ _ _ => False, fun _ _ _ _ => False, fun _ _ _ _ => False, fun _ _ _ _ => False, spX K Φ 12, fun _ _ _ _ => False, fun _ _ _ _ => False, fun _ _ _ _ => False, fun _ _ _ _ => False, fun _ _ _ _ => False, fun _ _ _ _ => False, spX K Φ 19, fun _ _ _ _ => False, fun _ _ _ _ => False, fun _ _ _ _ => False, fun _ _ _ _ => False, fun _ _ _ _ => False, fun _ _ _ _ => False, fun _ _ _ _ => False] : List Sp).getD j (fun _ _ _ _ => False)
/-! what the top has written -/
structure Fx (K : PySem.W.Frag) (mg : Str → Option Value) (fa : Nat → Addr) (fd : Nat → FuncData) (ca : Nat → Addr) (dv : Nat → Value) : Prop where
  f0 : FunW K "law" "law" st0 (fa 0) (fd 0) .none
  m0 : mg "law" = some (.ref (fa 0))
  f1 : FunW K "_law_fixed_right" "_law_fixed_right" st1 (fa 1) (fd 1) .none
  m1 : mg "_law_fixed_right" = some (.ref (fa 1))
  f2 : FunW K "_law_right" "_law_right" st2 (fa 2) (fd 2) .none
  m2 : mg "_law_right" = some (.ref (fa 2))
  f3 : FunW K "_law_pool" "_law_pool" st3 (fa 3) (fd 3) .none
  m3 : mg "_law_pool" = some (.ref (fa 3))
  f4 : FunW K "_law_cell" "_law_cell" st4 (fa 4) (fd 4) .none
  m4 : mg "_law_cell" = some (.ref (fa 4))
  f5 : FunW K "_law_one_right" "_law_one_right" st5 (fa 5) (fd 5) .none
  m5 : mg "_law_one_right" = some (.ref (fa 5))
  f6 : FunW K "_law_levels" "_law_levels" st6 (fa 6) (fd 6) .none
  m6 : mg "_law_levels" = some (.ref (fa 6))
  f7 : FunW K "_law_parts" "_law_parts" st7 (fa 7) (fd 7) .none
  m7 : mg "_law_parts" = some (.ref (fa 7))
  f8 : FunW K "_law_draw" "_law_draw" st8 (fa 8) (fd 8) .none
  m8 : mg "_law_draw" = some (.ref (fa 8))
  f9 : FunW K "_law_text" "_law_text" st9 (fa 9) (fd 9) .none
  m9 : mg "_law_text" = some (.ref (fa 9))
  f10 : FunW K "_law_others_right" "_law_others_right" st10 (fa 10) (fd 10) .none
  m10 : mg "_law_others_right" = some (.ref (fa 10))
  f11 : FunW K "__init__" "Log.__init__" st11 (fa 11) (fd 11) (dv 11)
  e11 : DfW K (dv 11) [.tup []]
  f12 : FunW K "format_log" "format_log" st12 (fa 12) (fd 12) .none
  m12 : mg "format_log" = some (.ref (fa 12))
  f13 : FunW K "__str__" "Log.__str__" st13 (fa 13) (fd 13) .none
  h13 : Meth K (ca 0) "__str__" (fa 13)
  f14 : FunW K "_law_size" "_law_size" st14 (fa 14) (fd 14) .none
  m14 : mg "_law_size" = some (.ref (fa 14))
  f15 : FunW K "_law_times" "_law_times" st15 (fa 15) (fd 15) .none
  m15 : mg "_law_times" = some (.ref (fa 15))
  f16 : FunW K "__repr__" "Log.__repr__" st16 (fa 16) (fd 16) .none
  h16 : Meth K (ca 0) "__repr__" (fa 16)
  f17 : FunW K "is_level_count" "is_level_count" st17 (fa 17) (fd 17) .none
  m17 : mg "is_level_count" = some (.ref (fa 17))
  f18 : FunW K "first_invalid" "first_invalid" st18 (fa 18) (fd 18) .none
  m18 : mg "first_invalid" = some (.ref (fa 18))
  f19 : FunW K "check_log" "check_log" st19 (fa 19) (fd 19) .none
  m19 : mg "check_log" = some (.ref (fa 19))
  f20 : FunW K "parts_text" "parts_text" st20 (fa 20) (fd 20) .none
  m20 : mg "parts_text" = some (.ref (fa 20))
  f21 : FunW K "is_between" "is_between" st21 (fa 21) (fd 21) .none
  m21 : mg "is_between" = some (.ref (fa 21))
  f22 : FunW K "measure_part" "measure_part" st22 (fa 22) (fd 22) .none
  m22 : mg "measure_part" = some (.ref (fa 22))
  f23 : FunW K "is_log" "is_log" st23 (fa 23) (fd 23) .none
  m23 : mg "is_log" = some (.ref (fa 23))
  f24 : FunW K "is_whole" "is_whole" st24 (fa 24) (fd 24) .none
  m24 : mg "is_whole" = some (.ref (fa 24))
  f25 : FunW K "is_level" "is_level" st25 (fa 25) (fd 25) .none
  m25 : mg "is_level" = some (.ref (fa 25))
  f26 : FunW K "measure" "measure" st26 (fa 26) (fd 26) .none
  m26 : mg "measure" = some (.ref (fa 26))
  c0 : ClsF K 0 (ca 0)
  k0 : Mk K (ca 0) (fa 11)
  i0 : IsiF K (ca 0)
  q0 : mg "Log" = some (.ref (ca 0))
  x_NotALog : PySem.ErrX.ErrT K (exT 0) (exN 0) "NotALog.__init__" "value" (He.ga K "NotALog") (He.fAd K ("NotALog", some "__init__")) ∧ PySem.W.nsIn K mainGlobals "NotALog" = some (some (.ref (He.ga K "NotALog"))) ∧ PySem.W.exmOne K (.ref (He.ga K "NotALog")) (.ref (He.ga K "NotALog")) = some true
  y_NotALog : mg "NotALog" = some (.ref (He.ga K "NotALog"))
  y_BandError : mg "BandError" = some (.ref (He.ga K "BandError"))
  y_StateError : mg "StateError" = some (.ref (He.ga K "StateError"))
  y_SizeError : mg "SizeError" = some (.ref (He.ga K "SizeError"))
  rfca : ∃ fdR, FunW K "_law_caught" "_law_caught" strca (He.fAd K ("_law_caught", none)) fdR .none
  rmca : mg "_law_caught" = some (.ref (He.fAd K ("_law_caught", none)))
  rfkd : ∃ fdR, FunW K "_law_kind" "_law_kind" strkd (He.fAd K ("_law_kind", none)) fdR .none
  rmkd : mg "_law_kind" = some (.ref (He.fAd K ("_law_kind", none)))
  rffl : ∃ fdR, FunW K "_law_fields" "_law_fields" strfl (He.fAd K ("_law_fields", none)) fdR .none
  rmfl : mg "_law_fields" = some (.ref (He.fAd K ("_law_fields", none)))
  rffo : ∃ fdR, FunW K "_law_other_fields" "_law_other_fields" strfo (He.fAd K ("_law_other_fields", none)) fdR .none
  rmfo : mg "_law_other_fields" = some (.ref (He.fAd K ("_law_other_fields", none)))
  kin_16 : KinF K mg 16
  tb_10 : ∃ c, CdK K (fa 10) c ∧ PySem.W.codeHdIn K c 843 = true
  b_ArithmeticError : mg "ArithmeticError" = none
  b_LookupError : mg "LookupError" = none
  b_ValueError : mg "ValueError" = none
  b_abs : mg "abs" = none
  b_all : mg "all" = none
  b_bool : mg "bool" = none
  b_divmod : mg "divmod" = none
  b_enumerate : mg "enumerate" = none
  b_int : mg "int" = none
  b_isinstance : mg "isinstance" = none
  b_len : mg "len" = none
  b_list : mg "list" = none
  b_max : mg "max" = none
  b_min : mg "min" = none
  b_range : mg "range" = none
  b_repr : mg "repr" = none
  b_str : mg "str" = none
  b_sum : mg "sum" = none
  b_tuple : mg "tuple" = none
  g_MAX_LEVELS : ∃ t : Tok, mg "MAX_LEVELS" = some (.int 12 t)
  g_MAX_DEPTH : ∃ t : Tok, mg "MAX_DEPTH" = some (.int 5 t)
  g_MAX_PARTS : ∃ t : Tok, mg "MAX_PARTS" = some (.int 120 t)
  g_MAX_TIMES : ∃ t : Tok, mg "MAX_TIMES" = some (.int 1000000000000000000000000000000 t)
  gs_NOTHING : ∃ t : Tok, mg "NOTHING" = some (.str "-" t)
/-! how the calls bind -/
theorem bp_1_0_ {K : PySem.W.Frag} {f : Addr} {fd : FuncData} (F : FunW K "_law_fixed_right" "_law_fixed_right" st1 f fd .none) : BindP K fd p1 0 [] [] := by
  obtain ⟨oc, od, kv, dc, pm, an, cd, ct, sl, rfl, _, _⟩ := F.ex
  intro s us ws zs _ h1 h2 h3
  match us, h1, ws, h2, h3 with
  | [], _, [], _, h3 =>
    have e : [] = zs := Option.some.inj h3
    subst e
    exact .of_eq rfl
theorem bp_2_1_ {K : PySem.W.Frag} {f : Addr} {fd : FuncData} (F : FunW K "_law_right" "_law_right" st2 f fd .none) : BindP K fd p2 1 [] [0] := by
  obtain ⟨oc, od, kv, dc, pm, an, cd, ct, sl, rfl, _, _⟩ := F.ex
  intro s us ws zs _ h1 h2 h3
  match us, h1, ws, h2, h3 with
  | [u0], _, [], _, h3 =>
    have e : [u0] = zs := Option.some.inj h3
    subst e
    exact .of_eq rfl
theorem bp_3_1_ {K : PySem.W.Frag} {f : Addr} {fd : FuncData} (F : FunW K "_law_pool" "_law_pool" st3 f fd .none) : BindP K fd p3 1 [] [0] := by
  obtain ⟨oc, od, kv, dc, pm, an, cd, ct, sl, rfl, _, _⟩ := F.ex
  intro s us ws zs _ h1 h2 h3
  match us, h1, ws, h2, h3 with
  | [u0], _, [], _, h3 =>
    have e : [u0] = zs := Option.some.inj h3
    subst e
    exact .of_eq rfl
theorem bp_4_2_ {K : PySem.W.Frag} {f : Addr} {fd : FuncData} (F : FunW K "_law_cell" "_law_cell" st4 f fd .none) : BindP K fd p4 2 [] [0, 1] := by
  obtain ⟨oc, od, kv, dc, pm, an, cd, ct, sl, rfl, _, _⟩ := F.ex
  intro s us ws zs _ h1 h2 h3
  match us, h1, ws, h2, h3 with
  | [u0, u1], _, [], _, h3 =>
    have e : [u0, u1] = zs := Option.some.inj h3
    subst e
    exact .of_eq rfl
theorem bp_5_3_ {K : PySem.W.Frag} {f : Addr} {fd : FuncData} (F : FunW K "_law_one_right" "_law_one_right" st5 f fd .none) : BindP K fd p5 3 [] [0, 1, 2] := by
  obtain ⟨oc, od, kv, dc, pm, an, cd, ct, sl, rfl, _, _⟩ := F.ex
  intro s us ws zs _ h1 h2 h3
  match us, h1, ws, h2, h3 with
  | [u0, u1, u2], _, [], _, h3 =>
    have e : [u0, u1, u2] = zs := Option.some.inj h3
    subst e
    exact .of_eq rfl
theorem bp_6_2_ {K : PySem.W.Frag} {f : Addr} {fd : FuncData} (F : FunW K "_law_levels" "_law_levels" st6 f fd .none) : BindP K fd p6 2 [] [0, 1] := by
  obtain ⟨oc, od, kv, dc, pm, an, cd, ct, sl, rfl, _, _⟩ := F.ex
  intro s us ws zs _ h1 h2 h3
  match us, h1, ws, h2, h3 with
  | [u0, u1], _, [], _, h3 =>
    have e : [u0, u1] = zs := Option.some.inj h3
    subst e
    exact .of_eq rfl
theorem bp_7_4_ {K : PySem.W.Frag} {f : Addr} {fd : FuncData} (F : FunW K "_law_parts" "_law_parts" st7 f fd .none) : BindP K fd p7 4 [] [0, 1, 2, 3] := by
  obtain ⟨oc, od, kv, dc, pm, an, cd, ct, sl, rfl, _, _⟩ := F.ex
  intro s us ws zs _ h1 h2 h3
  match us, h1, ws, h2, h3 with
  | [u0, u1, u2, u3], _, [], _, h3 =>
    have e : [u0, u1, u2, u3] = zs := Option.some.inj h3
    subst e
    exact .of_eq rfl
theorem bp_8_2_ {K : PySem.W.Frag} {f : Addr} {fd : FuncData} (F : FunW K "_law_draw" "_law_draw" st8 f fd .none) : BindP K fd p8 2 [] [0, 1] := by
  obtain ⟨oc, od, kv, dc, pm, an, cd, ct, sl, rfl, _, _⟩ := F.ex
  intro s us ws zs _ h1 h2 h3
  match us, h1, ws, h2, h3 with
  | [u0, u1], _, [], _, h3 =>
    have e : [u0, u1] = zs := Option.some.inj h3
    subst e
    exact .of_eq rfl
theorem bp_9_1_ {K : PySem.W.Frag} {f : Addr} {fd : FuncData} (F : FunW K "_law_text" "_law_text" st9 f fd .none) : BindP K fd p9 1 [] [0] := by
  obtain ⟨oc, od, kv, dc, pm, an, cd, ct, sl, rfl, _, _⟩ := F.ex
  intro s us ws zs _ h1 h2 h3
  match us, h1, ws, h2, h3 with
  | [u0], _, [], _, h3 =>
    have e : [u0] = zs := Option.some.inj h3
    subst e
    exact .of_eq rfl
theorem bp_10_3_ {K : PySem.W.Frag} {f : Addr} {fd : FuncData} (F : FunW K "_law_others_right" "_law_others_right" st10 f fd .none) : BindP K fd p10 3 [] [0, 1, 2] := by
  obtain ⟨oc, od, kv, dc, pm, an, cd, ct, sl, rfl, _, _⟩ := F.ex
  intro s us ws zs _ h1 h2 h3
  match us, h1, ws, h2, h3 with
  | [u0, u1, u2], _, [], _, h3 =>
    have e : [u0, u1, u2] = zs := Option.some.inj h3
    subst e
    exact .of_eq rfl
theorem bd_11_3_ {K : PySem.W.Frag} {f : Addr} {fd : FuncData} {dV : Value} (F : FunW K "__init__" "Log.__init__" st11 f fd dV) (W : DfW K dV [.tup []]) : BindDf K fd p11 3 [] [.tup []] [0, 1, 2] := by
  refine bindDf_of F W fun T kV doc pm an cdv ct us ws its zs h1 h2 h0 h3 => ?_
  match us, h1, ws, h2, its, h0, h3 with
  | [u0, u1, u2], _, [], _, [d0], _, h3 =>
    have e : [u0, u1, u2] = zs := Option.some.inj h3
    subst e
    exact ⟨_, rfl, rfl⟩
theorem bp_12_1_ {K : PySem.W.Frag} {f : Addr} {fd : FuncData} (F : FunW K "format_log" "format_log" st12 f fd .none) : BindP K fd p12 1 [] [0] := by
  obtain ⟨oc, od, kv, dc, pm, an, cd, ct, sl, rfl, _, _⟩ := F.ex
  intro s us ws zs _ h1 h2 h3
  match us, h1, ws, h2, h3 with
  | [u0], _, [], _, h3 =>
    have e : [u0] = zs := Option.some.inj h3
    subst e
    exact .of_eq rfl
theorem bp_13_1_ {K : PySem.W.Frag} {f : Addr} {fd : FuncData} (F : FunW K "__str__" "Log.__str__" st13 f fd .none) : BindP K fd p13 1 [] [0] := by
  obtain ⟨oc, od, kv, dc, pm, an, cd, ct, sl, rfl, _, _⟩ := F.ex
  intro s us ws zs _ h1 h2 h3
  match us, h1, ws, h2, h3 with
  | [u0], _, [], _, h3 =>
    have e : [u0] = zs := Option.some.inj h3
    subst e
    exact .of_eq rfl
theorem bp_12_0_log {K : PySem.W.Frag} {f : Addr} {fd : FuncData} (F : FunW K "format_log" "format_log" st12 f fd .none) : BindP K fd p12 0 ["log"] [0] := by
  obtain ⟨oc, od, kv, dc, pm, an, cd, ct, sl, rfl, _, _⟩ := F.ex
  intro s us ws zs _ h1 h2 h3
  match us, h1, ws, h2, h3 with
  | [], _, [w0], _, h3 =>
    have e : [w0] = zs := Option.some.inj h3
    subst e
    exact .of_eq rfl
theorem bp_14_1_ {K : PySem.W.Frag} {f : Addr} {fd : FuncData} (F : FunW K "_law_size" "_law_size" st14 f fd .none) : BindP K fd p14 1 [] [0] := by
  obtain ⟨oc, od, kv, dc, pm, an, cd, ct, sl, rfl, _, _⟩ := F.ex
  intro s us ws zs _ h1 h2 h3
  match us, h1, ws, h2, h3 with
  | [u0], _, [], _, h3 =>
    have e : [u0] = zs := Option.some.inj h3
    subst e
    exact .of_eq rfl
theorem bp_15_1_ {K : PySem.W.Frag} {f : Addr} {fd : FuncData} (F : FunW K "_law_times" "_law_times" st15 f fd .none) : BindP K fd p15 1 [] [0] := by
  obtain ⟨oc, od, kv, dc, pm, an, cd, ct, sl, rfl, _, _⟩ := F.ex
  intro s us ws zs _ h1 h2 h3
  match us, h1, ws, h2, h3 with
  | [u0], _, [], _, h3 =>
    have e : [u0] = zs := Option.some.inj h3
    subst e
    exact .of_eq rfl
theorem bp_16_1_ {K : PySem.W.Frag} {f : Addr} {fd : FuncData} (F : FunW K "__repr__" "Log.__repr__" st16 f fd .none) : BindP K fd p16 1 [] [0] := by
  obtain ⟨oc, od, kv, dc, pm, an, cd, ct, sl, rfl, _, _⟩ := F.ex
  intro s us ws zs _ h1 h2 h3
  match us, h1, ws, h2, h3 with
  | [u0], _, [], _, h3 =>
    have e : [u0] = zs := Option.some.inj h3
    subst e
    exact .of_eq rfl
theorem bp_17_1_ {K : PySem.W.Frag} {f : Addr} {fd : FuncData} (F : FunW K "is_level_count" "is_level_count" st17 f fd .none) : BindP K fd p17 1 [] [0] := by
  obtain ⟨oc, od, kv, dc, pm, an, cd, ct, sl, rfl, _, _⟩ := F.ex
  intro s us ws zs _ h1 h2 h3
  match us, h1, ws, h2, h3 with
  | [u0], _, [], _, h3 =>
    have e : [u0] = zs := Option.some.inj h3
    subst e
    exact .of_eq rfl
theorem bp_18_2_ {K : PySem.W.Frag} {f : Addr} {fd : FuncData} (F : FunW K "first_invalid" "first_invalid" st18 f fd .none) : BindP K fd p18 2 [] [0, 1] := by
  obtain ⟨oc, od, kv, dc, pm, an, cd, ct, sl, rfl, _, _⟩ := F.ex
  intro s us ws zs _ h1 h2 h3
  match us, h1, ws, h2, h3 with
  | [u0, u1], _, [], _, h3 =>
    have e : [u0, u1] = zs := Option.some.inj h3
    subst e
    exact .of_eq rfl
theorem bp_19_1_ {K : PySem.W.Frag} {f : Addr} {fd : FuncData} (F : FunW K "check_log" "check_log" st19 f fd .none) : BindP K fd p19 1 [] [0] := by
  obtain ⟨oc, od, kv, dc, pm, an, cd, ct, sl, rfl, _, _⟩ := F.ex
  intro s us ws zs _ h1 h2 h3
  match us, h1, ws, h2, h3 with
  | [u0], _, [], _, h3 =>
    have e : [u0] = zs := Option.some.inj h3
    subst e
    exact .of_eq rfl
theorem bp_20_1_ {K : PySem.W.Frag} {f : Addr} {fd : FuncData} (F : FunW K "parts_text" "parts_text" st20 f fd .none) : BindP K fd p20 1 [] [0] := by
  obtain ⟨oc, od, kv, dc, pm, an, cd, ct, sl, rfl, _, _⟩ := F.ex
  intro s us ws zs _ h1 h2 h3
  match us, h1, ws, h2, h3 with
  | [u0], _, [], _, h3 =>
    have e : [u0] = zs := Option.some.inj h3
    subst e
    exact .of_eq rfl
theorem bp_21_3_ {K : PySem.W.Frag} {f : Addr} {fd : FuncData} (F : FunW K "is_between" "is_between" st21 f fd .none) : BindP K fd p21 3 [] [0, 1, 2] := by
  obtain ⟨oc, od, kv, dc, pm, an, cd, ct, sl, rfl, _, _⟩ := F.ex
  intro s us ws zs _ h1 h2 h3
  match us, h1, ws, h2, h3 with
  | [u0, u1, u2], _, [], _, h3 =>
    have e : [u0, u1, u2] = zs := Option.some.inj h3
    subst e
    exact .of_eq rfl
theorem bp_22_2_ {K : PySem.W.Frag} {f : Addr} {fd : FuncData} (F : FunW K "measure_part" "measure_part" st22 f fd .none) : BindP K fd p22 2 [] [0, 1] := by
  obtain ⟨oc, od, kv, dc, pm, an, cd, ct, sl, rfl, _, _⟩ := F.ex
  intro s us ws zs _ h1 h2 h3
  match us, h1, ws, h2, h3 with
  | [u0, u1], _, [], _, h3 =>
    have e : [u0, u1] = zs := Option.some.inj h3
    subst e
    exact .of_eq rfl
theorem bp_23_1_ {K : PySem.W.Frag} {f : Addr} {fd : FuncData} (F : FunW K "is_log" "is_log" st23 f fd .none) : BindP K fd p23 1 [] [0] := by
  obtain ⟨oc, od, kv, dc, pm, an, cd, ct, sl, rfl, _, _⟩ := F.ex
  intro s us ws zs _ h1 h2 h3
  match us, h1, ws, h2, h3 with
  | [u0], _, [], _, h3 =>
    have e : [u0] = zs := Option.some.inj h3
    subst e
    exact .of_eq rfl
theorem bp_24_1_ {K : PySem.W.Frag} {f : Addr} {fd : FuncData} (F : FunW K "is_whole" "is_whole" st24 f fd .none) : BindP K fd p24 1 [] [0] := by
  obtain ⟨oc, od, kv, dc, pm, an, cd, ct, sl, rfl, _, _⟩ := F.ex
  intro s us ws zs _ h1 h2 h3
  match us, h1, ws, h2, h3 with
  | [u0], _, [], _, h3 =>
    have e : [u0] = zs := Option.some.inj h3
    subst e
    exact .of_eq rfl
theorem bp_25_2_ {K : PySem.W.Frag} {f : Addr} {fd : FuncData} (F : FunW K "is_level" "is_level" st25 f fd .none) : BindP K fd p25 2 [] [0, 1] := by
  obtain ⟨oc, od, kv, dc, pm, an, cd, ct, sl, rfl, _, _⟩ := F.ex
  intro s us ws zs _ h1 h2 h3
  match us, h1, ws, h2, h3 with
  | [u0, u1], _, [], _, h3 =>
    have e : [u0, u1] = zs := Option.some.inj h3
    subst e
    exact .of_eq rfl
theorem bp_26_2_ {K : PySem.W.Frag} {f : Addr} {fd : FuncData} (F : FunW K "measure" "measure" st26 f fd .none) : BindP K fd p26 2 [] [0, 1] := by
  obtain ⟨oc, od, kv, dc, pm, an, cd, ct, sl, rfl, _, _⟩ := F.ex
  intro s us ws zs _ h1 h2 h3
  match us, h1, ws, h2, h3 with
  | [u0, u1], _, [], _, h3 =>
    have e : [u0, u1] = zs := Option.some.inj h3
    subst e
    exact .of_eq rfl
/-! each body -/
section
variable {P : Program} {w : World} {K : PySem.W.Frag} {mg : Str → Option Value} {base : Heap} {fa : Nat → Addr} {fd : Nat → FuncData} {ca : Nat → Addr} {dv : Nat → Value}
theorem bC {st : Stmt} {x q y : Str} {f : Addr} {fd : FuncData} (F : FunW K x q st f fd .none) (h : ∀ (oc : Value) (doc pm : Value) (an : Option Addr) (kV cd ct : Value) (s : Shared) (v : Value), BindsTo s (PySem.W.fnOf x q (defArgs st) (defBody st) (defScope st) .none kV doc pm an cd ct) ⟨[v], []⟩ [(y, v)] := by intro _ _ _ _ _ _ _ _ _; exact .of_eq rfl) : ∀ (s : Shared) (v : Value), K.In s.heap → BindsTo s fd ⟨[v], []⟩ [(y, v)] := by
  obtain ⟨oc, od, kv, dc, pm, an, cd, ct, sl, rfl, _, _⟩ := F.ex
  intro s v _
  exact h oc dc pm an kv cd ct s v
theorem kinA (M : Fx K mg fa fd ca dv) : ∀ c ∈ CS, KinF K mg c := by
  intro c hc
  rcases List.mem_cons.mp hc with e | hc
  · subst e; exact M.kin_16
  cases hc
theorem kd16 (M : Fx K mg fa fd ca dv) {fdK : FuncData} (FK : FunW K "_law_kind" "_law_kind" strkd (He.fAd K ("_law_kind", none)) fdK .none) : FnK P w K mg base 1 (He.fAd K ("_law_kind", none)) fdK "_law_e" (spKd (Dn K 16) (xWord 16)) :=
  fnK_kind (k := 0) (N := Nkd.tail) FK sckd fun cd A outer s H p dd hh room h =>
    kd_cons (ps_isl (i := 1) sckd.nd rfl (by first | exact .inl rfl | exact .inr rfl) (pa_iscons (pe_isH (b := false) h M.kin_16.exc (by rfl) M.b_isinstance rfl (by first | exact .inl rfl | exact .inr (.inl rfl) | exact .inr (.inr rfl)) (by decide) (by decide) (by rfl) (M.kin_16.mg 0 (by decide)) (by decide) (M.kin_16.kit 0 (by decide))) (pa_iscons (pe_isH (b := false) h M.kin_16.exc (by rfl) M.b_isinstance rfl (by first | exact .inl rfl | exact .inr (.inl rfl) | exact .inr (.inr rfl)) (by decide) (by decide) (by rfl) (M.kin_16.mg 1 (by decide)) (by decide) (M.kin_16.kit 1 (by decide))) (pa_iscons (pe_isH (b := false) h M.kin_16.exc (by rfl) M.b_isinstance rfl (by first | exact .inl rfl | exact .inr (.inl rfl) | exact .inr (.inr rfl)) (by decide) (by decide) (by rfl) (M.kin_16.mg 2 (by decide)) (by decide) (M.kin_16.kit 2 (by decide))) pa_isnil))) (by decide) (by decide) (by decide) (by first | exact .inl rfl | exact .inr rfl)) (
    kd_cons (ps_isadd (i := 1) (bs0 := [false, false, false]) sckd.nd rfl (by first | exact .inl rfl | exact .inr rfl) (by first | exact .inl rfl | exact .inr (.inl rfl) | exact .inr (.inr rfl)) (by decide) (by decide) (pa_iscons (pe_isH (b := false) h M.kin_16.exc (by rfl) M.b_isinstance rfl (by first | exact .inl rfl | exact .inr (.inl rfl) | exact .inr (.inr rfl)) (by decide) (by decide) (by rfl) (M.kin_16.mg 3 (by decide)) (by decide) (M.kin_16.kit 3 (by decide))) (pa_iscons (pe_isH (b := false) h M.kin_16.exc (by rfl) M.b_isinstance rfl (by first | exact .inl rfl | exact .inr (.inl rfl) | exact .inr (.inr rfl)) (by decide) (by decide) (by rfl) (M.kin_16.mg 4 (by decide)) (by decide) (M.kin_16.kit 4 (by decide))) (pa_iscons (pe_isH (b := false) h M.kin_16.exc (by rfl) M.b_isinstance rfl (by first | exact .inl rfl | exact .inr (.inl rfl) | exact .inr (.inr rfl)) (by decide) (by decide) (by rfl) (M.kin_16.mg 5 (by decide)) (by decide) (M.kin_16.kit 5 (by decide))) pa_isnil))) (by decide) (by decide) (by decide) (by decide) (by decide) (by first | exact .inl rfl | exact .inr rfl)) (
    kd_cons (ps_isadd (i := 1) (bs0 := [false, false, false, false, false, false]) sckd.nd rfl (by first | exact .inl rfl | exact .inr rfl) (by first | exact .inl rfl | exact .inr (.inl rfl) | exact .inr (.inr rfl)) (by decide) (by decide) (pa_iscons (pe_isH (b := false) h M.kin_16.exc (by rfl) M.b_isinstance rfl (by first | exact .inl rfl | exact .inr (.inl rfl) | exact .inr (.inr rfl)) (by decide) (by decide) (by rfl) (M.kin_16.mg 6 (by decide)) (by decide) (M.kin_16.kit 6 (by decide))) (pa_iscons (pe_isH (b := false) h M.kin_16.exc (by rfl) M.b_isinstance rfl (by first | exact .inl rfl | exact .inr (.inl rfl) | exact .inr (.inr rfl)) (by decide) (by decide) (by rfl) (M.kin_16.mg 7 (by decide)) (by decide) (M.kin_16.kit 7 (by decide))) (pa_iscons (pe_isH (b := false) h M.kin_16.exc (by rfl) M.b_isinstance rfl (by first | exact .inl rfl | exact .inr (.inl rfl) | exact .inr (.inr rfl)) (by decide) (by decide) (by rfl) (M.kin_16.mg 8 (by decide)) (by decide) (M.kin_16.kit 8 (by decide))) pa_isnil))) (by decide) (by decide) (by decide) (by decide) (by decide) (by first | exact .inl rfl | exact .inr rfl)) (
    kd_cons (ps_isadd (i := 1) (bs0 := [false, false, false, false, false, false, false, false, false]) sckd.nd rfl (by first | exact .inl rfl | exact .inr rfl) (by first | exact .inl rfl | exact .inr (.inl rfl) | exact .inr (.inr rfl)) (by decide) (by decide) (pa_iscons (pe_isH (b := false) h M.kin_16.exc (by rfl) M.b_isinstance rfl (by first | exact .inl rfl | exact .inr (.inl rfl) | exact .inr (.inr rfl)) (by decide) (by decide) (by rfl) (M.kin_16.mg 9 (by decide)) (by decide) (M.kin_16.kit 9 (by decide))) (pa_iscons (pe_isH (b := false) h M.kin_16.exc (by rfl) M.b_isinstance rfl (by first | exact .inl rfl | exact .inr (.inl rfl) | exact .inr (.inr rfl)) (by decide) (by decide) (by rfl) (M.kin_16.mg 10 (by decide)) (by decide) (M.kin_16.kit 10 (by decide))) (pa_iscons (pe_isH (b := false) h M.kin_16.exc (by rfl) M.b_isinstance rfl (by first | exact .inl rfl | exact .inr (.inl rfl) | exact .inr (.inr rfl)) (by decide) (by decide) (by rfl) (M.kin_16.mg 11 (by decide)) (by decide) (M.kin_16.kit 11 (by decide))) pa_isnil))) (by decide) (by decide) (by decide) (by decide) (by decide) (by first | exact .inl rfl | exact .inr rfl)) (
    kd_cons (ps_isadd (i := 1) (bs0 := [false, false, false, false, false, false, false, false, false, false, false, false]) sckd.nd rfl (by first | exact .inl rfl | exact .inr rfl) (by first | exact .inl rfl | exact .inr (.inl rfl) | exact .inr (.inr rfl)) (by decide) (by decide) (pa_iscons (pe_isH (b := false) h M.kin_16.exc (by rfl) M.b_isinstance rfl (by first | exact .inl rfl | exact .inr (.inl rfl) | exact .inr (.inr rfl)) (by decide) (by decide) (by rfl) (M.kin_16.mg 12 (by decide)) (by decide) (M.kin_16.kit 12 (by decide))) (pa_iscons (pe_isH (b := false) h M.kin_16.exc (by rfl) M.b_isinstance rfl (by first | exact .inl rfl | exact .inr (.inl rfl) | exact .inr (.inr rfl)) (by decide) (by decide) (by rfl) (M.kin_16.mg 13 (by decide)) (by decide) (M.kin_16.kit 13 (by decide))) (pa_iscons (pe_isH (b := false) h M.kin_16.exc (by rfl) M.b_isinstance rfl (by first | exact .inl rfl | exact .inr (.inl rfl) | exact .inr (.inr rfl)) (by decide) (by decide) (by rfl) (M.kin_16.mg 14 (by decide)) (by decide) (M.kin_16.kit 14 (by decide))) pa_isnil))) (by decide) (by decide) (by decide) (by decide) (by decide) (by first | exact .inl rfl | exact .inr rfl)) (
    kd_cons (ps_isadd (i := 1) (bs0 := [false, false, false, false, false, false, false, false, false, false, false, false, false, false, false]) sckd.nd rfl (by first | exact .inl rfl | exact .inr rfl) (by first | exact .inl rfl | exact .inr (.inl rfl) | exact .inr (.inr rfl)) (by decide) (by decide) (pa_iscons (pe_isH (b := false) h M.kin_16.exc (by rfl) M.b_isinstance rfl (by first | exact .inl rfl | exact .inr (.inl rfl) | exact .inr (.inr rfl)) (by decide) (by decide) (by rfl) (M.kin_16.mg 15 (by decide)) (by decide) (M.kin_16.kit 15 (by decide))) (pa_iscons (pe_isH (b := true) h M.kin_16.exc (by rfl) M.b_isinstance rfl (by first | exact .inl rfl | exact .inr (.inl rfl) | exact .inr (.inr rfl)) (by decide) (by decide) (by rfl) (M.kin_16.mg 16 (by decide)) (by decide) (M.kin_16.kit 16 (by decide))) (pa_iscons (pe_isH (b := false) h M.kin_16.exc (by rfl) M.b_isinstance rfl (by first | exact .inl rfl | exact .inr (.inl rfl) | exact .inr (.inr rfl)) (by decide) (by decide) (by rfl) (M.kin_16.mg 17 (by decide)) (by decide) (M.kin_16.kit 17 (by decide))) pa_isnil))) (by decide) (by decide) (by decide) (by decide) (by decide) (by first | exact .inl rfl | exact .inr rfl)) (
    kd_cons (ps_isadd (i := 1) (bs0 := [false, false, false, false, false, false, false, false, false, false, false, false, false, false, false, false, true, false]) sckd.nd rfl (by first | exact .inl rfl | exact .inr rfl) (by first | exact .inl rfl | exact .inr (.inl rfl) | exact .inr (.inr rfl)) (by decide) (by decide) (pa_iscons (pe_isH (b := false) h M.kin_16.exc (by rfl) M.b_isinstance rfl (by first | exact .inl rfl | exact .inr (.inl rfl) | exact .inr (.inr rfl)) (by decide) (by decide) (by rfl) (M.kin_16.mg 18 (by decide)) (by decide) (M.kin_16.kit 18 (by decide))) (pa_iscons (pe_isH (b := false) h M.kin_16.exc (by rfl) M.b_isinstance rfl (by first | exact .inl rfl | exact .inr (.inl rfl) | exact .inr (.inr rfl)) (by decide) (by decide) (by rfl) (M.kin_16.mg 19 (by decide)) (by decide) (M.kin_16.kit 19 (by decide))) (pa_iscons (pe_isH (b := false) h M.kin_16.exc (by rfl) M.b_isinstance rfl (by first | exact .inl rfl | exact .inr (.inl rfl) | exact .inr (.inr rfl)) (by decide) (by decide) (by rfl) (M.kin_16.mg 20 (by decide)) (by decide) (M.kin_16.kit 20 (by decide))) pa_isnil))) (by decide) (by decide) (by decide) (by decide) (by decide) (by first | exact .inl rfl | exact .inr rfl)) (
    kd_cons (ps_isadd (i := 1) (bs0 := [false, false, false, false, false, false, false, false, false, false, false, false, false, false, false, false, true, false, false, false, false]) sckd.nd rfl (by first | exact .inl rfl | exact .inr rfl) (by first | exact .inl rfl | exact .inr (.inl rfl) | exact .inr (.inr rfl)) (by decide) (by decide) (pa_iscons (pe_isH (b := false) h M.kin_16.exc (by rfl) M.b_isinstance rfl (by first | exact .inl rfl | exact .inr (.inl rfl) | exact .inr (.inr rfl)) (by decide) (by decide) (by rfl) (M.kin_16.mg 21 (by decide)) (by decide) (M.kin_16.kit 21 (by decide))) (pa_iscons (pe_isH (b := false) h M.kin_16.exc (by rfl) M.b_isinstance rfl (by first | exact .inl rfl | exact .inr (.inl rfl) | exact .inr (.inr rfl)) (by decide) (by decide) (by rfl) (M.kin_16.mg 22 (by decide)) (by decide) (M.kin_16.kit 22 (by decide))) (pa_iscons (pe_isH (b := false) h M.kin_16.exc (by rfl) M.b_isinstance rfl (by first | exact .inl rfl | exact .inr (.inl rfl) | exact .inr (.inr rfl)) (by decide) (by decide) (by rfl) (M.kin_16.mg 23 (by decide)) (by decide) (M.kin_16.kit 23 (by decide))) pa_isnil))) (by decide) (by decide) (by decide) (by decide) (by decide) (by first | exact .inl rfl | exact .inr rfl)) (
    kd_cons (ps_isadd (i := 1) (bs0 := [false, false, false, false, false, false, false, false, false, false, false, false, false, false, false, false, true, false, false, false, false, false, false, false]) sckd.nd rfl (by first | exact .inl rfl | exact .inr rfl) (by first | exact .inl rfl | exact .inr (.inl rfl) | exact .inr (.inr rfl)) (by decide) (by decide) (pa_iscons (pe_isH (b := false) h M.kin_16.exc (by rfl) M.b_isinstance rfl (by first | exact .inl rfl | exact .inr (.inl rfl) | exact .inr (.inr rfl)) (by decide) (by decide) (by rfl) (M.kin_16.mg 24 (by decide)) (by decide) (M.kin_16.kit 24 (by decide))) (pa_iscons (pe_isH (b := false) h M.kin_16.exc (by rfl) M.b_isinstance rfl (by first | exact .inl rfl | exact .inr (.inl rfl) | exact .inr (.inr rfl)) (by decide) (by decide) (by rfl) (M.kin_16.mg 25 (by decide)) (by decide) (M.kin_16.kit 25 (by decide))) pa_isnil)) (by decide) (by decide) (by decide) (by decide) (by decide) (by first | exact .inl rfl | exact .inr rfl)) (
    kd_cons (ps_isl (i := 2) sckd.nd rfl (by first | exact .inl rfl | exact .inr rfl) (pa_iscons (pe_isH (b := true) h M.kin_16.exc (by rfl) M.b_isinstance rfl (by first | exact .inl rfl | exact .inr (.inl rfl) | exact .inr (.inr rfl)) (by decide) (by decide) (by rfl) M.y_BandError (by decide) M.kin_16.b1) (pa_iscons (pe_isH (b := false) h M.kin_16.exc (by rfl) M.b_isinstance rfl (by first | exact .inl rfl | exact .inr (.inl rfl) | exact .inr (.inr rfl)) (by decide) (by decide) (by rfl) M.y_StateError (by decide) M.kin_16.b2) (pa_iscons (pe_isH (b := false) h M.kin_16.exc (by rfl) M.b_isinstance rfl (by first | exact .inl rfl | exact .inr (.inl rfl) | exact .inr (.inr rfl)) (by decide) (by decide) (by rfl) M.y_SizeError (by decide) M.kin_16.b3) pa_isnil))) (by decide) (by decide) (by decide) (by first | exact .inl rfl | exact .inr rfl)) (
    kd_cons (ps_isl (i := 3) sckd.nd rfl (by first | exact .inl rfl | exact .inr rfl) (pa_iscons (pe_isHT (b := true) (t := "ValueError") h M.kin_16.exc (by rfl) M.b_isinstance rfl (by first | exact .inl rfl | exact .inr (.inl rfl) | exact .inr (.inr rfl)) (by decide) (by decide) (by rfl) M.b_ValueError rfl (by decide) (by decide) M.kin_16.t1) (pa_iscons (pe_isHT (b := false) (t := "LookupError") h M.kin_16.exc (by rfl) M.b_isinstance rfl (by first | exact .inl rfl | exact .inr (.inl rfl) | exact .inr (.inr rfl)) (by decide) (by decide) (by rfl) M.b_LookupError rfl (by decide) (by decide) M.kin_16.t2) (pa_iscons (pe_isHT (b := false) (t := "ArithmeticError") h M.kin_16.exc (by rfl) M.b_isinstance rfl (by first | exact .inl rfl | exact .inr (.inl rfl) | exact .inr (.inr rfl)) (by decide) (by decide) (by rfl) M.b_ArithmeticError rfl (by decide) (by decide) M.kin_16.t3) pa_isnil))) (by decide) (by decide) (by decide) (by first | exact .inl rfl | exact .inr rfl)) (
    kind_tail (Φ := fun _ _ => none) (ρ0 := [Sl.un, .ls .own (([false, false, false, false, false, false, false, false, false, false, false, false, false, false, false, false, true, false, false, false, false, false, false, false, false, false] : List Bool).map D.bl), .ls .own (([true, false, false] : List Bool).map D.bl), .ls .own (([true, false, false] : List Bool).map D.bl), .un, .un]) (ρ1 := [Sl.un, .ls .own (([false, false, false, false, false, false, false, false, false, false, false, false, false, false, false, false, true, false, false, false, false, false, false, false, false, false] : List Bool).map D.bl), .ls .own (([true, false, false] : List Bool).map D.bl), .ls .own (([true, false, false] : List Bool).map D.bl), .un, .un]) (ρ2 := [Sl.un, .ls .own (([false, false, false, false, false, false, false, false, false, false, false, false, false, false, false, false, true, false, false, false, false, false, false, false, false, false] : List Bool).map D.bl), .ls .own (([true, false, false] : List Bool).map D.bl), .ls .own (([true, false, false] : List Bool).map D.bl), .fz (.int 16), .un]) (ρ3 := [Sl.un, .ls .own (([false, false, false, false, false, false, false, false, false, false, false, false, false, false, false, false, true, false, false, false, false, false, false, false, false, false] : List Bool).map D.bl), .ls .own (([true, false, false] : List Bool).map D.bl), .ls .own (([true, false, false] : List Bool).map D.bl), .fz (.int 16), .un]) (ρ4 := [Sl.un, .ls .own (([false, false, false, false, false, false, false, false, false, false, false, false, false, false, false, false, true, false, false, false, false, false, false, false, false, false] : List Bool).map D.bl), .ls .own (([true, false, false] : List Bool).map D.bl), .ls .own (([true, false, false] : List Bool).map D.bl), .fz (.int 16), .fz (.str "levels level log times text rack counts band links bytes number growth pairs index action line")]) (ρ5 := [Sl.un, .ls .own (([false, false, false, false, false, false, false, false, false, false, false, false, false, false, false, false, true, false, false, false, false, false, false, false, false, false] : List Bool).map D.bl), .ls .own (([true, false, false] : List Bool).map D.bl), .ls .own (([true, false, false] : List Bool).map D.bl), .fz (.int 16), .fz (.str "levels level log times text rack counts band links bytes number growth pairs index action line notalog notlinks differ busy undo long parts deep large entries")]) (W := "levels level log times text rack counts band links bytes number growth pairs index action line notalog notlinks differ busy undo long parts deep large entries") (k := 16) (i := 5) (j := 4) rfl
      (kd_slots (by decide) (by decide) (by decide))
      (ds_if (dt_cmp (op_neDD (rh_units room)) (de_cntB (rh_units5 room) (pe_var (i := 1) rfl (by first | exact .inl rfl | exact .inr (.inl rfl) | exact .inr (.inr rfl))) (de_bl)) (de_int) (nomark _)) (dss_cons (ds_ret (de_str))
    (dss_nil)) (dss_nil))
      (ds_nm (pg_name (i := 4) sckd.nd rfl (by first | exact .inl rfl | exact .inr rfl)) (de_idxB (rh_units5 room) (pe_var (i := 1) rfl (by first | exact .inl rfl | exact .inr (.inl rfl) | exact .inr (.inr rfl))) (de_bl)))
      (ds_if (PW.pt (dw_or (dt_cmp (op_neDD (rh_units room)) (de_var (pe_var (i := 2) rfl (by first | exact .inl rfl | exact .inr (.inl rfl) | exact .inr (.inr rfl)))) (de_lst (da_cons (de_cmp (op_ltD (rh_units room)) (de_var (pe_var (i := 4) rfl (by first | exact .inl rfl | exact .inr (.inl rfl) | exact .inr (.inr rfl)))) (de_int) (nomark _)) (da_cons (de_chn (op_ltD (rh_units room)) (op_ltD (rh_units room)) (de_int) (de_var (pe_var (i := 4) rfl (by first | exact .inl rfl | exact .inr (.inl rfl) | exact .inr (.inr rfl)))) (de_int)) (da_cons (de_cmp op_gtD (de_var (pe_var (i := 4) rfl (by first | exact .inl rfl | exact .inr (.inl rfl) | exact .inr (.inr rfl)))) (de_int) (nomark _)) (da_nil))))) (nomark _)) (dw_one (dt_cmp (op_neDD (rh_units room)) (de_var (pe_var (i := 3) rfl (by first | exact .inl rfl | exact .inr (.inl rfl) | exact .inr (.inr rfl)))) (de_var (pe_var (i := 2) rfl (by first | exact .inl rfl | exact .inr (.inl rfl) | exact .inr (.inr rfl)))) (nomark _)) (.inr rfl)))) (dss_cons (ds_ret (de_str))
    (dss_nil)) (dss_nil))
      (ds_nm (pg_name (i := 5) sckd.nd rfl (by first | exact .inl rfl | exact .inr rfl)) (de_str))
      (ds_nm (pg_name (i := 5) sckd.nd rfl (by first | exact .inl rfl | exact .inr rfl)) (de_bin op_addD (de_var (pe_var (i := 5) rfl (by first | exact .inl rfl | exact .inr (.inl rfl) | exact .inr (.inr rfl)))) (de_str)))
      (ps_retSplit (i := 5) (j := 4) (wn := "_law_words") (an := "_law_at") rfl (by first | exact .inl rfl | exact .inr (.inl rfl) | exact .inr (.inr rfl)) (by decide) (by decide) rfl (by first | exact .inl rfl | exact .inr (.inl rfl) | exact .inr (.inr rfl)) (by decide) (by decide) rfl (by kernel_rfl) (by rfl) (by decide +kernel) (by rfl))
      (by kernel_rfl) (by kernel_rfl) (by kernel_rfl) (by kernel_rfl) (by kernel_rfl) rfl rfl)))))))))))
theorem ff16 (M : Fx K mg fa fd ca dv) {fdF : FuncData} (FF : FunW K "_law_fields" "_law_fields" strfl (He.fAd K ("_law_fields", none)) fdF .none) : FnK P w K mg base 2 (He.fAd K ("_law_fields", none)) fdF "_law_e" (spFl (Dn K 16) 16) := by
  exact fnK_fields (k := 1) (N := []) FF scfl fun cd A outer s H p dd hh room h => fs_cons (ps_fldT (js := [0, 18, 24]) (f := "levels") h M.kin_16.kf (by rfl) M.b_isinstance rfl (by first | exact .inl rfl | exact .inr (.inl rfl) | exact .inr (.inr rfl)) (by decide) (by decide) (.cons (by rfl) (M.kin_16.mg 0 (by decide)) (by decide) (.cons (by rfl) (M.kin_16.mg 18 (by decide)) (by decide) (.cons (by rfl) (M.kin_16.mg 24 (by decide)) (by decide) .nil))) (by decide) (by decide) (by decide)) (fun _ => fs_cons (ps_fldT (js := [2, 6, 8, 11]) (f := "index") h M.kin_16.kf (by rfl) M.b_isinstance rfl (by first | exact .inl rfl | exact .inr (.inl rfl) | exact .inr (.inr rfl)) (by decide) (by decide) (.cons (by rfl) (M.kin_16.mg 2 (by decide)) (by decide) (.cons (by rfl) (M.kin_16.mg 6 (by decide)) (by decide) (.cons (by rfl) (M.kin_16.mg 8 (by decide)) (by decide) (.cons (by rfl) (M.kin_16.mg 11 (by decide)) (by decide) .nil)))) (by decide) (by decide) (by decide)) (fun _ => fs_cons (ps_fldT (js := [12, 13, 14]) (f := "index") h M.kin_16.kf (by rfl) M.b_isinstance rfl (by first | exact .inl rfl | exact .inr (.inl rfl) | exact .inr (.inr rfl)) (by decide) (by decide) (.cons (by rfl) (M.kin_16.mg 12 (by decide)) (by decide) (.cons (by rfl) (M.kin_16.mg 13 (by decide)) (by decide) (.cons (by rfl) (M.kin_16.mg 14 (by decide)) (by decide) .nil))) (by decide) (by decide) (by decide)) (fun _ => fs_cons (ps_fldT (js := [5, 16, 17]) (f := "value") h M.kin_16.kf (by rfl) M.b_isinstance rfl (by first | exact .inl rfl | exact .inr (.inl rfl) | exact .inr (.inr rfl)) (by decide) (by decide) (.cons (by rfl) (M.kin_16.mg 5 (by decide)) (by decide) (.cons (by rfl) (M.kin_16.mg 16 (by decide)) (by decide) (.cons (by rfl) (M.kin_16.mg 17 (by decide)) (by decide) .nil))) (by decide) (by decide) (by decide)) (fun z => absurd z (by decide)))))
theorem cg {X : Cx} (M : Fx X.K X.mg fa fd ca dv) (hr : Room 3 X.A) {q : Str} : ∀ cdv, LamX.GivesTo X Nca "_law_caught" (defScope strca) (He.fAd X.K ("_law_caught", none)) cdv (defBody strca) "_law_call" q (TTc (Dn X.K) xWord CS) := by
  intro cdv
  obtain ⟨fdK, FK⟩ := M.rfkd
  obtain ⟨fdF, FF⟩ := M.rffl
  have hK : ∀ c ∈ CS, FnK X.prog X.w X.K X.mg X.base 1 (He.fAd X.K ("_law_kind", none)) fdK "_law_e" (spKd (Dn X.K c) (xWord c)) := fun c hc => by
      rcases List.mem_cons.mp hc with e | hc
      · subst e; exact kd16 M FK
      cases hc
  have hF : ∀ c ∈ CS, FnK X.prog X.w X.K X.mg X.base 2 (He.fAd X.K ("_law_fields", none)) fdF "_law_e" (spFl (Dn X.K c) c) := fun c hc => by
      rcases List.mem_cons.mp hc with e | hc
      · subst e; exact ff16 M FF
      cases hc
  exact caught_gives (i := 1) (n := "_law_e") scca.nd rfl rfl (by decide) rfl M.y_BandError (by decide) rfl M.y_StateError (by decide) rfl M.y_SizeError (by decide) (fun c hc => (kinA M c hc).any)
    hK hF (hr.mono (by decide)) hr rfl M.rmkd FK.kp (bC FK) (by decide) rfl M.rmfl FF.kp (bC FF) (by decide) (by first | exact .inl rfl | exact .inr (.inl rfl) | exact .inr (.inr rfl)) (by decide) (by decide) (fun _ => rfl)
end
section
variable {P : Program} {w : World} {K : PySem.W.Frag} {mg : Str → Option Value} {base : Heap} {k : Nat} {fa : Nat → Addr} {fd : Nat → FuncData} {ca : Nat → Addr} {dv : Nat → Value} {A : Around} {out : List Env} {s : Shared} {H : Hp} {E : XK} {cd : Value}
theorem bg16 [LT : LTabs] (M : Fx K mg fa fd ca dv) (C16 : FnG P w K mg base L2.CX0 (4 * k) (fa 16) (fd 16) (psn 16) (spD K (callN tbl (k)) 16)) (C20 : FnG P w K mg base L2.CX0 (4 * k) (fa 20) (fd 20) (psn 20) (spD K (callN tbl (k)) 20)) (hrT : Room (4 * k + 3) (A.deeper (envOfC "Log.__repr__" (defScope st16) s.heap.objs.size (fa 16) cd))) (hg : Gok A) :
    PSs (cxOf L2.CX0 P w K mg base N16 "Log.__repr__" (defScope st16) (fa 16) cd A out s H E).nox (defBody st16) (tS K (execs (callN tbl k) ir16)) :=
  have hr1 := hrT.mono (show 4 * k + 1 ≤ 4 * k + 3 by omega)
  have hr := hr1.mono (Nat.le_succ (4 * k))
  have sc := sc16
  dss_cons (ds_ret (de_fs (.cons (fs_cst (de_str)) (.cons (fs_val (de_fld (ks := [(0, 0)]) (f := "levels") (de_var (pe_var (i := 0) rfl (by first | exact .inl rfl | exact .inr (.inl rfl) | exact .inr (.inr rfl)))) (allF_cons (i := 0) M.c0 rfl allF_nil))) (.cons (fs_cst (de_str)) (.cons (fs_val (de_call C20 hr hg M.m20 M.f20.kp (bp_20_1_ M.f20) L2.pass0 (by rfl) (daa_val (de_fld (ks := [(0, 1)]) (f := "parts") (de_var (pe_var (i := 0) rfl (by first | exact .inl rfl | exact .inr (.inl rfl) | exact .inr (.inr rfl)))) (allF_cons (i := 1) M.c0 rfl allF_nil)) (daa_nil)))) (.cons (fs_cst (de_str)) (.nil))))))))
    (dss_nil)
theorem bg20 [LT : LTabs] (M : Fx K mg fa fd ca dv) (C16 : FnG P w K mg base L2.CX0 (4 * k) (fa 16) (fd 16) (psn 16) (spD K (callN tbl (k)) 16)) (C20 : FnG P w K mg base L2.CX0 (4 * k) (fa 20) (fd 20) (psn 20) (spD K (callN tbl (k)) 20)) (hrT : Room (4 * k + 3) (A.deeper (envOfC "parts_text" (defScope st20) s.heap.objs.size (fa 20) cd))) (hg : Gok A) :
    PSs (cxOf L2.CX0 P w K mg base N20 "parts_text" (defScope st20) (fa 20) cd A out s H E).nox (defBody st20) (tS K (execs (callN tbl k) ir20)) :=
  have hr1 := hrT.mono (show 4 * k + 1 ≤ 4 * k + 3 by omega)
  have hr := hr1.mono (Nat.le_succ (4 * k))
  have sc := sc20
  dss_cons (ds_nm (pg_name (i := 1) sc.nd rfl (by first | exact .inl rfl | exact .inr rfl)) (de_lst (da_nil)))
    (dss_cons (ds_for PassesOwn.never rfl (di_val (de_var (pe_var (i := 0) rfl (by first | exact .inl rfl | exact .inr (.inl rfl) | exact .inr (.inr rfl))))) (dg_nm (pg_name (i := 2) sc.nd rfl (by first | exact .inl rfl | exact .inr rfl))) (dss_cons (ds_ex (de_app (pe_var (i := 1) rfl (by first | exact .inl rfl | exact .inr (.inl rfl) | exact .inr (.inr rfl))) (de_ite (dt_val (de_isi .tuple (by rfl) M.b_isinstance (de_bt (by rfl) M.b_tuple bt_tuple) (de_var (pe_var (i := 2) rfl (by first | exact .inl rfl | exact .inr (.inl rfl) | exact .inr (.inr rfl))))) (fun _ => rfl)) (de_bin op_addD (de_bin op_addD (de_bin op_addD (de_str) (de_call C20 hr hg M.m20 M.f20.kp (bp_20_1_ M.f20) L2.pass0 (by rfl) (daa_val (de_idx (de_var (pe_var (i := 2) rfl (by first | exact .inl rfl | exact .inr (.inl rfl) | exact .inr (.inr rfl)))) (de_int) (fun _ _ => rfl)) (daa_nil)))) (de_str)) (de_ty cr_str1D (by rfl) M.b_str bt_str (dr_cons (de_idx (de_var (pe_var (i := 2) rfl (by first | exact .inl rfl | exact .inr (.inl rfl) | exact .inr (.inr rfl)))) (de_int) (fun _ _ => rfl)) (dr_nil)))) (de_ty cr_str1D (by rfl) M.b_str bt_str (dr_cons (de_var (pe_var (i := 2) rfl (by first | exact .inl rfl | exact .inr (.inl rfl) | exact .inr (.inr rfl)))) (dr_nil))))))
    (dss_wip (dss_nil))))
    (dss_cons (ds_ret (de_or (de_join (de_str) (de_var (pe_var (i := 1) rfl (by first | exact .inl rfl | exact .inr (.inl rfl) | exact .inr (.inr rfl))))) (de_one (de_globS (by rfl) M.gs_NOTHING.choose_spec))))
    (dss_nil)))
theorem tabG [LT : LTabs] (M : Fx K mg fa fd ca dv) : ∀ k : Nat, (FnG P w K mg base L2.CX0 (4 * k) (fa 16) (fd 16) (psn 16) (spD K (callN tbl (k)) 16)) ∧ (FnG P w K mg base L2.CX0 (4 * k) (fa 20) (fd 20) (psn 20) (spD K (callN tbl (k)) 20))
  | 0 => ⟨fnG_zero, fnG_zero⟩
  | k + 1 => by
    have ih := tabG M k
    exact ⟨fnG_tabC (r := 4 * k + 3) M.f16 sc16 rfl rfl rfl fun cd A out s H E co hr hg => bg16 M ih.1 ih.2 hr hg, fnG_tabC (r := 4 * k + 3) M.f20 sc20 rfl rfl rfl fun cd A out s H E co hr hg => bg20 M ih.1 ih.2 hr hg⟩
theorem tg16 [LT : LTabs] (M : Fx K mg fa fd ca dv) (k : Nat) : FnG P w K mg base L2.CX0 (4 * k) (fa 16) (fd 16) (psn 16) (spD K (callN tbl (k)) 16) := (tabG (P := P) (w := w) (base := base) M k).1
theorem b0 (M : Fx K mg fa fd ca dv) (C : ∀ j, FnG P w K mg base L2.CX0 (4 * k) (fa j) (fd j) (psn j) (sps K (callN tbl k) j)) (Cx : ∀ j, FnG P w K mg base (L2.CX P w) (4 * k) (fa j) (fd j) (psn j) (spsX K (callN tbl k) j)) (hrT : Room (4 * k + 3) (A.deeper (envOfC "law" (defScope st0) s.heap.objs.size (fa 0) cd))) (hg : A.guards = some []) :
    PSs (cxOf L2.CX0 P w K mg base N0 "law" (defScope st0) (fa 0) cd A out s H E).nox (defBody st0) (tS K (execs (callN tbl k) ir0)) :=
  have hr1 := hrT.mono (show 4 * k + 1 ≤ 4 * k + 3 by omega)
  have hr := hr1.mono (Nat.le_succ (4 * k))
  have sc := sc0
  dss_cons (ds_if (dt_not (dt_val (de_call0 (C 1) hr hg M.m1 M.f1.kp (bp_1_0_ M.f1) L2.pass0 (by rfl)) (fun _ => rfl))) (dss_cons (ds_ret (de_bl))
    (dss_nil)) (dss_nil))
    (dss_cons (ds_ret (de_bi (cr_allD rfl) (by rfl) M.b_all bt_all (dr_cons (de_comp (own := [("_law_k", 1)]) rfl sc.nd (by kernel_rfl) (by decide) (di_rng1 (by rfl) M.b_range (de_bi (cr_max2D rfl) (by rfl) M.b_max bt_max (dr_cons (de_int) (dr_cons (de_bi (cr_min2D rfl) (by rfl) M.b_min bt_min (dr_cons (de_bi cr_lenD (by rfl) M.b_len bt_len (dr_cons (de_var (pe_var (i := 0) rfl (by first | exact .inl rfl | exact .inr (.inl rfl) | exact .inr (.inr rfl)))) (dr_nil))) (dr_cons (de_int) (dr_nil)))) (dr_nil))))) (fun _ _ _ _ _ => dg_nm (pg_name (i := 1) sc.nd rfl (by first | exact .inl rfl | exact .inr rfl))) (fun _ _ _ _ _ => dts_none) (fun _ _ _ _ _ => de_call (C 2) hr hg M.m2 M.f2.kp (bp_2_1_ M.f2) L2.pass0 (by rfl) (daa_ref (de_call (C 3) hr hg M.m3 M.f3.kp (bp_3_1_ M.f3) L2.pass0 (by rfl) (daa_val (de_call (C 4) hr hg M.m4 M.f4.kp (bp_4_2_ M.f4) L2.pass0 (by rfl) (daa_val (de_var (pe_var (i := 0) rfl (by first | exact .inl rfl | exact .inr (.inl rfl) | exact .inr (.inr rfl)))) (daa_val (de_var (pe_var (i := 1) rfl (by first | exact .inl rfl | exact .inr (.inl rfl) | exact .inr (.inr rfl)))) (daa_nil)))) (daa_nil))) (daa_nil)))) (dr_nil))))
    (dss_nil))
theorem b1 (M : Fx K mg fa fd ca dv) (C : ∀ j, FnG P w K mg base L2.CX0 (4 * k) (fa j) (fd j) (psn j) (sps K (callN tbl k) j)) (Cx : ∀ j, FnG P w K mg base (L2.CX P w) (4 * k) (fa j) (fd j) (psn j) (spsX K (callN tbl k) j)) (hrT : Room (4 * k + 3) (A.deeper (envOfC "_law_fixed_right" (defScope st1) s.heap.objs.size (fa 1) cd))) (hg : A.guards = some []) :
    PSs (cxOf L2.CX0 P w K mg base N1 "_law_fixed_right" (defScope st1) (fa 1) cd A out s H E).nox (defBody st1) (tS K (execs (callN tbl k) ir1)) :=
  have hr1 := hrT.mono (show 4 * k + 1 ≤ 4 * k + 3 by omega)
  have hr := hr1.mono (Nat.le_succ (4 * k))
  have sc := sc1
  dss_cons (ds_asg (by intro _ z; cases z) (dg_tp rfl (dgs_cons (dg_nm (pg_name (i := 0) sc.nd rfl (by first | exact .inl rfl | exact .inr rfl))) (dgs_cons (dg_nm (pg_name (i := 1) sc.nd rfl (by first | exact .inl rfl | exact .inr rfl))) (dgs_nil))) rfl rfl (fun ds ρ ρ2 h => asgns_len ds ρ ρ2 h)) (de_tup (da_cons (de_tup (da_cons (de_int) (da_cons (de_int) (da_nil)))) (da_cons (de_str) (da_nil)))))
    (dss_cons (ds_for PassesOwn.never rfl (di_rng1 (by rfl) M.b_range (de_int)) (dg_nm (pg_name (i := 2) sc.nd rfl (by first | exact .inl rfl | exact .inr rfl))) (dss_cons (ds_if (dt_not (dt_val (de_call (C 5) hr hg M.m5 M.f5.kp (bp_5_3_ M.f5) L2.pass0 (by rfl) (daa_val (de_int) (daa_val (de_var (pe_var (i := 0) rfl (by first | exact .inl rfl | exact .inr (.inl rfl) | exact .inr (.inr rfl)))) (daa_val (de_var (pe_var (i := 1) rfl (by first | exact .inl rfl | exact .inr (.inl rfl) | exact .inr (.inr rfl)))) (daa_nil))))) (fun _ => rfl))) (dss_cons (ds_ret (de_bl))
    (dss_nil)) (dss_nil))
    (dss_cons (ds_nm (pg_name (i := 3) sc.nd rfl (by first | exact .inl rfl | exact .inr rfl)) (de_bin op_subD (de_bin op_powD (de_int) (de_int)) (de_var (pe_var (i := 2) rfl (by first | exact .inl rfl | exact .inr (.inl rfl) | exact .inr (.inr rfl))))))
    (dss_cons (ds_par rfl sc.nd rfl rfl (by decide) rfl rfl (de_tup (da_cons (de_tup (da_cons (de_var (pe_var (i := 0) rfl (by first | exact .inl rfl | exact .inr (.inl rfl) | exact .inr (.inr rfl)))) (da_cons (de_var (pe_var (i := 3) rfl (by first | exact .inl rfl | exact .inr (.inl rfl) | exact .inr (.inr rfl)))) (da_nil)))) (da_cons (de_bin op_addD (de_var (pe_var (i := 2) rfl (by first | exact .inl rfl | exact .inr (.inl rfl) | exact .inr (.inr rfl)))) (de_int)) (da_nil)))) (de_bin op_addD (de_bin op_addD (de_bin op_addD (de_bin op_addD (de_bin op_addD (de_str) (de_var (pe_var (i := 1) rfl (by first | exact .inl rfl | exact .inr (.inl rfl) | exact .inr (.inr rfl))))) (de_str)) (de_ty cr_str1D (by rfl) M.b_str bt_str (dr_cons (de_var (pe_var (i := 3) rfl (by first | exact .inl rfl | exact .inr (.inl rfl) | exact .inr (.inr rfl)))) (dr_nil)))) (de_str)) (de_ty cr_str1D (by rfl) M.b_str bt_str (dr_cons (de_bin op_addD (de_var (pe_var (i := 2) rfl (by first | exact .inl rfl | exact .inr (.inl rfl) | exact .inr (.inr rfl)))) (de_int)) (dr_nil)))))
    (dss_wip (dss_nil))))))
    (dss_cons (ds_nm (pg_name (i := 4) sc.nd rfl (by first | exact .inl rfl | exact .inr rfl)) (de_lst (da_cons (de_tup (da_cons (de_int) (da_cons (de_var (pe_var (i := 0) rfl (by first | exact .inl rfl | exact .inr (.inl rfl) | exact .inr (.inr rfl)))) (da_cons (de_var (pe_var (i := 1) rfl (by first | exact .inl rfl | exact .inr (.inl rfl) | exact .inr (.inr rfl)))) (da_nil))))) (da_cons (de_tup (da_cons (de_int) (da_cons (de_tup (da_nil)) (da_cons (de_str) (da_nil))))) (da_cons (de_tup (da_cons (de_int) (da_cons (de_tup (da_nil)) (da_cons (de_str) (da_nil))))) (da_cons (de_tup (da_cons (de_int) (da_cons (de_tup (da_cons (de_int) (da_nil))) (da_cons (de_str) (da_nil))))) (da_nil)))))))
    (dss_cons (ds_nm (pg_name (i := 4) sc.nd rfl (by first | exact .inl rfl | exact .inr rfl)) (de_bin op_addD (de_var (pe_var (i := 4) rfl (by first | exact .inl rfl | exact .inr (.inl rfl) | exact .inr (.inr rfl)))) (de_lst (da_cons (de_tup (da_cons (de_int) (da_cons (de_bin op_mulD (de_tup (da_cons (de_int) (da_nil))) (de_int)) (da_cons (de_join (de_str) (de_bin op_mulD (de_lst (da_cons (de_str) (da_nil))) (de_int))) (da_nil))))) (da_nil)))))
    (dss_cons (ds_nm (pg_name (i := 4) sc.nd rfl (by first | exact .inl rfl | exact .inr rfl)) (de_bin op_addD (de_var (pe_var (i := 4) rfl (by first | exact .inl rfl | exact .inr (.inl rfl) | exact .inr (.inr rfl)))) (de_lst (da_cons (de_tup (da_cons (de_int) (da_cons (de_bin op_mulD (de_tup (da_cons (de_tup (da_cons (de_tup (da_nil)) (da_cons (de_int) (da_nil)))) (da_nil))) (de_int)) (da_cons (de_join (de_str) (de_bin op_mulD (de_lst (da_cons (de_str) (da_nil))) (de_int))) (da_nil))))) (da_nil)))))
    (dss_cons (ds_nm (pg_name (i := 4) sc.nd rfl (by first | exact .inl rfl | exact .inr rfl)) (de_bin op_addD (de_var (pe_var (i := 4) rfl (by first | exact .inl rfl | exact .inr (.inl rfl) | exact .inr (.inr rfl)))) (de_lst (da_cons (de_tup (da_cons (de_int) (da_cons (de_tup (da_cons (de_int) (da_cons (de_tup (da_cons (de_tup (da_cons (de_tup (da_cons (de_tup (da_nil)) (da_cons (de_int) (da_nil)))) (da_cons (de_int) (da_nil)))) (da_cons (de_int) (da_nil)))) (da_nil)))) (da_cons (de_str) (da_nil))))) (da_nil)))))
    (dss_cons (ds_nm (pg_name (i := 4) sc.nd rfl (by first | exact .inl rfl | exact .inr rfl)) (de_bin op_addD (de_var (pe_var (i := 4) rfl (by first | exact .inl rfl | exact .inr (.inl rfl) | exact .inr (.inr rfl)))) (de_lst (da_cons (de_tup (da_cons (de_int) (da_cons (de_tupRg2 rfl (by rfl) M.b_tuple (by rfl) M.b_range (de_int) (de_int)) (da_cons (de_str) (da_nil))))) (da_nil)))))
    (dss_cons (ds_nm (pg_name (i := 4) sc.nd rfl (by first | exact .inl rfl | exact .inr rfl)) (de_bin op_addD (de_var (pe_var (i := 4) rfl (by first | exact .inl rfl | exact .inr (.inl rfl) | exact .inr (.inr rfl)))) (de_lst (da_cons (de_tup (da_cons (de_int) (da_cons (de_tup (da_cons (de_tup (da_cons (de_tup (da_cons (de_int) (da_cons (de_int) (da_nil)))) (da_cons (de_bin op_powD (de_int) (de_int)) (da_nil)))) (da_nil))) (da_cons (de_bin op_addD (de_str) (de_bin op_mulD (de_str) (de_int))) (da_nil))))) (da_nil)))))
    (dss_cons (ds_ret (de_bi (cr_allD rfl) (by rfl) M.b_all bt_all (dr_cons (de_comp (own := [("_law_levels_here", 5), ("_law_parts_here", 6), ("_law_due", 7)]) rfl sc.nd (by kernel_rfl) (by decide) (di_val (de_var (pe_var (i := 4) rfl (by first | exact .inl rfl | exact .inr (.inl rfl) | exact .inr (.inr rfl))))) (fun _ _ _ _ _ => dg_tp rfl (dgs_cons (dg_nm (pg_name (i := 5) sc.nd rfl (by first | exact .inl rfl | exact .inr rfl))) (dgs_cons (dg_nm (pg_name (i := 6) sc.nd rfl (by first | exact .inl rfl | exact .inr rfl))) (dgs_cons (dg_nm (pg_name (i := 7) sc.nd rfl (by first | exact .inl rfl | exact .inr rfl))) (dgs_nil)))) rfl rfl (fun ds ρ ρ2 h => asgns_len ds ρ ρ2 h)) (fun _ _ _ _ _ => dts_none) (fun _ _ _ _ _ => de_call (C 5) hr hg M.m5 M.f5.kp (bp_5_3_ M.f5) L2.pass0 (by rfl) (daa_val (de_var (pe_var (i := 5) rfl (by first | exact .inl rfl | exact .inr (.inl rfl) | exact .inr (.inr rfl)))) (daa_val (de_var (pe_var (i := 6) rfl (by first | exact .inl rfl | exact .inr (.inl rfl) | exact .inr (.inr rfl)))) (daa_val (de_var (pe_var (i := 7) rfl (by first | exact .inl rfl | exact .inr (.inl rfl) | exact .inr (.inr rfl)))) (daa_nil)))))) (dr_nil))))
    (dss_nil)))))))))
theorem b2 (M : Fx K mg fa fd ca dv) (C : ∀ j, FnG P w K mg base L2.CX0 (4 * k) (fa j) (fd j) (psn j) (sps K (callN tbl k) j)) (Cx : ∀ j, FnG P w K mg base (L2.CX P w) (4 * k) (fa j) (fd j) (psn j) (spsX K (callN tbl k) j)) (hrT : Room (4 * k + 3) (A.deeper (envOfC "_law_right" (defScope st2) s.heap.objs.size (fa 2) cd))) (hg : A.guards = some []) :
    PSs (cxOf L2.CX0 P w K mg base N2 "_law_right" (defScope st2) (fa 2) cd A out s H E).nox (defBody st2) (tS K (execs (callN tbl k) ir2)) :=
  have hr1 := hrT.mono (show 4 * k + 1 ≤ 4 * k + 3 by omega)
  have hr := hr1.mono (Nat.le_succ (4 * k))
  have sc := sc2
  dss_cons (ds_nm (pg_name (i := 1) sc.nd rfl (by first | exact .inl rfl | exact .inr rfl)) (de_call (C 6) hr hg M.m6 M.f6.kp (bp_6_2_ M.f6) L2.pass0 (by rfl) (daa_ref (de_var (pe_var (i := 0) rfl (by first | exact .inl rfl | exact .inr (.inl rfl) | exact .inr (.inr rfl)))) (daa_val (de_int) (daa_nil)))))
    (dss_cons (ds_nm (pg_name (i := 2) sc.nd rfl (by first | exact .inl rfl | exact .inr rfl)) (de_call (C 7) hr hg M.m7 M.f7.kp (bp_7_4_ M.f7) L2.pass0 (by rfl) (daa_ref (de_var (pe_var (i := 0) rfl (by first | exact .inl rfl | exact .inr (.inl rfl) | exact .inr (.inr rfl)))) (daa_val (de_var (pe_var (i := 1) rfl (by first | exact .inl rfl | exact .inr (.inl rfl) | exact .inr (.inr rfl)))) (daa_val (de_idx (de_lst (da_cons (de_int) (da_cons (de_int) (da_cons (de_int) (da_nil))))) (de_call (C 8) hr hg M.m8 M.f8.kp (bp_8_2_ M.f8) L2.pass0 (by rfl) (daa_ref (de_var (pe_var (i := 0) rfl (by first | exact .inl rfl | exact .inr (.inl rfl) | exact .inr (.inr rfl)))) (daa_val (de_int) (daa_nil)))) (fun _ _ => rfl)) (daa_val (de_bin op_addD (de_int) (de_call (C 8) hr hg M.m8 M.f8.kp (bp_8_2_ M.f8) L2.pass0 (by rfl) (daa_ref (de_var (pe_var (i := 0) rfl (by first | exact .inl rfl | exact .inr (.inl rfl) | exact .inr (.inr rfl)))) (daa_val (de_int) (daa_nil))))) (daa_nil)))))))
    (dss_cons (ds_nm (pg_name (i := 3) sc.nd rfl (by first | exact .inl rfl | exact .inr rfl)) (de_call (C 9) hr hg M.m9 M.f9.kp (bp_9_1_ M.f9) L2.pass0 (by rfl) (daa_val (de_var (pe_var (i := 2) rfl (by first | exact .inl rfl | exact .inr (.inl rfl) | exact .inr (.inr rfl)))) (daa_nil))))
    (dss_cons (ds_ret (de_and (de_call (C 5) hr hg M.m5 M.f5.kp (bp_5_3_ M.f5) L2.pass0 (by rfl) (daa_val (de_var (pe_var (i := 1) rfl (by first | exact .inl rfl | exact .inr (.inl rfl) | exact .inr (.inr rfl)))) (daa_val (de_var (pe_var (i := 2) rfl (by first | exact .inl rfl | exact .inr (.inl rfl) | exact .inr (.inr rfl)))) (daa_val (de_var (pe_var (i := 3) rfl (by first | exact .inl rfl | exact .inr (.inl rfl) | exact .inr (.inr rfl)))) (daa_nil))))) (de_one (de_call (C 10) hr hg M.m10 M.f10.kp (bp_10_3_ M.f10) L2.pass0 (by rfl) (daa_val (de_var (pe_var (i := 1) rfl (by first | exact .inl rfl | exact .inr (.inl rfl) | exact .inr (.inr rfl)))) (daa_val (de_var (pe_var (i := 2) rfl (by first | exact .inl rfl | exact .inr (.inl rfl) | exact .inr (.inr rfl)))) (daa_val (de_var (pe_var (i := 3) rfl (by first | exact .inl rfl | exact .inr (.inl rfl) | exact .inr (.inr rfl)))) (daa_nil))))))))
    (dss_nil))))
theorem b3 (M : Fx K mg fa fd ca dv) (C : ∀ j, FnG P w K mg base L2.CX0 (4 * k) (fa j) (fd j) (psn j) (sps K (callN tbl k) j)) (Cx : ∀ j, FnG P w K mg base (L2.CX P w) (4 * k) (fa j) (fd j) (psn j) (spsX K (callN tbl k) j)) (hrT : Room (4 * k + 3) (A.deeper (envOfC "_law_pool" (defScope st3) s.heap.objs.size (fa 3) cd))) (hg : A.guards = some []) :
    PSs (cxOf L2.CX0 P w K mg base N3 "_law_pool" (defScope st3) (fa 3) cd A out s H E).nox (defBody st3) (tS K (execs (callN tbl k) ir3)) :=
  have hr1 := hrT.mono (show 4 * k + 1 ≤ 4 * k + 3 by omega)
  have hr := hr1.mono (Nat.le_succ (4 * k))
  have sc := sc3
  dss_cons (ds_nm (pg_name (i := 1) sc.nd rfl (by first | exact .inl rfl | exact .inr rfl)) (de_int))
    (dss_cons (ds_if (PW.pt (dw_or (dt_cmp (op_ltD (rm_units hr)) (de_var (pe_var (i := 0) rfl (by first | exact .inl rfl | exact .inr (.inl rfl) | exact .inr (.inr rfl)))) (de_int) (nomark _)) (dw_one (dt_cmp op_geD (de_var (pe_var (i := 0) rfl (by first | exact .inl rfl | exact .inr (.inl rfl) | exact .inr (.inr rfl)))) (de_bin op_powD (de_int) (de_int)) (nomark _)) (.inr rfl)))) (dss_cons (ds_nm (pg_name (i := 1) sc.nd rfl (by first | exact .inl rfl | exact .inr rfl)) (de_bi cr_absD (by rfl) M.b_abs bt_abs (dr_cons (de_var (pe_var (i := 0) rfl (by first | exact .inl rfl | exact .inr (.inl rfl) | exact .inr (.inr rfl)))) (dr_nil))))
    (dss_nil)) (dss_nil))
    (dss_cons (ds_ret (de_lst (da_cons (de_bin op_modD (de_var (pe_var (i := 0) rfl (by first | exact .inl rfl | exact .inr (.inl rfl) | exact .inr (.inr rfl)))) (de_int)) (da_cons (de_var (pe_var (i := 1) rfl (by first | exact .inl rfl | exact .inr (.inl rfl) | exact .inr (.inr rfl)))) (da_cons (de_int) (da_nil))))))
    (dss_nil)))
theorem b4 (M : Fx K mg fa fd ca dv) (C : ∀ j, FnG P w K mg base L2.CX0 (4 * k) (fa j) (fd j) (psn j) (sps K (callN tbl k) j)) (Cx : ∀ j, FnG P w K mg base (L2.CX P w) (4 * k) (fa j) (fd j) (psn j) (spsX K (callN tbl k) j)) (hrT : Room (4 * k + 3) (A.deeper (envOfC "_law_cell" (defScope st4) s.heap.objs.size (fa 4) cd))) (hg : A.guards = some []) :
    PSs (cxOf L2.CX0 P w K mg base N4 "_law_cell" (defScope st4) (fa 4) cd A out s H E).nox (defBody st4) (tS K (execs (callN tbl k) ir4)) :=
  have hr1 := hrT.mono (show 4 * k + 1 ≤ 4 * k + 3 by omega)
  have hr := hr1.mono (Nat.le_succ (4 * k))
  have sc := sc4
  dss_cons (ds_if (dt_cmp (op_ltD (rm_units hr)) (de_var (pe_var (i := 1) rfl (by first | exact .inl rfl | exact .inr (.inl rfl) | exact .inr (.inr rfl)))) (de_bi cr_lenD (by rfl) M.b_len bt_len (dr_cons (de_var (pe_var (i := 0) rfl (by first | exact .inl rfl | exact .inr (.inl rfl) | exact .inr (.inr rfl)))) (dr_nil))) (nomark _)) (dss_cons (ds_ret (de_idx (de_var (pe_var (i := 0) rfl (by first | exact .inl rfl | exact .inr (.inl rfl) | exact .inr (.inr rfl)))) (de_var (pe_var (i := 1) rfl (by first | exact .inl rfl | exact .inr (.inl rfl) | exact .inr (.inr rfl)))) (fun _ _ => rfl)))
    (dss_nil)) (dss_nil))
    (dss_cons (ds_nm (pg_name (i := 2) sc.nd rfl (by first | exact .inl rfl | exact .inr rfl)) (de_bin op_modD (de_bin op_mulD (de_int) (de_bin op_addD (de_bin op_addD (de_bin op_mulD (de_var (pe_var (i := 1) rfl (by first | exact .inl rfl | exact .inr (.inl rfl) | exact .inr (.inr rfl)))) (de_var (pe_var (i := 1) rfl (by first | exact .inl rfl | exact .inr (.inl rfl) | exact .inr (.inr rfl))))) (de_bin op_mulD (de_int) (de_var (pe_var (i := 1) rfl (by first | exact .inl rfl | exact .inr (.inl rfl) | exact .inr (.inr rfl)))))) (de_int))) (de_int)))
    (dss_cons (ds_for PassesOwn.never rfl (di_val (de_slc (de_var (pe_var (i := 0) rfl (by first | exact .inl rfl | exact .inr (.inl rfl) | exact .inr (.inr rfl)))) (do_none) (do_some (de_int)))) (dg_nm (pg_name (i := 3) sc.nd rfl (by first | exact .inl rfl | exact .inr rfl))) (dss_cons (ds_nm (pg_name (i := 2) sc.nd rfl (by first | exact .inl rfl | exact .inr rfl)) (de_bin op_modD (de_bin op_addD (de_bin op_mulD (de_var (pe_var (i := 2) rfl (by first | exact .inl rfl | exact .inr (.inl rfl) | exact .inr (.inr rfl)))) (de_int)) (de_var (pe_var (i := 3) rfl (by first | exact .inl rfl | exact .inr (.inl rfl) | exact .inr (.inr rfl))))) (de_int)))
    (dss_nil)))
    (dss_cons (ds_ret (de_var (pe_var (i := 2) rfl (by first | exact .inl rfl | exact .inr (.inl rfl) | exact .inr (.inr rfl)))))
    (dss_nil))))
theorem b5 (M : Fx K mg fa fd ca dv) (C : ∀ j, FnG P w K mg base L2.CX0 (4 * k) (fa j) (fd j) (psn j) (sps K (callN tbl k) j)) (Cx : ∀ j, FnG P w K mg base (L2.CX P w) (4 * k) (fa j) (fd j) (psn j) (spsX K (callN tbl k) j)) (hrT : Room (4 * k + 3) (A.deeper (envOfC "_law_one_right" (defScope st5) s.heap.objs.size (fa 5) cd))) (hg : A.guards = some []) :
    PSs (cxOf L2.CX0 P w K mg base N5 "_law_one_right" (defScope st5) (fa 5) cd A out s H E).nox (defBody st5) (tS K (execs (callN tbl k) ir5)) :=
  have hr1 := hrT.mono (show 4 * k + 1 ≤ 4 * k + 3 by omega)
  have hr := hr1.mono (Nat.le_succ (4 * k))
  have sc := sc5
  dss_cons (ds_nm (pg_name (i := 3) sc.nd rfl (by first | exact .inl rfl | exact .inr rfl)) (de_makeB (perm := [0, 1]) (dds := [.tup []]) M.c0 M.k0 M.q0 (C 11) hr1 hg (bd_11_3_ M.f11 M.e11) L2.pass0 (by rfl) (daa_val (de_var (pe_var (i := 0) rfl (by first | exact .inl rfl | exact .inr (.inl rfl) | exact .inr (.inr rfl)))) (daa_val (de_var (pe_var (i := 1) rfl (by first | exact .inl rfl | exact .inr (.inl rfl) | exact .inr (.inr rfl)))) (daa_nil)))))
    (dss_cons (ds_for PassesOwn.never rfl (di_val (de_lst (da_cons (de_call (C 12) hr hg M.m12 M.f12.kp (bp_12_1_ M.f12) L2.pass0 (by rfl) (daa_val (de_var (pe_var (i := 3) rfl (by first | exact .inl rfl | exact .inr (.inl rfl) | exact .inr (.inr rfl)))) (daa_nil))) (da_cons (de_callk0 (C 12) hr hg M.m12 M.f12.kp (bp_12_0_log M.f12) L2.pass0 (by rfl) (dk_val (de_var (pe_var (i := 3) rfl (by first | exact .inl rfl | exact .inr (.inl rfl) | exact .inr (.inr rfl)))) (dk_nil))) (da_cons (de_strO (ms := [(0, 13)]) (allS_cons (c := 0) (fi := 13) (strF M.c0 M.h13 (C 13) hr1 (bp_13_1_ M.f13).toDf) (gs13 k) allS_nil) hg L2.pass0 (by rfl) M.b_str (de_var (pe_var (i := 3) rfl (by first | exact .inl rfl | exact .inr (.inl rfl) | exact .inr (.inr rfl))))) (da_cons (de_call (C 12) hr hg M.m12 M.f12.kp (bp_12_1_ M.f12) L2.pass0 (by rfl) (daa_val (de_var (pe_var (i := 3) rfl (by first | exact .inl rfl | exact .inr (.inl rfl) | exact .inr (.inr rfl)))) (daa_nil))) (da_nil))))))) (dg_nm (pg_name (i := 4) sc.nd rfl (by first | exact .inl rfl | exact .inr rfl))) (dss_cons (ds_if (PW.pt (dw_or (dt_not (dt_val (de_isi .str (by rfl) M.b_isinstance (de_bt (by rfl) M.b_str bt_str) (de_var (pe_var (i := 4) rfl (by first | exact .inl rfl | exact .inr (.inl rfl) | exact .inr (.inr rfl))))) (fun _ => rfl))) (dw_one (dt_cmp (op_neDD (rm_units hr)) (de_var (pe_var (i := 4) rfl (by first | exact .inl rfl | exact .inr (.inl rfl) | exact .inr (.inr rfl)))) (de_var (pe_var (i := 2) rfl (by first | exact .inl rfl | exact .inr (.inl rfl) | exact .inr (.inr rfl)))) (nomark _)) (.inr rfl)))) (dss_cons (ds_ret (de_bl))
    (dss_nil)) (dss_nil))
    (dss_wip (dss_nil))))
    (dss_cons (ds_ret (de_and (de_cmp (op_eqDD (rm_units hr)) (de_bi (cr_reprD hg (rm_units70 hr)) (by rfl) M.b_repr bt_repr (dr_cons (de_fld (ks := [(0, 1)]) (f := "parts") (de_var (pe_var (i := 3) rfl (by first | exact .inl rfl | exact .inr (.inl rfl) | exact .inr (.inr rfl)))) (allF_cons (i := 1) M.c0 rfl allF_nil)) (dr_nil))) (de_bi (cr_reprD hg (rm_units70 hr)) (by rfl) M.b_repr bt_repr (dr_cons (de_var (pe_var (i := 1) rfl (by first | exact .inl rfl | exact .inr (.inl rfl) | exact .inr (.inr rfl)))) (dr_nil))) (nomark _)) (de_one (de_cmp (op_eqDD (rm_units hr)) (de_fld (ks := [(0, 0)]) (f := "levels") (de_var (pe_var (i := 3) rfl (by first | exact .inl rfl | exact .inr (.inl rfl) | exact .inr (.inr rfl)))) (allF_cons (i := 0) M.c0 rfl allF_nil)) (de_var (pe_var (i := 0) rfl (by first | exact .inl rfl | exact .inr (.inl rfl) | exact .inr (.inr rfl)))) (nomark _)))))
    (dss_nil)))
theorem b6 (M : Fx K mg fa fd ca dv) (C : ∀ j, FnG P w K mg base L2.CX0 (4 * k) (fa j) (fd j) (psn j) (sps K (callN tbl k) j)) (Cx : ∀ j, FnG P w K mg base (L2.CX P w) (4 * k) (fa j) (fd j) (psn j) (spsX K (callN tbl k) j)) (hrT : Room (4 * k + 3) (A.deeper (envOfC "_law_levels" (defScope st6) s.heap.objs.size (fa 6) cd))) (hg : A.guards = some []) :
    PSs (cxOf L2.CX0 P w K mg base N6 "_law_levels" (defScope st6) (fa 6) cd A out s H E).nox (defBody st6) (tS K (execs (callN tbl k) ir6)) :=
  have hr1 := hrT.mono (show 4 * k + 1 ≤ 4 * k + 3 by omega)
  have hr := hr1.mono (Nat.le_succ (4 * k))
  have sc := sc6
  dss_cons (ds_nm (pg_name (i := 2) sc.nd rfl (by first | exact .inl rfl | exact .inr rfl)) (de_cmp (op_eqDD (rm_units hr)) (de_call (C 8) hr hg M.m8 M.f8.kp (bp_8_2_ M.f8) L2.pass0 (by rfl) (daa_ref (de_var (pe_var (i := 0) rfl (by first | exact .inl rfl | exact .inr (.inl rfl) | exact .inr (.inr rfl)))) (daa_val (de_int) (daa_nil)))) (de_int) (nomark _)))
    (dss_cons (ds_ret (de_bin op_addD (de_int) (de_call (C 8) hr hg M.m8 M.f8.kp (bp_8_2_ M.f8) L2.pass0 (by rfl) (daa_ref (de_var (pe_var (i := 0) rfl (by first | exact .inl rfl | exact .inr (.inl rfl) | exact .inr (.inr rfl)))) (daa_val (de_ite (dt_val (de_var (pe_var (i := 2) rfl (by first | exact .inl rfl | exact .inr (.inl rfl) | exact .inr (.inr rfl)))) (fun _ => rfl)) (de_var (pe_var (i := 1) rfl (by first | exact .inl rfl | exact .inr (.inl rfl) | exact .inr (.inr rfl)))) (de_bi (cr_min2D rfl) (by rfl) M.b_min bt_min (dr_cons (de_int) (dr_cons (de_var (pe_var (i := 1) rfl (by first | exact .inl rfl | exact .inr (.inl rfl) | exact .inr (.inr rfl)))) (dr_nil))))) (daa_nil))))))
    (dss_nil))
theorem b7 (M : Fx K mg fa fd ca dv) (C : ∀ j, FnG P w K mg base L2.CX0 (4 * k) (fa j) (fd j) (psn j) (sps K (callN tbl k) j)) (Cx : ∀ j, FnG P w K mg base (L2.CX P w) (4 * k) (fa j) (fd j) (psn j) (spsX K (callN tbl k) j)) (hrT : Room (4 * k + 3) (A.deeper (envOfC "_law_parts" (defScope st7) s.heap.objs.size (fa 7) cd))) (hg : A.guards = some []) :
    PSs (cxOf L2.CX0 P w K mg base N7 "_law_parts" (defScope st7) (fa 7) cd A out s H E).nox (defBody st7) (tS K (execs (callN tbl k) ir7)) :=
  have hr1 := hrT.mono (show 4 * k + 1 ≤ 4 * k + 3 by omega)
  have hr := hr1.mono (Nat.le_succ (4 * k))
  have sc := sc7
  dss_cons (ds_nm (pg_name (i := 4) sc.nd rfl (by first | exact .inl rfl | exact .inr rfl)) (de_lst (da_nil)))
    (dss_cons (ds_whl PassesOwn.never (PW.pt (dw_and (dt_cmp op_gtD (de_var (pe_var (i := 2) rfl (by first | exact .inl rfl | exact .inr (.inl rfl) | exact .inr (.inr rfl)))) (de_int) (nomark _)) (dw_one (dt_cmp op_gtD (de_call (C 8) hr hg M.m8 M.f8.kp (bp_8_2_ M.f8) L2.pass0 (by rfl) (daa_ref (de_var (pe_var (i := 0) rfl (by first | exact .inl rfl | exact .inr (.inl rfl) | exact .inr (.inr rfl)))) (daa_val (de_int) (daa_nil)))) (de_int) (nomark _)) (.inl rfl)))) (dss_cons (ds_nm (pg_name (i := 2) sc.nd rfl (by first | exact .inl rfl | exact .inr rfl)) (de_bin op_subD (de_var (pe_var (i := 2) rfl (by first | exact .inl rfl | exact .inr (.inl rfl) | exact .inr (.inr rfl)))) (de_int)))
    (dss_cons (ds_if (PW.pt (dw_and (dt_cmp op_gtD (de_var (pe_var (i := 3) rfl (by first | exact .inl rfl | exact .inr (.inl rfl) | exact .inr (.inr rfl)))) (de_int) (nomark _)) (dw_one (dt_cmp (op_eqDD (rm_units hr)) (de_call (C 8) hr hg M.m8 M.f8.kp (bp_8_2_ M.f8) L2.pass0 (by rfl) (daa_ref (de_var (pe_var (i := 0) rfl (by first | exact .inl rfl | exact .inr (.inl rfl) | exact .inr (.inr rfl)))) (daa_val (de_int) (daa_nil)))) (de_int) (nomark _)) (.inl rfl)))) (dss_cons (ds_nm (pg_name (i := 5) sc.nd rfl (by first | exact .inl rfl | exact .inr rfl)) (de_call (C 7) hr hg M.m7 M.f7.kp (bp_7_4_ M.f7) L2.pass0 (by rfl) (daa_ref (de_var (pe_var (i := 0) rfl (by first | exact .inl rfl | exact .inr (.inl rfl) | exact .inr (.inr rfl)))) (daa_val (de_var (pe_var (i := 1) rfl (by first | exact .inl rfl | exact .inr (.inl rfl) | exact .inr (.inr rfl)))) (daa_val (de_call (C 8) hr hg M.m8 M.f8.kp (bp_8_2_ M.f8) L2.pass0 (by rfl) (daa_ref (de_var (pe_var (i := 0) rfl (by first | exact .inl rfl | exact .inr (.inl rfl) | exact .inr (.inr rfl)))) (daa_val (de_bin op_addD (de_var (pe_var (i := 2) rfl (by first | exact .inl rfl | exact .inr (.inl rfl) | exact .inr (.inr rfl)))) (de_int)) (daa_nil)))) (daa_val (de_bin op_subD (de_var (pe_var (i := 3) rfl (by first | exact .inl rfl | exact .inr (.inl rfl) | exact .inr (.inr rfl)))) (de_int)) (daa_nil)))))))
    (dss_cons (ds_nm (pg_name (i := 2) sc.nd rfl (by first | exact .inl rfl | exact .inr rfl)) (de_bin op_subD (de_var (pe_var (i := 2) rfl (by first | exact .inl rfl | exact .inr (.inl rfl) | exact .inr (.inr rfl)))) (de_call (C 14) hr hg M.m14 M.f14.kp (bp_14_1_ M.f14) L2.pass0 (by rfl) (daa_val (de_var (pe_var (i := 5) rfl (by first | exact .inl rfl | exact .inr (.inl rfl) | exact .inr (.inr rfl)))) (daa_nil)))))
    (dss_cons (ds_ex (de_app (pe_var (i := 4) rfl (by first | exact .inl rfl | exact .inr (.inl rfl) | exact .inr (.inr rfl))) (de_tup (da_cons (de_var (pe_var (i := 5) rfl (by first | exact .inl rfl | exact .inr (.inl rfl) | exact .inr (.inr rfl)))) (da_cons (de_call (C 15) hr hg M.m15 M.f15.kp (bp_15_1_ M.f15) L2.pass0 (by rfl) (daa_ref (de_var (pe_var (i := 0) rfl (by first | exact .inl rfl | exact .inr (.inl rfl) | exact .inr (.inr rfl)))) (daa_nil))) (da_nil))))))
    (dss_nil)))) (dss_cons (ds_ex (de_app (pe_var (i := 4) rfl (by first | exact .inl rfl | exact .inr (.inl rfl) | exact .inr (.inr rfl))) (de_bin op_addD (de_int) (de_call (C 8) hr hg M.m8 M.f8.kp (bp_8_2_ M.f8) L2.pass0 (by rfl) (daa_ref (de_var (pe_var (i := 0) rfl (by first | exact .inl rfl | exact .inr (.inl rfl) | exact .inr (.inr rfl)))) (daa_val (de_var (pe_var (i := 1) rfl (by first | exact .inl rfl | exact .inr (.inl rfl) | exact .inr (.inr rfl)))) (daa_nil)))))))
    (dss_nil)))
    (dss_wip (dss_nil)))))
    (dss_wip (dss_cons (ds_ret (de_ty cr_tupleD (by rfl) M.b_tuple bt_tuple (dr_cons (de_var (pe_var (i := 4) rfl (by first | exact .inl rfl | exact .inr (.inl rfl) | exact .inr (.inr rfl)))) (dr_nil))))
    (dss_nil))))
theorem b8 (M : Fx K mg fa fd ca dv) (C : ∀ j, FnG P w K mg base L2.CX0 (4 * k) (fa j) (fd j) (psn j) (sps K (callN tbl k) j)) (Cx : ∀ j, FnG P w K mg base (L2.CX P w) (4 * k) (fa j) (fd j) (psn j) (spsX K (callN tbl k) j)) (hrT : Room (4 * k + 3) (A.deeper (envOfC "_law_draw" (defScope st8) s.heap.objs.size (fa 8) cd))) (hg : A.guards = some []) :
    PSs (cxOf L2.CX0 P w K mg base N8 "_law_draw" (defScope st8) (fa 8) cd A out s H E).nox (defBody st8) (tS K (execs (callN tbl k) ir8)) :=
  have hr1 := hrT.mono (show 4 * k + 1 ≤ 4 * k + 3 by omega)
  have hr := hr1.mono (Nat.le_succ (4 * k))
  have sc := sc8
  dss_cons (ds_asg (by intro _ z; cases z) (dg_sub (pe_var (i := 0) rfl (by first | exact .inl rfl | exact .inr (.inl rfl) | exact .inr (.inr rfl))) (de_int)) (de_bin op_addD (de_idx (de_var (pe_var (i := 0) rfl (by first | exact .inl rfl | exact .inr (.inl rfl) | exact .inr (.inr rfl)))) (de_int) (fun _ _ => rfl)) (de_int)))
    (dss_cons (ds_nm (pg_name (i := 2) sc.nd rfl (by first | exact .inl rfl | exact .inr rfl)) (de_idx (de_var (pe_var (i := 0) rfl (by first | exact .inl rfl | exact .inr (.inl rfl) | exact .inr (.inr rfl)))) (de_int) (fun _ _ => rfl)))
    (dss_cons (ds_asg (by intro _ z; cases z) (dg_sub (pe_var (i := 0) rfl (by first | exact .inl rfl | exact .inr (.inl rfl) | exact .inr (.inr rfl))) (de_int)) (de_bin op_modD (de_bin op_addD (de_bin op_addD (de_bin op_mulD (de_var (pe_var (i := 2) rfl (by first | exact .inl rfl | exact .inr (.inl rfl) | exact .inr (.inr rfl)))) (de_bin op_addD (de_bin op_modD (de_ty cr_intD (by rfl) M.b_int bt_int (dr_cons (de_var (pe_var (i := 2) rfl (by first | exact .inl rfl | exact .inr (.inl rfl) | exact .inr (.inr rfl)))) (dr_nil))) (de_int)) (de_int))) (de_bin op_mulD (de_int) (de_idx (de_var (pe_var (i := 0) rfl (by first | exact .inl rfl | exact .inr (.inl rfl) | exact .inr (.inr rfl)))) (de_int) (fun _ _ => rfl)))) (de_int)) (de_int)))
    (dss_cons (ds_if (dt_cmp op_gtD (de_idx (de_var (pe_var (i := 0) rfl (by first | exact .inl rfl | exact .inr (.inl rfl) | exact .inr (.inr rfl)))) (de_int) (fun _ _ => rfl)) (de_int) (nomark _)) (dss_cons (ds_asg (by intro _ z; cases z) (dg_tp rfl (dgs_cons (dg_sub (pe_var (i := 0) rfl (by first | exact .inl rfl | exact .inr (.inl rfl) | exact .inr (.inr rfl))) (de_int)) (dgs_cons (dg_nm (pg_name (i := 3) sc.nd rfl (by first | exact .inl rfl | exact .inr rfl))) (dgs_nil))) rfl rfl (fun ds ρ ρ2 h => asgns_len ds ρ ρ2 h)) (de_bi cr_divmodD (by rfl) M.b_divmod bt_divmod (dr_cons (de_idx (de_var (pe_var (i := 0) rfl (by first | exact .inl rfl | exact .inr (.inl rfl) | exact .inr (.inr rfl)))) (de_int) (fun _ _ => rfl)) (dr_cons (de_var (pe_var (i := 1) rfl (by first | exact .inl rfl | exact .inr (.inl rfl) | exact .inr (.inr rfl)))) (dr_nil)))))
    (dss_cons (ds_ret (de_var (pe_var (i := 3) rfl (by first | exact .inl rfl | exact .inr (.inl rfl) | exact .inr (.inr rfl)))))
    (dss_nil))) (dss_nil))
    (dss_cons (ds_ret (de_bin op_modD (de_bin op_fdivD (de_idx (de_var (pe_var (i := 0) rfl (by first | exact .inl rfl | exact .inr (.inl rfl) | exact .inr (.inr rfl)))) (de_int) (fun _ _ => rfl)) (de_int)) (de_var (pe_var (i := 1) rfl (by first | exact .inl rfl | exact .inr (.inl rfl) | exact .inr (.inr rfl))))))
    (dss_nil)))))
theorem b9 (M : Fx K mg fa fd ca dv) (C : ∀ j, FnG P w K mg base L2.CX0 (4 * k) (fa j) (fd j) (psn j) (sps K (callN tbl k) j)) (Cx : ∀ j, FnG P w K mg base (L2.CX P w) (4 * k) (fa j) (fd j) (psn j) (spsX K (callN tbl k) j)) (hrT : Room (4 * k + 3) (A.deeper (envOfC "_law_text" (defScope st9) s.heap.objs.size (fa 9) cd))) (hg : A.guards = some []) :
    PSs (cxOf L2.CX0 P w K mg base N9 "_law_text" (defScope st9) (fa 9) cd A out s H E).nox (defBody st9) (tS K (execs (callN tbl k) ir9)) :=
  have hr1 := hrT.mono (show 4 * k + 1 ≤ 4 * k + 3 by omega)
  have hr := hr1.mono (Nat.le_succ (4 * k))
  have sc := sc9
  dss_cons (ds_nm (pg_name (i := 1) sc.nd rfl (by first | exact .inl rfl | exact .inr rfl)) (de_lst (da_nil)))
    (dss_cons (ds_for PassesOwn.never rfl (di_val (de_var (pe_var (i := 0) rfl (by first | exact .inl rfl | exact .inr (.inl rfl) | exact .inr (.inr rfl))))) (dg_nm (pg_name (i := 2) sc.nd rfl (by first | exact .inl rfl | exact .inr rfl))) (dss_cons (ds_ex (de_app (pe_var (i := 1) rfl (by first | exact .inl rfl | exact .inr (.inl rfl) | exact .inr (.inr rfl))) (de_ite (dt_val (de_isi .int (by rfl) M.b_isinstance (de_bt (by rfl) M.b_int bt_int) (de_var (pe_var (i := 2) rfl (by first | exact .inl rfl | exact .inr (.inl rfl) | exact .inr (.inr rfl))))) (fun _ => rfl)) (de_ty cr_str1D (by rfl) M.b_str bt_str (dr_cons (de_var (pe_var (i := 2) rfl (by first | exact .inl rfl | exact .inr (.inl rfl) | exact .inr (.inr rfl)))) (dr_nil))) (de_bin op_addD (de_bin op_addD (de_bin op_addD (de_str) (de_call (C 9) hr hg M.m9 M.f9.kp (bp_9_1_ M.f9) L2.pass0 (by rfl) (daa_val (de_idx (de_var (pe_var (i := 2) rfl (by first | exact .inl rfl | exact .inr (.inl rfl) | exact .inr (.inr rfl)))) (de_int) (fun _ _ => rfl)) (daa_nil)))) (de_str)) (de_ty cr_str1D (by rfl) M.b_str bt_str (dr_cons (de_idx (de_var (pe_var (i := 2) rfl (by first | exact .inl rfl | exact .inr (.inl rfl) | exact .inr (.inr rfl)))) (de_int) (fun _ _ => rfl)) (dr_nil)))))))
    (dss_wip (dss_nil))))
    (dss_cons (ds_ret (de_ite (dt_cmp (op_neDD (rm_units hr)) (de_var (pe_var (i := 1) rfl (by first | exact .inl rfl | exact .inr (.inl rfl) | exact .inr (.inr rfl)))) (de_lst (da_nil)) (nomark _)) (de_join (de_str) (de_var (pe_var (i := 1) rfl (by first | exact .inl rfl | exact .inr (.inl rfl) | exact .inr (.inr rfl))))) (de_str)))
    (dss_nil)))
theorem b10 (M : Fx K mg fa fd ca dv) (C : ∀ j, FnG P w K mg base L2.CX0 (4 * k) (fa j) (fd j) (psn j) (sps K (callN tbl k) j)) (Cx : ∀ j, FnG P w K mg base (L2.CX P w) (4 * k) (fa j) (fd j) (psn j) (spsX K (callN tbl k) j)) (KB : K.In base) (BL : BltAt mg base) (co : CodeOf K (fa 10) cd) (hrT : Room (4 * k + 3) (A.deeper (envOfC "_law_others_right" (defScope st10) s.heap.objs.size (fa 10) cd))) (hg : A.guards = some []) :
    PSs (cxOf L2.CX0 P w K mg base N10 "_law_others_right" (defScope st10) (fa 10) cd A out s H E).nox (defBody st10) (tS K (execs (callN tbl k) ir10)) := by
  have hr1 := hrT.mono (show 4 * k + 1 ≤ 4 * k + 3 by omega)
  have hr := hr1.mono (Nat.le_succ (4 * k))
  have sc := sc10
  obtain ⟨cc, hcc, hch⟩ := M.tb_10
  have ec := CodeOf.inj co (code_of M.f10 hcc)
  subst ec
  obtain ⟨fdC, FC⟩ := M.rfca
  have hmT : ((843 : Addr), (("_law_others_right" : Str) ++ ".<locals>.") ++ "<lambda>") ∈ LTabs.T := List.mem_cons_self
  have hu : ∀ p ∈ LTabs.T, p.1 = (843 : Addr) → p.2 = (("_law_others_right" : Str) ++ ".<locals>.") ++ "<lambda>" := hu_of (by decide +kernel)
  have TB : LamX.TabB base mg cc 843 := ⟨PySem.W.codeHd_of_K KB hch, (BL _ hmT).1, (BL _ hmT).2⟩
  exact dss_cons (ds_nm (pg_name (i := 3) sc.nd rfl (by first | exact .inl rfl | exact .inr rfl)) (de_makeB (perm := [0, 1]) (dds := [.tup []]) M.c0 M.k0 M.q0 (C 11) hr1 hg (bd_11_3_ M.f11 M.e11) L2.pass0 (by rfl) (daa_val (de_var (pe_var (i := 0) rfl (by first | exact .inl rfl | exact .inr (.inl rfl) | exact .inr (.inr rfl)))) (daa_val (de_var (pe_var (i := 1) rfl (by first | exact .inl rfl | exact .inr (.inl rfl) | exact .inr (.inr rfl)))) (daa_nil)))))
    (dss_cons (ds_nm (pg_name (i := 4) sc.nd rfl (by first | exact .inl rfl | exact .inr rfl)) (de_lst (da_cons (de_non) (da_cons (de_int) (da_cons (de_int) (da_cons (de_bl) (da_cons (de_str) (da_cons (de_str) (da_cons (de_var (pe_var (i := 2) rfl (by first | exact .inl rfl | exact .inr (.inl rfl) | exact .inr (.inr rfl)))) (da_cons (de_tup (da_nil)) (da_cons (de_var (pe_var (i := 1) rfl (by first | exact .inl rfl | exact .inr (.inl rfl) | exact .inr (.inr rfl)))) (da_cons (de_lst (da_nil)) (da_cons (de_emp) (da_nil))))))))))))))
    (dss_cons (ds_nm (pg_name (i := 4) sc.nd rfl (by first | exact .inl rfl | exact .inr rfl)) (de_bin op_addD (de_var (pe_var (i := 4) rfl (by first | exact .inl rfl | exact .inr (.inl rfl) | exact .inr (.inr rfl)))) (de_lst (da_cons (de_lst (da_cons (de_var (pe_var (i := 3) rfl (by first | exact .inl rfl | exact .inr (.inl rfl) | exact .inr (.inr rfl)))) (da_nil))) (da_cons (de_tup (da_cons (de_var (pe_var (i := 3) rfl (by first | exact .inl rfl | exact .inr (.inl rfl) | exact .inr (.inr rfl)))) (da_nil))) (da_cons (de_tup (da_cons (de_var (pe_var (i := 0) rfl (by first | exact .inl rfl | exact .inr (.inl rfl) | exact .inr (.inr rfl)))) (da_cons (de_var (pe_var (i := 1) rfl (by first | exact .inl rfl | exact .inr (.inl rfl) | exact .inr (.inr rfl)))) (da_nil)))) (da_cons (de_ty cr_listD (by rfl) M.b_list bt_list (dr_cons (de_var (pe_var (i := 1) rfl (by first | exact .inl rfl | exact .inr (.inl rfl) | exact .inr (.inr rfl)))) (dr_nil))) (da_cons (de_lst (da_cons (de_var (pe_var (i := 1) rfl (by first | exact .inl rfl | exact .inr (.inl rfl) | exact .inr (.inr rfl)))) (da_nil))) (da_nil)))))))))
    (dss_cons (ds_for PassesOwn.never rfl (di_val (de_var (pe_var (i := 4) rfl (by first | exact .inl rfl | exact .inr (.inl rfl) | exact .inr (.inr rfl))))) (dg_nm (pg_name (i := 5) sc.nd rfl (by first | exact .inl rfl | exact .inr rfl))) (dss_cons (ds_if (dt_cmp (op_neDD (rm_units hr)) (de_rpr (ms := [(0, 16)]) hr1 hg L2.pass0 (allG1 (RepG.mk ⟨_, _, _, _, M.c0, M.h16, tg16 (LT := anyG tabsQ) (P := P) (w := w) (base := base) M k, (bp_16_1_ M.f16)⟩)) (by rfl) M.b_repr (by exact de_caught (cs := CS) (Dn := Dn K) (k := 4 * k + 1) (Ng := Nca) (by rfl) M.rmca FC (bC FC) scca rfl (.inl rfl) (cg M (hrT.mono (show 3 ≤ 4 * k + 3 by omega))) (fun c hc => (kinA M c hc).ns) TB rfl hmT hu hrT hg (LamX.lamS_by (by rfl)) rfl (fun _ _ _ _ _ => rfl) (fun A' o' s' H' E' f' c' hg hr1 => have hr := hr1.mono (Nat.le_succ (4 * k)); de_xc (de_call (C 12) hr hg M.m12 M.f12.kp (bp_12_1_ M.f12) L2.pass0 (by rfl) (daa_val (de_var (pe_var (i := 5) rfl (by first | exact .inl rfl | exact .inr (.inl rfl) | exact .inr (.inr rfl)))) (daa_nil)))) (fun A' o' s' H' E' f' c' hg hr1 => have hr := hr1.mono (Nat.le_succ (4 * k)); xe_xc (xe_call (dds := []) (Cx 12) hr hg M.m12 M.f12.kp (bp_12_1_ M.f12).toDf takesL (by rfl) (daa_val (de_var (pe_var (i := 5) rfl (by first | exact .inl rfl | exact .inr (.inl rfl) | exact .inr (.inr rfl)))) (daa_nil)))))) (de_rpr (ms := [(0, 16)]) hr1 hg L2.pass0 (allG1 (RepG.mk ⟨_, _, _, _, M.c0, M.h16, tg16 (LT := anyG tabsQ) (P := P) (w := w) (base := base) M k, (bp_16_1_ M.f16)⟩)) (by rfl) M.b_repr (de_lst (da_cons (de_str) (da_cons (de_var (pe_var (i := 5) rfl (by first | exact .inl rfl | exact .inr (.inl rfl) | exact .inr (.inr rfl)))) (da_nil))))) (nomark _)) (dss_cons (ds_ret (de_bl))
    (dss_nil)) (dss_nil))
    (dss_cons (ds_if (dt_cmp (op_neDD (rm_units hr)) (de_rpr (ms := [(0, 16)]) hr1 hg L2.pass0 (allG1 (RepG.mk ⟨_, _, _, _, M.c0, M.h16, tg16 (LT := anyG tabsQ) (P := P) (w := w) (base := base) M k, (bp_16_1_ M.f16)⟩)) (by rfl) M.b_repr (by exact de_caught (cs := CS) (Dn := Dn K) (k := 4 * k + 1) (Ng := Nca) (by rfl) M.rmca FC (bC FC) scca rfl (.inl rfl) (cg M (hrT.mono (show 3 ≤ 4 * k + 3 by omega))) (fun c hc => (kinA M c hc).ns) TB rfl hmT hu hrT hg (LamX.lamS_by (by rfl)) rfl (fun _ _ _ _ _ => rfl) (fun A' o' s' H' E' f' c' hg hr1 => have hr := hr1.mono (Nat.le_succ (4 * k)); de_xc (de_callk0 (C 12) hr hg M.m12 M.f12.kp (bp_12_0_log M.f12) L2.pass0 (by rfl) (dk_val (de_var (pe_var (i := 5) rfl (by first | exact .inl rfl | exact .inr (.inl rfl) | exact .inr (.inr rfl)))) (dk_nil)))) (fun A' o' s' H' E' f' c' hg hr1 => have hr := hr1.mono (Nat.le_succ (4 * k)); xe_xc (xe_callk0 (dds := []) (iks := .val (.var 5) (.nil)) (Cx 12) hr hg M.m12 M.f12.kp (bp_12_0_log M.f12).toDf takesL (by rfl) (dk_val (de_var (pe_var (i := 5) rfl (by first | exact .inl rfl | exact .inr (.inl rfl) | exact .inr (.inr rfl)))) (dk_nil)))))) (de_rpr (ms := [(0, 16)]) hr1 hg L2.pass0 (allG1 (RepG.mk ⟨_, _, _, _, M.c0, M.h16, tg16 (LT := anyG tabsQ) (P := P) (w := w) (base := base) M k, (bp_16_1_ M.f16)⟩)) (by rfl) M.b_repr (de_lst (da_cons (de_str) (da_cons (de_var (pe_var (i := 5) rfl (by first | exact .inl rfl | exact .inr (.inl rfl) | exact .inr (.inr rfl)))) (da_nil))))) (nomark _)) (dss_cons (ds_ret (de_bl))
    (dss_nil)) (dss_nil))
    (dss_wip (dss_nil)))))
    (dss_cons (ds_ret (de_bl))
    (dss_nil)))))
theorem b11 (M : Fx K mg fa fd ca dv) (C : ∀ j, FnG P w K mg base L2.CX0 (4 * k) (fa j) (fd j) (psn j) (sps K (callN tbl k) j)) (Cx : ∀ j, FnG P w K mg base (L2.CX P w) (4 * k) (fa j) (fd j) (psn j) (spsX K (callN tbl k) j)) (hrT : Room (4 * k + 3) (A.deeper (envOfC "Log.__init__" (defScope st11) s.heap.objs.size (fa 11) cd))) (hg : A.guards = some []) :
    PSs (cxOf L2.CX0 P w K mg base N11 "Log.__init__" (defScope st11) (fa 11) cd A out s H E).nox (defBody st11) (tSI K 0 (execs (callN tbl k) ir11)) :=
  have hr1 := hrT.mono (show 4 * k + 1 ≤ 4 * k + 3 by omega)
  have hr := hr1.mono (Nat.le_succ (4 * k))
  have sc := sc11
  dsi_if (dt_not (dt_val (de_call (C 17) hr hg M.m17 M.f17.kp (bp_17_1_ M.f17) L2.pass0 (by rfl) (daa_val (de_var (pe_var (i := 1) rfl (by first | exact .inl rfl | exact .inr (.inl rfl) | exact .inr (.inr rfl)))) (daa_nil))) (fun _ => rfl))) (dss_cons ds_stk dss_nil) (fun _ _ _ h => by cases h) (dsi_if (dt_not (dt_val (de_isi .tuple (by rfl) M.b_isinstance (de_bt (by rfl) M.b_tuple bt_tuple) (de_var (pe_var (i := 2) rfl (by first | exact .inl rfl | exact .inr (.inl rfl) | exact .inr (.inr rfl))))) (fun _ => rfl))) (dss_cons ds_stk dss_nil) (fun _ _ _ h => by cases h) (dsi_nm (i := 3) (by decide) (pg_name (i := 3) sc.nd rfl (by first | exact .inl rfl | exact .inr rfl)) (de_call (C 18) hr hg M.m18 M.f18.kp (bp_18_2_ M.f18) L2.pass0 (by rfl) (daa_val (de_var (pe_var (i := 1) rfl (by first | exact .inl rfl | exact .inr (.inl rfl) | exact .inr (.inr rfl)))) (daa_val (de_var (pe_var (i := 2) rfl (by first | exact .inl rfl | exact .inr (.inl rfl) | exact .inr (.inr rfl)))) (daa_nil)))) (dsi_if (dt_cmp op_notND (de_var (pe_var (i := 3) rfl (by first | exact .inl rfl | exact .inr (.inl rfl) | exact .inr (.inr rfl)))) (de_non) (nomark _)) (dss_cons ds_stk dss_nil) (fun _ _ _ h => by cases h) (dsi_end (c := 0) rfl (by decide) ⟨_, M.c0⟩ (pe_var (i := 0) rfl (by first | exact .inl rfl | exact .inr (.inl rfl) | exact .inr (.inr rfl))) (pe_var (i := 1) rfl (by first | exact .inl rfl | exact .inr (.inl rfl) | exact .inr (.inr rfl))) (pe_var (i := 0) rfl (by first | exact .inl rfl | exact .inr (.inl rfl) | exact .inr (.inr rfl))) (pe_var (i := 2) rfl (by first | exact .inl rfl | exact .inr (.inl rfl) | exact .inr (.inr rfl)))))))
theorem b12 (M : Fx K mg fa fd ca dv) (C : ∀ j, FnG P w K mg base L2.CX0 (4 * k) (fa j) (fd j) (psn j) (sps K (callN tbl k) j)) (Cx : ∀ j, FnG P w K mg base (L2.CX P w) (4 * k) (fa j) (fd j) (psn j) (spsX K (callN tbl k) j)) (hrT : Room (4 * k + 3) (A.deeper (envOfC "format_log" (defScope st12) s.heap.objs.size (fa 12) cd))) (hg : A.guards = some []) :
    PSs (cxOf L2.CX0 P w K mg base N12 "format_log" (defScope st12) (fa 12) cd A out s H E).nox (defBody st12) (tS K (execs (callN tbl k) ir12)) :=
  have hr1 := hrT.mono (show 4 * k + 1 ≤ 4 * k + 3 by omega)
  have hr := hr1.mono (Nat.le_succ (4 * k))
  have sc := sc12
  dss_cons (ds_ex (de_xc (de_call (C 19) hr hg M.m19 M.f19.kp (bp_19_1_ M.f19) L2.pass0 (by rfl) (daa_val (de_var (pe_var (i := 0) rfl (by first | exact .inl rfl | exact .inr (.inl rfl) | exact .inr (.inr rfl)))) (daa_nil)))))
    (dss_cons (ds_ret (de_call (C 20) hr hg M.m20 M.f20.kp (bp_20_1_ M.f20) L2.pass0 (by rfl) (daa_val (de_fld (ks := [(0, 1)]) (f := "parts") (de_var (pe_var (i := 0) rfl (by first | exact .inl rfl | exact .inr (.inl rfl) | exact .inr (.inr rfl)))) (allF_cons (i := 1) M.c0 rfl allF_nil)) (daa_nil))))
    (dss_nil))
theorem bx12 (M : Fx K mg fa fd ca dv) (C : ∀ j, FnG P w K mg base L2.CX0 (4 * k) (fa j) (fd j) (psn j) (sps K (callN tbl k) j)) (Cx : ∀ j, FnG P w K mg base (L2.CX P w) (4 * k) (fa j) (fd j) (psn j) (spsX K (callN tbl k) j)) (hrT : Room (4 * k + 3) (A.deeper (envOfC "format_log" (defScope st12) s.heap.objs.size (fa 12) cd))) (hg : A.guards = some []) :
    PSs (cxOf (L2.CX P w) P w K mg base N12 "format_log" (defScope st12) (fa 12) cd A out s H E) (defBody st12) (tXS K (fun cls d _ h => E cls d h) (xexecs (callN tbl k) ir12)) :=
  have hr1 := hrT.mono (show 4 * k + 1 ≤ 4 * k + 3 by omega)
  have hr := hr1.mono (Nat.le_succ (4 * k))
  have sc := sc12
  dxs_last (dx_ex (xe_xc (xe_call (dds := []) (Cx 19) hr hg M.m19 M.f19.kp (bp_19_1_ M.f19).toDf takesD (by rfl) (daa_val (de_var (pe_var (i := 0) rfl (by first | exact .inl rfl | exact .inr (.inl rfl) | exact .inr (.inr rfl)))) (daa_nil))))) (xn_cons (fun _ => rfl) (xn_nil))
theorem b13 (M : Fx K mg fa fd ca dv) (C : ∀ j, FnG P w K mg base L2.CX0 (4 * k) (fa j) (fd j) (psn j) (sps K (callN tbl k) j)) (Cx : ∀ j, FnG P w K mg base (L2.CX P w) (4 * k) (fa j) (fd j) (psn j) (spsX K (callN tbl k) j)) (hrT : Room (4 * k + 3) (A.deeper (envOfC "Log.__str__" (defScope st13) s.heap.objs.size (fa 13) cd))) (hg : A.guards = some []) :
    PSs (cxOf L2.CX0 P w K mg base N13 "Log.__str__" (defScope st13) (fa 13) cd A out s H E).nox (defBody st13) (tS K (execs (callN tbl k) ir13)) :=
  have hr1 := hrT.mono (show 4 * k + 1 ≤ 4 * k + 3 by omega)
  have hr := hr1.mono (Nat.le_succ (4 * k))
  have sc := sc13
  dss_cons (ds_ret (de_ty cr_str1D (by rfl) M.b_str bt_str (dr_cons (de_call (C 20) hr hg M.m20 M.f20.kp (bp_20_1_ M.f20) L2.pass0 (by rfl) (daa_val (de_fld (ks := [(0, 1)]) (f := "parts") (de_var (pe_var (i := 0) rfl (by first | exact .inl rfl | exact .inr (.inl rfl) | exact .inr (.inr rfl)))) (allF_cons (i := 1) M.c0 rfl allF_nil)) (daa_nil))) (dr_nil))))
    (dss_nil)
theorem b14 (M : Fx K mg fa fd ca dv) (C : ∀ j, FnG P w K mg base L2.CX0 (4 * k) (fa j) (fd j) (psn j) (sps K (callN tbl k) j)) (Cx : ∀ j, FnG P w K mg base (L2.CX P w) (4 * k) (fa j) (fd j) (psn j) (spsX K (callN tbl k) j)) (hrT : Room (4 * k + 3) (A.deeper (envOfC "_law_size" (defScope st14) s.heap.objs.size (fa 14) cd))) (hg : A.guards = some []) :
    PSs (cxOf L2.CX0 P w K mg base N14 "_law_size" (defScope st14) (fa 14) cd A out s H E).nox (defBody st14) (tS K (execs (callN tbl k) ir14)) :=
  have hr1 := hrT.mono (show 4 * k + 1 ≤ 4 * k + 3 by omega)
  have hr := hr1.mono (Nat.le_succ (4 * k))
  have sc := sc14
  dss_cons (ds_ret (de_bi (cr_sumD rfl) (by rfl) M.b_sum bt_sum (dr_cons (de_comp (own := [("_law_piece", 1)]) rfl sc.nd (by kernel_rfl) (by decide) (di_val (de_var (pe_var (i := 0) rfl (by first | exact .inl rfl | exact .inr (.inl rfl) | exact .inr (.inr rfl))))) (fun _ _ _ _ _ => dg_nm (pg_name (i := 1) sc.nd rfl (by first | exact .inl rfl | exact .inr rfl))) (fun _ _ _ _ _ => dts_none) (fun _ _ _ _ _ => de_ite (dt_val (de_isi .int (by rfl) M.b_isinstance (de_bt (by rfl) M.b_int bt_int) (de_var (pe_var (i := 1) rfl (by first | exact .inl rfl | exact .inr (.inl rfl) | exact .inr (.inr rfl))))) (fun _ => rfl)) (de_int) (de_bin op_addD (de_int) (de_call (C 14) hr hg M.m14 M.f14.kp (bp_14_1_ M.f14) L2.pass0 (by rfl) (daa_val (de_idx (de_var (pe_var (i := 1) rfl (by first | exact .inl rfl | exact .inr (.inl rfl) | exact .inr (.inr rfl)))) (de_int) (fun _ _ => rfl)) (daa_nil)))))) (dr_nil))))
    (dss_nil)
theorem b15 (M : Fx K mg fa fd ca dv) (C : ∀ j, FnG P w K mg base L2.CX0 (4 * k) (fa j) (fd j) (psn j) (sps K (callN tbl k) j)) (Cx : ∀ j, FnG P w K mg base (L2.CX P w) (4 * k) (fa j) (fd j) (psn j) (spsX K (callN tbl k) j)) (hrT : Room (4 * k + 3) (A.deeper (envOfC "_law_times" (defScope st15) s.heap.objs.size (fa 15) cd))) (hg : A.guards = some []) :
    PSs (cxOf L2.CX0 P w K mg base N15 "_law_times" (defScope st15) (fa 15) cd A out s H E).nox (defBody st15) (tS K (execs (callN tbl k) ir15)) :=
  have hr1 := hrT.mono (show 4 * k + 1 ≤ 4 * k + 3 by omega)
  have hr := hr1.mono (Nat.le_succ (4 * k))
  have sc := sc15
  dss_cons (ds_ret (de_idx (de_lst (da_cons (de_int) (da_cons (de_int) (da_cons (de_bin op_addD (de_int) (de_call (C 8) hr hg M.m8 M.f8.kp (bp_8_2_ M.f8) L2.pass0 (by rfl) (daa_ref (de_var (pe_var (i := 0) rfl (by first | exact .inl rfl | exact .inr (.inl rfl) | exact .inr (.inr rfl)))) (daa_val (de_int) (daa_nil))))) (da_cons (de_bin op_addD (de_int) (de_call (C 8) hr hg M.m8 M.f8.kp (bp_8_2_ M.f8) L2.pass0 (by rfl) (daa_ref (de_var (pe_var (i := 0) rfl (by first | exact .inl rfl | exact .inr (.inl rfl) | exact .inr (.inr rfl)))) (daa_val (de_bin op_powD (de_int) (de_int)) (daa_nil))))) (da_cons (de_bin op_powD (de_int) (de_int)) (da_nil))))))) (de_call (C 8) hr hg M.m8 M.f8.kp (bp_8_2_ M.f8) L2.pass0 (by rfl) (daa_ref (de_var (pe_var (i := 0) rfl (by first | exact .inl rfl | exact .inr (.inl rfl) | exact .inr (.inr rfl)))) (daa_val (de_int) (daa_nil)))) (fun _ _ => rfl)))
    (dss_nil)
theorem b16 (M : Fx K mg fa fd ca dv) (C : ∀ j, FnG P w K mg base L2.CX0 (4 * k) (fa j) (fd j) (psn j) (sps K (callN tbl k) j)) (Cx : ∀ j, FnG P w K mg base (L2.CX P w) (4 * k) (fa j) (fd j) (psn j) (spsX K (callN tbl k) j)) (hrT : Room (4 * k + 3) (A.deeper (envOfC "Log.__repr__" (defScope st16) s.heap.objs.size (fa 16) cd))) (hg : A.guards = some []) :
    PSs (cxOf L2.CX0 P w K mg base N16 "Log.__repr__" (defScope st16) (fa 16) cd A out s H E).nox (defBody st16) (tS K (execs (callN tbl k) ir16)) :=
  have hr1 := hrT.mono (show 4 * k + 1 ≤ 4 * k + 3 by omega)
  have hr := hr1.mono (Nat.le_succ (4 * k))
  have sc := sc16
  dss_cons (ds_ret (de_fs (.cons (fs_cst (de_str)) (.cons (fs_val (de_fld (ks := [(0, 0)]) (f := "levels") (de_var (pe_var (i := 0) rfl (by first | exact .inl rfl | exact .inr (.inl rfl) | exact .inr (.inr rfl)))) (allF_cons (i := 0) M.c0 rfl allF_nil))) (.cons (fs_cst (de_str)) (.cons (fs_val (de_call (C 20) hr hg M.m20 M.f20.kp (bp_20_1_ M.f20) L2.pass0 (by rfl) (daa_val (de_fld (ks := [(0, 1)]) (f := "parts") (de_var (pe_var (i := 0) rfl (by first | exact .inl rfl | exact .inr (.inl rfl) | exact .inr (.inr rfl)))) (allF_cons (i := 1) M.c0 rfl allF_nil)) (daa_nil)))) (.cons (fs_cst (de_str)) (.nil))))))))
    (dss_nil)
theorem b17 (M : Fx K mg fa fd ca dv) (C : ∀ j, FnG P w K mg base L2.CX0 (4 * k) (fa j) (fd j) (psn j) (sps K (callN tbl k) j)) (Cx : ∀ j, FnG P w K mg base (L2.CX P w) (4 * k) (fa j) (fd j) (psn j) (spsX K (callN tbl k) j)) (hrT : Room (4 * k + 3) (A.deeper (envOfC "is_level_count" (defScope st17) s.heap.objs.size (fa 17) cd))) (hg : A.guards = some []) :
    PSs (cxOf L2.CX0 P w K mg base N17 "is_level_count" (defScope st17) (fa 17) cd A out s H E).nox (defBody st17) (tS K (execs (callN tbl k) ir17)) :=
  have hr1 := hrT.mono (show 4 * k + 1 ≤ 4 * k + 3 by omega)
  have hr := hr1.mono (Nat.le_succ (4 * k))
  have sc := sc17
  dss_cons (ds_ret (de_call (C 21) hr hg M.m21 M.f21.kp (bp_21_3_ M.f21) L2.pass0 (by rfl) (daa_val (de_var (pe_var (i := 0) rfl (by first | exact .inl rfl | exact .inr (.inl rfl) | exact .inr (.inr rfl)))) (daa_val (de_int) (daa_val (de_glob (by rfl) M.g_MAX_LEVELS.choose_spec) (daa_nil))))))
    (dss_nil)
theorem b18 (M : Fx K mg fa fd ca dv) (C : ∀ j, FnG P w K mg base L2.CX0 (4 * k) (fa j) (fd j) (psn j) (sps K (callN tbl k) j)) (Cx : ∀ j, FnG P w K mg base (L2.CX P w) (4 * k) (fa j) (fd j) (psn j) (spsX K (callN tbl k) j)) (hrT : Room (4 * k + 3) (A.deeper (envOfC "first_invalid" (defScope st18) s.heap.objs.size (fa 18) cd))) (hg : A.guards = some []) :
    PSs (cxOf L2.CX0 P w K mg base N18 "first_invalid" (defScope st18) (fa 18) cd A out s H E).nox (defBody st18) (tS K (execs (callN tbl k) ir18)) :=
  have hr1 := hrT.mono (show 4 * k + 1 ≤ 4 * k + 3 by omega)
  have hr := hr1.mono (Nat.le_succ (4 * k))
  have sc := sc18
  dss_cons (ds_nm (pg_name (i := 2) sc.nd rfl (by first | exact .inl rfl | exact .inr rfl)) (de_int))
    (dss_cons (ds_for PassesOwn.never rfl (di_enum (by rfl) M.b_enumerate (de_var (pe_var (i := 1) rfl (by first | exact .inl rfl | exact .inr (.inl rfl) | exact .inr (.inr rfl))))) (dg_tp rfl (dgs_cons (dg_nm (pg_name (i := 3) sc.nd rfl (by first | exact .inl rfl | exact .inr rfl))) (dgs_cons (dg_nm (pg_name (i := 4) sc.nd rfl (by first | exact .inl rfl | exact .inr rfl))) (dgs_nil))) rfl rfl (fun ds ρ ρ2 h => asgns_len ds ρ ρ2 h)) (dss_cons (ds_nm (pg_name (i := 5) sc.nd rfl (by first | exact .inl rfl | exact .inr rfl)) (de_call (C 22) hr hg M.m22 M.f22.kp (bp_22_2_ M.f22) L2.pass0 (by rfl) (daa_val (de_var (pe_var (i := 0) rfl (by first | exact .inl rfl | exact .inr (.inl rfl) | exact .inr (.inr rfl)))) (daa_val (de_var (pe_var (i := 4) rfl (by first | exact .inl rfl | exact .inr (.inl rfl) | exact .inr (.inr rfl)))) (daa_nil)))))
    (dss_cons (ds_if (PW.pt (dw_or (dt_cmp op_isND (de_var (pe_var (i := 5) rfl (by first | exact .inl rfl | exact .inr (.inl rfl) | exact .inr (.inr rfl)))) (de_non) (nomark _)) (dw_or (dt_cmp op_gtD (de_bin op_addD (de_var (pe_var (i := 2) rfl (by first | exact .inl rfl | exact .inr (.inl rfl) | exact .inr (.inr rfl)))) (de_idx (de_var (pe_var (i := 5) rfl (by first | exact .inl rfl | exact .inr (.inl rfl) | exact .inr (.inr rfl)))) (de_int) (fun _ _ => rfl))) (de_glob (by rfl) M.g_MAX_PARTS.choose_spec) (nomark _)) (dw_one (dt_cmp op_gtD (de_idx (de_var (pe_var (i := 5) rfl (by first | exact .inl rfl | exact .inr (.inl rfl) | exact .inr (.inr rfl)))) (de_int) (fun _ _ => rfl)) (de_glob (by rfl) M.g_MAX_DEPTH.choose_spec) (nomark _)) (.inr rfl))))) (dss_cons (ds_ret (de_var (pe_var (i := 3) rfl (by first | exact .inl rfl | exact .inr (.inl rfl) | exact .inr (.inr rfl)))))
    (dss_nil)) (dss_nil))
    (dss_cons (ds_aug (i := 2) sc.nd rfl (by first | exact .inl rfl | exact .inr rfl) ip_add (fun _ _ => rfl) (de_idx (de_var (pe_var (i := 5) rfl (by first | exact .inl rfl | exact .inr (.inl rfl) | exact .inr (.inr rfl)))) (de_int) (fun _ _ => rfl)))
    (dss_nil)))))
    (dss_cons (ds_ret (de_non))
    (dss_nil)))
theorem b19 (M : Fx K mg fa fd ca dv) (C : ∀ j, FnG P w K mg base L2.CX0 (4 * k) (fa j) (fd j) (psn j) (sps K (callN tbl k) j)) (Cx : ∀ j, FnG P w K mg base (L2.CX P w) (4 * k) (fa j) (fd j) (psn j) (spsX K (callN tbl k) j)) (hrT : Room (4 * k + 3) (A.deeper (envOfC "check_log" (defScope st19) s.heap.objs.size (fa 19) cd))) (hg : A.guards = some []) :
    PSs (cxOf L2.CX0 P w K mg base N19 "check_log" (defScope st19) (fa 19) cd A out s H E).nox (defBody st19) (tS K (execs (callN tbl k) ir19)) :=
  have hr1 := hrT.mono (show 4 * k + 1 ≤ 4 * k + 3 by omega)
  have hr := hr1.mono (Nat.le_succ (4 * k))
  have sc := sc19
  dss_cons (ds_if (dt_not (dt_val (de_call (C 23) hr hg M.m23 M.f23.kp (bp_23_1_ M.f23) L2.pass0 (by rfl) (daa_val (de_var (pe_var (i := 0) rfl (by first | exact .inl rfl | exact .inr (.inl rfl) | exact .inr (.inr rfl)))) (daa_nil))) (fun _ => rfl))) (dss_cons (ds_rse)
    (dss_nil)) (dss_nil))
    (dss_nil)
theorem bx19 (M : Fx K mg fa fd ca dv) (C : ∀ j, FnG P w K mg base L2.CX0 (4 * k) (fa j) (fd j) (psn j) (sps K (callN tbl k) j)) (Cx : ∀ j, FnG P w K mg base (L2.CX P w) (4 * k) (fa j) (fd j) (psn j) (spsX K (callN tbl k) j)) (hrT : Room (4 * k + 3) (A.deeper (envOfC "check_log" (defScope st19) s.heap.objs.size (fa 19) cd))) (hg : A.guards = some []) :
    PSs (cxOf (L2.CX P w) P w K mg base N19 "check_log" (defScope st19) (fa 19) cd A out s H E) (defBody st19) (tXS K (fun cls d _ h => E cls d h) (xexecs (callN tbl k) ir19)) :=
  have hr1 := hrT.mono (show 4 * k + 1 ≤ 4 * k + 3 by omega)
  have hr := hr1.mono (Nat.le_succ (4 * k))
  have sc := sc19
  dxs_last (dx_if (dt_not (dt_val (de_call (C 23) hr hg M.m23 M.f23.kp (bp_23_1_ M.f23) L2.pass0 (by rfl) (daa_val (de_var (pe_var (i := 0) rfl (by first | exact .inl rfl | exact .inr (.inl rfl) | exact .inr (.inr rfl)))) (daa_nil))) (fun _ => rfl))) (dxs_one (dx_raise (c := 16) rfl M.x_NotALog.1 M.y_NotALog M.x_NotALog.2.1 rfl hr takesD (de_var (pe_var (i := 0) rfl (by first | exact .inl rfl | exact .inr (.inl rfl) | exact .inr (.inr rfl)))) (by rfl)) (fun _ _ h => by cases h)
    (dxs_no (xn_nil))) (dxs_no (xn_nil))) (xn_nil)
theorem b20 (M : Fx K mg fa fd ca dv) (C : ∀ j, FnG P w K mg base L2.CX0 (4 * k) (fa j) (fd j) (psn j) (sps K (callN tbl k) j)) (Cx : ∀ j, FnG P w K mg base (L2.CX P w) (4 * k) (fa j) (fd j) (psn j) (spsX K (callN tbl k) j)) (hrT : Room (4 * k + 3) (A.deeper (envOfC "parts_text" (defScope st20) s.heap.objs.size (fa 20) cd))) (hg : A.guards = some []) :
    PSs (cxOf L2.CX0 P w K mg base N20 "parts_text" (defScope st20) (fa 20) cd A out s H E).nox (defBody st20) (tS K (execs (callN tbl k) ir20)) :=
  have hr1 := hrT.mono (show 4 * k + 1 ≤ 4 * k + 3 by omega)
  have hr := hr1.mono (Nat.le_succ (4 * k))
  have sc := sc20
  dss_cons (ds_nm (pg_name (i := 1) sc.nd rfl (by first | exact .inl rfl | exact .inr rfl)) (de_lst (da_nil)))
    (dss_cons (ds_for PassesOwn.never rfl (di_val (de_var (pe_var (i := 0) rfl (by first | exact .inl rfl | exact .inr (.inl rfl) | exact .inr (.inr rfl))))) (dg_nm (pg_name (i := 2) sc.nd rfl (by first | exact .inl rfl | exact .inr rfl))) (dss_cons (ds_ex (de_app (pe_var (i := 1) rfl (by first | exact .inl rfl | exact .inr (.inl rfl) | exact .inr (.inr rfl))) (de_ite (dt_val (de_isi .tuple (by rfl) M.b_isinstance (de_bt (by rfl) M.b_tuple bt_tuple) (de_var (pe_var (i := 2) rfl (by first | exact .inl rfl | exact .inr (.inl rfl) | exact .inr (.inr rfl))))) (fun _ => rfl)) (de_bin op_addD (de_bin op_addD (de_bin op_addD (de_str) (de_call (C 20) hr hg M.m20 M.f20.kp (bp_20_1_ M.f20) L2.pass0 (by rfl) (daa_val (de_idx (de_var (pe_var (i := 2) rfl (by first | exact .inl rfl | exact .inr (.inl rfl) | exact .inr (.inr rfl)))) (de_int) (fun _ _ => rfl)) (daa_nil)))) (de_str)) (de_ty cr_str1D (by rfl) M.b_str bt_str (dr_cons (de_idx (de_var (pe_var (i := 2) rfl (by first | exact .inl rfl | exact .inr (.inl rfl) | exact .inr (.inr rfl)))) (de_int) (fun _ _ => rfl)) (dr_nil)))) (de_ty cr_str1D (by rfl) M.b_str bt_str (dr_cons (de_var (pe_var (i := 2) rfl (by first | exact .inl rfl | exact .inr (.inl rfl) | exact .inr (.inr rfl)))) (dr_nil))))))
    (dss_wip (dss_nil))))
    (dss_cons (ds_ret (de_or (de_join (de_str) (de_var (pe_var (i := 1) rfl (by first | exact .inl rfl | exact .inr (.inl rfl) | exact .inr (.inr rfl))))) (de_one (de_globS (by rfl) M.gs_NOTHING.choose_spec))))
    (dss_nil)))
theorem b21 (M : Fx K mg fa fd ca dv) (C : ∀ j, FnG P w K mg base L2.CX0 (4 * k) (fa j) (fd j) (psn j) (sps K (callN tbl k) j)) (Cx : ∀ j, FnG P w K mg base (L2.CX P w) (4 * k) (fa j) (fd j) (psn j) (spsX K (callN tbl k) j)) (hrT : Room (4 * k + 3) (A.deeper (envOfC "is_between" (defScope st21) s.heap.objs.size (fa 21) cd))) (hg : A.guards = some []) :
    PSs (cxOf L2.CX0 P w K mg base N21 "is_between" (defScope st21) (fa 21) cd A out s H E).nox (defBody st21) (tS K (execs (callN tbl k) ir21)) :=
  have hr1 := hrT.mono (show 4 * k + 1 ≤ 4 * k + 3 by omega)
  have hr := hr1.mono (Nat.le_succ (4 * k))
  have sc := sc21
  dss_cons (ds_ret (de_and (de_call (C 24) hr hg M.m24 M.f24.kp (bp_24_1_ M.f24) L2.pass0 (by rfl) (daa_val (de_var (pe_var (i := 0) rfl (by first | exact .inl rfl | exact .inr (.inl rfl) | exact .inr (.inr rfl)))) (daa_nil))) (de_one (de_chn op_leD op_leD (de_var (pe_var (i := 1) rfl (by first | exact .inl rfl | exact .inr (.inl rfl) | exact .inr (.inr rfl)))) (de_var (pe_var (i := 0) rfl (by first | exact .inl rfl | exact .inr (.inl rfl) | exact .inr (.inr rfl)))) (de_var (pe_var (i := 2) rfl (by first | exact .inl rfl | exact .inr (.inl rfl) | exact .inr (.inr rfl))))))))
    (dss_nil)
theorem b22 (M : Fx K mg fa fd ca dv) (C : ∀ j, FnG P w K mg base L2.CX0 (4 * k) (fa j) (fd j) (psn j) (sps K (callN tbl k) j)) (Cx : ∀ j, FnG P w K mg base (L2.CX P w) (4 * k) (fa j) (fd j) (psn j) (spsX K (callN tbl k) j)) (hrT : Room (4 * k + 3) (A.deeper (envOfC "measure_part" (defScope st22) s.heap.objs.size (fa 22) cd))) (hg : A.guards = some []) :
    PSs (cxOf L2.CX0 P w K mg base N22 "measure_part" (defScope st22) (fa 22) cd A out s H E).nox (defBody st22) (tS K (execs (callN tbl k) ir22)) :=
  have hr1 := hrT.mono (show 4 * k + 1 ≤ 4 * k + 3 by omega)
  have hr := hr1.mono (Nat.le_succ (4 * k))
  have sc := sc22
  dss_cons (ds_if (dt_val (de_call (C 25) hr hg M.m25 M.f25.kp (bp_25_2_ M.f25) L2.pass0 (by rfl) (daa_val (de_var (pe_var (i := 0) rfl (by first | exact .inl rfl | exact .inr (.inl rfl) | exact .inr (.inr rfl)))) (daa_val (de_var (pe_var (i := 1) rfl (by first | exact .inl rfl | exact .inr (.inl rfl) | exact .inr (.inr rfl)))) (daa_nil)))) (fun _ => rfl)) (dss_cons (ds_ret (de_tup (da_cons (de_int) (da_cons (de_int) (da_nil)))))
    (dss_nil)) (dss_nil))
    (dss_cons (ds_if (PW.pt (dw_or (dt_not (dt_val (de_isi .tuple (by rfl) M.b_isinstance (de_bt (by rfl) M.b_tuple bt_tuple) (de_var (pe_var (i := 1) rfl (by first | exact .inl rfl | exact .inr (.inl rfl) | exact .inr (.inr rfl))))) (fun _ => rfl))) (dw_or (dt_cmp (op_neDD (rm_units hr)) (de_bi cr_lenD (by rfl) M.b_len bt_len (dr_cons (de_var (pe_var (i := 1) rfl (by first | exact .inl rfl | exact .inr (.inl rfl) | exact .inr (.inr rfl)))) (dr_nil))) (de_int) (nomark _)) (dw_one (dt_not (dt_val (de_call (C 21) hr hg M.m21 M.f21.kp (bp_21_3_ M.f21) L2.pass0 (by rfl) (daa_val (de_idx (de_var (pe_var (i := 1) rfl (by first | exact .inl rfl | exact .inr (.inl rfl) | exact .inr (.inr rfl)))) (de_int) (fun _ _ => rfl)) (daa_val (de_int) (daa_val (de_glob (by rfl) M.g_MAX_TIMES.choose_spec) (daa_nil))))) (fun _ => rfl))) (.inr rfl))))) (dss_cons (ds_ret (de_non))
    (dss_nil)) (dss_nil))
    (dss_cons (ds_nm (pg_name (i := 2) sc.nd rfl (by first | exact .inl rfl | exact .inr rfl)) (de_call (C 26) hr hg M.m26 M.f26.kp (bp_26_2_ M.f26) L2.pass0 (by rfl) (daa_val (de_var (pe_var (i := 0) rfl (by first | exact .inl rfl | exact .inr (.inl rfl) | exact .inr (.inr rfl)))) (daa_val (de_idx (de_var (pe_var (i := 1) rfl (by first | exact .inl rfl | exact .inr (.inl rfl) | exact .inr (.inr rfl)))) (de_int) (fun _ _ => rfl)) (daa_nil)))))
    (dss_cons (ds_ret (de_ite (dt_cmp op_isND (de_var (pe_var (i := 2) rfl (by first | exact .inl rfl | exact .inr (.inl rfl) | exact .inr (.inr rfl)))) (de_non) (nomark _)) (de_non) (de_tup (da_cons (de_bin op_addD (de_idx (de_var (pe_var (i := 2) rfl (by first | exact .inl rfl | exact .inr (.inl rfl) | exact .inr (.inr rfl)))) (de_int) (fun _ _ => rfl)) (de_int)) (da_cons (de_bin op_addD (de_idx (de_var (pe_var (i := 2) rfl (by first | exact .inl rfl | exact .inr (.inl rfl) | exact .inr (.inr rfl)))) (de_int) (fun _ _ => rfl)) (de_int)) (da_nil))))))
    (dss_nil))))
theorem b23 (M : Fx K mg fa fd ca dv) (C : ∀ j, FnG P w K mg base L2.CX0 (4 * k) (fa j) (fd j) (psn j) (sps K (callN tbl k) j)) (Cx : ∀ j, FnG P w K mg base (L2.CX P w) (4 * k) (fa j) (fd j) (psn j) (spsX K (callN tbl k) j)) (hrT : Room (4 * k + 3) (A.deeper (envOfC "is_log" (defScope st23) s.heap.objs.size (fa 23) cd))) (hg : A.guards = some []) :
    PSs (cxOf L2.CX0 P w K mg base N23 "is_log" (defScope st23) (fa 23) cd A out s H E).nox (defBody st23) (tS K (execs (callN tbl k) ir23)) :=
  have hr1 := hrT.mono (show 4 * k + 1 ≤ 4 * k + 3 by omega)
  have hr := hr1.mono (Nat.le_succ (4 * k))
  have sc := sc23
  dss_cons (ds_ret (de_isn M.c0 M.i0 (by rfl) M.b_isinstance (pe_glob (by rfl) M.q0 rfl) (de_var (pe_var (i := 0) rfl (by first | exact .inl rfl | exact .inr (.inl rfl) | exact .inr (.inr rfl))))))
    (dss_nil)
theorem b24 (M : Fx K mg fa fd ca dv) (C : ∀ j, FnG P w K mg base L2.CX0 (4 * k) (fa j) (fd j) (psn j) (sps K (callN tbl k) j)) (Cx : ∀ j, FnG P w K mg base (L2.CX P w) (4 * k) (fa j) (fd j) (psn j) (spsX K (callN tbl k) j)) (hrT : Room (4 * k + 3) (A.deeper (envOfC "is_whole" (defScope st24) s.heap.objs.size (fa 24) cd))) (hg : A.guards = some []) :
    PSs (cxOf L2.CX0 P w K mg base N24 "is_whole" (defScope st24) (fa 24) cd A out s H E).nox (defBody st24) (tS K (execs (callN tbl k) ir24)) :=
  have hr1 := hrT.mono (show 4 * k + 1 ≤ 4 * k + 3 by omega)
  have hr := hr1.mono (Nat.le_succ (4 * k))
  have sc := sc24
  dss_cons (ds_ret (de_and (de_isi .int (by rfl) M.b_isinstance (de_bt (by rfl) M.b_int bt_int) (de_var (pe_var (i := 0) rfl (by first | exact .inl rfl | exact .inr (.inl rfl) | exact .inr (.inr rfl))))) (de_one (de_not (de_isi .bool (by rfl) M.b_isinstance (de_bt (by rfl) M.b_bool bt_bool) (de_var (pe_var (i := 0) rfl (by first | exact .inl rfl | exact .inr (.inl rfl) | exact .inr (.inr rfl)))))))))
    (dss_nil)
theorem b25 (M : Fx K mg fa fd ca dv) (C : ∀ j, FnG P w K mg base L2.CX0 (4 * k) (fa j) (fd j) (psn j) (sps K (callN tbl k) j)) (Cx : ∀ j, FnG P w K mg base (L2.CX P w) (4 * k) (fa j) (fd j) (psn j) (spsX K (callN tbl k) j)) (hrT : Room (4 * k + 3) (A.deeper (envOfC "is_level" (defScope st25) s.heap.objs.size (fa 25) cd))) (hg : A.guards = some []) :
    PSs (cxOf L2.CX0 P w K mg base N25 "is_level" (defScope st25) (fa 25) cd A out s H E).nox (defBody st25) (tS K (execs (callN tbl k) ir25)) :=
  have hr1 := hrT.mono (show 4 * k + 1 ≤ 4 * k + 3 by omega)
  have hr := hr1.mono (Nat.le_succ (4 * k))
  have sc := sc25
  dss_cons (ds_ret (de_call (C 21) hr hg M.m21 M.f21.kp (bp_21_3_ M.f21) L2.pass0 (by rfl) (daa_val (de_var (pe_var (i := 1) rfl (by first | exact .inl rfl | exact .inr (.inl rfl) | exact .inr (.inr rfl)))) (daa_val (de_int) (daa_val (de_var (pe_var (i := 0) rfl (by first | exact .inl rfl | exact .inr (.inl rfl) | exact .inr (.inr rfl)))) (daa_nil))))))
    (dss_nil)
theorem b26 (M : Fx K mg fa fd ca dv) (C : ∀ j, FnG P w K mg base L2.CX0 (4 * k) (fa j) (fd j) (psn j) (sps K (callN tbl k) j)) (Cx : ∀ j, FnG P w K mg base (L2.CX P w) (4 * k) (fa j) (fd j) (psn j) (spsX K (callN tbl k) j)) (hrT : Room (4 * k + 3) (A.deeper (envOfC "measure" (defScope st26) s.heap.objs.size (fa 26) cd))) (hg : A.guards = some []) :
    PSs (cxOf L2.CX0 P w K mg base N26 "measure" (defScope st26) (fa 26) cd A out s H E).nox (defBody st26) (tS K (execs (callN tbl k) ir26)) :=
  have hr1 := hrT.mono (show 4 * k + 1 ≤ 4 * k + 3 by omega)
  have hr := hr1.mono (Nat.le_succ (4 * k))
  have sc := sc26
  dss_cons (ds_if (dt_not (dt_val (de_isi .tuple (by rfl) M.b_isinstance (de_bt (by rfl) M.b_tuple bt_tuple) (de_var (pe_var (i := 1) rfl (by first | exact .inl rfl | exact .inr (.inl rfl) | exact .inr (.inr rfl))))) (fun _ => rfl))) (dss_cons (ds_ret (de_non))
    (dss_nil)) (dss_nil))
    (dss_cons (ds_asg (by intro _ z; cases z) (dg_tp rfl (dgs_cons (dg_nm (pg_name (i := 2) sc.nd rfl (by first | exact .inl rfl | exact .inr rfl))) (dgs_cons (dg_nm (pg_name (i := 3) sc.nd rfl (by first | exact .inl rfl | exact .inr rfl))) (dgs_nil))) rfl rfl (fun ds ρ ρ2 h => asgns_len ds ρ ρ2 h)) (de_tup (da_cons (de_int) (da_cons (de_int) (da_nil)))))
    (dss_cons (ds_for PassesOwn.never rfl (di_val (de_var (pe_var (i := 1) rfl (by first | exact .inl rfl | exact .inr (.inl rfl) | exact .inr (.inr rfl))))) (dg_nm (pg_name (i := 4) sc.nd rfl (by first | exact .inl rfl | exact .inr rfl))) (dss_cons (ds_nm (pg_name (i := 5) sc.nd rfl (by first | exact .inl rfl | exact .inr rfl)) (de_call (C 22) hr hg M.m22 M.f22.kp (bp_22_2_ M.f22) L2.pass0 (by rfl) (daa_val (de_var (pe_var (i := 0) rfl (by first | exact .inl rfl | exact .inr (.inl rfl) | exact .inr (.inr rfl)))) (daa_val (de_var (pe_var (i := 4) rfl (by first | exact .inl rfl | exact .inr (.inl rfl) | exact .inr (.inr rfl)))) (daa_nil)))))
    (dss_cons (ds_if (dt_cmp op_isND (de_var (pe_var (i := 5) rfl (by first | exact .inl rfl | exact .inr (.inl rfl) | exact .inr (.inr rfl)))) (de_non) (nomark _)) (dss_cons (ds_ret (de_non))
    (dss_nil)) (dss_nil))
    (dss_cons (ds_par rfl sc.nd rfl rfl (by decide) rfl rfl (de_bin op_addD (de_var (pe_var (i := 2) rfl (by first | exact .inl rfl | exact .inr (.inl rfl) | exact .inr (.inr rfl)))) (de_idx (de_var (pe_var (i := 5) rfl (by first | exact .inl rfl | exact .inr (.inl rfl) | exact .inr (.inr rfl)))) (de_int) (fun _ _ => rfl))) (de_bi (cr_max2D rfl) (by rfl) M.b_max bt_max (dr_cons (de_var (pe_var (i := 3) rfl (by first | exact .inl rfl | exact .inr (.inl rfl) | exact .inr (.inr rfl)))) (dr_cons (de_idx (de_var (pe_var (i := 5) rfl (by first | exact .inl rfl | exact .inr (.inl rfl) | exact .inr (.inr rfl)))) (de_int) (fun _ _ => rfl)) (dr_nil)))))
    (dss_nil)))))
    (dss_cons (ds_ret (de_tup (da_cons (de_var (pe_var (i := 2) rfl (by first | exact .inl rfl | exact .inr (.inl rfl) | exact .inr (.inr rfl)))) (da_cons (de_var (pe_var (i := 3) rfl (by first | exact .inl rfl | exact .inr (.inl rfl) | exact .inr (.inr rfl)))) (da_nil)))))
    (dss_nil))))
end
section
variable {P : Program} {w : World} {K : PySem.W.Frag} {mg : Str → Option Value} {base : Heap} {fa : Nat → Addr} {fd : Nat → FuncData} {ca : Nat → Addr} {dv : Nat → Value}
theorem tab0 : ∀ j, FnG P w K mg base L2.CX0 (4 * 0) (fa j) (fd j) (psn j) (sps K (callN tbl (0)) j)
  | 0 => fnG_zero
  | 1 => fnG_zero
  | 2 => fnG_zero
  | 3 => fnG_zero
  | 4 => fnG_zero
  | 5 => fnG_zero
  | 6 => fnG_zero
  | 7 => fnG_zero
  | 8 => fnG_zero
  | 9 => fnG_zero
  | 10 => fnG_zero
  | 11 => fnI_zero
  | 12 => fnG_zero
  | 13 => fnG_zero
  | 14 => fnG_zero
  | 15 => fnG_zero
  | 16 => fnG_zero
  | 17 => fnG_zero
  | 18 => fnG_zero
  | 19 => fnG_zero
  | 20 => fnG_zero
  | 21 => fnG_zero
  | 22 => fnG_zero
  | 23 => fnG_zero
  | 24 => fnG_zero
  | 25 => fnG_zero
  | 26 => fnG_zero
  | _ + 27 => fnG_out
theorem tabX0 : ∀ j, FnG P w K mg base (L2.CX P w) (4 * 0) (fa j) (fd j) (psn j) (spsX K (callN tbl (0)) j)
  | 0 => fnX_out
  | 1 => fnX_out
  | 2 => fnX_out
  | 3 => fnX_out
  | 4 => fnX_out
  | 5 => fnX_out
  | 6 => fnX_out
  | 7 => fnX_out
  | 8 => fnX_out
  | 9 => fnX_out
  | 10 => fnX_out
  | 11 => fnX_out
  | 12 => fnX_zero
  | 13 => fnX_out
  | 14 => fnX_out
  | 15 => fnX_out
  | 16 => fnX_out
  | 17 => fnX_out
  | 18 => fnX_out
  | 19 => fnX_zero
  | 20 => fnX_out
  | 21 => fnX_out
  | 22 => fnX_out
  | 23 => fnX_out
  | 24 => fnX_out
  | 25 => fnX_out
  | 26 => fnX_out
  | _ + 27 => fnX_out
theorem tabS (M : Fx K mg fa fd ca dv) (KB : K.In base) (BL : BltAt mg base) {k : Nat} (C : ∀ j, FnG P w K mg base L2.CX0 (4 * k) (fa j) (fd j) (psn j) (sps K (callN tbl (k)) j)) (Cx : ∀ j, FnG P w K mg base (L2.CX P w) (4 * k) (fa j) (fd j) (psn j) (spsX K (callN tbl (k)) j)) : ∀ j, FnG P w K mg base L2.CX0 (4 * (k + 1)) (fa j) (fd j) (psn j) (sps K (callN tbl (k + 1)) j)
  | 0 => fnG_tabC (r := 4 * k + 3) M.f0 sc0 rfl rfl rfl fun cd A out s H E co hr hg => b0 M C Cx hr hg
  | 1 => fnG_tabC (r := 4 * k + 3) M.f1 sc1 rfl rfl rfl fun cd A out s H E co hr hg => b1 M C Cx hr hg
  | 2 => fnG_tabC (r := 4 * k + 3) M.f2 sc2 rfl rfl rfl fun cd A out s H E co hr hg => b2 M C Cx hr hg
  | 3 => fnG_tabC (r := 4 * k + 3) M.f3 sc3 rfl rfl rfl fun cd A out s H E co hr hg => b3 M C Cx hr hg
  | 4 => fnG_tabC (r := 4 * k + 3) M.f4 sc4 rfl rfl rfl fun cd A out s H E co hr hg => b4 M C Cx hr hg
  | 5 => fnG_tabC (r := 4 * k + 3) M.f5 sc5 rfl rfl rfl fun cd A out s H E co hr hg => b5 M C Cx hr hg
  | 6 => fnG_tabC (r := 4 * k + 3) M.f6 sc6 rfl rfl rfl fun cd A out s H E co hr hg => b6 M C Cx hr hg
  | 7 => fnG_tabC (r := 4 * k + 3) M.f7 sc7 rfl rfl rfl fun cd A out s H E co hr hg => b7 M C Cx hr hg
  | 8 => fnG_tabC (r := 4 * k + 3) M.f8 sc8 rfl rfl rfl fun cd A out s H E co hr hg => b8 M C Cx hr hg
  | 9 => fnG_tabC (r := 4 * k + 3) M.f9 sc9 rfl rfl rfl fun cd A out s H E co hr hg => b9 M C Cx hr hg
  | 10 => fnG_tabC (r := 4 * k + 3) M.f10 sc10 rfl rfl rfl fun cd A out s H E co hr hg => b10 M C Cx KB BL co hr hg
  | 11 => fnI_tabC (r := 4 * k + 3) M.f11 sc11 rfl rfl rfl fun cd A out s H E co hr hg => b11 M C Cx hr hg
  | 12 => fnG_tabC (r := 4 * k + 3) M.f12 sc12 rfl rfl rfl fun cd A out s H E co hr hg => b12 M C Cx hr hg
  | 13 => fnG_tabC (r := 4 * k + 3) M.f13 sc13 rfl rfl rfl fun cd A out s H E co hr hg => b13 M C Cx hr hg
  | 14 => fnG_tabC (r := 4 * k + 3) M.f14 sc14 rfl rfl rfl fun cd A out s H E co hr hg => b14 M C Cx hr hg
  | 15 => fnG_tabC (r := 4 * k + 3) M.f15 sc15 rfl rfl rfl fun cd A out s H E co hr hg => b15 M C Cx hr hg
  | 16 => fnG_tabC (r := 4 * k + 3) M.f16 sc16 rfl rfl rfl fun cd A out s H E co hr hg => b16 M C Cx hr hg
  | 17 => fnG_tabC (r := 4 * k + 3) M.f17 sc17 rfl rfl rfl fun cd A out s H E co hr hg => b17 M C Cx hr hg
  | 18 => fnG_tabC (r := 4 * k + 3) M.f18 sc18 rfl rfl rfl fun cd A out s H E co hr hg => b18 M C Cx hr hg
  | 19 => fnG_tabC (r := 4 * k + 3) M.f19 sc19 rfl rfl rfl fun cd A out s H E co hr hg => b19 M C Cx hr hg
  | 20 => fnG_tabC (r := 4 * k + 3) M.f20 sc20 rfl rfl rfl fun cd A out s H E co hr hg => b20 M C Cx hr hg
  | 21 => fnG_tabC (r := 4 * k + 3) M.f21 sc21 rfl rfl rfl fun cd A out s H E co hr hg => b21 M C Cx hr hg
  | 22 => fnG_tabC (r := 4 * k + 3) M.f22 sc22 rfl rfl rfl fun cd A out s H E co hr hg => b22 M C Cx hr hg
  | 23 => fnG_tabC (r := 4 * k + 3) M.f23 sc23 rfl rfl rfl fun cd A out s H E co hr hg => b23 M C Cx hr hg
  | 24 => fnG_tabC (r := 4 * k + 3) M.f24 sc24 rfl rfl rfl fun cd A out s H E co hr hg => b24 M C Cx hr hg
  | 25 => fnG_tabC (r := 4 * k + 3) M.f25 sc25 rfl rfl rfl fun cd A out s H E co hr hg => b25 M C Cx hr hg
  | 26 => fnG_tabC (r := 4 * k + 3) M.f26 sc26 rfl rfl rfl fun cd A out s H E co hr hg => b26 M C Cx hr hg
  | j + 27 => fnG_out
theorem tbl_le : tbl.length ≤ XO := by have e : tbl.length = 27 := rfl; rw [e]; decide
theorem tabXS (M : Fx K mg fa fd ca dv) (KB : K.In base) (BL : BltAt mg base) {k : Nat} (C : ∀ j, FnG P w K mg base L2.CX0 (4 * k) (fa j) (fd j) (psn j) (sps K (callN tbl (k)) j)) (Cx : ∀ j, FnG P w K mg base (L2.CX P w) (4 * k) (fa j) (fd j) (psn j) (spsX K (callN tbl (k)) j)) : ∀ j, FnG P w K mg base (L2.CX P w) (4 * (k + 1)) (fa j) (fd j) (psn j) (spsX K (callN tbl (k + 1)) j)
  | 0 => fnX_out
  | 1 => fnX_out
  | 2 => fnX_out
  | 3 => fnX_out
  | 4 => fnX_out
  | 5 => fnX_out
  | 6 => fnX_out
  | 7 => fnX_out
  | 8 => fnX_out
  | 9 => fnX_out
  | 10 => fnX_out
  | 11 => fnX_out
  | 12 => fnX_tabC (r := 4 * k + 3) M.f12 sc12 tbl_le rfl rfl rfl fun cd A out s H E co hr hg => bx12 M C Cx hr hg
  | 13 => fnX_out
  | 14 => fnX_out
  | 15 => fnX_out
  | 16 => fnX_out
  | 17 => fnX_out
  | 18 => fnX_out
  | 19 => fnX_tabC (r := 4 * k + 3) M.f19 sc19 tbl_le rfl rfl rfl fun cd A out s H E co hr hg => bx19 M C Cx hr hg
  | 20 => fnX_out
  | 21 => fnX_out
  | 22 => fnX_out
  | 23 => fnX_out
  | 24 => fnX_out
  | 25 => fnX_out
  | 26 => fnX_out
  | j + 27 => fnX_out
theorem tabs (M : Fx K mg fa fd ca dv) (KB : K.In base) (BL : BltAt mg base) (k : Nat) : (∀ j, FnG P w K mg base L2.CX0 (4 * k) (fa j) (fd j) (psn j) (sps K (callN tbl (k)) j)) ∧ (∀ j, FnG P w K mg base (L2.CX P w) (4 * k) (fa j) (fd j) (psn j) (spsX K (callN tbl (k)) j)) := by
  induction k with
  | zero => exact ⟨tab0, tabX0⟩
  | succ k ih => exact ⟨tabS M KB BL ih.1 ih.2, tabXS M KB BL ih.1 ih.2⟩
theorem tab (M : Fx K mg fa fd ca dv) (KB : K.In base) (BL : BltAt mg base) (k j : Nat) : FnG P w K mg base L2.CX0 (4 * k) (fa j) (fd j) (psn j) (sps K (callN tbl (k)) j) := (tabs M KB BL k).1 j
end
end Q_bandlinks_k07_logs_are_formatted
namespace Q_bandlinks_k07_logs_are_formatted
open PySem L2 DL
theorem ok_draw (k : Nat) {xs : List D} {n : Int} (h : Pool xs) (h1 : 0 < n) (h2 : n < 1000000000000000000000000000000000000000000000000000000000000) :
    ∃ r ys, callN tbl (k + 1) 8 [.ls .bor xs, .fz (.int n)] = some (.fz (.int r), [.ls .bor ys, .fz (.int n)]) ∧ 0 ≤ r ∧ r < n ∧ Pool ys := by
  obtain ⟨s, g, c, rfl, hs1, hs2, hg, hc⟩ := h
  have e1 : DL.small64 s = true := s64 (by omega) (by omega)
  have e2 : DL.small64 60013 = true := by decide
  by_cases hp : 0 < g
  · have key : execs (callN tbl k) ir8 [.ls .bor [.int s, .int g, .int c], .fz (.int n), .un, .un] = .ok (.rt (.fz (.int (g % n)))) [.ls .bor [.int ((s * (s % 46007 + 20011) + 60013 * (c + 1) + 5) % 1000000007), .int (g / n), .int (c + 1)], .fz (.int n), .fz (.int s), .fz (.int (g % n))] := by
      simp [ir8, e1, e2, hp, h1, h2, fmodE]
    refine ⟨g % n, [.int ((s * (s % 46007 + 20011) + 60013 * (c + 1) + 5) % 1000000007), .int (g / n), .int (c + 1)], call_fz ⟨2, 4, ir8⟩ key, Int.emod_nonneg _ (by omega), Int.emod_lt_of_pos _ h1, _, _, _, rfl, Int.emod_nonneg _ (by decide), Int.emod_lt_of_pos _ (by decide), Int.ediv_nonneg (by omega) (by omega), by omega⟩
  · have key : execs (callN tbl k) ir8 [.ls .bor [.int s, .int g, .int c], .fz (.int n), .un, .un] = .ok (.rt (.fz (.int ((s * (s % 46007 + 20011) + 60013 * (c + 1) + 5) % 1000000007 / 32 % n)))) [.ls .bor [.int ((s * (s % 46007 + 20011) + 60013 * (c + 1) + 5) % 1000000007), .int g, .int (c + 1)], .fz (.int n), .fz (.int s), .un] := by
      have hn : n ≠ 0 := by omega
      have hn2 : (0:Int) ≤ n := by omega
      simp [ir8, e1, e2, hp, h1, h2, fmodE, fdivE, hn, hn2]
    refine ⟨(s * (s % 46007 + 20011) + 60013 * (c + 1) + 5) % 1000000007 / 32 % n, [.int ((s * (s % 46007 + 20011) + 60013 * (c + 1) + 5) % 1000000007), .int g, .int (c + 1)], call_fz ⟨2, 4, ir8⟩ key, Int.emod_nonneg _ (by omega), Int.emod_lt_of_pos _ h1, _, _, _, rfl, Int.emod_nonneg _ (by decide), Int.emod_lt_of_pos _ (by decide), by omega, by omega⟩
theorem ok_pool (k : Nat) (x : Int) : ∃ ys, callN tbl (k + 1) 3 [.fz (.int x)] = some (.fr ys, [.fz (.int x)]) ∧ Pool ys := by
  by_cases h : x < 0 ∨ 1000000000000000000 ≤ x
  · have key : execs (callN tbl k) ir3 [.fz (.int x), .un] = .ok (.rt (.fr [.int (x % 1000000007), .int (if x < 0 then -x else x), .int 0])) [.fz (.int x), .fz (.int (if x < 0 then -x else x))] := by
      rcases h with h | h
      · simp [ir3, fmodE, h]
      · have h' : ¬ x < 0 := by omega
        simp [ir3, fmodE, h, h']
    refine ⟨[.int (x % 1000000007), .int (if x < 0 then -x else x), .int 0], call_fr ⟨1, 2, ir3⟩ key, _, _, _, rfl, Int.emod_nonneg _ (by decide), Int.emod_lt_of_pos _ (by decide), by split <;> omega, by omega⟩
  · have h' : ¬ x < 0 := by omega
    have h'' : ¬ 1000000000000000000 ≤ x := by omega
    have key : execs (callN tbl k) ir3 [.fz (.int x), .un] = .ok (.rt (.fr [.int (x % 1000000007), .int 0, .int 0])) [.fz (.int x), .fz (.int 0)] := by
      simp [ir3, fmodE, h', h'']
    refine ⟨[.int (x % 1000000007), .int 0, .int 0], call_fr ⟨1, 2, ir3⟩ key, _, _, _, rfl, Int.emod_nonneg _ (by decide), Int.emod_lt_of_pos _ (by decide), by omega, by omega⟩
theorem ok_height (k : Nat) {xs : List D} {n : Int} (h : Pool xs) (h1 : 0 < n) (h2 : n < 1000000000000000000000000000000000000000000000000000000000000) :
    ∃ r ys, callN tbl (k + 2) 6 [.ls .bor xs, .fz (.int n)] = some (.fz (.int r), [.ls .bor ys, .fz (.int n)]) ∧ 1 ≤ r ∧ r ≤ n ∧ Pool ys := by
  obtain ⟨r1, ys1, e1, _, _, p1⟩ := ok_draw k h (n := 3) (by decide) (by decide)
  by_cases hr : r1 = 0
  · obtain ⟨r2, ys2, e2, g1, g2, p2⟩ := ok_draw k p1 h1 h2
    have key : execs (callN tbl (k + 1)) ir6 [.ls .bor xs, .fz (.int n), .un] = .ok (.rt (.fz (.int (1 + r2)))) [.ls .bor ys2, .fz (.int n), .fz (.bl true)] := by
      simp [ir6, e1, e2, hr]
    exact ⟨1 + r2, ys2, call_fz ⟨2, 3, ir6⟩ key, by omega, by omega, p2⟩
  · obtain ⟨r2, ys2, e2, g1, g2, p2⟩ := ok_draw k p1 (n := if n < 5 then n else 5) (by split <;> omega) (by split <;> omega)
    have key : execs (callN tbl (k + 1)) ir6 [.ls .bor xs, .fz (.int n), .un] = .ok (.rt (.fz (.int (1 + r2)))) [.ls .bor ys2, .fz (.int n), .fz (.bl false)] := by
      simp [ir6, e1, e2, hr]
    refine ⟨1 + r2, ys2, call_fz ⟨2, 3, ir6⟩ key, by omega, ?_, p2⟩
    split at g2 <;> omega
theorem cellA (k : Nat) (ns : List Int) (i : Nat) (h : i < ns.length) : callN tbl (k + 1) 4 [.fz (.scr (ns.map .int)), .fz (.int i)] = some (.fz (.int ns[i]), [.fz (.scr (ns.map .int)), .fz (.int i)]) := by
    have e : atI (ns.map D.int) (i : Int) = some (.int ns[i]) := by
      unfold atI ixN
      rw [if_pos (by omega), if_pos (by rw [List.length_map]; omega)]
      show (ns.map D.int)[(i : Int).toNat]? = _
      rw [Int.toNat_natCast, List.getElem?_map, List.getElem?_eq_getElem h]
      rfl
    have key : execs (callN tbl k) ir4 [.fz (.scr (ns.map .int)), .fz (.int i), .un, .un] = .ok (.rt (.fz (.int ns[i]))) [.fz (.scr (ns.map .int)), .fz (.int i), .un, .un] := by
      simp [ir4, h, e, -x_atI, -x_ixN]
    exact call_fz ⟨2, 4, ir4⟩ key
theorem cellL (k : Nat) (ns : List Int) (i : Int) (x0 : Int) : ∃ x s3, forL (fun x => bnd (asgn (callN tbl k) (.nm 3) x) fun _ => execs (callN tbl k) cellB) (cut (ns.map D.int) none (some 3)) [.fz (.scr (ns.map .int)), .fz (.int i), .fz (.int x0), .un] = .ok .nx [.fz (.scr (ns.map .int)), .fz (.int i), .fz (.int x), s3] := by
  obtain ⟨ρ', e, x, s3, rfl, _⟩ := forL_inv (step := fun x => bnd (asgn (callN tbl k) (.nm 3) x) fun _ => execs (callN tbl k) cellB)
      (fun _ ρ => ∃ x s3, ρ = [.fz (.scr (ns.map .int)), .fz (.int i), .fz (.int x), s3] ∧ (s3 = .un ∨ ∃ d, s3 = .fz d)) (cut (ns.map D.int) none (some 3)) 0
      [.fz (.scr (ns.map .int)), .fz (.int i), .fz (.int x0), .un] ⟨_, _, rfl, .inl rfl⟩ (fun j ρ d hd hI => by
        obtain ⟨x, s3, rfl, hs⟩ := hI
        have hm : d ∈ ns.map D.int := by
          have := List.mem_of_getElem? hd
          unfold cut at this
          exact List.mem_of_mem_drop (List.mem_of_mem_take this)
        obtain ⟨y, _, rfl⟩ := List.mem_map.mp hm
        have e64 : DL.small64 30011 = true := by decide
        refine ⟨[.fz (.scr (ns.map .int)), .fz (.int i), .fz (.int ((x * 30011 + y) % 1000000007)), .fz (.int y)], .inl ?_, _, _, rfl, .inr ⟨_, rfl⟩⟩
        rcases hs with rfl | ⟨d, rfl⟩ <;> simp [e64, fmodE])
  exact ⟨x, s3, e⟩
theorem cellC (k : Nat) (ns : List Int) (i : Int) (h0 : 0 ≤ i) (hi : i < 60) (h : ¬ i < ns.length) : ∃ x, callN tbl (k + 1) 4 [.fz (.scr (ns.map .int)), .fz (.int i)] = some (.fz (.int x), [.fz (.scr (ns.map .int)), .fz (.int i)]) := by
  obtain ⟨x, s3, e⟩ := cellL k ns i (50021 * (i * i + 7 * i + 3) % 1000000007)
  have e64 : DL.small64 50021 = true := by decide
  have e7 : DL.small64 7 = true := by decide
  have ei : DL.small64 i = true := s64 (by omega) (by omega)
  have key : execs (callN tbl k) ir4 [.fz (.scr (ns.map .int)), .fz (.int i), .un, .un] = .ok (.rt (.fz (.int x))) [.fz (.scr (ns.map .int)), .fz (.int i), .fz (.int x), s3] := by
    simp only [cellB] at e
    simp [ir4, h, e64, e7, ei, fmodE, e]
  exact ⟨_, call_fz ⟨2, 4, ir4⟩ key⟩
theorem ok_cell (k : Nat) (ns : List Int) (i : Nat) (hi : i < 60) : ∃ x, callN tbl (k + 1) 4 [.fz (.scr (ns.map .int)), .fz (.int i)] = some (.fz (.int x), [.fz (.scr (ns.map .int)), .fz (.int i)]) := by
  by_cases h : i < ns.length
  · exact ⟨_, cellA k ns i h⟩
  · exact cellC k ns i (by omega) (by omega) (by omega)
theorem ok_whole (k : Nat) (x : Int) : callN tbl (k + 1) 24 [.fz (.int x)] = some (.fz (.bl true), [.fz (.int x)]) := by
  have key : execs (callN tbl k) ir24 [.fz (.int x)] = .ok (.rt (.fz (.bl true))) [.fz (.int x)] := by simp [ir24]
  exact call_fz ⟨1, 1, ir24⟩ key
theorem ok_btw (k : Nat) (x lo hi : Int) : callN tbl (k + 2) 21 [.fz (.int x), .fz (.int lo), .fz (.int hi)] = some (.fz (.bl (decide (lo ≤ x ∧ x ≤ hi))), [.fz (.int x), .fz (.int lo), .fz (.int hi)]) := by
  have e := ok_whole k x
  have key : execs (callN tbl (k + 1)) ir21 [.fz (.int x), .fz (.int lo), .fz (.int hi)] = .ok (.rt (.fz (.bl (decide (lo ≤ x ∧ x ≤ hi))))) [.fz (.int x), .fz (.int lo), .fz (.int hi)] := by
    by_cases h : lo ≤ x <;> simp [ir21, e, h]
  exact call_fz ⟨3, 3, ir21⟩ key
theorem ok_lvc (k : Nat) (x : Int) (h1 : 1 ≤ x) (h2 : x ≤ 12) : callN tbl (k + 3) 17 [.fz (.int x)] = some (.fz (.bl true), [.fz (.int x)]) := by
  have e := ok_btw k x 1 12
  have key : execs (callN tbl (k + 2)) ir17 [.fz (.int x)] = .ok (.rt (.fz (.bl true))) [.fz (.int x)] := by simp [ir17, e, h1, h2]
  exact call_fz ⟨1, 1, ir17⟩ key
theorem ok_isl (k : Nat) (n x : Int) (h1 : 1 ≤ x) (h2 : x ≤ n) : callN tbl (k + 3) 25 [.fz (.int n), .fz (.int x)] = some (.fz (.bl true), [.fz (.int n), .fz (.int x)]) := by
  have e := ok_btw k x 1 n
  have key : execs (callN tbl (k + 2)) ir25 [.fz (.int n), .fz (.int x)] = .ok (.rt (.fz (.bl true))) [.fz (.int n), .fz (.int x)] := by simp [ir25, e, h1, h2]
  exact call_fz ⟨2, 2, ir25⟩ key
/-! the program's tests of values of all kinds -/
end Q_bandlinks_k07_logs_are_formatted
namespace Q_bandlinks_k07_logs_are_formatted
open PySem L2 DL
theorem ok_wholeT (k : Nat) (xs : List D) : callN tbl (k + 1) 24 [.fz (.tup xs)] = some (.fz (.bl false), [.fz (.tup xs)]) := by
  have key : execs (callN tbl k) ir24 [.fz (.tup xs)] = .ok (.rt (.fz (.bl false))) [.fz (.tup xs)] := by simp [ir24]
  exact call_fz ⟨1, 1, ir24⟩ key
theorem ok_btwT (k : Nat) (xs : List D) (lo hi : Int) : callN tbl (k + 2) 21 [.fz (.tup xs), .fz (.int lo), .fz (.int hi)] = some (.fz (.bl false), [.fz (.tup xs), .fz (.int lo), .fz (.int hi)]) := by
  have e := ok_wholeT k xs
  have key : execs (callN tbl (k + 1)) ir21 [.fz (.tup xs), .fz (.int lo), .fz (.int hi)] = .ok (.rt (.fz (.bl false))) [.fz (.tup xs), .fz (.int lo), .fz (.int hi)] := by simp [ir21, e]
  exact call_fz ⟨3, 3, ir21⟩ key
theorem ok_islT (k : Nat) (n : Int) (xs : List D) : callN tbl (k + 3) 25 [.fz (.int n), .fz (.tup xs)] = some (.fz (.bl false), [.fz (.int n), .fz (.tup xs)]) := by
  have e := ok_btwT k xs 1 n
  have key : execs (callN tbl (k + 2)) ir25 [.fz (.int n), .fz (.tup xs)] = .ok (.rt (.fz (.bl false))) [.fz (.int n), .fz (.tup xs)] := by simp [ir25, e]
  exact call_fz ⟨2, 2, ir25⟩ key
/-! measure -/
theorem part_lv (k : Nat) (n i : Int) (h1 : 1 ≤ i) (h2 : i ≤ n) : callN tbl (k + 4) 22 [.fz (.int n), .fz (.int i)] = some (.fz (.tup [.int 1, .int 1]), [.fz (.int n), .fz (.int i)]) := by
  have e := ok_isl k n i h1 h2
  have key : execs (callN tbl (k + 3)) ir22 [.fz (.int n), .fz (.int i), .un] = .ok (.rt (.fz (.tup [.int 1, .int 1]))) [.fz (.int n), .fz (.int i), .un] := by simp [ir22, e]
  exact call_fz ⟨2, 3, ir22⟩ key
theorem part_pr (k : Nat) (n t a b : Int) (ds : List D) (h1 : 1 ≤ t) (h2 : t ≤ 1000000000000000000000000000000) (e : callN tbl (k + 3) 26 [.fz (.int n), .fz (.tup ds)] = some (.fz (.tup [.int a, .int b]), [.fz (.int n), .fz (.tup ds)])) :
    callN tbl (k + 4) 22 [.fz (.int n), .fz (.tup [.tup ds, .int t])] = some (.fz (.tup [.int (a + 1), .int (b + 1)]), [.fz (.int n), .fz (.tup [.tup ds, .int t])]) := by
  have e1 := ok_islT k n [.tup ds, .int t]
  have e2 := ok_btw (k + 1) t 1 1000000000000000000000000000000
  have key : execs (callN tbl (k + 3)) ir22 [.fz (.int n), .fz (.tup [.tup ds, .int t]), .un] = .ok (.rt (.fz (.tup [.int (a + 1), .int (b + 1)]))) [.fz (.int n), .fz (.tup [.tup ds, .int t]), .fz (.tup [.int a, .int b])] := by
    simp [ir22, e1, e2, e, h1, h2]
  exact call_fz ⟨2, 3, ir22⟩ key
theorem meas_step (Φ : Calls) (n s dd a b : Int) (P T : D) (s4 s5 : Sl) (h4 : Loose s4) (h5 : Loose s5) (e : Φ 22 [.fz (.int n), .fz P] = some (.fz (.tup [.int a, .int b]), [.fz (.int n), .fz P])) :
    (bnd (asgn Φ lt26_0 P) fun _ => execs Φ lb26_0) [.fz (.int n), .fz T, .fz (.int s), .fz (.int dd), s4, s5] = .ok .nx [.fz (.int n), .fz T, .fz (.int (s + a)), .fz (.int (if b > dd then b else dd)), .fz P, .fz (.tup [.int a, .int b])] := by
  rcases h4 with rfl | ⟨d, rfl⟩ <;> rcases h5 with rfl | ⟨d, rfl⟩ <;> simp [e]
theorem meas_of (F : Nat) {n : Int} {ps : List Pt} (h : ∀ p ∈ ps, callN tbl F 22 [.fz (.int n), .fz (dP p)] = some (.fz (.tup [.int (szP p : Nat), .int (dpP p : Nat)]), [.fz (.int n), .fz (dP p)])) :
    callN tbl (F + 1) 26 [.fz (.int n), .fz (.tup (dPs ps))] = some (.fz (.tup [.int (szPs ps : Nat), .int (dpPs ps : Nat)]), [.fz (.int n), .fz (.tup (dPs ps))]) := by
  obtain ⟨ρ', e, s4, s5, rfl, _, _⟩ := forL_map (step := fun x => bnd (asgn (callN tbl F) lt26_0 x) fun _ => execs (callN tbl F) lb26_0) dP
    (fun done ρ => ∃ s4 s5, ρ = [.fz (.int n), .fz (.tup (dPs ps)), .fz (.int (szPs done : Nat)), .fz (.int (dpPs done : Nat)), s4, s5] ∧ Loose s4 ∧ Loose s5) ps [] [.fz (.int n), .fz (.tup (dPs ps)), .fz (.int 0), .fz (.int 1), .un, .un]
    ⟨_, _, rfl, .inl rfl, .inl rfl⟩ (fun done p ρ hp hI => by
      obtain ⟨s4, s5, rfl, h4, h5⟩ := hI
      refine ⟨_, .inl (meas_step _ n _ _ _ _ _ _ s4 s5 h4 h5 (h p hp)), Sl.fz (dP p), Sl.fz (.tup [.int (szP p : Nat), .int (dpP p : Nat)]), ?_, .inr ⟨_, rfl⟩, .inr ⟨_, rfl⟩⟩
      rw [szI, dpI])
  rw [List.nil_append, ← dPs_map] at e
  generalize dPs ps = A at e ⊢
  generalize ((szPs ps : Nat) : Int) = a at e ⊢
  generalize ((dpPs ps : Nat) : Int) = b at e ⊢
  have key : execs (callN tbl F) ir26 [.fz (.int n), .fz (.tup A), .un, .un, .un, .un] = .ok (.rt (.fz (.tup [.int a, .int b]))) [.fz (.int n), .fz (.tup A), .fz (.int a), .fz (.int b), s4, s5] := by
    simp [ir26, e]
  exact call_fz ⟨2, 6, ir26⟩ key
theorem ok_meas {n M : Int} (hM : M ≤ 1000000000000000000000000000000) : ∀ (d k : Nat), (∀ p, dpP p ≤ d → OkP n M p → callN tbl (k + 2 * d + 2) 22 [.fz (.int n), .fz (dP p)] = some (.fz (.tup [.int (szP p : Nat), .int (dpP p : Nat)]), [.fz (.int n), .fz (dP p)])) ∧
    (∀ ps, dpPs ps ≤ d → OkPs n M ps → callN tbl (k + 2 * d + 3) 26 [.fz (.int n), .fz (.tup (dPs ps))] = some (.fz (.tup [.int (szPs ps : Nat), .int (dpPs ps : Nat)]), [.fz (.int n), .fz (.tup (dPs ps))]))
  | 0, k => ⟨fun p h => by have := dpP_pos p; omega, fun ps h => by have := dpPs_pos ps; omega⟩
  | d + 1, k => by
    have A : ∀ p, dpP p ≤ d + 1 → OkP n M p → callN tbl (k + 2 * (d + 1) + 2) 22 [.fz (.int n), .fz (dP p)] = some (.fz (.tup [.int (szP p : Nat), .int (dpP p : Nat)]), [.fz (.int n), .fz (dP p)]) := fun p hd ok => by
      cases ok with
      | lv h1 h2 =>
        rename_i i
        rw [szP_lv, dpP_lv, dP]
        exact part_lv (k + 2 * d) n i h1 h2
      | pr h h1 h2 =>
        rename_i qs t
        rw [dpP_pr] at hd
        have e := (ok_meas hM d k).2 qs (by omega) h
        rw [szP_pr, dpP_pr, dP]
        have := part_pr (k + 2 * d) n t _ _ _ h1 (Int.le_trans h2 hM) e
        rw [show ((1 + szPs qs : Nat) : Int) = (szPs qs : Int) + 1 from by omega, show ((dpPs qs + 1 : Nat) : Int) = (dpPs qs : Int) + 1 from rfl]
        exact this
    exact ⟨A, fun ps hd ok => meas_of (k + 2 * (d + 1) + 2) fun p hp => A p (Nat.le_trans (dp_mem hp) hd) (ok p hp)⟩
/-! first_invalid -/
theorem inv_step (Φ : Calls) (n s a b j : Int) (P T : D) (s3 s4 s5 : Sl) (h3 : Loose s3) (h4 : Loose s4) (h5 : Loose s5) (ha : ¬ 120 < s + a) (hb : ¬ 5 < b) (e : Φ 22 [.fz (.int n), .fz P] = some (.fz (.tup [.int a, .int b]), [.fz (.int n), .fz P])) :
    (bnd (asgn Φ lt18_0 (.tup [.int j, P])) fun _ => execs Φ lb18_0) [.fz (.int n), .fz T, .fz (.int s), s3, s4, s5] = .ok .nx [.fz (.int n), .fz T, .fz (.int (s + a)), .fz (.int j), .fz P, .fz (.tup [.int a, .int b])] := by
  rcases h3 with rfl | ⟨d, rfl⟩ <;> rcases h4 with rfl | ⟨d, rfl⟩ <;> rcases h5 with rfl | ⟨d, rfl⟩ <;> simp [e, ha, hb]
theorem inv_loop (F : Nat) {n : Int} (T : D) : ∀ (ps : List Pt) (j s0 : Nat) (s3 s4 s5 : Sl), Loose s3 → Loose s4 → Loose s5 → s0 + szPs ps ≤ 120 → (∀ p ∈ ps, dpP p ≤ 5 ∧ callN tbl F 22 [.fz (.int n), .fz (dP p)] = some (.fz (.tup [.int (szP p : Nat), .int (dpP p : Nat)]), [.fz (.int n), .fz (dP p)])) →
    ∃ s2 s3' s4' s5', forL (fun x => bnd (asgn (callN tbl F) lt18_0 x) fun _ => execs (callN tbl F) lb18_0) (enumFrom j (dPs ps)) [.fz (.int n), .fz T, .fz (.int (s0 : Nat)), s3, s4, s5] = .ok .nx [.fz (.int n), .fz T, s2, s3', s4', s5']
  | [], j, s0, s3, s4, s5, _, _, _, _, _ => ⟨_, _, _, _, rfl⟩
  | p :: ps, j, s0, s3, s4, s5, h3, h4, h5, hz, h => by
    obtain ⟨h6, h7⟩ := h p (List.mem_cons_self ..)
    rw [szPs_cons] at hz
    have e := inv_step (callN tbl F) n (s0 : Nat) (szP p : Nat) (dpP p : Nat) (j : Nat) (dP p) T s3 s4 s5 h3 h4 h5 (by omega) (by omega) h7
    rw [show ((s0 : Nat) : Int) + ((szP p : Nat) : Int) = ((s0 + szP p : Nat) : Int) from rfl] at e
    obtain ⟨s2, s3', s4', s5', e2⟩ := inv_loop F T ps (j + 1) (s0 + szP p) _ _ _ (.inr ⟨_, rfl⟩) (.inr ⟨_, rfl⟩) (.inr ⟨_, rfl⟩) (by omega) fun q hq => h q (List.mem_cons_of_mem _ hq)
    refine ⟨s2, s3', s4', s5', ?_⟩
    rw [dPs]
    exact forL_cons e e2
theorem ok_finv {n M : Int} (hM : M ≤ 1000000000000000000000000000000) (k : Nat) {ps : List Pt} (ok : OkPs n M ps) (hz : szPs ps ≤ 120) (hd : dpPs ps ≤ 5) : callN tbl (k + 13) 18 [.fz (.int n), .fz (.tup (dPs ps))] = some (.fz .non, [.fz (.int n), .fz (.tup (dPs ps))]) := by
  obtain ⟨s2, s3, s4, s5, e⟩ := inv_loop (k + 12) (n := n) (.tup (dPs ps)) ps 0 0 .un .un .un (.inl rfl) (.inl rfl) (.inl rfl) (by omega) fun p hp => ⟨Nat.le_trans (dp_mem hp) hd, (ok_meas hM 5 k).1 p (Nat.le_trans (dp_mem hp) hd) (ok p hp)⟩
  generalize dPs ps = A at e ⊢
  have key : execs (callN tbl (k + 12)) ir18 [.fz (.int n), .fz (.tup A), .un, .un, .un, .un] = .ok (.rt (.fz .non)) [.fz (.int n), .fz (.tup A), s2, s3, s4, s5] := by
    rw [show (((0 : Nat) : Int)) = 0 from rfl] at e
    simp [ir18, e]
  exact call_fz ⟨2, 6, ir18⟩ key
theorem ok_init {n M : Int} (hM : M ≤ 1000000000000000000000000000000) (k : Nat) (h1 : 1 ≤ n) (h2 : n ≤ 12) {ps : List Pt} (ok : OkPs n M ps) (hz : szPs ps ≤ 120) (hd : dpPs ps ≤ 5) :
    ∃ ss, callN tbl (k + 14) 11 [.un, .fz (.int n), .fz (.tup (dPs ps))] = some (.fz (.tup [.int n, .tup (dPs ps)]), ss) := by
  have e1 := ok_finv hM k ok hz hd
  have e2 := ok_lvc (k + 10) n h1 h2
  generalize dPs ps = A at e1 ⊢
  have key : execs (callN tbl (k + 13)) ir11 [.un, .fz (.int n), .fz (.tup A), .un] = .ok (.rt (.fz (.tup [.int n, .tup A]))) [.un, .fz (.int n), .fz (.tup A), .fz .non] := by
    simp [ir11, e1, e2]
  exact ⟨_, call_fz ⟨3, 4, ir11⟩ key⟩
/-! the log with the parts ps -/
def lg (n : Int) (ps : List Pt) : D := .obj 0 [.int n, .tup (dPs ps)]
theorem ok_isLog (k : Nat) (xs : List D) : callN tbl (k + 1) 23 [.fz (.obj 0 xs)] = some (.fz (.bl true), [.fz (.obj 0 xs)]) := by
  have key : execs (callN tbl k) ir23 [.fz (.obj 0 xs)] = .ok (.rt (.fz (.bl true))) [.fz (.obj 0 xs)] := by simp [ir23]
  exact call_fz ⟨1, 1, ir23⟩ key
theorem ok_chkLog (k : Nat) (xs : List D) : callN tbl (k + 2) 19 [.fz (.obj 0 xs)] = some (.fz .non, [.fz (.obj 0 xs)]) := by
  have e := ok_isLog k xs
  have key : execs (callN tbl (k + 1)) ir19 [.fz (.obj 0 xs)] = .ok .nx [.fz (.obj 0 xs)] := by simp [ir19, e]
  exact call_no ⟨1, 1, ir19⟩ key
/-! racks by one put -/
/-! length_of -/
/-! levels_in -/
/-! expand -/
/-! methods of Log -/
end Q_bandlinks_k07_logs_are_formatted
namespace Q_bandlinks_k07_logs_are_formatted
open PySem L2 DL
/-! trace -/
/-! racks seen -/
/-! spelled -/
/-! size, times -/
theorem sz_lv (Φ : Calls) (T : D) (i : Int) : compStep Φ co14_0 ct14_0 cc14_0 ce14_0 (.int i) [.fz T, .un] = .ok (some (.int 1)) [.fz T, .un] := by
  simp [compStep]
theorem sz_pr (Φ : Calls) (T : D) (z t : Int) (ds : List D) (e : Φ 14 [.fz (.tup ds)] = some (.fz (.int z), [.fz (.tup ds)])) : compStep Φ co14_0 ct14_0 cc14_0 ce14_0 (.tup [.tup ds, .int t]) [.fz T, .un] = .ok (some (.int (1 + z))) [.fz T, .un] := by
  simp [compStep, e]
theorem sz_run (Φ : Calls) (A Z : List D) (zs : List Int) (e : cmpL (compStep Φ co14_0 ct14_0 cc14_0 ce14_0) A [] [.fz (.tup A), .un] = .ok Z [.fz (.tup A), .un]) (i : intsD Z = some zs) :
    execs Φ ir14 [.fz (.tup A), .un] = .ok (.rt (.fz (.int zs.sum))) [.fz (.tup A), .un] := by
  simp [ir14, e, i]
theorem sz_sum : ∀ ps : List Pt, (ps.map fun p => ((szP p : Nat) : Int)).sum = ((szPs ps : Nat) : Int)
  | [] => rfl
  | p :: ps => by rw [List.map_cons, List.sum_cons, sz_sum ps, szPs_cons]; rfl
theorem ok_size : ∀ (d k : Nat) (ps : List Pt), dpPs ps ≤ d → szPs ps ≤ 1000 → callN tbl (k + d) 14 [.fz (.tup (dPs ps))] = some (.fz (.int (szPs ps : Nat)), [.fz (.tup (dPs ps))])
  | 0, k, ps, h, _ => by have := dpPs_pos ps; omega
  | d + 1, k, ps, hd, hz => by
    have hps := len_sz ps
    have e := cmpL_map (step := compStep (callN tbl (k + d)) co14_0 ct14_0 cc14_0 ce14_0) (g := dP) (ρ := [.fz (.tup (dPs ps)), .un]) (f := fun p => some (.int ((szP p : Nat) : Int))) ps [] (by show 0 + ps.length ≤ 16777216; omega) (fun p hp => by
      have dp := Nat.le_trans (dp_mem hp) hd
      have zp := Nat.le_trans (sz_mem hp) hz
      cases p with
      | lv i => rw [dP, szP_lv]; exact sz_lv _ _ i
      | pr qs t =>
        rw [dpP_pr] at dp
        rw [szP_pr] at zp
        rw [dP, szP_pr]
        exact sz_pr _ _ _ t _ (ok_size d k qs (by omega) (by omega)))
    rw [← dPs_map, List.nil_append] at e
    have i : intsD (ps.filterMap fun p => some (D.int ((szP p : Nat) : Int))) = some (ps.map fun p => ((szP p : Nat) : Int)) := by
      have := DL.ints_of (ps.map fun p => ((szP p : Nat) : Int))
      rw [List.map_map] at this
      rw [← this, ← List.filterMap_eq_map]
      rfl
    have key := sz_run _ _ _ _ e i
    rw [sz_sum] at key
    exact call_fz ⟨1, 2, ir14⟩ key
theorem tm_run (Φ : Calls) (xs ys1 ys2 ys3 : List D) (a b c v : Int) (e1 : Φ 8 [.ls .bor xs, .fz (.int 12)] = some (.fz (.int a), [.ls .bor ys1, .fz (.int 12)])) (e2 : Φ 8 [.ls .bor ys1, .fz (.int 1000000000000000000000000000000)] = some (.fz (.int b), [.ls .bor ys2, .fz (.int 1000000000000000000000000000000)]))
    (e3 : Φ 8 [.ls .bor ys2, .fz (.int 5)] = some (.fz (.int c), [.ls .bor ys3, .fz (.int 5)])) (at5 : atI [D.int 1, .int 2, .int (3 + a), .int (1 + b), .int 1000000000000000000000000000000] c = some (.int v)) :
    execs Φ ir15 [.ls .bor xs] = .ok (.rt (.fz (.int v))) [.ls .bor ys3] := by
  simp [ir15, e1, e2, e3, at5, -x_atI, -x_ixN]
theorem ok_times (k : Nat) {xs : List D} (h : Pool xs) : ∃ t ys, callN tbl (k + 2) 15 [.ls .bor xs] = some (.fz (.int t), [.ls .bor ys]) ∧ 1 ≤ t ∧ t ≤ 1000000000000000000000000000000 ∧ Pool ys := by
  obtain ⟨a, ys1, e1, a0, a1, p1⟩ := ok_draw k h (n := 12) (by decide) (by decide)
  obtain ⟨b, ys2, e2, b0, b1, p2⟩ := ok_draw k p1 (n := 1000000000000000000000000000000) (by decide) (by decide)
  obtain ⟨c, ys3, e3, c0, c1, p3⟩ := ok_draw k p2 (n := 5) (by decide) (by decide)
  have hc : c = 0 ∨ c = 1 ∨ c = 2 ∨ c = 3 ∨ c = 4 := by omega
  rcases hc with rfl | rfl | rfl | rfl | rfl
  · exact ⟨1, ys3, call_fz ⟨1, 1, ir15⟩ (tm_run _ _ _ _ _ _ _ _ _ e1 e2 e3 rfl), by decide, by decide, p3⟩
  · exact ⟨2, ys3, call_fz ⟨1, 1, ir15⟩ (tm_run _ _ _ _ _ _ _ _ _ e1 e2 e3 rfl), by decide, by decide, p3⟩
  · exact ⟨3 + a, ys3, call_fz ⟨1, 1, ir15⟩ (tm_run _ _ _ _ _ _ _ _ _ e1 e2 e3 rfl), by omega, by omega, p3⟩
  · exact ⟨1 + b, ys3, call_fz ⟨1, 1, ir15⟩ (tm_run _ _ _ _ _ _ _ _ _ e1 e2 e3 rfl), by omega, by omega, p3⟩
  · exact ⟨1000000000000000000000000000000, ys3, call_fz ⟨1, 1, ir15⟩ (tm_run _ _ _ _ _ _ _ _ _ e1 e2 e3 rfl), by decide, by decide, p3⟩
/-! parts -/
theorem pa_no (Φ : Calls) (xs F : List D) (n r d : Int) (h : ¬ 0 < r) : (bnd (ev Φ wc7_0) fun x => bnd (vw x) fun d => ofO (truthD d)) [.ls .bor xs, .fz (.int n), .fz (.int r), .fz (.int d), .ls .own F, .un] = .ok false [.ls .bor xs, .fz (.int n), .fz (.int r), .fz (.int d), .ls .own F, .un] := by
  simp [h]
theorem pa_go (Φ : Calls) (xs ys F : List D) (n r d v : Int) (h : 0 < r) (e : Φ 8 [.ls .bor xs, .fz (.int 9)] = some (.fz (.int v), [.ls .bor ys, .fz (.int 9)])) : (bnd (ev Φ wc7_0) fun x => bnd (vw x) fun d => ofO (truthD d)) [.ls .bor xs, .fz (.int n), .fz (.int r), .fz (.int d), .ls .own F, .un] = .ok (decide (0 < v)) [.ls .bor ys, .fz (.int n), .fz (.int r), .fz (.int d), .ls .own F, .un] := by
  simp [h, e]
theorem pb_1 (Φ : Calls) (xs ys F : List D) (n r d v : Int) (hd : ¬ 1 < d) (hF : F.length ≤ 4000) (e : Φ 8 [.ls .bor xs, .fz (.int n)] = some (.fz (.int v), [.ls .bor ys, .fz (.int n)])) : execs Φ wb7_0 [.ls .bor xs, .fz (.int n), .fz (.int r), .fz (.int d), .ls .own F, .un] = .ok .nx [.ls .bor ys, .fz (.int n), .fz (.int (r - 1)), .fz (.int d), .ls .own (F ++ [.int (1 + v)]), .un] := by
  have : F.length < 16777216 := by omega
  simp [hd, e, this]
theorem pb_2 (Φ : Calls) (xs ys zs F : List D) (n r d v w : Int) (hd : 1 < d) (hw : w ≠ 0) (hF : F.length ≤ 4000) (e0 : Φ 8 [.ls .bor xs, .fz (.int 4)] = some (.fz (.int w), [.ls .bor ys, .fz (.int 4)])) (e : Φ 8 [.ls .bor ys, .fz (.int n)] = some (.fz (.int v), [.ls .bor zs, .fz (.int n)])) : execs Φ wb7_0 [.ls .bor xs, .fz (.int n), .fz (.int r), .fz (.int d), .ls .own F, .un] = .ok .nx [.ls .bor zs, .fz (.int n), .fz (.int (r - 1)), .fz (.int d), .ls .own (F ++ [.int (1 + v)]), .un] := by
  have : F.length < 16777216 := by omega
  simp [hd, e0, e, hw, this]
theorem pb_3 (Φ : Calls) (xs y1 y2 y3 y4 F Q : List D) (n r d v z t : Int) (hd : 1 < d) (hF : F.length ≤ 4000) (e0 : Φ 8 [.ls .bor xs, .fz (.int 4)] = some (.fz (.int 0), [.ls .bor y1, .fz (.int 4)])) (e1 : Φ 8 [.ls .bor y1, .fz (.int (r - 1 + 1))] = some (.fz (.int v), [.ls .bor y2, .fz (.int (r - 1 + 1))]))
    (e2 : Φ 7 [.ls .bor y2, .fz (.int n), .fz (.int v), .fz (.int (d - 1))] = some (.fz (.tup Q), [.ls .bor y3, .fz (.int n), .fz (.int v), .fz (.int (d - 1))])) (e3 : Φ 14 [.fz (.tup Q)] = some (.fz (.int z), [.fz (.tup Q)]))
    (e5 : Φ 15 [.ls .bor y3] = some (.fz (.int t), [.ls .bor y4])) :
    execs Φ wb7_0 [.ls .bor xs, .fz (.int n), .fz (.int r), .fz (.int d), .ls .own F, .un] = .ok .nx [.ls .bor y4, .fz (.int n), .fz (.int (r - 1 - z)), .fz (.int d), .ls .own (F ++ [.tup [.tup Q, .int t]]), .un] := by
  have : F.length < 16777216 := by omega
  simp [hd, e0, e1, e2, e3, e5, this, -Int.sub_add_cancel]
theorem pa_run (Φ : Calls) (xs ys F : List D) (n r r' d : Int) (e : whileN (bnd (ev Φ wc7_0) fun x => bnd (vw x) fun d => ofO (truthD d)) (execs Φ wb7_0) fuelW [.ls .bor xs, .fz (.int n), .fz (.int r), .fz (.int d), .ls .own [], .un] = .ok .nx [.ls .bor ys, .fz (.int n), .fz (.int r'), .fz (.int d), .ls .own F, .un]) :
    execs Φ ir7 [.ls .bor xs, .fz (.int n), .fz (.int r), .fz (.int d), .un, .un] = .ok (.rt (.fz (.tup F))) [.ls .bor ys, .fz (.int n), .un, .fz (.int d), .ls .own F, .un] := by
  have s_whl : ∀ {c b ρ}, exec Φ (.whl c b) ρ = whileN (bnd (ev Φ c) fun x => bnd (vw x) fun d => ofO (truthD d)) (execs Φ b) fuelW ρ := rfl
  simp [ir7, s_whl, e]
theorem x_parts (Φ : Calls) {n : Int} (n1 : 1 ≤ n) (n2 : n ≤ 12) (dd : Nat) (d1 : 1 ≤ dd)
    (hdr : ∀ (xs : List D) (m : Int), Pool xs → 0 < m → m < 1000000000000000000000000000000000000000000000000000000000000 → ∃ v ys, Φ 8 [.ls .bor xs, .fz (.int m)] = some (.fz (.int v), [.ls .bor ys, .fz (.int m)]) ∧ 0 ≤ v ∧ v < m ∧ Pool ys)
    (htm : ∀ xs : List D, Pool xs → ∃ t ys, Φ 15 [.ls .bor xs] = some (.fz (.int t), [.ls .bor ys]) ∧ 1 ≤ t ∧ t ≤ 1000000000000000000000000000000 ∧ Pool ys)
    (hrec : 1 < dd → ∀ (v : Int) (xs : List D), Pool xs → 0 ≤ v → v ≤ 120 → ∃ qs ys, Φ 7 [.ls .bor xs, .fz (.int n), .fz (.int v), .fz (.int ((dd : Int) - 1))] = some (.fz (.tup (dPs qs)), [.ls .bor ys, .fz (.int n), .fz (.int v), .fz (.int ((dd : Int) - 1))]) ∧ Pool ys ∧ OkPs n 1000000000000000000000000000000 qs ∧ (szPs qs : Int) ≤ v ∧ dpPs qs ≤ dd - 1 ∧ Φ 14 [.fz (.tup (dPs qs))] = some (.fz (.int (szPs qs : Nat)), [.fz (.tup (dPs qs))]))
    {xs : List D} (h : Pool xs) {r : Int} (r0 : 0 ≤ r) (r1 : r ≤ 120) :
    ∃ ps ys, execs Φ ir7 [.ls .bor xs, .fz (.int n), .fz (.int r), .fz (.int (dd : Nat)), .un, .un] = .ok (.rt (.fz (.tup (dPs ps)))) [.ls .bor ys, .fz (.int n), .un, .fz (.int (dd : Nat)), .ls .own (dPs ps), .un] ∧ Pool ys ∧ OkPs n 1000000000000000000000000000000 ps ∧ (szPs ps : Int) ≤ r ∧ dpPs ps ≤ dd := by
  obtain ⟨ρ', e, ps, r', ys, rfl, p, ok, hz, hd⟩ := whl_inv (test := bnd (ev Φ wc7_0) fun x => bnd (vw x) fun d => ofO (truthD d)) (body := execs Φ wb7_0)
    (fun m' ρ => ∃ (ps : List Pt) (r' : Int) (ys : List D), ρ = [.ls .bor ys, .fz (.int n), .fz (.int r'), .fz (.int (dd : Nat)), .ls .own (dPs ps), .un] ∧ Pool ys ∧ OkPs n 1000000000000000000000000000000 ps ∧ (szPs ps : Int) + r' ≤ r ∧ dpPs ps ≤ dd ∧ 0 ≤ r' ∧ m' = r'.toNat)
    (fun ρ => ∃ (ps : List Pt) (r' : Int) (ys : List D), ρ = [.ls .bor ys, .fz (.int n), .fz (.int r'), .fz (.int (dd : Nat)), .ls .own (dPs ps), .un] ∧ Pool ys ∧ OkPs n 1000000000000000000000000000000 ps ∧ (szPs ps : Int) ≤ r ∧ dpPs ps ≤ dd)
    (fun m' ρ hI => by
      obtain ⟨ps, r', ys, rfl, p, ok, hz, hd, hr, rfl⟩ := hI
      have hl := len_sz ps
      have hF : (dPs ps).length ≤ 4000 := by rw [dPs_len]; omega
      by_cases c : 0 < r'
      · obtain ⟨v, y1, e1, v0, v1, p1⟩ := hdr ys 9 p (by decide) (by decide)
        have go := pa_go Φ _ _ (dPs ps) n r' (dd : Nat) v c e1
        by_cases cv : 0 < v
        · rw [decide_eq_true cv] at go
          refine .inr ?_
          have lv : ∀ {w : Int} {y2 : List D}, 0 ≤ w → w < n → Pool y2 → ∀ ρ1, ρ1 = ([.ls .bor y2, .fz (.int n), .fz (.int (r' - 1)), .fz (.int (dd : Nat)), .ls .own (dPs ps ++ [.int (1 + w)]), .un] : Ev) → (execs Φ wb7_0 [.ls .bor y1, .fz (.int n), .fz (.int r'), .fz (.int (dd : Nat)), .ls .own (dPs ps), .un] = .ok .nx ρ1) →
              ∃ ρ1 ρ2 m', ((bnd (ev Φ wc7_0) fun x => bnd (vw x) fun d => ofO (truthD d)) [.ls .bor ys, .fz (.int n), .fz (.int r'), .fz (.int (dd : Nat)), .ls .own (dPs ps), .un] = .ok true ρ1) ∧ (execs Φ wb7_0 ρ1 = .ok .nx ρ2 ∨ execs Φ wb7_0 ρ1 = .ok .ct ρ2) ∧ m' < r'.toNat ∧ ∃ (ps : List Pt) (r' : Int) (ys : List D), ρ2 = [.ls .bor ys, .fz (.int n), .fz (.int r'), .fz (.int (dd : Nat)), .ls .own (dPs ps), .un] ∧ Pool ys ∧ OkPs n 1000000000000000000000000000000 ps ∧ (szPs ps : Int) + r' ≤ r ∧ dpPs ps ≤ dd ∧ 0 ≤ r' ∧ m' = r'.toNat := fun {w y2} w0 w1 p2 ρ1 hρ e2 => by
            subst hρ
            refine ⟨_, _, (r' - 1).toNat, go, .inl e2, by omega, ps ++ [.lv (1 + w)], r' - 1, y2, by rw [dPs_app]; rfl, p2, ok.app (OkPs.one (.lv (by omega) (by omega))), ?_, ?_, by omega, rfl⟩
            · rw [szPs_app, szPs_one, szP_lv]; omega
            · rw [dpPs_app, dpPs_one, dpP_lv]; omega
          by_cases cd : 1 < (dd : Int)
          · obtain ⟨q, y2, e2, q0, q1, p2⟩ := hdr y1 4 p1 (by decide) (by decide)
            by_cases cq : q = 0
            · subst cq
              obtain ⟨v', y3, e3, v0', v1', p3⟩ := hdr y2 (r' - 1 + 1) p2 (by omega) (by omega)
              obtain ⟨qs, y4, e4, p4, ok4, hz4, hd4, e5⟩ := hrec (by omega) v' y3 p3 (by omega) (by omega)
              obtain ⟨t, y5, e6, t1, t2, p5⟩ := htm y4 p4
              have b3 := pb_3 Φ _ _ _ _ _ (dPs ps) _ n r' _ v' _ t cd hF e2 e3 e4 e5 e6
              refine ⟨_, _, (r' - 1 - (szPs qs : Nat)).toNat, go, .inl b3, by omega, ps ++ [.pr qs t], r' - 1 - (szPs qs : Nat), y5, by rw [dPs_app]; rfl, p5, ok.app (OkPs.one (.pr ok4 t1 t2)), ?_, ?_, by omega, rfl⟩
              · rw [szPs_app, szPs_one, szP_pr]; omega
              · rw [dpPs_app, dpPs_one, dpP_pr]; omega
            · obtain ⟨w, y3, e3, w0, w1, p3⟩ := hdr y2 n p2 (by omega) (by omega)
              exact lv w0 w1 p3 _ rfl (pb_2 Φ _ _ _ (dPs ps) n r' _ w q cd cq hF e2 e3)
          · obtain ⟨w, y2, e2, w0, w1, p2⟩ := hdr y1 n p1 (by omega) (by omega)
            exact lv w0 w1 p2 _ rfl (pb_1 Φ _ _ (dPs ps) n r' _ w cd hF e2)
        · rw [decide_eq_false cv] at go
          exact .inl ⟨_, go, ps, r', y1, rfl, p1, ok, by omega, hd⟩
      · exact .inl ⟨_, pa_no Φ _ _ n r' _ c, ps, r', ys, rfl, p, ok, by omega, hd⟩)
    fuelW r.toNat [.ls .bor xs, .fz (.int n), .fz (.int r), .fz (.int (dd : Nat)), .ls .own [], .un] (by show r.toNat < 100000; omega)
    ⟨[], r, xs, rfl, h, fun _ z => (nomatch z), by rw [szPs_nil]; omega, by rw [dpPs_nil]; omega, r0, rfl⟩
  exact ⟨ps, ys, pa_run Φ _ _ _ n r r' _ e, p, ok, hz, hd⟩
theorem ok_parts {n : Int} (n1 : 1 ≤ n) (n2 : n ≤ 12) : ∀ (d k : Nat) (r : Int) {xs : List D}, Pool xs → 0 ≤ r → r ≤ 120 →
    ∃ ps ys, callN tbl (k + d + 3) 7 [.ls .bor xs, .fz (.int n), .fz (.int r), .fz (.int ((d + 1 : Nat) : Int))] = some (.fz (.tup (dPs ps)), [.ls .bor ys, .fz (.int n), .fz (.int r), .fz (.int ((d + 1 : Nat) : Int))]) ∧ Pool ys ∧ OkPs n 1000000000000000000000000000000 ps ∧ (szPs ps : Int) ≤ r ∧ dpPs ps ≤ d + 1 := by
  intro d
  induction d with
  | zero =>
    intro k r xs h r0 r1
    obtain ⟨ps, ys, e, a⟩ := x_parts (callN tbl (k + 0 + 2)) n1 n2 (0 + 1) (by decide) (fun xs m hp h1 h2 => ok_draw (k + 0 + 1) hp h1 h2) (fun xs hp => ok_times (k + 0) hp) (fun z => absurd z (by decide)) h r0 r1
    exact ⟨ps, ys, call_fz ⟨4, 6, ir7⟩ e, a⟩
  | succ d ih =>
    intro k r xs h r0 r1
    obtain ⟨ps, ys, e, a⟩ := x_parts (callN tbl (k + (d + 1) + 2)) n1 n2 (d + 1 + 1) (by omega) (fun xs m hp h1 h2 => ok_draw (k + (d + 1) + 1) hp h1 h2) (fun xs hp => ok_times (k + (d + 1)) hp) (fun _ v xs hp v0 v1 => by
      obtain ⟨qs, ys, e, p, ok, hz, hd⟩ := ih k v hp v0 v1
      have e5 := ok_size (d + 1) (k + 2) qs hd (by omega)
      rw [show k + 2 + (d + 1) = k + (d + 1) + 2 from by omega] at e5
      rw [show ((d + 1 + 1 : Nat) : Int) - 1 = ((d + 1 : Nat) : Int) from by omega, show k + (d + 1) + 2 = k + d + 3 from by omega]
      exact ⟨qs, ys, e, p, ok, hz, by omega, by rw [show k + d + 3 = k + (d + 1) + 2 from by omega]; exact e5⟩) h r0 r1
    exact ⟨ps, ys, call_fz ⟨4, 6, ir7⟩ e, a⟩
end Q_bandlinks_k07_logs_are_formatted
namespace Q_bandlinks_k07_logs_are_formatted
open PySem L2 DL
/-! calls of methods with values as arguments; values that may be passed -/
theorem str_ne {s : Str} : cmpD .ne (.str s) (.str s) = some false := congrArg (fun b => some (!b)) (decide_eq_true rfl)
theorem str_eq {s : Str} : cmpD .eq (.str s) (.str s) = some true := congrArg some (decide_eq_true rfl)
theorem er_nil {Φ : Calls} {ρ : Ev} : evrs Φ .nil ρ = .ok [] ρ := rfl
theorem er_cons {Φ : Calls} {ρ ρ1 ρ2 : Ev} {e : E} {es : Es} {x : R} {xs : List R} (h : ev Φ e ρ = .ok x ρ1) (h2 : evrs Φ es ρ1 = .ok xs ρ2) : evrs Φ (.cons e es) ρ = .ok (x :: xs) ρ2 := by
  rw [r_evrs1, h]
  show ((evrs Φ es ρ1).then _) = _
  rw [h2]; rfl
theorem e_biN {Φ : Calls} {ρ ρ1 : Ev} {b : Bi} {es : Es} {xs : List R} {ds : List D} {v : R} (h : evrs Φ es ρ = .ok xs ρ1) (hm : xs.mapM (view ρ1) = some ds) (hb : biD b ds = some v) : ev Φ (.bi b es) ρ = .ok v ρ1 := by
  rw [r_bi, h]
  show (match xs.mapM (view ρ1) with | some ds => ofO (biD b ds) ρ1 | none => .stk) = _
  rw [hm]
  show ofO (biD b ds) ρ1 = _
  rw [hb]; rfl
/-! parts_text, Log.__str__, Log.__repr__ -/
theorem e_orS {Φ : Calls} {ρ : Ev} {a b : E} {d : D} {v : R} {k : Bool} (ha : ev Φ a ρ = .ok (.fz d) ρ) (ht : truthD d = some k) (hb : ev Φ b ρ = .ok v ρ) : ev Φ (.or a b) ρ = .ok (if k then .fz d else v) ρ := by
  rw [r_or, ha]
  show (ofO (truthD d) ρ).then _ = _
  rw [ht]
  cases k with
  | false => exact hb
  | true => rfl
theorem str_add {a b : Str} (h : a.length + b.length ≤ 16777216) : binD .add (.str a) (.str b) = some (.fz (.str (a ++ b))) := by
  show (if a.length + b.length ≤ sizeLine then some (R.fz (.str (a ++ b))) else none) = _
  exact if_pos (by rw [sz_le]; exact h)
theorem str1_int {i : Int} (h1 : -(10 ^ 31) < i) (h2 : i < 10 ^ 31) : biD .str1 [.int i] = some (.fz (.str (Str.ofString (toString i)))) := by
  show (if i.natAbs.log2 < 1920 then some (R.fz (.str (Str.ofString (toString i)))) else none) = _
  exact if_pos (Nat.lt_trans (log2_31 (by omega)) (by decide))
abbrev sP (A : D) (W : List Str) (s2 : Sl) : Ev := [.fz A, .ls .own (W.map D.str), s2]
theorem pt_lv (Φ : Calls) (A : D) (W : List Str) (i : Int) (hl : W.length ≤ 1000000) (h1 : -(10 ^ 31) < i) (h2 : i < 10 ^ 31) :
    (bnd (asgn Φ lt20_0 (.int i)) fun _ => execs Φ lb20_0) (sP A W .un) = .ok .nx (sP A (W ++ [Str.ofString (toString i)]) .un) := by
  rw [show sP A (W ++ [Str.ofString (toString i)]) .un = [.fz A, .ls .own (W.map D.str ++ [.str (Str.ofString (toString i))]), .un] from by unfold sP; rw [List.map_append]; rfl]
  exact bd (ρ1 := [.fz A, .ls .own (W.map D.str), .fz (.int i)]) rfl (sq (x_app (d := .str (Str.ofString (toString i))) (e_ite false (x := .fz (.bl false)) rfl rfl rfl (e_bi1 (v := .fz (.int i)) rfl rfl (str1_int h1 h2))) (by rw [List.length_map, sz_lt]; omega)) (sq_end x_wip))
def prT (s : Str) (t : Int) : Str := (("(" : Str) ++ s ++ (")x" : Str)) ++ Str.ofString (toString t)
theorem tx_pr {n : Nat} {s : Str} {t : Int} (h : Tx n s) (h1 : -(10 ^ 31) < t) (h2 : t < 10 ^ 31) : Tx (n + 35) (prT s t) := by
  have a : Tx 1 ("(" : Str) := ⟨by decide, by decide⟩
  have b : Tx 2 (")x" : Str) := ⟨by decide, by decide⟩
  exact (((a.app h).app b).app (Tx.int h1 h2)).mono (by omega)
theorem pt_pr (Φ : Calls) (A q : D) (W : List Str) (t : Int) {n : Nat} {s : Str} (hs : Tx n s) (hn : n ≤ 1000000) (e : Φ 20 [.fz q] = some (.fz (.str s), [.fz q])) (hl : W.length ≤ 1000000) (h1 : -(10 ^ 31) < t) (h2 : t < 10 ^ 31) :
    (bnd (asgn Φ lt20_0 (.tup [q, .int t])) fun _ => execs Φ lb20_0) (sP A W .un) = .ok .nx (sP A (W ++ [prT s t]) .un) := by
  rw [show sP A (W ++ [prT s t]) .un = [.fz A, .ls .own (W.map D.str ++ [.str (prT s t)]), .un] from by unfold sP; rw [List.map_append]; rfl]
  have l1 := hs.len
  have a1 : binD .add (.str "(") (.str s) = some (.fz (.str (("(" : Str) ++ s))) := str_add (by show 1 + s.length ≤ _; omega)
  have a2 : binD .add (.str (("(" : Str) ++ s)) (.str ")x") = some (.fz (.str ((("(" : Str) ++ s) ++ (")x" : Str)))) := str_add (by rw [Str.length_append]; show 1 + s.length + 2 ≤ _; omega)
  have a3 : binD .add (.str ((("(" : Str) ++ s) ++ (")x" : Str))) (.str (Str.ofString (toString t))) = some (.fz (.str (prT s t))) := str_add (by
    have := (Tx.int h1 h2).len
    rw [Str.length_append, Str.length_append]; show 1 + s.length + 2 + _ ≤ _; omega)
  have c1 : ev Φ (.call 20 [0] (.val (.idx (.var 2) (.cst (.int 0))) (.nil)) .nil) [.fz A, .ls .own (W.map D.str), .fz (.tup [q, .int t])] = .ok (.fz (.str s)) [.fz A, .ls .own (W.map D.str), .fz (.tup [q, .int t])] := e_call1 (x := .fz q) rfl e
  have c2 : ev Φ (.bi .str1 (.cons (.idx (.var 2) (.cst (.int 1))) (.nil))) [.fz A, .ls .own (W.map D.str), .fz (.tup [q, .int t])] = .ok (.fz (.str (Str.ofString (toString t)))) [.fz A, .ls .own (W.map D.str), .fz (.tup [q, .int t])] := e_bi1 (v := .fz (.int t)) rfl rfl (str1_int h1 h2)
  exact bd (ρ1 := [.fz A, .ls .own (W.map D.str), .fz (.tup [q, .int t])]) rfl (sq (x_app (d := .str (prT s t)) (e_ite true (x := .fz (.bl true)) rfl rfl rfl (e_bin (e_bin (e_bin (x := .fz (.str "(")) rfl c1 rfl rfl a1) rfl (y := .fz (.str ")x")) rfl rfl a2) c2 rfl rfl a3)) (by rw [List.length_map, sz_lt]; omega)) (sq_end x_wip))
theorem ok_ptx {n M : Int} (n2 : n ≤ 12) (hM : M ≤ 1000000000000000000000000000000) : ∀ (d k : Nat) (ps : List Pt), dpPs ps ≤ d → OkPs n M ps → szPs ps ≤ 1000 → ∃ s, Tx (40 * szPs ps + 1) s ∧ callN tbl (k + d) 20 [.fz (.tup (dPs ps))] = some (.fz (.str s), [.fz (.tup (dPs ps))])
  | 0, k, ps, h, _, _ => by have := dpPs_pos ps; omega
  | d + 1, k, ps, h, ok, hz => by
    obtain ⟨ρ1, el, ws, rfl, htx, hsum, hlen⟩ := for_exR (Φ := callN tbl (k + d)) (t := lt20_0) (it := .val (.var 0)) (b := lb20_0) (ρ := sP (.tup (dPs ps)) [] .un) (ρ1 := sP (.tup (dPs ps)) [] .un) dP ps (fun done ρ => ∃ ws : List Str, ρ = sP (.tup (dPs ps)) ws .un ∧ (∀ w ∈ ws, Tx w.length w) ∧ (ws.map (·.length)).sum + ws.length ≤ 40 * szPs done ∧ ws.length = done.length) (i_val rfl rfl (by rw [dPs_map]; rfl)) ⟨[], rfl, (fun _ h => nomatch h), Nat.zero_le _, rfl⟩ fun done p rest ρ hp ⟨ws, hρ, h1, h2, h3⟩ => by
      subst hρ
      have hmem : p ∈ ps := mem_split hp
      have b1 := len_sz ps
      have b2 : done.length ≤ ps.length := by rw [hp, List.length_append]; omega
      have step : ∀ w : Str, Tx w.length w → w.length + 1 ≤ 40 * szP p → (∀ x ∈ ws ++ [w], Tx x.length x) ∧ ((ws ++ [w]).map (·.length)).sum + (ws ++ [w]).length ≤ 40 * szPs (done ++ [p]) ∧ (ws ++ [w]).length = (done ++ [p]).length := fun w hw hlw => by
        refine ⟨fun x hx => (List.mem_append.mp hx).elim (h1 x) fun h => by rw [List.mem_singleton] at h; subst h; exact hw, ?_, by rw [List.length_append, List.length_append, h3]; rfl⟩
        rw [List.map_append, List.sum_append, List.length_append, szPs_app, szPs_one]
        show _ + (w.length + 0) + (ws.length + 1) ≤ _
        omega
      cases p with
      | lv i =>
        have := ok_lv (ok _ hmem)
        have t1 := Tx.int (i := i) (by omega) (by omega)
        have l1 := t1.len
        refine ⟨_, pt_lv (callN tbl (k + d)) _ ws i (by omega) (by omega) (by omega), _, rfl, step _ ⟨Nat.le_refl _, t1.ok⟩ ?_⟩
        rw [szP_lv]; omega
      | pr qs t =>
        obtain ⟨o, ht1, ht2⟩ := ok_sub (ok _ hmem)
        have d1 := dp_mem hmem
        rw [dpP_pr] at d1
        have z1 := sz_mem hmem
        rw [szP_pr] at z1
        obtain ⟨s, hs, e⟩ := ok_ptx n2 hM d k qs (by omega) o (by omega)
        have t1 := tx_pr (t := t) hs (by omega) (by omega)
        have l1 := t1.len
        refine ⟨_, pt_pr (callN tbl (k + d)) _ _ ws t hs (by omega) e (by omega) (by omega) (by omega), _, rfl, step _ ⟨Nat.le_refl _, t1.ok⟩ ?_⟩
        rw [szP_pr]; omega
    have b1 := len_sz ps
    have tj : Tx (40 * szPs ps) (Txt.join " " ws) := (Tx.txt (sep := " ") ⟨by decide, by decide⟩ htx).mono hsum
    have jj : biD .join [.str " ", .lst (ws.map D.str)] = some (.fz (.str (Txt.join " " ws))) := by
      show ((strsD (ws.map D.str)).bind fun ys => if (ys.map (·.length)).sum + ys.length * (" " : Str).length ≤ 16777216 then some (R.fz (.str (Txt.join " " ys))) else none) = _
      rw [strs_map]
      exact if_pos (by rw [show (" " : Str).length = 1 from by decide]; omega)
    have ej : ev (callN tbl (k + d)) (.bi .join (.cons (.cst (.str " ")) (.cons (.var 1) .nil))) (sP (.tup (dPs ps)) ws .un) = .ok (.fz (.str (Txt.join " " ws))) (sP (.tup (dPs ps)) ws .un) := e_bi2 (x := .fz (.str " ")) (y := .rf 1) rfl rfl rfl rfl jj
    have tr : truthD (.str (Txt.join " " ws)) = some ((Txt.join " " ws).length != 0) := by
      show (if (Txt.join " " ws).length ≤ sizeLine then some ((Txt.join " " ws).length != 0) else none) = _
      exact if_pos (by have := tj.len; rw [sz_le]; omega)
    have eo := e_orS ej tr (b := .cst (.str "-")) (v := .fz (.str "-")) rfl
    refine ⟨if (Txt.join " " ws).length != 0 then Txt.join " " ws else "-", ?_, ?_⟩
    · split
      · exact tj.mono (by omega)
      · exact Tx.mono (n := 1) ⟨by decide, by decide⟩ (by omega)
    · have er : ∀ b : Bool, (if b then R.fz (.str (Txt.join " " ws)) else R.fz (.str "-")) = R.fz (.str (if b then Txt.join " " ws else "-")) := fun b => by cases b <;> rfl
      rw [er] at eo
      exact call_fz ⟨1, 3, ir20⟩ (sq (x_asgL (ρ1 := [.fz (.tup (dPs ps)), .un, .un]) e_nil) (sq el (sq_rt (x_ret eo))))
end Q_bandlinks_k07_logs_are_formatted
namespace Q_bandlinks_k07_logs_are_formatted
open PySem L2 DL
/-! the texts of parts, exactly -/
def tjW (W : List Str) : Str := if W = [] then "-" else Txt.join " " W
mutual
def wdP : Pt → Str
  | .lv i => Str.ofString (toString i)
  | .pr ps t => prT (tjW (wdsP ps)) t
def wdsP : List Pt → List Str
  | [] => []
  | p :: ps => wdP p :: wdsP ps
end
theorem wdsP_map : ∀ ps : List Pt, wdsP ps = ps.map wdP
  | [] => by simp [wdsP]
  | p :: ps => by rw [wdsP, wdsP_map ps]; rfl
theorem wdsP_app (ps qs : List Pt) : wdsP (ps ++ qs) = wdsP ps ++ wdsP qs := by rw [wdsP_map, wdsP_map, wdsP_map, List.map_append]
def txP (ps : List Pt) : Str := tjW (wdsP ps)
theorem wdP_pr (ps : List Pt) (t : Int) : wdP (.pr ps t) = prT (txP ps) t := by rw [wdP]; rfl
theorem wdP_lv (i : Int) : wdP (.lv i) = Str.ofString (toString i) := by rw [wdP]
theorem wdsP_one (p : Pt) : wdsP [p] = [wdP p] := by rw [wdsP_map]; rfl
theorem int_txp {i : Int} (h : 0 ≤ i) : 0 < (Str.ofString (toString i)).length := by
  obtain ⟨n, rfl⟩ : ∃ n : Nat, i = (n : Int) := ⟨i.toNat, by omega⟩
  have e : (Str.ofString (toString (n : Int))).length = (TL.numL n).length := by rw [← TL.tl_num]; exact TL.len_tl _
  rw [e]
  have := TL.numL_ne n
  cases q : TL.numL n with
  | nil => exact absurd q this
  | cons a l => rw [List.length_cons]; omega
theorem wdP_pos {n M : Int} {p : Pt} (ok : OkP n M p) : 0 < (wdP p).length := by
  cases p with
  | lv i =>
    have := ok_lv ok
    rw [wdP_lv]
    exact int_txp (by omega)
  | pr qs t =>
    rw [wdP_pr]
    show 0 < (((("(" : Str) ++ txP qs ++ (")x" : Str)) ++ Str.ofString (toString t))).length
    rw [Str.length_append, Str.length_append, Str.length_append]
    show 0 < 1 + _ + _ + _
    omega
theorem join_pos8 {sep : Str} : ∀ {W : List Str}, W ≠ [] → (∀ w ∈ W, 0 < w.length) → 0 < (Txt.join sep W).length
  | [], h, _ => absurd rfl h
  | w :: W, _, h => by
    have hw := h w (List.mem_cons_self ..)
    rw [TL.join_eq]
    cases W with
    | nil => exact hw
    | cons x W =>
      show 0 < (w ++ sep ++ Str.join sep (x :: W)).length
      rw [Str.length_append, Str.length_append]; omega
theorem tx_b {n M : Int} (n2 : n ≤ 12) (hM : M ≤ 1000000000000000000000000000000) : ∀ (d : Nat) (ps : List Pt), dpPs ps ≤ d → OkPs n M ps → (∀ p ∈ ps, Tx (40 * szP p - 1) (wdP p)) ∧ ((wdsP ps).map (·.length)).sum + (wdsP ps).length ≤ 40 * szPs ps ∧ Tx (40 * szPs ps + 1) (txP ps)
  | 0, ps, h, _ => by have := dpPs_pos ps; omega
  | d + 1, ps, h, ok => by
    have A : ∀ p ∈ ps, Tx (40 * szP p - 1) (wdP p) := fun p hp => by
      cases p with
      | lv i =>
        have := ok_lv (ok _ hp)
        rw [wdP_lv, szP_lv]
        exact (Tx.int (by omega) (by omega)).mono (by decide)
      | pr qs t =>
        obtain ⟨o, t1, t2⟩ := ok_sub (ok _ hp)
        have d1 := dp_mem hp
        rw [dpP_pr] at d1
        have := (tx_b n2 hM d qs (by omega) o).2.2
        rw [wdP_pr, szP_pr]
        exact (tx_pr this (by omega) (by omega)).mono (by omega)
    have B : ∀ qs : List Pt, (∀ p ∈ qs, Tx (40 * szP p - 1) (wdP p)) → ((wdsP qs).map (·.length)).sum + (wdsP qs).length ≤ 40 * szPs qs := fun qs => by
      induction qs with
      | nil => intro _; rw [wdsP]; exact Nat.zero_le _
      | cons q qs ih =>
        intro hq
        have i1 := ih fun p hp => hq p (List.mem_cons_of_mem _ hp)
        have i2 := (hq q (List.mem_cons_self ..)).len
        have := szP_pos q
        rw [wdsP, List.map_cons, List.sum_cons, List.length_cons, szPs_cons]
        omega
    refine ⟨A, B ps A, ?_⟩
    unfold txP tjW
    split
    · exact Tx.mono (n := 1) ⟨by decide, by decide⟩ (by omega)
    · exact (Tx.txt (sep := " ") ⟨by decide, by decide⟩ (f := fun w => w.length) fun w hw => by
        rw [wdsP_map] at hw
        obtain ⟨p, hp, rfl⟩ := List.mem_map.mp hw
        exact ⟨Nat.le_refl _, (A p hp).ok⟩).mono (by have := B ps A; omega)
theorem join_ok8 {n M : Int} (n2 : n ≤ 12) (hM : M ≤ 1000000000000000000000000000000) {ps : List Pt} (ok : OkPs n M ps) (hz : szPs ps ≤ 1000) : biD .join [.str " ", .lst ((wdsP ps).map D.str)] = some (.fz (.str (Txt.join " " (wdsP ps)))) ∧ (wdsP ps ≠ [] → 0 < (Txt.join " " (wdsP ps)).length) ∧ (Txt.join " " (wdsP ps)).length ≤ 16777216 := by
  obtain ⟨_, h2, h3⟩ := tx_b n2 hM _ ps (Nat.le_refl _) ok
  refine ⟨?_, fun h => join_pos8 h fun w hw => ?_, ?_⟩
  · show ((strsD ((wdsP ps).map D.str)).bind fun ys => if (ys.map (·.length)).sum + ys.length * (" " : Str).length ≤ 16777216 then some (R.fz (.str (Txt.join " " ys))) else none) = _
    rw [strs_map]
    exact if_pos (by rw [show (" " : Str).length = 1 from by decide]; omega)
  · rw [wdsP_map] at hw
    obtain ⟨p, hp, rfl⟩ := List.mem_map.mp hw
    exact wdP_pos (ok p hp)
  · by_cases q : wdsP ps = []
    · rw [q]; exact Nat.zero_le _
    · have e : txP ps = Txt.join " " (wdsP ps) := if_neg q
      rw [← e]
      have := h3.len
      omega
theorem ok_ptxE {n M : Int} (n2 : n ≤ 12) (hM : M ≤ 1000000000000000000000000000000) : ∀ (d k : Nat) (ps : List Pt), dpPs ps ≤ d → OkPs n M ps → szPs ps ≤ 1000 → callN tbl (k + d) 20 [.fz (.tup (dPs ps))] = some (.fz (.str (txP ps)), [.fz (.tup (dPs ps))])
  | 0, k, ps, h, _, _ => by have := dpPs_pos ps; omega
  | d + 1, k, ps, h, ok, hz => by
    have el := for_nx (Φ := callN tbl (k + d)) (t := lt20_0) (it := .val (.var 0)) (b := lb20_0) (ρ := sP (.tup (dPs ps)) [] .un) (ρ1 := sP (.tup (dPs ps)) [] .un) dP ps (fun done => sP (.tup (dPs ps)) (wdsP done) .un) (i_val (x := .fz (.tup (dPs ps))) rfl rfl (by rw [dPs_map]; rfl)) (by rw [wdsP]) fun done p rest hp => by
      have hmem : p ∈ ps := mem_split hp
      have b1 := len_sz ps
      have b2 : done.length ≤ ps.length := by rw [hp, List.length_append]; omega
      have b3 : (wdsP done).length ≤ 1000000 := by rw [wdsP_map, List.length_map]; omega
      rw [wdsP_app, wdsP_one]
      cases p with
      | lv i =>
        have := ok_lv (ok _ hmem)
        rw [wdP_lv, dP]
        exact pt_lv (callN tbl (k + d)) _ (wdsP done) i b3 (by omega) (by omega)
      | pr qs t =>
        obtain ⟨o, ht1, ht2⟩ := ok_sub (ok _ hmem)
        have d1 := dp_mem hmem
        rw [dpP_pr] at d1
        have z1 := sz_mem hmem
        rw [szP_pr] at z1
        have e := ok_ptxE n2 hM d k qs (by omega) o (by omega)
        have hs := (tx_b n2 hM _ qs (Nat.le_refl _) o).2.2
        rw [wdP_pr, dP]
        exact pt_pr (callN tbl (k + d)) _ _ (wdsP done) t hs (by omega) e b3 (by omega) (by omega)
    obtain ⟨jj, jp, jl⟩ := join_ok8 n2 hM ok hz
    have ej : ev (callN tbl (k + d)) (.bi .join (.cons (.cst (.str " ")) (.cons (.var 1) .nil))) (sP (.tup (dPs ps)) (wdsP ps) .un) = .ok (.fz (.str (Txt.join " " (wdsP ps)))) (sP (.tup (dPs ps)) (wdsP ps) .un) := e_bi2 (x := .fz (.str " ")) (y := .rf 1) rfl rfl rfl rfl jj
    have tr : truthD (.str (Txt.join " " (wdsP ps))) = some ((Txt.join " " (wdsP ps)).length != 0) := by
      show (if (Txt.join " " (wdsP ps)).length ≤ sizeLine then some ((Txt.join " " (wdsP ps)).length != 0) else none) = _
      exact if_pos (by rw [sz_le]; omega)
    have eo := e_orS ej tr (b := .cst (.str "-")) (v := .fz (.str "-")) rfl
    refine call_fz ⟨1, 3, ir20⟩ (ρ' := sP (.tup (dPs ps)) (wdsP ps) .un) (sq (x_asgL (ρ1 := [.fz (.tup (dPs ps)), .un, .un]) e_nil) (sq el (sq_rt (x_ret (eo.trans ?_)))))
    unfold txP tjW
    by_cases c : wdsP ps = []
    · rw [c, if_pos rfl]; rfl
    · have := jp c
      rw [if_neg c, show ((Txt.join " " (wdsP ps)).length != 0) = true from by simp; omega]; rfl
/-! _law_text -/
theorem lt_lv8 (Φ : Calls) (A : D) (W : List Str) (i : Int) (hl : W.length ≤ 1000000) (h1 : -(10 ^ 31) < i) (h2 : i < 10 ^ 31) :
    (bnd (asgn Φ lt9_0 (.int i)) fun _ => execs Φ lb9_0) (sP A W .un) = .ok .nx (sP A (W ++ [Str.ofString (toString i)]) .un) := by
  rw [show sP A (W ++ [Str.ofString (toString i)]) .un = [.fz A, .ls .own (W.map D.str ++ [.str (Str.ofString (toString i))]), .un] from by unfold sP; rw [List.map_append]; rfl]
  exact bd (ρ1 := [.fz A, .ls .own (W.map D.str), .fz (.int i)]) rfl (sq (x_app (d := .str (Str.ofString (toString i))) (e_ite true (x := .fz (.bl true)) rfl rfl rfl (e_bi1 (v := .fz (.int i)) rfl rfl (str1_int h1 h2))) (by rw [List.length_map, sz_lt]; omega)) (sq_end x_wip))
theorem lt_pr8 (Φ : Calls) (A q : D) (W : List Str) (t : Int) {n : Nat} {s : Str} (hs : Tx n s) (hn : n ≤ 1000000) (e : Φ 9 [.fz q] = some (.fz (.str s), [.fz q])) (hl : W.length ≤ 1000000) (h1 : -(10 ^ 31) < t) (h2 : t < 10 ^ 31) :
    (bnd (asgn Φ lt9_0 (.tup [q, .int t])) fun _ => execs Φ lb9_0) (sP A W .un) = .ok .nx (sP A (W ++ [prT s t]) .un) := by
  rw [show sP A (W ++ [prT s t]) .un = [.fz A, .ls .own (W.map D.str ++ [.str (prT s t)]), .un] from by unfold sP; rw [List.map_append]; rfl]
  have l1 := hs.len
  have a1 : binD .add (.str "(") (.str s) = some (.fz (.str (("(" : Str) ++ s))) := str_add (by show 1 + s.length ≤ _; omega)
  have a2 : binD .add (.str (("(" : Str) ++ s)) (.str ")x") = some (.fz (.str ((("(" : Str) ++ s) ++ (")x" : Str)))) := str_add (by rw [Str.length_append]; show 1 + s.length + 2 ≤ _; omega)
  have a3 : binD .add (.str ((("(" : Str) ++ s) ++ (")x" : Str))) (.str (Str.ofString (toString t))) = some (.fz (.str (prT s t))) := str_add (by
    have := (Tx.int h1 h2).len
    rw [Str.length_append, Str.length_append]; show 1 + s.length + 2 + _ ≤ _; omega)
  have c1 : ev Φ (.call 9 [0] (.val (.idx (.var 2) (.cst (.int 0))) (.nil)) .nil) [.fz A, .ls .own (W.map D.str), .fz (.tup [q, .int t])] = .ok (.fz (.str s)) [.fz A, .ls .own (W.map D.str), .fz (.tup [q, .int t])] := e_call1 (x := .fz q) rfl e
  have c2 : ev Φ (.bi .str1 (.cons (.idx (.var 2) (.cst (.int 1))) (.nil))) [.fz A, .ls .own (W.map D.str), .fz (.tup [q, .int t])] = .ok (.fz (.str (Str.ofString (toString t)))) [.fz A, .ls .own (W.map D.str), .fz (.tup [q, .int t])] := e_bi1 (v := .fz (.int t)) rfl rfl (str1_int h1 h2)
  exact bd (ρ1 := [.fz A, .ls .own (W.map D.str), .fz (.tup [q, .int t])]) rfl (sq (x_app (d := .str (prT s t)) (e_ite false (x := .fz (.bl false)) rfl rfl rfl (e_bin (e_bin (e_bin (x := .fz (.str "(")) rfl c1 rfl rfl a1) rfl (y := .fz (.str ")x")) rfl rfl a2) c2 rfl rfl a3)) (by rw [List.length_map, sz_lt]; omega)) (sq_end x_wip))
theorem strs_ne8 {W : List Str} (hW : ∀ w ∈ W, ∀ c ∈ w.cps.toList, c < 0x110000) : cmpD .ne (.lst (W.map D.str)) (.lst []) = some (!decide (W = [])) := by
  have s1 : Shp 1 (.lst (W.map D.str)) := Shp.lst (h := 0) fun d hd => by
    obtain ⟨w, hw, rfl⟩ := List.mem_map.mp hd
    refine ⟨rfl, ?_, Nat.le_refl _⟩
    show w.cps.all (fun c => decide (c < 0x110000)) = true
    rw [← Array.all_toList]
    exact List.all_eq_true.mpr fun c hc => decide_eq_true (hW w hw c hc)
  have s2 : Shp 1 (.lst []) := Shp.lst (h := 0) fun d hd => nomatch hd
  rw [cmp_neqv (s1.ok (by decide)) (s2.ok (by decide))]
  cases W with
  | nil => rfl
  | cons w W => rfl
theorem ok_ltxE {n M : Int} (n2 : n ≤ 12) (hM : M ≤ 1000000000000000000000000000000) : ∀ (d k : Nat) (ps : List Pt), dpPs ps ≤ d → OkPs n M ps → szPs ps ≤ 1000 → callN tbl (k + d) 9 [.fz (.tup (dPs ps))] = some (.fz (.str (txP ps)), [.fz (.tup (dPs ps))])
  | 0, k, ps, h, _, _ => by have := dpPs_pos ps; omega
  | d + 1, k, ps, h, ok, hz => by
    have el := for_nx (Φ := callN tbl (k + d)) (t := lt9_0) (it := .val (.var 0)) (b := lb9_0) (ρ := sP (.tup (dPs ps)) [] .un) (ρ1 := sP (.tup (dPs ps)) [] .un) dP ps (fun done => sP (.tup (dPs ps)) (wdsP done) .un) (i_val (x := .fz (.tup (dPs ps))) rfl rfl (by rw [dPs_map]; rfl)) (by rw [wdsP]) fun done p rest hp => by
      have hmem : p ∈ ps := mem_split hp
      have b1 := len_sz ps
      have b2 : done.length ≤ ps.length := by rw [hp, List.length_append]; omega
      have b3 : (wdsP done).length ≤ 1000000 := by rw [wdsP_map, List.length_map]; omega
      rw [wdsP_app, wdsP_one]
      cases p with
      | lv i =>
        have := ok_lv (ok _ hmem)
        rw [wdP_lv, dP]
        exact lt_lv8 (callN tbl (k + d)) _ (wdsP done) i b3 (by omega) (by omega)
      | pr qs t =>
        obtain ⟨o, ht1, ht2⟩ := ok_sub (ok _ hmem)
        have d1 := dp_mem hmem
        rw [dpP_pr] at d1
        have z1 := sz_mem hmem
        rw [szP_pr] at z1
        have e := ok_ltxE n2 hM d k qs (by omega) o (by omega)
        have hs := (tx_b n2 hM _ qs (Nat.le_refl _) o).2.2
        rw [wdP_pr, dP]
        exact lt_pr8 (callN tbl (k + d)) _ _ (wdsP done) t hs (by omega) e b3 (by omega) (by omega)
    obtain ⟨jj, jp, jl⟩ := join_ok8 n2 hM ok hz
    obtain ⟨tb, _, _⟩ := tx_b n2 hM _ ps (Nat.le_refl _) ok
    have ej : ev (callN tbl (k + d)) (.bi .join (.cons (.cst (.str " ")) (.cons (.var 1) .nil))) (sP (.tup (dPs ps)) (wdsP ps) .un) = .ok (.fz (.str (Txt.join " " (wdsP ps)))) (sP (.tup (dPs ps)) (wdsP ps) .un) := e_bi2 (x := .fz (.str " ")) (y := .rf 1) rfl rfl rfl rfl jj
    have ec : ev (callN tbl (k + d)) (.cmp .ne (.var 1) (.lst .nil)) (sP (.tup (dPs ps)) (wdsP ps) .un) = .ok (.fz (.bl (!decide (wdsP ps = [])))) (sP (.tup (dPs ps)) (wdsP ps) .un) := e_cmp (x := .rf 1) (y := .fr []) rfl rfl rfl rfl (strs_ne8 fun w hw => by
      rw [wdsP_map] at hw
      obtain ⟨p, hp, rfl⟩ := List.mem_map.mp hw
      exact (tb p hp).ok)
    refine call_fz ⟨1, 3, ir9⟩ (ρ' := sP (.tup (dPs ps)) (wdsP ps) .un) (sq (x_asgL (ρ1 := [.fz (.tup (dPs ps)), .un, .un]) e_nil) (sq el (sq_rt (x_ret ?_))))
    unfold txP tjW
    by_cases c : wdsP ps = []
    · rw [decide_eq_true c] at ec
      rw [if_pos c]
      exact e_ite false ec rfl rfl rfl
    · rw [decide_eq_false c] at ec
      rw [if_neg c]
      exact e_ite true ec rfl rfl ej
end Q_bandlinks_k07_logs_are_formatted
namespace Q_bandlinks_k07_logs_are_formatted
open PySem L2 DL
/-! parts that are written by hand, judged by a run -/
mutual
def prP : Nat → Int → D → Option (Nat × Nat)
  | 0, _, _ => none
  | _ + 1, n, .int i => if 1 ≤ i ∧ i ≤ n then some (1, 1) else none
  | f + 1, n, .tup [.tup xs, .int t] => if 1 ≤ t ∧ t ≤ 1000000000000000000000000000000 then (prPs f n xs).map fun z => (z.1 + 1, z.2 + 1) else none
  | _ + 1, _, _ => none
def prPs : Nat → Int → List D → Option (Nat × Nat)
  | 0, _, _ => none
  | _ + 1, _, [] => some (0, 1)
  | f + 1, n, x :: xs => match prP f n x, prPs f n xs with
    | some a, some b => some (a.1 + b.1, max a.2 b.2)
    | _, _ => none
end
theorem prP_sp {f : Nat} {n : Int} {d : D} {z : Nat × Nat} (h : prP (f + 1) n d = some z) : (∃ i, d = .int i ∧ (1 ≤ i ∧ i ≤ n) ∧ z = (1, 1)) ∨ ∃ xs t w, d = .tup [.tup xs, .int t] ∧ (1 ≤ t ∧ t ≤ 1000000000000000000000000000000) ∧ prPs f n xs = some w ∧ z = (w.1 + 1, w.2 + 1) := by
  match d, h with
  | .int i, h =>
    rw [prP] at h
    split at h
    · rename_i c
      cases h
      exact .inl ⟨_, rfl, c, rfl⟩
    · cases h
  | .non, h => rw [prP] at h <;> first | (cases h; done) | (intros; contradiction) | (intros; rename_i e; cases e; done)
  | .bl _, h => rw [prP] at h <;> first | (cases h; done) | (intros; contradiction) | (intros; rename_i e; cases e; done)
  | .str _, h => rw [prP] at h <;> first | (cases h; done) | (intros; contradiction) | (intros; rename_i e; cases e; done)
  | .lst _, h => rw [prP] at h <;> first | (cases h; done) | (intros; contradiction) | (intros; rename_i e; cases e; done)
  | .scr _, h => rw [prP] at h <;> first | (cases h; done) | (intros; contradiction) | (intros; rename_i e; cases e; done)
  | .obj _ _, h => rw [prP] at h <;> first | (cases h; done) | (intros; contradiction) | (intros; rename_i e; cases e; done)
  | .emp, h => rw [prP] at h <;> first | (cases h; done) | (intros; contradiction) | (intros; rename_i e; cases e; done)
  | .tup [], h => rw [prP] at h <;> first | (cases h; done) | (intros; contradiction) | (intros; rename_i e; cases e; done)
  | .tup [_], h => rw [prP] at h <;> first | (cases h; done) | (intros; contradiction) | (intros; rename_i e; cases e; done)
  | .tup (_ :: _ :: _ :: _), h => rw [prP] at h <;> first | (cases h; done) | (intros; contradiction) | (intros; rename_i e; cases e; done)
  | .tup [a, b], h =>
    cases a <;> cases b <;> first | (rw [prP] at h <;> first | (cases h; done) | (intros; contradiction) | (intros; rename_i e; cases e; done) | skip) | skip
    rename_i xs t
    split at h
    · rename_i c
      cases q : prPs f n xs with
      | none => rw [q] at h; cases h
      | some w =>
        rw [q] at h
        cases h
        exact .inr ⟨xs, t, w, rfl, c, q, rfl⟩
    · cases h
theorem prPs_sp {f : Nat} {n : Int} {ds : List D} {z : Nat × Nat} (h : prPs (f + 1) n ds = some z) : (ds = [] ∧ z = (0, 1)) ∨ ∃ x xs a b, ds = x :: xs ∧ prP f n x = some a ∧ prPs f n xs = some b ∧ z = (a.1 + b.1, max a.2 b.2) := by
  cases ds with
  | nil =>
    rw [prPs] at h
    cases h
    exact .inl ⟨rfl, rfl⟩
  | cons x xs =>
    rw [prPs] at h
    cases q : prP f n x with
    | none => rw [q] at h; cases h
    | some a =>
      cases r : prPs f n xs with
      | none => rw [q, r] at h; cases h
      | some b =>
        rw [q, r] at h
        cases h
        exact .inr ⟨x, xs, a, b, rfl, q, r, rfl⟩
def gpB (n : Nat) (ds : List D) : Bool := decide (1 ≤ n) && decide (n ≤ 12) && match prPs 300 (n : Int) ds with
  | some z => decide (z.1 ≤ 120) && decide (z.2 ≤ 5)
  | none => false
end Q_bandlinks_k07_logs_are_formatted
namespace Q_bandlinks_k07_logs_are_formatted
open PySem L2 DL
/-! .. and their texts -/
mutual
def txV : Nat → D → Str
  | 0, _ => ""
  | _ + 1, .int i => Str.ofString (toString i)
  | f + 1, .tup [.tup xs, .int t] => prT (tjW (txVs f xs)) t
  | _ + 1, _ => ""
def txVs : Nat → List D → List Str
  | 0, _ => []
  | _ + 1, [] => []
  | f + 1, x :: xs => txV f x :: txVs f xs
end
theorem prT_ok (n : Int) : ∀ f : Nat, (∀ d z, prP f n d = some z → ∃ p, dP p = d ∧ OkP n 1000000000000000000000000000000 p ∧ szP p = z.1 ∧ dpP p = z.2 ∧ wdP p = txV f d) ∧ ∀ ds z, prPs f n ds = some z → ∃ ps, dPs ps = ds ∧ OkPs n 1000000000000000000000000000000 ps ∧ szPs ps = z.1 ∧ dpPs ps = z.2 ∧ wdsP ps = txVs f ds := by
  intro f
  induction f with
  | zero =>
    refine ⟨fun d z h => ?_, fun d z h => ?_⟩
    · rw [prP] at h; cases h
    · rw [prPs] at h; cases h
  | succ f ih =>
    obtain ⟨i1, i2⟩ := ih
    refine ⟨fun d z h => ?_, fun ds z h => ?_⟩
    · rcases prP_sp h with ⟨i, rfl, c, rfl⟩ | ⟨xs, t, w, rfl, c, q, rfl⟩
      · exact ⟨.lv i, by rw [dP], .lv c.1 c.2, szP_lv _, dpP_lv _, by rw [wdP_lv, txV]⟩
      · obtain ⟨ps, e1, e2, e3, e4, e5⟩ := i2 xs w q
        refine ⟨.pr ps t, by rw [dP, e1], .pr e2 c.1 c.2, by rw [szP_pr, e3]; exact Nat.add_comm 1 w.1, by rw [dpP_pr, e4], ?_⟩
        rw [wdP_pr, txV, ← e5]; rfl
    · rcases prPs_sp h with ⟨rfl, rfl⟩ | ⟨x, xs, a, b, rfl, q, r, rfl⟩
      · exact ⟨[], by rw [dPs_map]; rfl, (fun _ h => nomatch h), rfl, rfl, by rw [wdsP, txVs]⟩
      · obtain ⟨p, a1, a2, a3, a4, a5⟩ := i1 x a q
        obtain ⟨ps, b1, b2, b3, b4, b5⟩ := i2 xs b r
        exact ⟨p :: ps, by rw [dPs_map, List.map_cons, a1, ← b1, dPs_map], (fun y hy => (List.mem_cons.mp hy).elim (fun e => e ▸ a2) (b2 y)), by rw [szPs_cons, a3, b3], by rw [dpPs_cons, a4, b4], by rw [wdsP, txVs, a5, b5]⟩
def txL (ds : List D) : Str := tjW (txVs 300 ds)
/-! a law's parts -/
structure Gp (n : Nat) (ps : List Pt) : Prop where
  n1 : 1 ≤ n
  n2 : n ≤ 12
  ok : OkPs (n : Int) 1000000000000000000000000000000 ps
  sz : szPs ps ≤ 120
  dp : dpPs ps ≤ 5
theorem gp_tx {n : Nat} {ds : List D} (h : gpB n ds = true) : ∃ ps, dPs ps = ds ∧ Gp n ps ∧ txP ps = txL ds := by
  unfold gpB at h
  rw [Bool.and_eq_true, Bool.and_eq_true, decide_eq_true_iff, decide_eq_true_iff] at h
  obtain ⟨⟨h1, h2⟩, h3⟩ := h
  cases q : prPs 300 (n : Int) ds with
  | none => rw [q] at h3; cases h3
  | some z =>
    rw [q] at h3
    have h3 : (decide (z.1 ≤ 120) && decide (z.2 ≤ 5)) = true := h3
    rw [Bool.and_eq_true, decide_eq_true_iff, decide_eq_true_iff] at h3
    obtain ⟨ps, e1, e2, e3, e4, e5⟩ := (prT_ok (n : Int) 300).2 ds z q
    exact ⟨ps, e1, ⟨h1, h2, e2, by rw [e3]; exact h3.1, by rw [e4]; exact h3.2⟩, by unfold txP txL; rw [e5]⟩
end Q_bandlinks_k07_logs_are_formatted
namespace Q_bandlinks_k07_logs_are_formatted
open PySem L2 DL
/-! Log.__str__, Log.__repr__ -/
theorem ok_lrpr {n M : Int} (n2 : n ≤ 12) (hM : M ≤ 1000000000000000000000000000000) (k : Nat) {m : Int} (m1 : 0 ≤ m) (m2 : m ≤ 12) {ps : List Pt} (ok : OkPs n M ps) (hz : szPs ps ≤ 120) (hd : dpPs ps ≤ 5) : ∃ s, Tx 5000 s ∧ callN tbl (k + 6) 16 [.fz (.obj 0 [.int m, .tup (dPs ps)])] = some (.fz (.str s), [.fz (.obj 0 [.int m, .tup (dPs ps)])]) := by
  obtain ⟨s, hs, e⟩ := ok_ptx n2 hM 5 k ps hd ok (by omega)
  have hs := hs.mono (show 40 * szPs ps + 1 ≤ 4801 by omega)
  have ti := Tx.int (i := m) (by omega) (by omega)
  have t0 : Tx 0 Str.empty := ⟨by decide, by decide⟩
  have t1 : Tx 4 ("Log(" : Str) := ⟨by decide, by decide⟩
  have t2 : Tx 3 (", '" : Str) := ⟨by decide, by decide⟩
  have t3 : Tx 2 ("')" : Str) := ⟨by decide, by decide⟩
  have a1 := t0.app t1
  have a2 := a1.app ti
  have a3 := a2.app t2
  have a4 := a3.app hs
  have a5 := a4.app t3
  refine ⟨((((Str.empty ++ ("Log(" : Str)) ++ Str.ofString (toString m)) ++ (", '" : Str)) ++ s) ++ ("')" : Str), a5.mono (by omega), ?_⟩
  have fs : fsD Str.empty [.str "Log(", .int m, .str ", '", .str s, .str "')"] = some (.fz (.str (((((Str.empty ++ ("Log(" : Str)) ++ Str.ofString (toString m)) ++ (", '" : Str)) ++ s) ++ ("')" : Str)))) := by
    show (if _ ∧ _ then (if _ ∧ _ then (if _ ∧ _ then (if _ ∧ _ then (if _ ∧ _ then _ else none) else none) else none) else none) else none) = _
    rw [if_pos ⟨Nat.le_trans t1.len (by omega), Nat.le_trans a1.len (by omega)⟩, if_pos ⟨Nat.lt_trans (log2_31 (by omega)) (by decide), Nat.le_trans a2.len (by omega)⟩, if_pos ⟨Nat.le_trans t2.len (by omega), Nat.le_trans a3.len (by omega)⟩, if_pos ⟨Nat.le_trans hs.len (by omega), Nat.le_trans a4.len (by omega)⟩, if_pos ⟨Nat.le_trans t3.len (by omega), Nat.le_trans a5.len (by omega)⟩]
    rfl
  have c : ev (callN tbl (k + 5)) (.call 20 [0] (.val (.fld (.var 0) [(0, 1)]) (.nil)) .nil) [.fz (.obj 0 [.int m, .tup (dPs ps)])] = .ok (.fz (.str s)) [.fz (.obj 0 [.int m, .tup (dPs ps)])] := e_call1 (x := .fz (.tup (dPs ps))) rfl e
  exact call_fz ⟨1, 1, ir16⟩ (sq_rt (x_ret (e_biN (er_cons (x := .fz (.str "Log(")) rfl (er_cons (x := .fz (.int m)) rfl (er_cons (x := .fz (.str ", '")) rfl (er_cons c (er_cons (x := .fz (.str "')")) rfl er_nil))))) rfl fs)))
/-! Log, format_log, is_log on values; texts of what holds a log -/
theorem as28 {Φ : Calls} {ρ : Ev} {e e2 : E} {d d2 : D} (h : ev Φ e ρ = .ok (.fz d) ρ) (h2 : ev Φ e2 ρ = .ok (.fz d2) ρ) : evas Φ (.val e (.val e2 .nil)) ρ = .ok [.val d, .val d2] ρ := by
  simp [h, h2]
theorem as18 {Φ : Calls} {ρ : Ev} {e : E} {d : D} (h : ev Φ e ρ = .ok (.fz d) ρ) : evas Φ (.val e .nil) ρ = .ok [.val d] ρ := by
  simp [h]
theorem Gp.tx {n : Nat} {ps : List Pt} (g : Gp n ps) : Tx 5000 (txP ps) := by
  have n2 := g.n2
  have sz := g.sz
  exact (tx_b (n := (n : Int)) (by omega) (Int.le_refl _) _ ps (Nat.le_refl _) g.ok).2.2.mono (by omega)
theorem mk7 (k : Nat) {n : Nat} {ps : List Pt} (g : Gp n ps) {ρ : Ev} {a b : E} (ha : ev (callN tbl (k + 14)) a ρ = .ok (.fz (.int (n : Int))) ρ) (hb : ev (callN tbl (k + 14)) b ρ = .ok (.fz (.tup (dPs ps))) ρ) : ev (callN tbl (k + 14)) (.make 0 11 [0, 1] (.val a (.val b (.nil))) (.val (.cst (.tup [])) (.nil))) ρ = .ok (.fz (lg n ps)) ρ := by
  have n1 := g.n1
  have n2 := g.n2
  obtain ⟨ss, i⟩ := ok_init (n := (n : Int)) (Int.le_refl _) k (by omega) (by omega) g.ok g.sz g.dp
  exact e_makeK (al := [.val (.int (n : Int)), .val (.tup (dPs ps))]) (kl := [.val (.tup [])]) (ds := [.int (n : Int), .tup (dPs ps)]) (as28 ha hb) (as18 rfl) rfl i
theorem ok_fmt (k : Nat) {n : Nat} {ps : List Pt} (g : Gp n ps) : callN tbl (k + 6) 12 [.fz (lg n ps)] = some (.fz (.str (txP ps)), [.fz (lg n ps)]) := by
  have n2 := g.n2
  have sz := g.sz
  have e1 := ok_chkLog (k + 3) [.int (n : Int), .tup (dPs ps)]
  have e2 := ok_ptxE (n := (n : Int)) (by omega) (Int.le_refl _) 5 k ps g.dp g.ok (by omega)
  have S1 : exec (callN tbl (k + 5)) (.ex (.xc (.call 19 [0] (.val (.var 0) (.nil)) .nil))) [.fz (lg n ps)] = .ok .nx [.fz (lg n ps)] := x_ex (ev_xc (e_call1 (x := .fz (lg n ps)) rfl e1))
  have c2 : ev (callN tbl (k + 5)) (.call 20 [0] (.val (.fld (.var 0) [(0, 1)]) (.nil)) .nil) [.fz (lg n ps)] = .ok (.fz (.str (txP ps))) [.fz (lg n ps)] := e_call1 (x := .fz (.tup (dPs ps))) rfl e2
  exact call_fz ⟨1, 1, ir12⟩ (sq S1 (sq_rt (x_ret c2)))
theorem ok_str7 (k : Nat) {n : Nat} {ps : List Pt} (g : Gp n ps) : callN tbl (k + 6) 13 [.fz (lg n ps)] = some (.fz (.str (txP ps)), [.fz (lg n ps)]) := by
  have n2 := g.n2
  have sz := g.sz
  have e2 := ok_ptxE (n := (n : Int)) (by omega) (Int.le_refl _) 5 k ps g.dp g.ok (by omega)
  exact call_fz ⟨1, 1, ir13⟩ (sq_rt (x_ret (e_bi1 (e_call1 (x := .fz (.tup (dPs ps))) rfl e2) rfl rfl)))
theorem isl7 (Φ : Calls) (d : D) (h : isO d = false) : execs Φ ir23 [.fz d] = .ok (.rt (.fz (.bl false))) [.fz d] := by
  cases d with
  | obj c xs => cases h
  | _ => rfl
theorem ok_fmtX7 (k : Nat) {d : D} (h : isO d = false) : ErL (callN tbl (k + 3)) 12 [.fz d] 16 [d] :=
  have e : ErL (callN tbl (k + 2)) 19 [.fz d] 16 [d] := erL_of ⟨1, 1, ir19⟩ (rssL_if true (e_not (e_call1 (x := .fz d) rfl (call_fz ⟨1, 1, ir23⟩ (isl7 _ d h))) rfl rfl) (rssL_rse (ρ1 := [.fz d]) rfl))
  erL_of ⟨1, 1, ir12⟩ (rssL_ex (Xx.rs (xx_call (ρ1 := [.fz d]) (ρ2 := [.fz d]) (al := [.val d]) (kl := []) (ds := [d]) rfl rfl rfl e)))
/-! what repr shows -/
theorem shP_rq {w h : Nat} {d : D} (s : Rq w h d) (hw : w ≤ 400000) (hh : h ≤ 64) : shP d = some (toPy d).shown := by
  have l : (toPy d).shown.length ≤ sizeLine := by
    have h1 := PyData.shown_le 32 (by decide) (toPy d) s.short
    have h2 : (32 + 2) * (toPy d).weight ≤ 34 * 400000 := Nat.mul_le_mul (by omega) (Nat.le_trans s.wt hw)
    rw [sizeLine_eq]; omega
  unfold shP
  rw [if_pos]
  rw [s.pur, s.show_, decide_eq_true (Nat.le_trans s.ht hh), decide_eq_true l]
  rfl
theorem shT_rq {w h : Nat} {d : D} (s : Rq w h d) (hw : w ≤ 400000) (hh : h ≤ 64) (tx : Nat → List D → Option Str) : shT tx d = some (toPy d).shown := by
  unfold shT
  rw [if_pos s.pur, shP_rq s hw hh]
theorem lt1_len (r : Str) : (listText [r]).length = r.length + 2 := by
  show ((("[" : Str) ++ (("" : String) : Str) ++ r) ++ ("]" : Str)).length = _
  rw [Str.length_append, Str.length_append, Str.length_append]
  show 1 + 0 + r.length + 1 = _
  omega
theorem tt1_len (r : Str) : (tupleText [r]).length = r.length + 3 := by
  show (("(" : Str) ++ r ++ (",)" : Str)).length = _
  rw [Str.length_append, Str.length_append]
  show 1 + r.length + 2 = _
  omega
theorem lt2_len (a r : Str) : (listText [a, r]).length = a.length + r.length + 4 := by
  show (((("[" : Str) ++ (("" : String) : Str) ++ a) ++ ((", " : String) : Str) ++ r) ++ ("]" : Str)).length = _
  rw [Str.length_append, Str.length_append, Str.length_append, Str.length_append, Str.length_append]
  show 1 + 0 + a.length + 2 + r.length + 1 = _
  omega
theorem sh_wd : shP (.str "notalog") = some (toPy (.str "notalog")).shown := shP_rq ((Rq.str (by decide +kernel)).mono (Nat.le_refl _) (Nat.le_refl _)) (by decide) (by decide)
theorem shT_in {tx : Nat → List D → Option Str} {O X : D} {c : Nat} {fs : List D} {r : Str} (hO : O = .obj c fs) (ht : tx c fs = some r) (hr : r.length ≤ 100000) (hX : X = .lst [O] ∨ X = .tup [O]) : ∃ t, shT tx (.lst [.str "notalog", X]) = some t := by
  subst hO
  have e2 : shO tx 2 (.obj c fs) = some r := ht
  have w3 : shO tx 3 (.str "notalog") = some (toPy (.str "notalog")).shown := sh_wd
  have wl : (toPy (.str "notalog")).shown.length ≤ 100 := by decide +kernel
  rcases hX with rfl | rfl
  · have e3 : shO tx 3 (.lst [.obj c fs]) = some (listText [r]) := by
      show ((([D.obj c fs] : List D).mapM (shO tx 2)).bind fun ts => if (listText ts).length ≤ sizeLine then some (listText ts) else none) = _
      rw [List.mapM_cons, e2]
      show (if (listText [r]).length ≤ sizeLine then some (listText [r]) else none) = _
      exact if_pos (by rw [lt1_len, sizeLine_eq]; omega)
    refine ⟨listText [(toPy (.str "notalog")).shown, listText [r]], ?_⟩
    show ((([D.str "notalog", .lst [.obj c fs]] : List D).mapM (shO tx 3)).bind fun ts => if (listText ts).length ≤ sizeLine then some (listText ts) else none) = _
    rw [List.mapM_cons, w3, List.mapM_cons, e3]
    show (if (listText [(toPy (.str "notalog")).shown, listText [r]]).length ≤ sizeLine then some (listText [(toPy (.str "notalog")).shown, listText [r]]) else none) = _
    exact if_pos (by rw [lt2_len, lt1_len, sizeLine_eq]; omega)
  · have e3 : shO tx 3 (.tup [.obj c fs]) = some (tupleText [r]) := by
      show ((([D.obj c fs] : List D).mapM (shO tx 2)).bind fun ts => if (tupleText ts).length ≤ sizeLine then some (tupleText ts) else none) = _
      rw [List.mapM_cons, e2]
      show (if (tupleText [r]).length ≤ sizeLine then some (tupleText [r]) else none) = _
      exact if_pos (by rw [tt1_len, sizeLine_eq]; omega)
    refine ⟨listText [(toPy (.str "notalog")).shown, tupleText [r]], ?_⟩
    show ((([D.str "notalog", .tup [.obj c fs]] : List D).mapM (shO tx 3)).bind fun ts => if (listText ts).length ≤ sizeLine then some (listText ts) else none) = _
    rw [List.mapM_cons, w3, List.mapM_cons, e3]
    show (if (listText [(toPy (.str "notalog")).shown, tupleText [r]]).length ≤ sizeLine then some (listText [(toPy (.str "notalog")).shown, tupleText [r]]) else none) = _
    exact if_pos (by rw [lt2_len, tt1_len, sizeLine_eq]; omega)
theorem e_rpr {Φ : Calls} {ρ ρ1 : Ev} {e : E} {ms : List (Nat × Nat)} {x : R} {d : D} {t : Str} (he : ev Φ e ρ = .ok x ρ1) (h1 : view ρ1 x = some d) (h : shT (txO Φ ms) d = some t) : ev Φ (.rpr ms e) ρ = .ok (.fz (.str t)) ρ1 := by
  rw [show ev Φ (.rpr ms e) ρ = _ from by rw [ev]]
  show (ev Φ e ρ).then _ = _
  rw [he]
  show (vw x ρ1).then _ = _
  rw [show vw x ρ1 = .ok d ρ1 from by unfold vw; rw [h1]]
  show (ofO (shT (txO Φ ms) d) ρ1).then _ = _
  rw [h]; rfl
end Q_bandlinks_k07_logs_are_formatted
namespace Q_bandlinks_k07_logs_are_formatted
open PySem L2 DL
/-! _law_one_right, _law_others_right -/
theorem rq_p7 {n : Nat} {ps : List Pt} (g : Gp n ps) : Rq 28800 11 (.tup (dPs ps)) := by
  have n2 := g.n2
  have sz := g.sz
  have dp := g.dp
  exact (rq_parts (n := (n : Int)) (by omega) (Int.le_refl _) g.ok).mono (by omega) (by omega)
abbrev sO7 (n : Nat) (ps : List Pt) (s3 s4 : Sl) : Ev := [.fz (.int (n : Int)), .fz (.tup (dPs ps)), .fz (.str (txP ps)), s3, s4]
theorem one_s7 (Φ : Calls) (n : Nat) (ps : List Pt) : (bnd (asgn Φ lt5_0 (.str (txP ps))) fun _ => execs Φ lb5_0) (sO7 n ps (.fz (lg n ps)) .un) = .ok .nx (sO7 n ps (.fz (lg n ps)) .un) := by
  have c1 : ev Φ (.bi (.isi .str) (.cons (.var 4) .nil)) (sO7 n ps (.fz (lg n ps)) (.fz (.str (txP ps)))) = .ok (.fz (.bl true)) (sO7 n ps (.fz (lg n ps)) (.fz (.str (txP ps)))) := e_bi1 (v := .fz (.str (txP ps))) rfl rfl rfl
  have c2 := e_cmp (Φ := Φ) (ρ := sO7 n ps (.fz (lg n ps)) (.fz (.str (txP ps)))) (a := .var 4) (b := .var 2) (x := .fz (.str (txP ps))) (y := .fz (.str (txP ps))) rfl rfl rfl rfl (str_ne (s := txP ps))
  exact bd (ρ1 := sO7 n ps (.fz (lg n ps)) (.fz (.str (txP ps)))) rfl (sq (x_iff (e_orV (p := false) (q := false) (e_not c1 rfl rfl) c2) rfl) (sq_end x_wip))
theorem ok_one7 (k : Nat) {n : Nat} {ps : List Pt} (g : Gp n ps) : callN tbl (k + 15) 5 [.fz (.int (n : Int)), .fz (.tup (dPs ps)), .fz (.str (txP ps))] = some (.fz (.bl true), [.fz (.int (n : Int)), .fz (.tup (dPs ps)), .fz (.str (txP ps))]) := by
  have f := ok_fmt (k + 8) g
  have f2 := ok_str7 (k + 8) g
  have S1 := x_asgD (i := 3) (mk7 k g (ρ := sO7 n ps .un .un) (a := .var 0) (b := .var 1) rfl rfl)
  have el : ev (callN tbl (k + 14)) (.lst (.cons (.call 12 [0] (.val (.var 3) (.nil)) .nil) (.cons (.call 12 [0] .nil (.val (.var 3) (.nil))) (.cons (.meth (.var 3) [(0, 13)] [0] .nil .nil) (.cons (.call 12 [0] (.val (.var 3) (.nil)) .nil) (.nil)))))) (sO7 n ps (.fz (lg n ps)) .un) = .ok (.fr [.str (txP ps), .str (txP ps), .str (txP ps), .str (txP ps)]) (sO7 n ps (.fz (lg n ps)) .un) :=
    e_lst (es_cons (e_call1 (x := .fz (lg n ps)) rfl f) (es_cons (e_call1x (d := lg n ps) rfl f) (es_cons (e_meth0 (ms := [(0, 13)]) (fi := 13) (c := 0) (xs := [.int (n : Int), .tup (dPs ps)]) rfl f2) (es_cons (e_call1 (x := .fz (lg n ps)) rfl f) es_nil))))
  have L := for_nx (Φ := callN tbl (k + 14)) (t := lt5_0) (b := lb5_0) (fun _ : Unit => D.str (txP ps)) [(), (), (), ()] (fun _ => sO7 n ps (.fz (lg n ps)) .un) (i_val el rfl rfl) rfl fun done d rest hd => one_s7 (callN tbl (k + 14)) n ps
  have rr := rp_ok (rq_p7 g) (by decide) (by decide)
  have w1 := e_cmp (Φ := callN tbl (k + 14)) (ρ := sO7 n ps (.fz (lg n ps)) .un) (e_bi1 (b := .repr) (a := .fld (.var 3) [(0, 1)]) (v := .fz (.tup (dPs ps))) rfl rfl rr) (e_bi1 (b := .repr) (a := .var 1) (v := .fz (.tup (dPs ps))) rfl rfl rr) rfl rfl (str_eq)
  have w2 : ev (callN tbl (k + 14)) (.cmp .eq (.fld (.var 3) [(0, 0)]) (.var 0)) (sO7 n ps (.fz (lg n ps)) .un) = .ok (.fz (.bl true)) (sO7 n ps (.fz (lg n ps)) .un) := e_cmp (x := .fz (.int (n : Int))) (y := .fz (.int (n : Int))) rfl rfl rfl rfl (congrArg some (decide_eq_true rfl))
  exact call_fz ⟨3, 5, ir5⟩ (sq S1 (sq L (sq_rt (x_ret (e_andV (p := true) (q := true) w1 w2)))))
abbrev sW7 (n : Nat) (P T : D) (O : D) (s4 s5 : Sl) : Ev := [.fz (.int (n : Int)), .fz P, .fz T, .fz O, s4, s5]
theorem ot_s7 (Φ : Calls) (n : Nat) (P T O d : D) (s4 : Sl) {t : Str} (e : ErL Φ 12 [.fz d] 16 [d]) (ht : shT (txO Φ [(0, 16)]) (.lst [.str "notalog", d]) = some t) :
    (bnd (asgn Φ lt10_0 d) fun _ => execs Φ lb10_0) (sW7 n P T O s4 .un) = .ok .nx (sW7 n P T O s4 .un) := by
  have c1 : ev Φ (.caught CS (.xc (.call 12 [0] (.val (.var 5) (.nil)) .nil))) (sW7 n P T O s4 (.fz d)) = .ok (.fr [.str "notalog", d]) (sW7 n P T O s4 (.fz d)) := e_cauL (cs := CS) (c := 16) (fs := [d]) (xx_call (ρ1 := sW7 n P T O s4 (.fz d)) (ρ2 := sW7 n P T O s4 (.fz d)) (al := [.val d]) (kl := []) (ds := [d]) rfl rfl rfl e) (by decide) rfl
  have c2 : ev Φ (.caught CS (.xc (.call 12 [0] .nil (.val (.var 5) (.nil))))) (sW7 n P T O s4 (.fz d)) = .ok (.fr [.str "notalog", d]) (sW7 n P T O s4 (.fz d)) := e_cauL (cs := CS) (c := 16) (fs := [d]) (xx_call (ρ1 := sW7 n P T O s4 (.fz d)) (ρ2 := sW7 n P T O s4 (.fz d)) (al := []) (kl := [.val d]) (ds := [d]) rfl rfl rfl e) (by decide) rfl
  have c3 : ev Φ (.rpr [(0, 16)] (.lst (.cons (.cst (.str "notalog")) (.cons (.var 5) (.nil))))) (sW7 n P T O s4 (.fz d)) = .ok (.fz (.str t)) (sW7 n P T O s4 (.fz d)) := e_rpr (x := .fr [.str "notalog", d]) (e_lst (es_cons (x := .fz (.str "notalog")) rfl (es_cons (x := .fz d) rfl es_nil))) rfl ht
  have d1 := e_cmp (Φ := Φ) (e_rpr (ms := [(0, 16)]) c1 rfl ht) c3 rfl rfl (str_ne (s := t))
  have d2 := e_cmp (Φ := Φ) (e_rpr (ms := [(0, 16)]) c2 rfl ht) c3 rfl rfl (str_ne (s := t))
  exact bd (ρ1 := sW7 n P T O s4 (.fz d)) rfl (sq (x_iff d1 rfl) (sq (x_iff d2 rfl) (sq_end x_wip)))
def thA (P T : D) : List D := [.non, .int 0, .int 7, .bl true, .str "", .str "-", T, .tup [], P, .lst [], .emp]
def thB (n : Nat) (xs : List D) (O : D) : List D := [.lst [O], .tup [O], .tup [.int (n : Int), .tup xs], .lst xs, .lst [.tup xs]]
theorem rq_w7 {w h : Nat} {d : D} (h1 : Rq w h d) : Rq (2 * (max 1000 w + 1)) (h + 1) (.lst [.str "notalog", d]) := (Rq.lst (n := 2) (w := max 1000 w) (h := h) (ds := [.str "notalog", d]) (Nat.le_refl 2) fun x hx => by
  rcases List.mem_cons.mp hx with rfl | hx
  · exact (Rq.str (x := "notalog") (by decide +kernel)).mono (Nat.le_trans (show _ ≤ 1000 by decide) (Nat.le_max_left _ _)) (Nat.zero_le _)
  · rw [List.mem_singleton] at hx; subst hx; exact h1.mono (Nat.le_max_right _ _) (Nat.le_refl _)).mono (by omega) (Nat.le_refl _)
theorem th_ok7 {n : Nat} {ps : List Pt} (g : Gp n ps) (tx : Nat → List D → Option Str) {r : Str} (ht : tx 0 [.int (n : Int), .tup (dPs ps)] = some r) (hr : r.length ≤ 100000) : ∀ d ∈ thA (.tup (dPs ps)) (.str (txP ps)) ++ thB n (dPs ps) (lg n ps), isO d = false ∧ ∃ t, shT tx (.lst [.str "notalog", d]) = some t := by
  have n2 := g.n2
  have rp := rq_p7 g
  have rt : Rq 5000 0 (.str (txP ps)) := g.tx.rq
  have pu : ∀ {d : D} {w h : Nat}, Rq w h d → w ≤ 100000 → h ≤ 60 → ∃ t, shT tx (.lst [.str "notalog", d]) = some t := fun {d w h} q hw hh => ⟨_, shT_rq (rq_w7 q) (by omega) (by omega) tx⟩
  have nil : Rq 0 1 (.tup []) := (Rq.tup (n := 0) (w := 0) (h := 0) (ds := []) (Nat.le_refl 0) fun x hx => nomatch hx).mono (by decide) (by decide)
  have nil2 : Rq 0 1 (.lst []) := (Rq.lst (n := 0) (w := 0) (h := 0) (ds := []) (Nat.le_refl 0) fun x hx => nomatch hx).mono (by decide) (by decide)
  have rl : Rq 28800 11 (.lst (dPs ps)) := ⟨rp.pur, rp.show_, rp.short, rp.ht, rp.wt⟩
  intro d hd
  simp only [thA, thB, List.cons_append, List.nil_append, List.mem_cons, List.not_mem_nil, or_false] at hd
  rcases hd with rfl | rfl | rfl | rfl | rfl | rfl | rfl | rfl | rfl | rfl | rfl | rfl | rfl | rfl | rfl | rfl
  · exact ⟨rfl, pu Rq.non (by decide) (by decide)⟩
  · exact ⟨rfl, pu (Rq.int (by decide) (by decide)) (by decide) (by decide)⟩
  · exact ⟨rfl, pu (Rq.int (by decide) (by decide)) (by decide) (by decide)⟩
  · exact ⟨rfl, pu (Rq.bl true) (by decide) (by decide)⟩
  · exact ⟨rfl, pu (Rq.str (by decide +kernel)) (by decide) (by decide)⟩
  · exact ⟨rfl, pu (Rq.str (by decide +kernel)) (by decide) (by decide)⟩
  · exact ⟨rfl, pu rt (by decide) (by decide)⟩
  · exact ⟨rfl, pu nil (by decide) (by decide)⟩
  · exact ⟨rfl, pu rp (by decide) (by decide)⟩
  · exact ⟨rfl, pu nil2 (by decide) (by decide)⟩
  · exact ⟨rfl, pu Rq.emp (by decide) (by decide)⟩
  · exact ⟨rfl, shT_in (O := lg n ps) (c := 0) (fs := [.int (n : Int), .tup (dPs ps)]) rfl ht hr (.inl rfl)⟩
  · exact ⟨rfl, shT_in (O := lg n ps) (c := 0) (fs := [.int (n : Int), .tup (dPs ps)]) rfl ht hr (.inr rfl)⟩
  · refine ⟨rfl, pu (Rq.tup (n := 2) (w := 28800) (h := 11) (ds := [.int (n : Int), .tup (dPs ps)]) (Nat.le_refl 2) fun x hx => ?_) (by decide) (by decide)⟩
    rcases List.mem_cons.mp hx with rfl | hx
    · exact (Rq.int (i := (n : Int)) (by omega) (by omega)).mono (by decide) (by decide)
    · rw [List.mem_singleton] at hx; subst hx; exact rp
  · exact ⟨rfl, pu rl (by decide) (by decide)⟩
  · refine ⟨rfl, pu (Rq.lst (n := 1) (w := 28800) (h := 11) (ds := [.tup (dPs ps)]) (Nat.le_refl 1) fun x hx => ?_) (by decide) (by decide)⟩
    rw [List.mem_singleton] at hx; subst hx; exact rp
theorem txO_one {Φ : Calls} {fi : Nat} {xs : List D} {r : Str} {ss : List Sl} (e : Φ fi [.fz (.obj 0 xs)] = some (.fz (.str r), ss)) : txO Φ [(0, fi)] 0 xs = some r := by
  unfold txO
  show (match Φ fi [.fz (.obj 0 xs)] with | some (.fz (.str t), _) => some t | _ => none) = _
  rw [e]
theorem ok_oth7 (k : Nat) {n : Nat} {ps : List Pt} (g : Gp n ps) : callN tbl (k + 15) 10 [.fz (.int (n : Int)), .fz (.tup (dPs ps)), .fz (.str (txP ps))] = some (.fz (.bl true), [.fz (.int (n : Int)), .fz (.tup (dPs ps)), .fz (.str (txP ps))]) := by
  have n1 := g.n1
  have n2 := g.n2
  obtain ⟨r, hr, er⟩ := ok_lrpr (n := (n : Int)) (by omega) (Int.le_refl _) (k + 8) (m := (n : Int)) (by omega) (by omega) g.ok g.sz g.dp
  have th := th_ok7 g (txO (callN tbl (k + 14)) [(0, 16)]) (txO_one er) (by have := hr.len; omega)
  have hs : (dPs ps).length ≤ 120 := by
    have := len_sz ps
    have := g.sz
    rw [dPs_map, List.length_map]; omega
  have S1 := x_asgD (i := 3) (mk7 k g (ρ := [.fz (.int (n : Int)), .fz (.tup (dPs ps)), .fz (.str (txP ps)), .un, .un, .un]) (a := .var 0) (b := .var 1) rfl rfl)
  have S2 : exec (callN tbl (k + 14)) (.asg (.nm 4) (.lst (.cons (.cst .non) (.cons (.cst (.int 0)) (.cons (.cst (.int 7)) (.cons (.cst (.bl true)) (.cons (.cst (.str "")) (.cons (.cst (.str "-")) (.cons (.var 2) (.cons (.tup (.nil)) (.cons (.var 1) (.cons (.lst (.nil)) (.cons (.cst .emp) (.nil)))))))))))))) (sW7 n (.tup (dPs ps)) (.str (txP ps)) (lg n ps) .un .un) = .ok .nx (sW7 n (.tup (dPs ps)) (.str (txP ps)) (lg n ps) (.ls .own (thA (.tup (dPs ps)) (.str (txP ps)))) .un) :=
    x_asgL (ρ1 := sW7 n (.tup (dPs ps)) (.str (txP ps)) (lg n ps) .un .un) (e_lst (es_cons (x := .fz .non) rfl (es_cons (x := .fz (.int 0)) rfl (es_cons (x := .fz (.int 7)) rfl (es_cons (x := .fz (.bl true)) rfl (es_cons (x := .fz (.str "")) rfl (es_cons (x := .fz (.str "-")) rfl (es_cons (x := .fz (.str (txP ps))) rfl (es_cons (x := .fz (.tup [])) rfl (es_cons (x := .fz (.tup (dPs ps))) rfl (es_cons (x := .fr []) (d := .lst []) rfl (es_cons (x := .fz .emp) rfl es_nil))))))))))))
  have bl : biD .list [.tup (dPs ps)] = some (.fr (dPs ps)) := rfl
  have S3 : exec (callN tbl (k + 14)) (.asg (.nm 4) (.bin .add (.var 4) (.lst (.cons (.lst (.cons (.var 3) (.nil))) (.cons (.tup (.cons (.var 3) (.nil))) (.cons (.tup (.cons (.var 0) (.cons (.var 1) (.nil)))) (.cons (.bi .list (.cons (.var 1) (.nil))) (.cons (.lst (.cons (.var 1) (.nil))) (.nil))))))))) (sW7 n (.tup (dPs ps)) (.str (txP ps)) (lg n ps) (.ls .own (thA (.tup (dPs ps)) (.str (txP ps)))) .un) = .ok .nx (sW7 n (.tup (dPs ps)) (.str (txP ps)) (lg n ps) (.ls .own (thA (.tup (dPs ps)) (.str (txP ps)) ++ thB n (dPs ps) (lg n ps))) .un) :=
    x_asgL (ρ1 := sW7 n (.tup (dPs ps)) (.str (txP ps)) (lg n ps) (.ls .own (thA (.tup (dPs ps)) (.str (txP ps)))) .un) (e_bin (x := .rf 4) (y := .fr (thB n (dPs ps) (lg n ps))) rfl (e_lst (es_cons (x := .fr [lg n ps]) (d := .lst [lg n ps]) rfl (es_cons (x := .fz (.tup [lg n ps])) rfl (es_cons (x := .fz (.tup [.int (n : Int), .tup (dPs ps)])) rfl (es_cons (x := .fr (dPs ps)) (d := .lst (dPs ps)) (e_bi1 (v := .fz (.tup (dPs ps))) rfl rfl bl) (es_cons (x := .fr [.tup (dPs ps)]) (d := .lst [.tup (dPs ps)]) rfl es_nil)))))) rfl rfl (addL (show 11 + 5 ≤ 1000000 by decide)))
  have L := for_nxK (Φ := callN tbl (k + 14)) (t := lt10_0) (b := lb10_0) (i := 4) (k := .own) (ρ := sW7 n (.tup (dPs ps)) (.str (txP ps)) (lg n ps) (.ls .own ((thA (.tup (dPs ps)) (.str (txP ps)) ++ thB n (dPs ps) (lg n ps)).map id)) .un) (ρ2 := sW7 n (.tup (dPs ps)) (.str (txP ps)) (lg n ps) (.ls .own ((thA (.tup (dPs ps)) (.str (txP ps)) ++ thB n (dPs ps) (lg n ps)).map id)) .un) id (thA (.tup (dPs ps)) (.str (txP ps)) ++ thB n (dPs ps) (lg n ps)) (fun _ => sW7 n (.tup (dPs ps)) (.str (txP ps)) (lg n ps) (.ls .lck ((thA (.tup (dPs ps)) (.str (txP ps)) ++ thB n (dPs ps) (lg n ps)).map id)) .un) fun done d rest hp => by
    obtain ⟨h1, t, h2⟩ := th d (by rw [hp]; exact List.mem_append_right _ (List.mem_cons_self ..))
    exact ot_s7 (callN tbl (k + 14)) n _ _ _ d _ (ok_fmtX7 (k + 11) h1) h2
  rw [List.map_id] at L
  exact call_fz ⟨3, 6, ir10⟩ (sq S1 (sq S2 (sq S3 (sq L (sq_rt (x_ret rfl))))))
end Q_bandlinks_k07_logs_are_formatted
namespace Q_bandlinks_k07_logs_are_formatted
open PySem L2 DL
/-! _law_fixed_right, _law_right, law -/
theorem one_of7 (k : Nat) {n : Nat} {ds : List D} {t : Str} (h : gpB n ds = true) (e : txL ds = t) : callN tbl (k + 15) 5 [.fz (.int (n : Int)), .fz (.tup ds), .fz (.str t)] = some (.fz (.bl true), [.fz (.int (n : Int)), .fz (.tup ds), .fz (.str t)]) := by
  obtain ⟨ps, rfl, g, q⟩ := gp_tx h
  rw [← e, ← q]
  exact ok_one7 k g
def dl7 : Nat → List D
  | 0 => [.int 1, .int 12]
  | t + 1 => [.tup [.tup (dl7 t), .int (10 ^ 30 - (t : Int))], .int ((t : Int) + 1)]
def tt7 : Nat → Str
  | 0 => "1 12"
  | t + 1 => ((((("(" : Str) ++ tt7 t) ++ (")x" : Str)) ++ Str.ofString (toString ((10 : Int) ^ 30 - (t : Int)))) ++ (" " : Str)) ++ Str.ofString (toString ((t : Int) + 1))
theorem tjW_two (a b : Str) : tjW [a, b] = (a ++ (" " : Str)) ++ b := by
  unfold tjW
  rw [if_neg (by simp)]
  show PySem.Builtin.Str.glued (" " : Str) [a, b] = _
  rw [PySem.StrLaws.glued_eq_join]
  rfl
theorem txV_int (f : Nat) (i : Int) : txV (f + 1) (.int i) = Str.ofString (toString i) := by rw [txV]
theorem txV_pr (f : Nat) (xs : List D) (t : Int) : txV (f + 1) (.tup [.tup xs, .int t]) = prT (tjW (txVs f xs)) t := by rw [txV]
theorem txVs_two (f : Nat) (x y : D) : txVs (f + 3) [x, y] = [txV (f + 2) x, txV (f + 1) y] := by rw [txVs, txVs, txVs]
theorem st_12 : Str.ofString (toString (12 : Int)) = ("12" : Str) := by decide +kernel
theorem tl7_0 (f : Nat) : tjW (txVs (f + 3) (dl7 0)) = tt7 0 := by
  show tjW (txVs (f + 3) [.int 1, .int 12]) = _
  rw [txVs_two, txV_int, txV_int, tjW_two]
  decide +kernel
theorem tl7 : ∀ (t f : Nat), tjW (txVs (f + 2 * t + 3) (dl7 t)) = tt7 t
  | 0, f => tl7_0 f
  | t + 1, f => by
    have ih := tl7 t f
    show tjW (txVs ((f + 2 * t + 2) + 3) [.tup [.tup (dl7 t), .int (10 ^ 30 - (t : Int))], .int ((t : Int) + 1)]) = _
    rw [txVs_two, txV_int, show f + 2 * t + 2 + 2 = (f + 2 * t + 3) + 1 from by omega, txV_pr, tjW_two, ih]
    rfl
theorem dl7_gp : ∀ t, t < 5 → gpB 12 (dl7 t) = true := by decide +kernel
theorem dl7_ok (t : Nat) (h : t < 5) : gpB 12 (dl7 t) = true ∧ txL (dl7 t) = tt7 t := ⟨dl7_gp t h, by
  have := tl7 t (297 - 2 * t)
  rw [show 297 - 2 * t + 2 * t + 3 = 300 from by omega] at this
  exact this⟩
theorem tx_rep {d : D} {s : Str} {K : Nat} (K1 : 1 ≤ K) (h : ∀ e, txV (e + K) d = s) : ∀ m, txVs (m + K) (List.replicate m d) = List.replicate m s
  | 0 => by
    obtain ⟨q, rfl⟩ : ∃ q, K = q + 1 := ⟨K - 1, by omega⟩
    rw [Nat.zero_add, List.replicate_zero, txVs, List.replicate_zero]
  | m + 1 => by rw [show m + 1 + K = (m + K) + 1 from by omega, List.replicate_succ, txVs, h m, tx_rep K1 h m, List.replicate_succ]
theorem tr_12 : txL (List.replicate 120 (.int 12)) = tjW (List.replicate 120 "12") :=
  congrArg tjW (tx_rep (K := 180) (by decide) (fun e => (txV_int (e + 179) 12).trans st_12) 120)
theorem tr_pr (e : Nat) : txV (e + 180) (.tup [.tup [], .int 1]) = ("(-)x1" : Str) := by
  rw [show e + 180 = (e + 179) + 1 from rfl, txV_pr, show e + 179 = (e + 178) + 1 from rfl, txVs]
  decide +kernel
theorem tr_x1 : txL (List.replicate 120 (.tup [.tup [], .int 1])) = tjW (List.replicate 120 "(-)x1") :=
  congrArg tjW (tx_rep (K := 180) (by decide) tr_pr 120)
abbrev sF7 (t : Nat) (s2 s3 : Sl) : Ev := [.fz (.tup (dl7 t)), .fz (.str (tt7 t)), s2, s3, .un, .un, .un, .un]
theorem fx_par (Φ : Calls) (t : Nat) (h : t = 0 ∨ t = 1 ∨ t = 2 ∨ t = 3) : execs Φ (.cons (.asg (.nm 3) (.bin .sub (.bin .pow (.cst (.int 10)) (.cst (.int 30))) (.var 2))) (.cons (.par 0 1 (.tup (.cons (.tup (.cons (.var 0) (.cons (.var 3) (.nil)))) (.cons (.bin .add (.var 2) (.cst (.int 1))) (.nil)))) (.bin .add (.bin .add (.bin .add (.bin .add (.bin .add (.cst (.str "(")) (.var 1)) (.cst (.str ")x"))) (.bi .str1 (.cons (.var 3) (.nil)))) (.cst (.str " "))) (.bi .str1 (.cons (.bin .add (.var 2) (.cst (.int 1))) (.nil))))) (.cons (.wip [3, 2]) (.nil)))) (sF7 t (.fz (.int (t : Int))) .un) = .ok .nx (sF7 (t + 1) .un .un) := by
  rcases h with rfl | rfl | rfl | rfl
  · kernel_rfl
  · kernel_rfl
  · kernel_rfl
  · kernel_rfl
theorem fx_step7 (Φ : Calls) (t : Nat) (ht : t < 4) (e : Φ 5 [.fz (.int 12), .fz (.tup (dl7 t)), .fz (.str (tt7 t))] = some (.fz (.bl true), [.fz (.int 12), .fz (.tup (dl7 t)), .fz (.str (tt7 t))])) :
    (bnd (asgn Φ lt1_0 (.int (t : Int))) fun _ => execs Φ lb1_0) (sF7 t .un .un) = .ok .nx (sF7 (t + 1) .un .un) := by
  have c : ev Φ (.call 5 [0, 1, 2] (.val (.cst (.int 12)) (.val (.var 0) (.val (.var 1) (.nil)))) .nil) (sF7 t (.fz (.int (t : Int))) .un) = .ok (.fz (.bl true)) (sF7 t (.fz (.int (t : Int))) .un) := e_call3 (x := .fz (.int 12)) (y := .fz (.tup (dl7 t))) (z := .fz (.str (tt7 t))) rfl rfl rfl e
  exact bd (ρ1 := sF7 t (.fz (.int (t : Int))) .un) rfl (sq (x_iff (e_not c rfl rfl) rfl) (fx_par Φ t (by omega)))
def jn7 (s : Str) (n : Nat) : Str := tjW (List.replicate n s)
def fx7 (q : Nat × List D × Str) : D := .tup [.int (q.1 : Int), .tup q.2.1, .str q.2.2]
def fa0 : List (Nat × List D × Str) := [(12, dl7 4, tt7 4), (1, [], "-"), (12, [], "-"), (1, [.int 1], "1")]
def fa1 : List (Nat × List D × Str) := [(12, List.replicate 120 (.int 12), jn7 "12" 120)]
def fa2 : List (Nat × List D × Str) := [(3, List.replicate 120 (.tup [.tup [], .int 1]), jn7 "(-)x1" 120)]
def fa3 : List (Nat × List D × Str) := [(12, [.int 10, .tup [.tup [.tup [.tup [], .int 2], .int 1], .int 1000]], "10 ((-)x2 1)x1000")]
def fa4 : List (Nat × List D × Str) := [(12, [.int 1, .int 2, .int 3, .int 4, .int 5, .int 6, .int 7, .int 8, .int 9, .int 10, .int 11, .int 12], "1 2 3 4 5 6 7 8 9 10 11 12")]
def fa5 : List (Nat × List D × Str) := [(2, [.tup [.tup [.int 2, .int 1], .int (10 ^ 30)]], "(2 1)x1000000000000000000000000000000")]
def fb0 : List (Nat × List D × Str) := [(1, [], "-"), (12, [], "-"), (1, [.int 1], "1")]
theorem fb_ok : (fb0 ++ fa3 ++ fa4).all (fun q => gpB q.1 q.2.1 && decide (txL q.2.1 = q.2.2)) = true := by decide +kernel
theorem fa5_ok : fa5.all (fun q => gpB q.1 q.2.1 && decide (txL q.2.1 = q.2.2)) = true := by decide +kernel
theorem fa1_gp : gpB 12 (List.replicate 120 (.int 12)) = true := by decide +kernel
theorem fa2_gp : gpB 3 (List.replicate 120 (.tup [.tup [], .int 1])) = true := by decide +kernel
theorem fx_ok7 : ∀ q ∈ (((((fa0 ++ fa1) ++ fa2) ++ fa3) ++ fa4) ++ fa5), gpB q.1 q.2.1 = true ∧ txL q.2.1 = q.2.2 := by
  have al : ∀ {L : List (Nat × List D × Str)}, L.all (fun q => gpB q.1 q.2.1 && decide (txL q.2.1 = q.2.2)) = true → ∀ q ∈ L, gpB q.1 q.2.1 = true ∧ txL q.2.1 = q.2.2 := fun h q hq => by
    have := List.all_eq_true.mp h q hq
    rw [Bool.and_eq_true, decide_eq_true_iff] at this
    exact this
  have b := al fb_ok
  intro q hq
  rw [List.mem_append, List.mem_append, List.mem_append, List.mem_append, List.mem_append] at hq
  rcases hq with ((((h | h) | h) | h) | h) | h
  · rcases List.mem_cons.mp h with rfl | h
    · exact dl7_ok 4 (by decide)
    · exact b q (List.mem_append_left _ (List.mem_append_left _ h))
  · rw [fa1, List.mem_singleton] at h
    subst h
    exact ⟨fa1_gp, tr_12⟩
  · rw [fa2, List.mem_singleton] at h
    subst h
    exact ⟨fa2_gp, tr_x1⟩
  · exact b q (List.mem_append_left _ (List.mem_append_right _ h))
  · exact b q (List.mem_append_right _ h)
  · exact al fa5_ok q h
abbrev sG7 (L : List (Nat × List D × Str)) : Ev := [.fz (.tup (dl7 4)), .fz (.str (tt7 4)), .un, .un, .ls .own (L.map fx7), .un, .un, .un]
theorem fx_0 (Φ : Calls) : exec Φ (.asg (.nm 4) (.lst (.cons (.tup (.cons (.cst (.int 12)) (.cons (.var 0) (.cons (.var 1) (.nil))))) (.cons (.tup (.cons (.cst (.int 1)) (.cons (.tup (.nil)) (.cons (.cst (.str "-")) (.nil))))) (.cons (.tup (.cons (.cst (.int 12)) (.cons (.tup (.nil)) (.cons (.cst (.str "-")) (.nil))))) (.cons (.tup (.cons (.cst (.int 1)) (.cons (.tup (.cons (.cst (.int 1)) (.nil))) (.cons (.cst (.str "1")) (.nil))))) (.nil))))))) (sF7 4 .un .un) = .ok .nx (sG7 fa0) :=
  x_asgL (ρ1 := sF7 4 .un .un) (e_lst (es_cons (x := .fz (.tup [.int 12, .tup (dl7 4), .str (tt7 4)])) rfl (es_cons (x := .fz (.tup [.int 1, .tup [], .str "-"])) rfl (es_cons (x := .fz (.tup [.int 12, .tup [], .str "-"])) rfl (es_cons (x := .fz (.tup [.int 1, .tup [.int 1], .str "1"])) rfl es_nil)))))
theorem fx_add (Φ : Calls) (L M : List (Nat × List D × Str)) (e : E) (he : ev Φ e (sG7 L) = .ok (.fr (M.map fx7)) (sG7 L)) (hl : L.length + M.length ≤ 1000000) : exec Φ (.asg (.nm 4) (.bin .add (.var 4) e)) (sG7 L) = .ok .nx (sG7 (L ++ M)) := by
  unfold sG7
  rw [List.map_append]
  exact x_asgL (ρ1 := sG7 L) (e_bin (x := .rf 4) (y := .fr (M.map fx7)) rfl he rfl rfl (addL (by rw [List.length_map, List.length_map]; exact hl)))
theorem fx_1 (Φ : Calls) (L : List (Nat × List D × Str)) : ev Φ (.lst (.cons (.tup (.cons (.cst (.int 12)) (.cons (.bin .mul (.tup (.cons (.cst (.int 12)) (.nil))) (.cst (.int 120))) (.cons (.bi .join (.cons (.cst (.str " ")) (.cons (.bin .mul (.lst (.cons (.cst (.str "12")) (.nil))) (.cst (.int 120))) .nil))) (.nil))))) (.nil))) (sG7 L) = .ok (.fr (fa1.map fx7)) (sG7 L) := by kernel_rfl
theorem fx_2 (Φ : Calls) (L : List (Nat × List D × Str)) : ev Φ (.lst (.cons (.tup (.cons (.cst (.int 3)) (.cons (.bin .mul (.tup (.cons (.tup (.cons (.tup (.nil)) (.cons (.cst (.int 1)) (.nil)))) (.nil))) (.cst (.int 120))) (.cons (.bi .join (.cons (.cst (.str " ")) (.cons (.bin .mul (.lst (.cons (.cst (.str "(-)x1")) (.nil))) (.cst (.int 120))) .nil))) (.nil))))) (.nil))) (sG7 L) = .ok (.fr (fa2.map fx7)) (sG7 L) := by kernel_rfl
theorem fx_3 (Φ : Calls) (L : List (Nat × List D × Str)) : ev Φ (.lst (.cons (.tup (.cons (.cst (.int 12)) (.cons (.tup (.cons (.cst (.int 10)) (.cons (.tup (.cons (.tup (.cons (.tup (.cons (.tup (.nil)) (.cons (.cst (.int 2)) (.nil)))) (.cons (.cst (.int 1)) (.nil)))) (.cons (.cst (.int 1000)) (.nil)))) (.nil)))) (.cons (.cst (.str "10 ((-)x2 1)x1000")) (.nil))))) (.nil))) (sG7 L) = .ok (.fr (fa3.map fx7)) (sG7 L) := rfl
theorem fx_4 (Φ : Calls) (L : List (Nat × List D × Str)) : ev Φ (.lst (.cons (.tup (.cons (.cst (.int 12)) (.cons (.bi .tupRng2 (.cons (.cst (.int 1)) (.cons (.cst (.int 13)) .nil))) (.cons (.cst (.str "1 2 3 4 5 6 7 8 9 10 11 12")) (.nil))))) (.nil))) (sG7 L) = .ok (.fr (fa4.map fx7)) (sG7 L) := by kernel_rfl
theorem fx_5 (Φ : Calls) (L : List (Nat × List D × Str)) : ev Φ (.lst (.cons (.tup (.cons (.cst (.int 2)) (.cons (.tup (.cons (.tup (.cons (.tup (.cons (.cst (.int 2)) (.cons (.cst (.int 1)) (.nil)))) (.cons (.bin .pow (.cst (.int 10)) (.cst (.int 30))) (.nil)))) (.nil))) (.cons (.bin .add (.cst (.str "(2 1)x1")) (.bin .mul (.cst (.str "0")) (.cst (.int 30)))) (.nil))))) (.nil))) (sG7 L) = .ok (.fr (fa5.map fx7)) (sG7 L) := by kernel_rfl
theorem ok_fixed7 (k : Nat) : callN tbl (k + 16) 1 [] = some (.fz (.bl true), []) := by
  have L := for_nx (Φ := callN tbl (k + 15)) (t := lt1_0) (b := lb1_0) (it := .rng1 (.cst (.int 4))) (ρ := sF7 0 .un .un) (ρ1 := sF7 0 .un .un) (fun i : Nat => .int (i : Int)) [0, 1, 2, 3] (fun done => sF7 done.length .un .un) (i_rng1 (q := 4) rfl (by decide)) rfl fun done t rest hp => by
    have ht : done.length = t ∧ t < 4 := by
      match done, hp with
      | [], hp => cases hp; exact ⟨rfl, by decide⟩
      | [_], hp => cases hp; exact ⟨rfl, by decide⟩
      | [_, _], hp => cases hp; exact ⟨rfl, by decide⟩
      | [_, _, _], hp => cases hp; exact ⟨rfl, by decide⟩
      | _ :: _ :: _ :: _ :: d, hp =>
        have := congrArg List.length hp
        simp at this
    obtain ⟨rfl, h4⟩ := ht
    obtain ⟨o1, o2⟩ := dl7_ok done.length (by omega)
    exact (fx_step7 (callN tbl (k + 15)) done.length h4 (one_of7 k o1 o2)).trans (by rw [List.length_append]; rfl)
  have c1 := e_compK (Φ := callN tbl (k + 15)) (own := [5, 6, 7]) (tg := .tp (.cons (.nm 5) (.cons (.nm 6) (.cons (.nm 7) .nil)))) (co := .none) (e := .call 5 [0, 1, 2] (.val (.var 5) (.val (.var 6) (.val (.var 7) (.nil)))) .nil) (i := 4) (k := .own) (ρ := sG7 (((((fa0 ++ fa1) ++ fa2) ++ fa3) ++ fa4) ++ fa5)) (ρL := [.fz (.tup (dl7 4)), .fz (.str (tt7 4)), .un, .un, .ls .lck ((((((fa0 ++ fa1) ++ fa2) ++ fa3) ++ fa4) ++ fa5).map fx7), .un, .un, .un]) fx7 (((((fa0 ++ fa1) ++ fa2) ++ fa3) ++ fa4) ++ fa5) (fun _ => .bl true) (by rw [sz_le]; show 9 ≤ 16777216; decide) fun q hq => by
    have h := fx_ok7 q hq
    exact c_some (ρ' := [.fz (.tup (dl7 4)), .fz (.str (tt7 4)), .un, .un, .ls .lck ((((((fa0 ++ fa1) ++ fa2) ++ fa3) ++ fa4) ++ fa5).map fx7), .fz (.int (q.1 : Int)), .fz (.tup q.2.1), .fz (.str q.2.2)]) rfl (e_call3 (x := .fz (.int (q.1 : Int))) (y := .fz (.tup q.2.1)) (z := .fz (.str q.2.2)) rfl rfl rfl (one_of7 k h.1 h.2))
  exact call_fz ⟨0, 8, ir1⟩ (sq (show exec (callN tbl (k + 15)) _ _ = .ok .nx (sF7 0 .un .un) from rfl) (sq L (sq (fx_0 _) (sq (fx_add _ _ _ _ (fx_1 _ _) (by decide)) (sq (fx_add _ _ _ _ (fx_2 _ _) (by decide)) (sq (fx_add _ _ _ _ (fx_3 _ _) (by decide)) (sq (fx_add _ _ _ _ (fx_4 _ _) (by decide)) (sq (fx_add _ _ _ _ (fx_5 _ _) (by decide)) (sq_rt (x_ret (e_bi1 c1 rfl (all_true _))))))))))))
end Q_bandlinks_k07_logs_are_formatted
namespace Q_bandlinks_k07_logs_are_formatted
open PySem L2 DL
/-! _law_right, law -/
theorem lw7_2 (Φ : Calls) (p p1 p2 p3 : List D) (n r d w : Int) (T : D) (e1 : Φ 8 [.ls .bor p, .fz (.int 3)] = some (.fz (.int w), [.ls .bor p1, .fz (.int 3)])) (h : atI [D.int 8, .int 40, .int 120] w = some (.int r)) (e2 : Φ 8 [.ls .bor p1, .fz (.int 5)] = some (.fz (.int d), [.ls .bor p2, .fz (.int 5)]))
    (e3 : Φ 7 [.ls .bor p2, .fz (.int n), .fz (.int r), .fz (.int (1 + d))] = some (.fz T, [.ls .bor p3, .fz (.int n), .fz (.int r), .fz (.int (1 + d))])) :
    exec Φ (.asg (.nm 2) (.call 7 [0, 1, 2, 3] (.ref (.var 0) (.val (.var 1) (.val (.idx (.lst (.cons (.cst (.int 8)) (.cons (.cst (.int 40)) (.cons (.cst (.int 120)) (.nil))))) (.call 8 [0, 1] (.ref (.var 0) (.val (.cst (.int 3)) (.nil))) .nil)) (.val (.bin .add (.cst (.int 1)) (.call 8 [0, 1] (.ref (.var 0) (.val (.cst (.int 5)) (.nil))) .nil)) (.nil))))) .nil)) [.ls .bor p, .fz (.int n), .un, .un] = .ok .nx [.ls .bor p3, .fz (.int n), .fz T, .un] := by
  simp [e1, e2, e3, h, -x_atI, -x_ixN]
theorem ok_right7 (k : Nat) {xs : List D} (h : Pool xs) : ∃ ys, callN tbl (k + 16) 2 [.ls .bor xs] = some (.fz (.bl true), [.ls .bor ys]) := by
  obtain ⟨r, p1, e1, r1, r2, q1⟩ := ok_height (k + 13) h (n := 12) (by decide) (by decide)
  obtain ⟨n, rfl⟩ : ∃ n : Nat, r = (n : Int) := ⟨r.toNat, by omega⟩
  have n1 : 1 ≤ n := by omega
  have n2 : n ≤ 12 := by omega
  obtain ⟨w, p2, f4, w0, w1, q2⟩ := ok_draw (k + 14) q1 (n := 3) (by decide) (by decide)
  obtain ⟨d, p3, f5, d0, d1, q3⟩ := ok_draw (k + 14) q2 (n := 5) (by decide) (by decide)
  obtain ⟨m, hm, m0, m1⟩ : ∃ m : Int, atI [D.int 8, .int 40, .int 120] w = some (.int m) ∧ 0 ≤ m ∧ m ≤ 120 := by
    have hw : w = 0 ∨ w = 1 ∨ w = 2 := by omega
    rcases hw with rfl | rfl | rfl
    · exact ⟨8, rfl, by decide, by decide⟩
    · exact ⟨40, rfl, by decide, by decide⟩
    · exact ⟨120, rfl, by decide, by decide⟩
  obtain ⟨d, rfl⟩ : ∃ e : Nat, d = (e : Int) := ⟨d.toNat, by omega⟩
  obtain ⟨e, hde⟩ : ∃ e : Nat, e + d + 3 = k + 15 := ⟨k + 12 - d, by omega⟩
  obtain ⟨qs, p4, g1, q4, ok, hz, hd⟩ := ok_parts (n := (n : Int)) (by omega) (by omega) d e m q3 m0 m1
  rw [hde, show ((d + 1 : Nat) : Int) = 1 + (d : Int) from by omega] at g1
  have g : Gp n qs := ⟨n1, n2, ok, by omega, by omega⟩
  have tx := ok_ltxE (n := (n : Int)) (by omega) (Int.le_refl _) 5 (k + 10) qs (by omega) ok (by omega)
  have f1 := ok_one7 k g
  have f2 := ok_oth7 k g
  have S1 : exec (callN tbl (k + 15)) (.asg (.nm 1) (.call 6 [0, 1] (.ref (.var 0) (.val (.cst (.int 12)) (.nil))) .nil)) [.ls .bor xs, .un, .un, .un] = .ok .nx [.ls .bor p1, .fz (.int (n : Int)), .un, .un] := x_asgD (e_draw rfl e1)
  have S3 := x_asgD (i := 3) (e_call1 (Φ := callN tbl (k + 15)) (ρ := [.ls .bor p4, .fz (.int (n : Int)), .fz (.tup (dPs qs)), .un]) (a := .var 2) (x := .fz (.tup (dPs qs))) rfl tx)
  have c1 : ev (callN tbl (k + 15)) (.call 5 [0, 1, 2] (.val (.var 1) (.val (.var 2) (.val (.var 3) (.nil)))) .nil) [.ls .bor p4, .fz (.int (n : Int)), .fz (.tup (dPs qs)), .fz (.str (txP qs))] = .ok (.fz (.bl true)) [.ls .bor p4, .fz (.int (n : Int)), .fz (.tup (dPs qs)), .fz (.str (txP qs))] := e_call3 (x := .fz (.int (n : Int))) (y := .fz (.tup (dPs qs))) (z := .fz (.str (txP qs))) rfl rfl rfl f1
  have c2 : ev (callN tbl (k + 15)) (.call 10 [0, 1, 2] (.val (.var 1) (.val (.var 2) (.val (.var 3) (.nil)))) .nil) [.ls .bor p4, .fz (.int (n : Int)), .fz (.tup (dPs qs)), .fz (.str (txP qs))] = .ok (.fz (.bl true)) [.ls .bor p4, .fz (.int (n : Int)), .fz (.tup (dPs qs)), .fz (.str (txP qs))] := e_call3 (x := .fz (.int (n : Int))) (y := .fz (.tup (dPs qs))) (z := .fz (.str (txP qs))) rfl rfl rfl f2
  exact ⟨p4, call_fz ⟨1, 4, ir2⟩ (sq S1 (sq (lw7_2 _ _ _ _ _ _ _ _ _ _ f4 hm f5 g1) (sq S3 (sq_rt (x_ret (e_andV (p := true) (q := true) c1 c2))))))⟩
theorem lw_k7 (Φ : Calls) (A : D) (i : Nat) (x : Int) (ps ys : List D) (e1 : Φ 4 [.fz A, .fz (.int (i : Int))] = some (.fz (.int x), [.fz A, .fz (.int (i : Int))])) (e2 : Φ 3 [.fz (.int x)] = some (.fr ps, [.fz (.int x)])) (e3 : Φ 2 [.ls .bor ps] = some (.fz (.bl true), [.ls .bor ys])) :
    compStep Φ [1] (.nm 1) .none (.call 2 [0] (.ref (.call 3 [0] (.val (.call 4 [0, 1] (.val (.var 0) (.val (.var 1) (.nil))) .nil) (.nil)) .nil) (.nil)) .nil) (.int (i : Int)) [.fz A, .un] = .ok (some (.bl true)) [.fz A, .un] := by
  simp [compStep, e1, e2, e3]
theorem c_fx7 (Φ : Calls) (ρ : Ev) (e : Φ 1 [] = some (.fz (.bl true), [])) : ev Φ (.call 1 [] .nil .nil) ρ = .ok (.fz (.bl true)) ρ := by
  simp [e]
theorem math (ns : List Int) (hl : ns.length ≤ 63) : ∃ as', callN tbl 17 0 [.fz (.scr (ns.map D.int))] = some (.fz (.bl true), as') := by
  have c2 := e_comp (Φ := callN tbl 16) (own := [1]) (tg := .nm 1) (co := .none) (e := .call 2 [0] (.ref (.call 3 [0] (.val (.call 4 [0, 1] (.val (.var 0) (.val (.var 1) (.nil))) .nil) (.nil)) .nil) (.nil)) .nil) (ρ := [.fz (.scr (ns.map D.int)), .un]) (it := .rng1 (.bi .max2 (.cons (.cst (.int 2)) (.cons (.bi .min2 (.cons (.bi .len (.cons (.var 0) (.nil))) (.cons (.cst (.int 6)) (.nil)))) (.nil))))) (fun i : Nat => .int (i : Int)) (List.range (lawN (ns.map D.int).length 6)) (fun _ => .bl true) (i_rng1 (e_bi2 rfl (e_bi2 (e_bi1 rfl rfl rfl) rfl rfl rfl lawN_min) rfl rfl lawN_max) (by unfold lawN; omega)) (by rw [List.length_range, sz_le]; unfold lawN; omega) fun i hi => by
    have hi := List.mem_range.mp hi
    obtain ⟨x, ec⟩ := ok_cell 15 ns i (by unfold lawN at hi; omega)
    obtain ⟨ps, ep, pp⟩ := ok_pool 15 x
    obtain ⟨ys, er⟩ := ok_right7 0 pp
    exact lw_k7 _ _ i x ps ys ec ep er
  have c1 := c_fx7 (callN tbl 16) [.fz (.scr (ns.map D.int)), .un] (ok_fixed7 0)
  exact ⟨_, call_fz ⟨1, 2, ir0⟩ (sq (x_iff (e_not c1 rfl rfl) rfl) (sq_rt (x_ret (e_bi1 c2 rfl (all_true _)))))⟩
end Q_bandlinks_k07_logs_are_formatted
namespace Q_bandlinks_k07_logs_are_formatted
open PySem PySem.Spec PyProof.Rows L2 DL
theorem facts {P : Program} {w : World} {K : PySem.W.Frag} {h : Heap} {mg : Str → Option Value} {fz : Addr} {k : Nat} (X : K.In h) (G : h.Ns mainGlobals mg) (hz : mg "law" = some (.ref fz)) (c : SaysX faL fbL fnL K) (ct : ∀ p ∈ csL, TabOf K h p) :
    ∃ fd : FuncData, (∀ (s : Shared) (v : Value), BindsTo s fd ⟨[v], []⟩ [("_law_script", v)]) ∧ ∀ base : Heap, K.In base → base.Ns mainGlobals mg → BltAt mg base → FnG P w K mg base L2.CX0 (4 * k) fz fd ["_law_script"] (spD K (callN tbl k) 0) := by
  have D := c.d
  obtain ⟨fd0, F0⟩ := funW0 (K := K) (x := "law") (q := "law") (st := st0) (f := He.fAd K ("law", none)) (D.def_ 0 (d := hd0) rfl)
  obtain ⟨fd1, F1⟩ := funW0 (K := K) (x := "_law_fixed_right") (q := "_law_fixed_right") (st := st1) (f := He.fAd K ("_law_fixed_right", none)) (D.def_ 1 (d := hd1) rfl)
  obtain ⟨fd2, F2⟩ := funW0 (K := K) (x := "_law_right") (q := "_law_right") (st := st2) (f := He.fAd K ("_law_right", none)) (D.def_ 2 (d := hd2) rfl)
  obtain ⟨fd3, F3⟩ := funW0 (K := K) (x := "_law_pool") (q := "_law_pool") (st := st3) (f := He.fAd K ("_law_pool", none)) (D.def_ 3 (d := hd3) rfl)
  obtain ⟨fd4, F4⟩ := funW0 (K := K) (x := "_law_cell") (q := "_law_cell") (st := st4) (f := He.fAd K ("_law_cell", none)) (D.def_ 4 (d := hd4) rfl)
  obtain ⟨fd5, F5⟩ := funW0 (K := K) (x := "_law_one_right") (q := "_law_one_right") (st := st5) (f := He.fAd K ("_law_one_right", none)) (D.def_ 5 (d := hd5) rfl)
  obtain ⟨fd6, F6⟩ := funW0 (K := K) (x := "_law_levels") (q := "_law_levels") (st := st6) (f := He.fAd K ("_law_levels", none)) (D.def_ 6 (d := hd6) rfl)
  obtain ⟨fd7, F7⟩ := funW0 (K := K) (x := "_law_parts") (q := "_law_parts") (st := st7) (f := He.fAd K ("_law_parts", none)) (D.def_ 7 (d := hd7) rfl)
  obtain ⟨fd8, F8⟩ := funW0 (K := K) (x := "_law_draw") (q := "_law_draw") (st := st8) (f := He.fAd K ("_law_draw", none)) (D.def_ 8 (d := hd8) rfl)
  obtain ⟨fd9, F9⟩ := funW0 (K := K) (x := "_law_text") (q := "_law_text") (st := st9) (f := He.fAd K ("_law_text", none)) (D.def_ 9 (d := hd9) rfl)
  obtain ⟨fd10, F10⟩ := funW0 (K := K) (x := "_law_others_right") (q := "_law_others_right") (st := st10) (f := He.fAd K ("_law_others_right", none)) (D.def_ 10 (d := hd10) rfl)
  obtain ⟨fd11, dv11, F11, E11⟩ := funWd (K := K) (x := "__init__") (q := "Log.__init__") (st := st11) (f := He.fAd K ("Log", some "__init__")) (D.def_ 11 (d := hd11) rfl) (by intro z; cases z) (.cons (unitB_ok (c.b 0 (f := .unit ("Log", some "__init__") 0) rfl)) .nil)
  obtain ⟨fd12, F12⟩ := funW0 (K := K) (x := "format_log") (q := "format_log") (st := st12) (f := He.fAd K ("format_log", none)) (D.def_ 12 (d := hd12) rfl)
  obtain ⟨fd13, F13⟩ := funW0 (K := K) (x := "__str__") (q := "Log.__str__") (st := st13) (f := He.fAd K ("Log", some "__str__")) (D.def_ 13 (d := hd13) rfl)
  obtain ⟨fd14, F14⟩ := funW0 (K := K) (x := "_law_size") (q := "_law_size") (st := st14) (f := He.fAd K ("_law_size", none)) (D.def_ 14 (d := hd14) rfl)
  obtain ⟨fd15, F15⟩ := funW0 (K := K) (x := "_law_times") (q := "_law_times") (st := st15) (f := He.fAd K ("_law_times", none)) (D.def_ 15 (d := hd15) rfl)
  obtain ⟨fd16, F16⟩ := funW0 (K := K) (x := "__repr__") (q := "Log.__repr__") (st := st16) (f := He.fAd K ("Log", some "__repr__")) (D.def_ 16 (d := hd16) rfl)
  obtain ⟨fd17, F17⟩ := funW0 (K := K) (x := "is_level_count") (q := "is_level_count") (st := st17) (f := He.fAd K ("is_level_count", none)) (D.def_ 17 (d := hd17) rfl)
  obtain ⟨fd18, F18⟩ := funW0 (K := K) (x := "first_invalid") (q := "first_invalid") (st := st18) (f := He.fAd K ("first_invalid", none)) (D.def_ 18 (d := hd18) rfl)
  obtain ⟨fd19, F19⟩ := funW0 (K := K) (x := "check_log") (q := "check_log") (st := st19) (f := He.fAd K ("check_log", none)) (D.def_ 19 (d := hd19) rfl)
  obtain ⟨fd20, F20⟩ := funW0 (K := K) (x := "parts_text") (q := "parts_text") (st := st20) (f := He.fAd K ("parts_text", none)) (D.def_ 20 (d := hd20) rfl)
  obtain ⟨fd21, F21⟩ := funW0 (K := K) (x := "is_between") (q := "is_between") (st := st21) (f := He.fAd K ("is_between", none)) (D.def_ 21 (d := hd21) rfl)
  obtain ⟨fd22, F22⟩ := funW0 (K := K) (x := "measure_part") (q := "measure_part") (st := st22) (f := He.fAd K ("measure_part", none)) (D.def_ 22 (d := hd22) rfl)
  obtain ⟨fd23, F23⟩ := funW0 (K := K) (x := "is_log") (q := "is_log") (st := st23) (f := He.fAd K ("is_log", none)) (D.def_ 23 (d := hd23) rfl)
  obtain ⟨fd24, F24⟩ := funW0 (K := K) (x := "is_whole") (q := "is_whole") (st := st24) (f := He.fAd K ("is_whole", none)) (D.def_ 24 (d := hd24) rfl)
  obtain ⟨fd25, F25⟩ := funW0 (K := K) (x := "is_level") (q := "is_level") (st := st25) (f := He.fAd K ("is_level", none)) (D.def_ 25 (d := hd25) rfl)
  obtain ⟨fd26, F26⟩ := funW0 (K := K) (x := "measure") (q := "measure") (st := st26) (f := He.fAd K ("measure", none)) (D.def_ 26 (d := hd26) rfl)
  have e := hz.symm.trans (He.glo_ok X G (c.f 0 (f := .glo "law") rfl))
  cases e
  let fa : Nat → Addr := fun j => [He.fAd K ("law", none), He.fAd K ("_law_fixed_right", none), He.fAd K ("_law_right", none), He.fAd K ("_law_pool", none), He.fAd K ("_law_cell", none), He.fAd K ("_law_one_right", none), He.fAd K ("_law_levels", none), He.fAd K ("_law_parts", none), He.fAd K ("_law_draw", none), He.fAd K ("_law_text", none), He.fAd K ("_law_others_right", none), He.fAd K ("Log", some "__init__"), He.fAd K ("format_log", none), He.fAd K ("Log", some "__str__"), He.fAd K ("_law_size", none), He.fAd K ("_law_times", none), He.fAd K ("Log", some "__repr__"), He.fAd K ("is_level_count", none), He.fAd K ("first_invalid", none), He.fAd K ("check_log", none), He.fAd K ("parts_text", none), He.fAd K ("is_between", none), He.fAd K ("measure_part", none), He.fAd K ("is_log", none), He.fAd K ("is_whole", none), He.fAd K ("is_level", none), He.fAd K ("measure", none)].getD j 0
  let fd : Nat → FuncData := fun j => [fd0, fd1, fd2, fd3, fd4, fd5, fd6, fd7, fd8, fd9, fd10, fd11, fd12, fd13, fd14, fd15, fd16, fd17, fd18, fd19, fd20, fd21, fd22, fd23, fd24, fd25, fd26].getD j fd0
  let dv : Nat → Value := fun j => [.none, .none, .none, .none, .none, .none, .none, .none, .none, .none, .none, dv11, .none, .none, .none, .none, .none, .none, .none, .none, .none, .none, .none, .none, .none, .none, .none].getD j .none
  let ca : Nat → Addr := fun j => [He.ga K "Log"].getD j 0
  have nA0 : ∀ f ∈ cFlds 0, (He.Fa.noat (cName 0) f).ok K = true := fun f hf => by
    simp only [cFlds, List.mem_cons, List.not_mem_nil, or_false] at hf
    rcases hf with rfl | rfl
    · exact (c.f 26 (f := .noat "Log" "levels") rfl)
    · exact (c.f 27 (f := .noat "Log" "parts") rfl)
  have M : Fx K mg fa fd ca dv := ⟨F0, He.glo_ok X G (c.f 0 (f := .glo "law") rfl), F1, He.glo_ok X G (c.f 1 (f := .glo "_law_fixed_right") rfl), F2, He.glo_ok X G (c.f 2 (f := .glo "_law_right") rfl), F3, He.glo_ok X G (c.f 3 (f := .glo "_law_pool") rfl), F4, He.glo_ok X G (c.f 4 (f := .glo "_law_cell") rfl), F5, He.glo_ok X G (c.f 5 (f := .glo "_law_one_right") rfl), F6, He.glo_ok X G (c.f 6 (f := .glo "_law_levels") rfl), F7, He.glo_ok X G (c.f 7 (f := .glo "_law_parts") rfl), F8, He.glo_ok X G (c.f 8 (f := .glo "_law_draw") rfl), F9, He.glo_ok X G (c.f 9 (f := .glo "_law_text") rfl), F10, He.glo_ok X G (c.f 10 (f := .glo "_law_others_right") rfl), F11, E11, F12, He.glo_ok X G (c.f 11 (f := .glo "format_log") rfl), F13, He.meth_ok (c.f 12 (f := .meth "Log" "__str__") rfl), F14, He.glo_ok X G (c.f 13 (f := .glo "_law_size") rfl), F15, He.glo_ok X G (c.f 14 (f := .glo "_law_times") rfl), F16, He.meth_ok (c.f 15 (f := .meth "Log" "__repr__") rfl), F17, He.glo_ok X G (c.f 16 (f := .glo "is_level_count") rfl), F18, He.glo_ok X G (c.f 17 (f := .glo "first_invalid") rfl), F19, He.glo_ok X G (c.f 18 (f := .glo "check_log") rfl), F20, He.glo_ok X G (c.f 19 (f := .glo "parts_text") rfl), F21, He.glo_ok X G (c.f 20 (f := .glo "is_between") rfl), F22, He.glo_ok X G (c.f 21 (f := .glo "measure_part") rfl), F23, He.glo_ok X G (c.f 22 (f := .glo "is_log") rfl), F24, He.glo_ok X G (c.f 23 (f := .glo "is_whole") rfl), F25, He.glo_ok X G (c.f 24 (f := .glo "is_level") rfl), F26, He.glo_ok X G (c.f 25 (f := .glo "measure") rfl), clsF_ok (c := 0) (c.f 28 (f := .glo "Log") rfl) (c.f 29 (f := .cls "Log") rfl) nA0, He.mkr_ok (c.f 30 (f := .mkr "Log") rfl), isiF_ok (c.b 1 (f := .isi "Log") rfl), He.glo_ok X G (c.f 28 (f := .glo "Log") rfl), err_ok (x := "NotALog") (f := "value") (b := 0) (q := "NotALog.__init__") (c.b 2 (f := .err "NotALog" "value" 0) rfl) (D.def_ 27 (d := hdx16) rfl) PySem.ErrX.fld_value rfl rfl rfl, He.glo_ok X G (c.f 31 (f := .glo "NotALog") rfl), He.glo_ok X G (c.f 32 (f := .glo "BandError") rfl), He.glo_ok X G (c.f 33 (f := .glo "StateError") rfl), He.glo_ok X G (c.f 34 (f := .glo "SizeError") rfl), funW0 (K := K) (x := "_law_caught") (q := "_law_caught") (st := strca) (f := He.fAd K ("_law_caught", none)) (D.def_ 28 (d := hdrca) rfl), He.glo_ok X G (c.f 35 (f := .glo "_law_caught") rfl), funW0 (K := K) (x := "_law_kind") (q := "_law_kind") (st := strkd) (f := He.fAd K ("_law_kind", none)) (D.def_ 29 (d := hdrkd) rfl), He.glo_ok X G (c.f 36 (f := .glo "_law_kind") rfl), funW0 (K := K) (x := "_law_fields") (q := "_law_fields") (st := strfl) (f := He.fAd K ("_law_fields", none)) (D.def_ 30 (d := hdrfl) rfl), He.glo_ok X G (c.f 37 (f := .glo "_law_fields") rfl), funW0 (K := K) (x := "_law_other_fields") (q := "_law_other_fields") (st := strfo) (f := He.fAd K ("_law_other_fields", none)) (D.def_ 31 (d := hdrfo) rfl), He.glo_ok X G (c.f 38 (f := .glo "_law_other_fields") rfl), kin_ok X G (c.b 3 (f := .kin 16) rfl) (c.b 4 (f := .exi "NotALog") rfl) (c.b 5 (f := .nms) rfl), (ct (("_law_others_right", none), 843) (by simp [csL])).2.2, He.free_ok X G (c.f 39 (f := .free "ArithmeticError") rfl), He.free_ok X G (c.f 40 (f := .free "LookupError") rfl), He.free_ok X G (c.f 41 (f := .free "ValueError") rfl), He.free_ok X G (c.f 42 (f := .free "abs") rfl), He.free_ok X G (c.f 43 (f := .free "all") rfl), He.free_ok X G (c.f 44 (f := .free "bool") rfl), He.free_ok X G (c.f 45 (f := .free "divmod") rfl), He.free_ok X G (c.f 46 (f := .free "enumerate") rfl), He.free_ok X G (c.f 47 (f := .free "int") rfl), He.free_ok X G (c.f 48 (f := .free "isinstance") rfl), He.free_ok X G (c.f 49 (f := .free "len") rfl), He.free_ok X G (c.f 50 (f := .free "list") rfl), He.free_ok X G (c.f 51 (f := .free "max") rfl), He.free_ok X G (c.f 52 (f := .free "min") rfl), He.free_ok X G (c.f 53 (f := .free "range") rfl), He.free_ok X G (c.f 54 (f := .free "repr") rfl), He.free_ok X G (c.f 55 (f := .free "str") rfl), He.free_ok X G (c.f 56 (f := .free "sum") rfl), He.free_ok X G (c.f 57 (f := .free "tuple") rfl), He.int_ok X G (c.f 58 (f := .int "MAX_LEVELS" 12) rfl), He.int_ok X G (c.f 59 (f := .int "MAX_DEPTH" 5) rfl), He.int_ok X G (c.f 60 (f := .int "MAX_PARTS" 120) rfl), He.int_ok X G (c.f 61 (f := .int "MAX_TIMES" 1000000000000000000000000000000) rfl), He.str_ok X G (c.f 62 (f := .str "NOTHING" "-") rfl)⟩
  exact ⟨fd0, fun s v => by obtain ⟨oc, od, kv, dc, pm, an, cd, ct, sl, rfl, _, _⟩ := F0.ex; exact .of_eq rfl, fun base KB _ BL => tab M KB BL k 0⟩
end Q_bandlinks_k07_logs_are_formatted
open PySem PySem.W PyProof.Rows
set_option maxHeartbeats 0 in
theorem PySem.Challenge.cw_bandlinks_k07_logs_are_formatted_holds : PySem.Challenge.rw_bandlinks_k07_logs_are_formatted.Holds := by
  w_on; o_law
  refine HandSHeadRun.head_any (r := OpenLaw.row PySem.Challenge.rw_bandlinks_k07_logs_are_formatted) (q := Q_bandlinks_k07_logs_are_formatted.viewQ) (H := Q_bandlinks_k07_logs_are_formatted.hookR) (ob := Q_bandlinks_k07_logs_are_formatted.obR) (M := 20000) (loose := Q_bandlinks_k07_logs_are_formatted.looseN) (d := HandSHeadRun.topDef (OpenLaw.row PySem.Challenge.rw_bandlinks_k07_logs_are_formatted).prog 74) (kwd := []) Q_bandlinks_k07_logs_are_formatted.ob_eq (by kernel_rfl) (fun s => by kernel_rfl) Q_bandlinks_k07_logs_are_formatted.runR (by kernel_rfl) (by kernel_rfl) (by kernel_rfl) (by rfl) (by first | assumption | decide +kernel) (by decide +kernel) ⟨rfl, rfl, rfl, rfl, rfl, by decide +kernel⟩ ?hw ?hc
  case hw => w_witness2
  case hc =>
    refine DL.end_walkE (l := PySem.Challenge.rw_bandlinks_k07_logs_are_formatted) (n := 63) (m := 4 * 17) (k := 17) (fi := 0) (T := Q_bandlinks_k07_logs_are_formatted.tbl) (x := "_law_script") rfl (by decide) (by kernel_rfl) ⟨rfl, by decide, by decide⟩ ?F (fun ns hl => Q_bandlinks_k07_logs_are_formatted.math ns hl)
    intro w mg fa h Y G hmg0
    obtain ⟨K, KX, c, ct⟩ := Y
    have hmg : mg ("law" : PySem.Str) = some (.ref fa) := by
      have e : (HandSHeadRun.topDef (OpenLaw.row PySem.Challenge.rw_bandlinks_k07_logs_are_formatted).prog 74).name = ("law" : PySem.Str) := by kernel_rfl
      rw [← e]
      exact hmg0
    obtain ⟨fd, hb, hF⟩ := Q_bandlinks_k07_logs_are_formatted.facts KX G hmg c ct
    exact ⟨K, fd, KX, DL.tabs_of KX ct (fun p hp => by
      rcases List.mem_cons.mp hp with e | hp
      · subst e; exact ⟨("_law_others_right", none), by simp [Q_bandlinks_k07_logs_are_formatted.csL]⟩
      cases hp), hb, hF⟩
