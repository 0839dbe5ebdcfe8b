import PyProof.Rows.All
import Wide.All
import OpenK.AllK
import Wide.FinOn
import Lean
import KE.KStateDown
import HandS.ForMost
import HandS.ForExc
import HandS.ExcCtx
import HandS.Wide
import HandS.IsInst
import HandS.Defaults
import HandS.HeadHook1
import HandS.HeadHook4
import HandS.Nested
import HandS.Text
import PyProof.StrOps2
import HandS.Walk
import HandS.CallSlots
import HandS.WordsExc
import HandS.WideBits
import HandS.Style
import HandS.SortInts
import HandS.ExcInit
import HandS.Conv
import HandS.SortKw
import HandS.HeadHook2
import KE.DataMinMax
import HandS.NamedTupSort
import HandS.ExcField
import HandS.TryElse
import KE.KExcIs
import HandS.ClsMeth
import HandS.SetFor
import HandS.TryOnly
import KE.DataMinKey
import HandS.List
import HandS.SetKeys
import HandS.Flt
import HandS.Deep
import HandS.Iter
import HandS.Ends
import HandS.HeadEnd
import HandS.HeadWalk
import HandS.EndBits
import HandS.Head2
import PyProof.Rows.SetFrom
import PyProof.Rows.SortShellAny
import HandS.TryMany
import HandS.HotCalls
import KE.KEqNest
import PyProof.NeKinds
import HandS.More
import HandS.RaiseMore
import HandS.ReplaceLit
import KE.SortKeyHeap
import PySem.Challenge.RW_dutyproof_k71_ranks_found
set_option Elab.async false
set_option linter.all false
set_option maxRecDepth 100000
set_option maxHeartbeats 4000000
namespace DL
open PySem PySem.Spec L2
inductive Cn where
  | Work | Duty | Order | ByRank | ByDue | ByComing | Verdict | Kept | Broken | Desk | DutyError | BadWork | BadDuty | TooMany | BadRow | HoldsThings | NoName | NotKept | NoRanks | NoText | NoRow
  deriving DecidableEq
def Cn.str : Cn → Str
  | .Work => "Work" | .Duty => "Duty" | .Order => "Order" | .ByRank => "ByRank" | .ByDue => "ByDue" | .ByComing => "ByComing" | .Verdict => "Verdict" | .Kept => "Kept" | .Broken => "Broken" | .Desk => "Desk" | .DutyError => "DutyError"
  | .BadWork => "BadWork" | .BadDuty => "BadDuty" | .TooMany => "TooMany" | .BadRow => "BadRow" | .HoldsThings => "HoldsThings" | .NoName => "NoName" | .NotKept => "NotKept" | .NoRanks => "NoRanks" | .NoText => "NoText" | .NoRow => "NoRow"
def Cn.base : Cn → Option Cn
  | .ByRank | .ByDue | .ByComing => some .Order
  | .Kept | .Broken => some .Verdict
  | .BadWork | .BadDuty | .TooMany | .BadRow | .HoldsThings | .NoName | .NotKept | .NoRanks | .NoText | .NoRow => some .DutyError
  | _ => none
def Cn.sub (c d : Cn) : Bool := decide (c = d) || decide (c.base = some d)
def pickD : He.Defn := ("Order", some "pick")
def lamD : He.Defn := ("_law_right", none)
def lamQ : Str := "_law_right.<locals>.<lambda>"
def kinds : List String := ["NoneType", "bool", "int", "str", "list", "tuple", "dict"]
abbrev ExB := PySem.W.Frag → Bool
def kitNo (y : Str) : ExB := fun K => kinds.all fun k => decide (PySem.W.kitOne K (.type k) (.ref (He.ga K y)) = some false)
def kitIs (x y : Str) (b : Bool) : ExB := fun K => decide (PySem.W.kitOne K (.ref (He.ga K x)) (.ref (He.ga K y)) = some b)
def tyOwn (x : Str) : ExB := fun K => He.eqO (PySem.W.findIn K (.ref (He.ga K x)) "__class__") (some (some (.builtin "object.__class__"))) && (He.eqO (PySem.W.specialIn K (.builtin "object.__class__") "__get__") (some (some (.builtin "getset_descriptor.__get__"))) &&
  (decide (PySem.W.takesIn K (.builtin "object.__class__") = some true) && decide (PySem.W.mroIn K (He.ga K x) (.type "object") = some true)))
def xobIn (x : Str) : ExB := fun K => match K.lookup (He.ga K x) with
  | some ⟨.type "type", _, .cls cd, sl⟩ => (match cd.mro, sl.toList with
    | .ref C' :: bm, [_, _, _, _, some (.builtin n), _] => decide (C' = He.ga K x) && (decide (n = "ValueError.__new__") && (!cd.hasDel && (cd.hasDict && PySem.HandSPX.refsVE bm)))
    | _, _ => false)
  | _ => false
def xownB (x : Str) : ExB := fun K => xobIn x K && (He.eqO (PySem.W.findIn K (.ref (He.ga K x)) "__setattr__") (some (some (.builtin "object.__setattr__"))) && (decide (PySem.W.subIn K (.ref (He.ga K x)) (.type "BaseException") = some true) &&
  (decide (PySem.W.typeIn K (.ref (He.ga K x)) = some (.type "type")) && (PySem.W.keepIn K (.ref (He.ga K x)) && decide (PySem.W.typeIn K (.ref (He.ma K (He.ga K x) "__init__")) = some (.type "function"))))))
def exAll : List Cn := [.DutyError, .BadWork, .BadDuty, .TooMany, .BadRow, .HoldsThings, .NoName, .NotKept, .NoRanks, .NoText, .NoRow]
inductive Ask where
  | own (c : Cn)
  | ve
def Ask.val (K : PySem.W.Frag) : Ask → Value
  | .own c => .ref (He.ga K c.str)
  | .ve => .type "ValueError"
def Ask.of (c : Cn) : Ask → Bool
  | .own y => c.sub y
  | .ve => true
def xisB (x : Str) : ExB := fun K => (PySem.W.clsIn K (He.ga K x)).isSome && (He.eqO (PySem.W.findIn K (.ref (He.ga K x)) "__getattribute__") (some (some (.builtin "BaseException.__getattribute__"))) && (He.eqO (PySem.W.findIn K (.ref (He.ga K x)) "__getattr__") (some none) &&
  (decide (PySem.W.subIn K (.ref (He.ga K x)) (.type "BaseException") = some true) && tyOwn x K)))
def gloB (K : PySem.W.Frag) (c : Cn) : Bool := He.eqO (PySem.W.nsIn K mainGlobals c.str) (some (some (.ref (He.ga K c.str))))
def catB (y : Cn) : ExB := fun K => exAll.all fun x => !gloB K x || decide (PySem.W.exmOne K (.ref (He.ga K x.str)) (.ref (He.ga K y.str)) = some (x.sub y))
def askB (y : Ask) : ExB := fun K => exAll.all fun c => !gloB K c || (xisB c.str K && decide (PySem.W.kitOne K (.ref (He.ga K c.str)) (y.val K) = some (y.of c)))
abbrev AlE : Type := He.AlD × Bool
structure SaysB (fa : List He.Fa) (fn : List He.DefD) (ex : List ExB) (tf : List He.Defn) (h : Heap) (K : PySem.W.Frag) : Prop where
  d : He.SaysD fa fn K
  more : (ex.all fun f => f K) = true
  hd : ∀ p ∈ tf, PySem.W.codeHdIn K (He.cT K p).1 (He.cT K p).2 = true
  out : ∀ p ∈ tf, K.lookup (He.cT K p).2 = none
  empty : ∀ p ∈ tf, h.get? (He.cT K p).2 = some { cls := .none, data := .fields #[] }
def frS (g : Addr → Option Obj) (n : List Addr) : PySem.W.Frag := He.frT g (mainGlobals :: PySem.cStatics :: n)
def obsB (n : List Addr) (fa : List He.Fa) (fn : List He.DefD) (ex : List ExB) (tf : List He.Defn) (g : Addr → Option Obj) : AlE := (He.obsD fa fn (frS g n), (ex.all fun f => f (frS g n)) && He.tabsB g tf (frS g n))
theorem saysB_of {n : List Addr} {fa : List He.Fa} {fn : List He.DefD} {ex : List ExB} {tf : List He.Defn} {h : Heap} (e : obsB n fa fn ex tf h.get? = (He.valD fn, true)) : SaysB fa fn ex tf h (frS h.get? n) := by
  have e1 : He.obsD fa fn (frS h.get? n) = He.valD fn := congrArg (fun z : AlE => z.1) e
  have e2 : ((ex.all fun f => f (frS h.get? n)) && He.tabsB h.get? tf (frS h.get? n)) = true := congrArg (fun z : AlE => z.2) e
  rw [Bool.and_eq_true] at e2
  obtain ⟨h1, h2⟩ := e2
  unfold He.tabsB at h2
  rw [List.all_eq_true] at h2
  have key : ∀ p ∈ tf, PySem.W.codeHdIn (frS h.get? n) (He.cT (frS h.get? n) p).1 (He.cT (frS h.get? n) p).2 = true ∧ ∃ o, h.get? (He.cT (frS h.get? n) p).2 = some o ∧ He.emptyTab o = true := fun p hp => by
    have z := h2 p hp
    rw [Bool.and_eq_true] at z
    refine ⟨z.1, ?_⟩
    cases q : h.get? (He.cT (frS h.get? n) p).2 with
    | none => rw [q] at z; cases z.2
    | some o => rw [q] at z; exact ⟨o, rfl, z.2⟩
  exact ⟨e1, h1, fun p hp => (key p hp).1, fun p hp => let ⟨_, o, a, b⟩ := key p hp; He.frT_none a b, fun p hp => let ⟨_, o, a, b⟩ := key p hp; by rw [a, He.emptyTab_eq b]⟩
def hookB (n : List Addr) (fa : List He.Fa) (fn : List He.DefD) (ex : List ExB) (tf : List He.Defn) : PySem.W.Hook where
  α := AlE
  obs := fun s => obsB n fa fn ex tf s.heap.get?
  val := fun _ => (He.valD fn, true)
  says := fun _ h => ∃ K : PySem.W.Frag, K.In h ∧ SaysB fa fn ex tf h K
  of := fun _ _ e => ⟨_, He.frT_in, saysB_of e⟩
  keeps := fun _ _ _ ⟨K, hK, c⟩ k => ⟨K, PySem.W.Frag.In.keeps hK k, ⟨c.d, c.more, c.hd, c.out, fun p hp => k _ _ (c.empty p hp)⟩⟩
theorem obsB_eq {n : List Addr} {fa : List He.Fa} {fn : List He.DefD} {ex : List ExB} {tf : List He.Defn} {g : Addr → Option Obj} {s : Shared} (h : ∀ a, g a = s.heap.get? a) : obsB n fa fn ex tf g = (hookB n fa fn ex tf).obs s := by
  obtain rfl : g = s.heap.get? := funext h
  rfl
end DL
namespace Law
open PySem PySem.Spec L2 DL
def top (i : Nat) : Stmt := PySem.Challenge.pw_dutyproof_k71_ranks_found.main.body.getD i (.Pass ⟨0, 0, 0, 0⟩)
abbrev z10 : Stmt := top 6
abbrev zm : Stmt := inClass (top 38) 4
abbrev z11 : Stmt := inClass (top 38) 0
abbrev z12 : Stmt := inClass (top 38) 1
abbrev z13 : Stmt := inClass (top 34) 1
abbrev z14 : Stmt := inClass (top 38) 2
abbrev z1n : Stmt := top 2
abbrev z1o : Stmt := top 3
abbrev zq : Stmt := top 8
abbrev z2k : Stmt := top 9
abbrev z1p : Stmt := top 10
abbrev z23 : Stmt := top 11
abbrev z1b : Stmt := top 5
abbrev zd : Stmt := inClass (top 38) 5
abbrev zi : Stmt := top 21
abbrev z1q : Stmt := top 22
abbrev z1l : Stmt := inClass (top 19) 0
abbrev zw : Stmt := top 23
abbrev z1r : Stmt := top 46
abbrev z24 : Stmt := top 40
abbrev z1c : Stmt := top 41
abbrev z15 : Stmt := top 42
abbrev z1d : Stmt := top 43
abbrev z1s : Stmt := top 44
abbrev zh : Stmt := top 45
abbrev zx : Stmt := top 47
abbrev z1t : Stmt := top 28
abbrev z1u : Stmt := top 30
abbrev z25 : Stmt := top 31
abbrev z1e : Stmt := top 32
abbrev z16 : Stmt := top 33
abbrev z1v : Stmt := top 29
abbrev z17 : Stmt := inClass (top 34) 0
abbrev z2c : Stmt := top 48
def zbx : He.DefD := ⟨("rounds_up", none), "rounds_up", "rounds_up", defArgs z10, defBody z10, defScope z10, [], []⟩
def zbe : He.DefD := ⟨("Duty", some "crowd"), "crowd", "Duty.crowd", defArgs zm, defBody zm, defScope zm, [], []⟩
def zby : He.DefD := ⟨("Duty", some "__init__"), "__init__", "Duty.__init__", defArgs z11, defBody z11, defScope z11, [], []⟩
def zbz : He.DefD := ⟨("Duty", some "size"), "size", "Duty.size", defArgs z12, defBody z12, defScope z12, [], []⟩
def zc0 : He.DefD := ⟨("Work", some "held"), "held", "Work.held", defArgs z13, defBody z13, defScope z13, [], []⟩
def zc1 : He.DefD := ⟨("Duty", some "work"), "work", "Duty.work", defArgs z14, defBody z14, defScope z14, [], []⟩
def zdp : He.DefD := ⟨("ceiling", none), "ceiling", "ceiling", defArgs z1n, defBody z1n, defScope z1n, [], []⟩
def zdq : He.DefD := ⟨("hold_up", none), "hold_up", "hold_up", defArgs z1o, defBody z1o, defScope z1o, [], []⟩
def zbf : He.DefD := ⟨("comings_in", none), "comings_in", "comings_in", defArgs zq, defBody zq, defScope zq, [], []⟩
def zi2 : He.DefD := ⟨("load", none), "load", "load", defArgs z2k, defBody z2k, defScope z2k, [], []⟩
def zdr : He.DefD := ⟨("in_time", none), "in_time", "in_time", defArgs z1p, defBody z1p, defScope z1p, [], []⟩
def zfj : He.DefD := ⟨("answer", none), "answer", "answer", defArgs z23, defBody z23, defScope z23, [], []⟩
def zd5 : He.DefD := ⟨("is_whole", none), "is_whole", "is_whole", defArgs z1b, defBody z1b, defScope z1b, [], []⟩
def z72 : He.DefD := ⟨("Duty", some "reordered"), "reordered", "Duty.reordered", defArgs zd, defBody zd, defScope zd, [], []⟩
def za3 : He.DefD := ⟨("fits_weakest", none), "fits_weakest", "fits_weakest", defArgs zi, defBody zi, defScope zi, [], []⟩
def zds : He.DefD := ⟨("weakest", none), "weakest", "weakest", defArgs z1q, defBody z1q, defScope z1q, [], []⟩
def za4 : He.DefD := ⟨("NoRanks", some "__init__"), "__init__", "NoRanks.__init__", defArgs z1l, defBody z1l, defScope z1l, [], []⟩
def zd6 : He.DefD := ⟨("ranked", none), "ranked", "ranked", defArgs zw, defBody zw, defScope zw, [], []⟩
def zdt : He.DefD := ⟨("_law_told", none), "_law_told", "_law_told", defArgs z1r, defBody z1r, defScope z1r, [], []⟩
def zfk : He.DefD := ⟨("_law_stream", none), "_law_stream", "_law_stream", defArgs z24, defBody z24, defScope z24, [], []⟩
def zd7 : He.DefD := ⟨("_law_holds", none), "_law_holds", "_law_holds", defArgs z1c, defBody z1c, defScope z1c, [], []⟩
def zc2 : He.DefD := ⟨("_law_plain", none), "_law_plain", "_law_plain", defArgs z15, defBody z15, defScope z15, [], []⟩
def zdu : He.DefD := ⟨("_law_held_up", none), "_law_held_up", "_law_held_up", defArgs z1d, defBody z1d, defScope z1d, [], []⟩
def zdv : He.DefD := ⟨("_law_in_time", none), "_law_in_time", "_law_in_time", defArgs z1s, defBody z1s, defScope z1s, [], []⟩
def zab : He.DefD := ⟨("_law_all_in_time", none), "_law_all_in_time", "_law_all_in_time", defArgs zh, defBody zh, defScope zh, [], []⟩
def zd8 : He.DefD := ⟨("_law_right", none), "_law_right", "_law_right", defArgs zx, defBody zx, defScope zx, [], []⟩
def zdw : He.DefD := ⟨("is_name", none), "is_name", "is_name", defArgs z1t, defBody z1t, defScope z1t, [], []⟩
def zdx : He.DefD := ⟨("is_hold", none), "is_hold", "is_hold", defArgs z1u, defBody z1u, defScope z1u, [], []⟩
def zfl : He.DefD := ⟨("within", none), "within", "within", defArgs z25, defBody z25, defScope z25, [], []⟩
def zd9 : He.DefD := ⟨("together", none), "together", "together", defArgs z1e, defBody z1e, defScope z1e, [], []⟩
def zc3 : He.DefD := ⟨("holds_fit", none), "holds_fit", "holds_fit", defArgs z16, defBody z16, defScope z16, [], []⟩
def zdy : He.DefD := ⟨("from_on", none), "from_on", "from_on", defArgs z1v, defBody z1v, defScope z1v, [], []⟩
def zc4 : He.DefD := ⟨("Work", some "__init__"), "__init__", "Work.__init__", defArgs z17, defBody z17, defScope z17, [.non, .int 0, .non], []⟩
def zj1 : He.DefD := ⟨("law", none), "law", "law", defArgs z2c, defBody z2c, defScope z2c, [], []⟩
def fn : List He.DefD := [zbx, zbe, zby, zbz, zc0, zc1, zdp, zdq, zbf, zi2, zdr, zfj, zd5, z72, za3, zds, za4, zd6, zdt, zfk, zd7, zc2, zdu, zdv, zab, zd8, zdw, zdx, zfl, zd9, zc3, zdy, zc4, zj1]
def fa : List He.Fa := [.free "range", .free "len", .glo "_law_stream", .free "min", .glo "_law_holds", .glo "_law_plain", .free "list", .free "isinstance", .free "str", .int "MOST_SIGNS" 8, .str "LETTERS" "abcdefghijklmnopqrstuvwxyz", .glo "is_name", .free "int", .free "bool", .glo "is_whole", .glo "from_on", .exc "BadWork", .glo "BadWork", .int "MOST_HOLDS" 6, .free "tuple", .glo "is_hold", .glo "within", .glo "together", .glo "holds_fit", .cls "Work", .noat "Work" "name", .noat "Work" "gap", .noat "Work" "length", .noat "Work" "due", .noat "Work" "late", .noat "Work" "sections", .mkr "Work", .glo "Work", .exc "BadDuty", .glo "BadDuty", .cls "Duty", .noat "Duty" "works", .noat "Duty" "numbers", .int "MOST_WORKS" 12, .free "max", .free "divmod", .glo "rounds_up", .meth "Duty" "crowd", .int "MOST_CROWD" 80, .exc "TooMany", .glo "TooMany", .mkr "Duty", .glo "Duty", .glo "NoRanks", .meth "Duty" "size", .free "reversed", .free "all", .free "sorted", .meth "Duty" "reordered", .meth "Duty" "work", .meth "Work" "held", .glo "ceiling", .glo "hold_up", .glo "comings_in", .glo "load", .glo "in_time", .glo "answer", .glo "fits_weakest", .glo "weakest", .noat "NoRanks" "stuck", .meth "NoRanks" "__init__", .glo "ranked", .glo "NotKept", .glo "HoldsThings", .glo "DutyError", .free "ValueError", .glo "_law_told", .glo "_law_held_up", .glo "_law_in_time", .glo "_law_all_in_time", .glo "_law_right", .glo "law"]
abbrev R : PySem.W.OpenRow := PySem.W.OpenLaw.row PySem.Challenge.rw_dutyproof_k71_ranks_found
def names : List PySem.Str := (["_wall", "__name__", "ceiling", "hold_up", "is_whole", "rounds_up", "comings_in", "load", "in_time", "answer", "DutyError", "BadWork", "BadDuty", "TooMany", "HoldsThings", "NotKept", "NoRanks", "fits_weakest", "weakest", "ranked", "LETTERS", "MOST_SIGNS", "MOST_HOLDS", "is_name", "from_on", "is_hold", "within", "together", "holds_fit", "Work"] : List PySem.Str) ++ (["MOST_WORKS", "MOST_CROWD", "Duty", "_law_stream", "_law_holds", "_law_plain", "_law_held_up", "_law_in_time", "_law_all_in_time", "_law_told", "_law_right"] : List PySem.Str)
def exs : List ExB := [tyOwn "Work", kitIs "Work" "Work" true, tyOwn "Duty", kitIs "Duty" "Work" false, kitNo "Work", catB .NoRanks, xownB "NoRanks", askB (.own .NotKept), askB (.own .BadDuty), askB (.own .TooMany), askB (.own .HoldsThings), askB (.own .DutyError), askB .ve]
def tf : List He.Defn := [lamD]
def addrs : List Addr := ([3, 6, 4, 21, 28, 35, 42, 49, 56, 63, 70, 77, 87, 100, 112, 124, 136, 155, 174, 181, 188, 193, 200, 207, 214, 221, 228, 235, 260, 319, 330, 337, 344, 349, 356, 361, 368, 373, 378, 0, 20, 27, 34, 41, 48, 55, 62, 69, 76, 86, 99, 111, 123, 135, 154, 173, 180, 187, 192, 199] : List Addr) ++ ([206, 213, 220, 227, 234, 259, 318, 329, 336, 343, 348, 355, 360, 367, 372, 377, 15, 16, 17, 18, 19, 22, 23, 24, 25, 26, 29, 30, 31, 32, 33, 36, 37, 38, 39, 40, 43, 44, 45, 46, 47, 50, 51, 52, 53, 54, 57, 58, 59, 60, 61, 64, 65, 66, 67, 68, 71, 72, 73, 74] : List Addr) ++ ([75, 85, 88, 98, 110, 122, 134, 152, 153, 171, 172, 177, 178, 179, 182, 183, 184, 185, 186, 189, 190, 191, 194, 195, 196, 197, 198, 201, 202, 203, 204, 205, 208, 209, 210, 211, 212, 215, 216, 217, 218, 219, 222, 223, 224, 225, 226, 229, 230, 231, 232, 233, 250, 257, 258, 261, 262, 278, 285, 292] : List Addr) ++ ([299, 304, 309, 316, 317, 320, 321, 324, 325, 326, 327, 328, 331, 332, 333, 334, 335, 338, 339, 340, 341, 342, 345, 346, 347, 350, 351, 352, 353, 354, 357, 358, 359, 362, 363, 364, 365, 366, 369, 370, 371, 374, 375, 376, 151, 170, 249, 243, 256, 277, 284, 291, 298, 303, 308, 315, 146, 147, 148, 149] : List Addr) ++ ([150, 165, 166, 167, 168, 169, 244, 245, 246, 247, 248, 251, 252, 253, 254, 255, 272, 273, 274, 275, 276, 279, 280, 281, 282, 283, 286, 287, 288, 289, 290, 293, 294, 295, 296, 297, 300, 301, 302, 305, 306, 307, 310, 311, 312, 313, 314] : List Addr)
abbrev hk : PySem.W.Hook := hookB addrs fa fn exs tf
def ob (s : PySem.W.SharedT) : AlE := obsB addrs fa fn exs tf (HandSHeadRun.getT s)
theorem ob_eq (s : PySem.W.SharedT) : ob s = hk.obs s.abs := obsB_eq (HandSHeadRun.getT_eq s)
theorem run (w : World) : HandSHeadRun.RunEq R (PySem.W.view R.prog [48]) hk ob 4940 names w := by
  intro os
  kernel_rfl
open PySem.W PySem.Calls PyProof.Rows in
set_option maxHeartbeats 0 in
theorem close (hc : PySem.W.WalkO (view Law.R.prog [48]) Law.names (PySem.W.XL (view Law.R.prog [48]) []) Law.hk.says Law.R.toRowW (HandSHeadRun.topDef Law.R.prog 48) [] fun f vs => PySem.call f vs) : PySem.Challenge.rw_dutyproof_k71_ranks_found.Holds := by
  w_on; o_law
  refine HandSHeadRun.head_any (r := Law.R) (q := view Law.R.prog [48]) (H := Law.hk) (ob := Law.ob) (M := 4940) (loose := Law.names) (d := HandSHeadRun.topDef Law.R.prog 48) (kwd := []) Law.ob_eq
    (by kernel_rfl) (fun s => by kernel_rfl) Law.run (by kernel_rfl) (by kernel_rfl) (by kernel_rfl) (by rfl) (by first | assumption | decide +kernel) (by decide +kernel) ⟨rfl, rfl, rfl, rfl, rfl, by decide +kernel⟩ ?hw hc
  case hw => w_witness2
end Law
namespace DL
open PySem PySem.Spec L2
inductive Fd where
  | name | gap | length | due | late | sections | works | numbers | duty | lines | row | place | turn | num | stuck
  deriving DecidableEq
def Fd.str : Fd → Str
  | .name => "name" | .gap => "gap" | .length => "length" | .due => "due" | .late => "late" | .sections => "sections" | .works => "works" | .numbers => "numbers" | .duty => "duty" | .lines => "lines" | .row => "row" | .place => "place" | .turn => "turn"
  | .num => "at" | .stuck => "stuck"
theorem Fd.inj : ∀ a b : Fd, a.str = b.str → a = b := by
  intro a b
  cases a <;> cases b <;> first | exact fun _ => rfl | (intro h; exact absurd h (by decide +kernel))
structure XI where
  a : Addr
  cls : Value
  d : Option Addr
inductive D where
  | non | bl (b : Bool) | int (i : Int) | str (x : Str)
  | lst (xs : List D) | tup (xs : List D)
  | dic (kvs : List (Key × D))
  | obj (c : Cn) (fs : List (Fd × D))
  | exn (k : XI) (c : Cn) (fs : List (Fd × D))
  | box (x : D)   -- data with own parts in it: not looked into
inductive C where
  | d (x : D) | nl (xs : List D) | nd (kvs : List (Key × D)) | no (a : Addr) (c : Cn) (fs : List (Fd × D))
  | np (a : Addr) (xs : List D)   -- a list of the caller's, handed to be changed
  | ro (a : Addr) (vs : List V) (xs : List D)   -- a list of the caller's, handed to be read
  | fz (v : V) (x : D)   -- data that nobody changes, its value known
  | cp (a : Addr) (xs : List D)   -- an own list of just the items of the frozen list at a
  | nt (a : Addr) (xs : List D) (y : D)   -- an own tuple of an own list and data
  | nn (as : List Addr) (xss : List (List D))   -- an own list of own lists
def C.dat : C → D
  | .d x => x
  | .nl xs => .lst xs
  | .nd kvs => .dic kvs
  | .no _ c fs => .obj c fs
  | .np _ xs => .lst xs
  | .ro _ _ xs => .lst xs
  | .fz _ x => x
  | .cp _ xs => .lst xs
  | .nt _ xs y => .box (.tup [.lst xs, y])
  | .nn _ xss => .box (.lst (xss.map .lst))
def C.inn : C → List Addr
  | .nt a _ _ => [a]
  | .nn as _ => as
  | _ => []
structure Exn where
  cls : Cn
  fs : List (Fd × D)
abbrev Rho := List (Option C)
def isT : HO → Bool
  | .tbl _ => true
  | _ => false
def Same (H H' : Hp) : Prop := ∀ b o, H b = some o → H' b = some o ∨ (isT o = true ∧ H' b ≠ none)
theorem Same.at {H H' : Hp} {b : Addr} {o : HO} (s : Same H H') (h : H b = some o) (n : isT o = false := by rfl) : H' b = some o := by
  rcases s _ _ h with z | ⟨z, _⟩
  · exact z
  · rw [n] at z; cases z
theorem Same.refl (H : Hp) : Same H H := fun _ _ h => .inl h
theorem Same.of {H H' : Hp} (s : ∀ b o, H b = some o → H' b = some o) : Same H H' := fun b o h => .inl (s b o h)
theorem Same.free {H H' : Hp} (e : Same H H') {l : Addr} (h : H' l = none) : H l = none := by
  cases q : H l with
  | none => rfl
  | some o =>
    rcases e _ _ q with z | ⟨_, z⟩
    · rw [h] at z; cases z
    · exact absurd h z
theorem Same.trans {H H1 H2 : Hp} (a : Same H H1) (b : Same H1 H2) : Same H H2 := fun c o h => by
  rcases a c o h with z | ⟨z1, z2⟩
  · exact b c o z
  · exact .inr ⟨z1, fun w => z2 (b.free w)⟩
theorem Same.seq {K : PySem.W.Frag} {H H' : Hp} {a : Addr} {xs : List V} (e : Same H H') (h : SqL K H a xs) : SqL K H' a xs := by
  rcases h with (h | ⟨o, h⟩) | h
  · exact .inl (.inl (e.at h))
  · exact .inl (.inr ⟨o, e.at h⟩)
  · exact .inr h
class TP where
  on : Bool
  P : Addr
  q : Str
@[reducible] def tpNo : TP := ⟨false, 0, ""⟩
def q0 : Str := "Order.pick.<locals>.ahead"
abbrev TabP [TP] (H : Hp) (P : Addr) : Prop := LamX.TabS H P TP.q
def TabQ [TP] (H : Hp) : Prop := TP.on = true → TabP H TP.P
variable [TP]
structure SameT (H H' : Hp) : Prop where
  s : Same H H'
  tq : TabQ H → TabQ H'
theorem SameT.at {H H' : Hp} {b : Addr} {o : HO} (s : SameT H H') (h : H b = some o) (n : isT o = false := by rfl) : H' b = some o := s.s.at h n
theorem SameT.refl (H : Hp) : SameT H H := ⟨Same.refl H, fun h => h⟩
theorem SameT.trans {H H1 H2 : Hp} (a : SameT H H1) (b : SameT H1 H2) : SameT H H2 := ⟨a.s.trans b.s, fun h => b.tq (a.tq h)⟩
theorem SameT.free {H H' : Hp} (e : SameT H H') {l : Addr} (h : H' l = none) : H l = none := e.s.free h
theorem SameT.of {H H' : Hp} (s : ∀ b o, H b = some o → H' b = some o) : SameT H H' := ⟨Same.of s, fun h z => (h z).ext s⟩
def okO : Option HO → Bool
  | some (.tbl _) => false
  | some (.ext _) => false
  | _ => true
theorem tab_upd {H : Hp} {p : Addr} {o : HO} (n : okO (H p) = true) (h : TabQ H) : TabQ (upd H p o) := fun z => by
  obtain ⟨ps, h1, h2, h3⟩ := h z
  refine ⟨ps, ?_, h2, fun pos cv hc => ?_⟩
  · rw [upd_ne (fun z => by rw [← z, h1] at n; cases n)]; exact h1
  · obtain ⟨c, e1, e2⟩ := h3 pos cv hc
    refine ⟨c, e1, ?_⟩
    rw [upd_ne (fun z => by rw [← z, e2] at n; cases n)]; exact e2
theorem SameT.upd {H0 H : Hp} (s : SameT H0 H) {p : Addr} {o : HO} (n0 : H0 p = none) (n : okO (H p) = true) : SameT H0 (L2.upd H p o) :=
  ⟨fun b w hb => by rw [upd_ne (ne_of_none hb n0)]; exact s.s _ _ hb, fun h => tab_upd n (s.tq h)⟩
theorem SameT.new {H : Hp} {p : Addr} {o : HO} (n : H p = none) : SameT H (L2.upd H p o) := (SameT.refl H).upd n (by rw [n]; rfl)
def Glo (K : PySem.W.Frag) (c : Cn) : Prop := PySem.W.nsIn K mainGlobals c.str = some (some (.ref (He.ga K c.str)))
section
variable (K : PySem.W.Frag) (G : Hp)
mutual
inductive Rep : V → D → Prop
  | non : Rep .non .non
  | bl (b : Bool) : Rep (.bl b) (.bl b)
  | int (i : Int) : Rep (.int i) (.int i)
  | str (x : Str) : Rep (.str x) (.str x)
  | lst {a : Addr} {vs : List V} {xs : List D} : SqL K G a vs → RepL vs xs → Rep (.ref a) (.lst xs)
  | tup {a : Addr} {vs : List V} {xs : List D} : Rd G a (.tup vs) → RepL vs xs → Rep (.ref a) (.tup xs)
  | dic {a : Addr} {ws : List (Key × V)} {kvs : List (Key × D)} : Rd G a (.dK ws) → ws.map (·.1) = kvs.map (·.1) → RepL (ws.map (·.2)) (kvs.map (·.2)) → Rep (.ref a) (.dic kvs)
  | obj {a dx : Addr} {c : Cn} {ws : List (Str × V)} {fs : List (Fd × D)} : G a = some (.ins (He.ga K c.str) dx ws) → ws.map (·.1) = fs.map (fun p => p.1.str) → RepL (ws.map (·.2)) (fs.map (·.2)) → Rep (.ref a) (.obj c fs)
  | exn0 {k : XI} {c : Cn} : Glo K c → k.cls = .ref (He.ga K c.str) → k.d = none → Rep (.ref k.a) (.exn k c [])
  | exn1 {k : XI} {dd : Addr} {c : Cn} {ws : List (Str × V)} {fs : List (Fd × D)} : Glo K c → k.cls = .ref (He.ga K c.str) → k.d = some dd → G dd = some (.xd ws) → ws.map (·.1) = fs.map (fun p => p.1.str) → RepL (ws.map (·.2)) (fs.map (·.2)) → Rep (.ref k.a) (.exn k c fs)
  | box {a : Addr} {x : D} : Rep (.ref a) x → Rep (.ref a) (.box x)
inductive RepL : List V → List D → Prop
  | nil : RepL [] []
  | cons {v : V} {vs : List V} {x : D} {xs : List D} : Rep v x → RepL vs xs → RepL (v :: vs) (x :: xs)
end
end
section
variable {K : PySem.W.Frag} {G G' H H' H1 H2 G1 G2 : Hp} {v : V} {vs : List V} {x : D} {xs : List D}
theorem rd_same {a : Addr} {o : HO} (e : Same H H') (h : Rd H a o) (n : isT o = false := by rfl) : Rd H' a o := by
  rcases h with h | ⟨u, h⟩
  · exact .inl (e.at h n)
  · exact .inr ⟨u, e.at h⟩
mutual
theorem Rep.mono (e : Same G G') : ∀ {v : V} {x : D}, Rep K G v x → Rep K G' v x
  | _, _, .non => .non
  | _, _, .bl b => .bl b
  | _, _, .int i => .int i
  | _, _, .str z => .str z
  | _, _, .lst h r => .lst (e.seq h) (RepL.mono e r)
  | _, _, .tup h r => .tup (rd_same e h) (RepL.mono e r)
  | _, _, .dic h k r => .dic (rd_same e h) k (RepL.mono e r)
  | _, _, .obj h k r => .obj (e.at h) k (RepL.mono e r)
  | _, _, .exn0 g h k => .exn0 g h k
  | _, _, .exn1 g0 h k g q r => .exn1 g0 h k (e.at g) q (RepL.mono e r)
  | _, _, .box h => .box (Rep.mono e h)
theorem RepL.mono (e : Same G G') : ∀ {vs : List V} {xs : List D}, RepL K G vs xs → RepL K G' vs xs
  | _, _, .nil => .nil
  | _, _, .cons h r => .cons (Rep.mono e h) (RepL.mono e r)
end
theorem RepL.length : ∀ {vs : List V} {xs : List D}, RepL K G vs xs → vs.length = xs.length
  | _, _, .nil => rfl
  | _, _, .cons _ r => by rw [List.length_cons, List.length_cons, RepL.length r]
theorem RepL.append : ∀ {vs ws : List V} {xs ys : List D}, RepL K G vs xs → RepL K G ws ys → RepL K G (vs ++ ws) (xs ++ ys)
  | _, _, _, _, .nil, s => s
  | _, _, _, _, .cons h r, s => .cons h (RepL.append r s)
theorem RepL.get : ∀ {vs : List V} {xs : List D} {i : Nat} {x : D}, RepL K G vs xs → xs[i]? = some x → ∃ v, vs[i]? = some v ∧ Rep K G v x
  | _, _, _, _, .nil, e => by simp at e
  | _, _, 0, _, .cons h _, e => by simp at e; subst e; exact ⟨_, rfl, h⟩
  | _, _, i + 1, x, .cons _ t, e => by
    obtain ⟨u, h1, h2⟩ := RepL.get (i := i) (x := x) t (by simpa using e)
    exact ⟨u, by simpa using h1, h2⟩
theorem RepL.getV : ∀ {vs : List V} {xs : List D} {i : Nat} {v : V}, RepL K G vs xs → vs[i]? = some v → ∃ x, xs[i]? = some x ∧ Rep K G v x
  | _, _, _, _, .nil, e => by simp at e
  | _, _, 0, _, .cons h _, e => by simp at e; subst e; exact ⟨_, rfl, h⟩
  | _, _, i + 1, x, .cons _ t, e => by
    obtain ⟨u, h1, h2⟩ := RepL.getV (i := i) (v := x) t (by simpa using e)
    exact ⟨u, by simpa using h1, h2⟩
theorem RepL.drop : ∀ {vs : List V} {xs : List D} (n : Nat), RepL K G vs xs → RepL K G (vs.drop n) (xs.drop n)
  | _, _, 0, r => r
  | _, _, _ + 1, .nil => .nil
  | _, _, n + 1, .cons _ t => RepL.drop n t
theorem RepL.take : ∀ {vs : List V} {xs : List D} (n : Nat), RepL K G vs xs → RepL K G (vs.take n) (xs.take n)
  | _, _, 0, _ => .nil
  | _, _, _ + 1, .nil => .nil
  | _, _, n + 1, .cons h t => .cons h (RepL.take n t)
theorem RepL.set {v : V} {x : D} (h : Rep K G v x) : ∀ {vs : List V} {xs : List D} (i : Nat), RepL K G vs xs → RepL K G (vs.set i v) (xs.set i x)
  | _, _, _, .nil => .nil
  | _, _, 0, .cons _ t => .cons h t
  | _, _, i + 1, .cons q t => .cons q (RepL.set h i t)
theorem RepL.ints : ∀ (ns : List Int), RepL K G (ns.map V.int) (ns.map D.int)
  | [] => .nil
  | n :: ns => .cons (.int n) (RepL.ints ns)
theorem RepL.ofInts : ∀ {vs : List V} {ns : List Int}, RepL K G vs (ns.map D.int) → vs = ns.map V.int
  | _, [], h => by cases h; rfl
  | _, n :: ns, h => by
    cases h with
    | cons h1 h2 => cases h1; rw [RepL.ofInts h2]; rfl
theorem RepL.ofStrs : ∀ {vs : List V} {ns : List Str}, RepL K G vs (ns.map D.str) → vs = ns.map V.str
  | _, [], h => by cases h; rfl
  | _, n :: ns, h => by
    cases h with
    | cons h1 h2 => cases h1; rw [RepL.ofStrs h2]; rfl
theorem RepL.strs : ∀ (ns : List Str), RepL K G (ns.map V.str) (ns.map D.str)
  | [] => .nil
  | n :: ns => .cons (.str n) (RepL.strs ns)
theorem RepL.ofBls : ∀ {vs : List V} {ns : List Bool}, RepL K G vs (ns.map D.bl) → vs = ns.map V.bl
  | _, [], h => by cases h; rfl
  | _, n :: ns, h => by
    cases h with
    | cons h1 h2 => cases h1; rw [RepL.ofBls h2]; rfl
end
structure Gr (G H G' H' : Hp) : Prop where
  hh : SameT H H'
  gg : Same G G'
  gh : Same G' H'
  new : ∀ a, G' a ≠ none → G a ≠ none ∨ H a = none
theorem Gr.refl {G H : Hp} (h : Same G H) : Gr G H G H := ⟨SameT.refl _, Same.refl _, h, fun _ z => .inl z⟩
theorem Gr.trans {G H G1 H1 G2 H2 : Hp} (a : Gr G H G1 H1) (b : Gr G1 H1 G2 H2) : Gr G H G2 H2 :=
  ⟨a.hh.trans b.hh, a.gg.trans b.gg, b.gh, fun c z => (b.new c z).elim (fun w => a.new c w) fun w => .inr (a.hh.free w)⟩
inductive Lists (K : PySem.W.Frag) (G H : Hp) : List Addr → List (List D) → Prop
  | nil : Lists K G H [] []
  | cons {a : Addr} {as : List Addr} {vs : List V} {xs : List D} {xss : List (List D)} : G a = none → H a = some (.lst vs) → RepL K G vs xs → Lists K G H as xss → Lists K G H (a :: as) (xs :: xss)
theorem Lists.keep {K : PySem.W.Frag} {G H G' H' : Hp} (m : Same G G') : ∀ {as : List Addr} {xss : List (List D)}, (∀ a o, a ∈ as → G a = none → H a = some o → isT o = false → G' a = none ∧ H' a = some o) → Lists K G H as xss → Lists K G' H' as xss
  | _, _, _, .nil => .nil
  | _, _, z, .cons n h r l => let q := z _ _ List.mem_cons_self n h rfl; .cons q.1 q.2 (r.mono m) (Lists.keep m (fun a o hm => z a o (List.mem_cons_of_mem _ hm)) l)
theorem Lists.mem {K : PySem.W.Frag} {G H : Hp} : ∀ {as : List Addr} {xss : List (List D)}, Lists K G H as xss → ∀ a ∈ as, G a = none ∧ ∃ vs, H a = some (.lst vs)
  | _, _, .cons n h _ l, a, hm => by
    rcases List.mem_cons.mp hm with rfl | hm
    · exact ⟨n, _, h⟩
    · exact Lists.mem l a hm
theorem Lists.len {K : PySem.W.Frag} {G H : Hp} : ∀ {as : List Addr} {xss : List (List D)}, Lists K G H as xss → as.length = xss.length
  | _, _, .nil => rfl
  | _, _, .cons _ _ _ l => by rw [List.length_cons, List.length_cons, Lists.len l]
inductive RC (K : PySem.W.Frag) (G H : Hp) : V → C → Prop
  | d {v : V} {x : D} : Rep K G v x → RC K G H v (.d x)
  | nl {a : Addr} {vs : List V} {xs : List D} : G a = none → H a = some (.lst vs) → RepL K G vs xs → RC K G H (.ref a) (.nl xs)
  | nd {a : Addr} {ws : List (Key × V)} {kvs : List (Key × D)} : G a = none → H a = some (.dK ws) → ws.map (·.1) = kvs.map (·.1) → RepL K G (ws.map (·.2)) (kvs.map (·.2)) → RC K G H (.ref a) (.nd kvs)
  | no {a dx : Addr} {c : Cn} {ws : List (Str × V)} {fs : List (Fd × D)} : G a = none → H a = some (.ins (He.ga K c.str) dx ws) → ws.map (·.1) = fs.map (fun p => p.1.str) → RepL K G (ws.map (·.2)) (fs.map (·.2)) → RC K G H (.ref a) (.no a c fs)
  | np {a : Addr} {vs : List V} {xs : List D} : G a = none → H a = some (.lst vs) → RepL K G vs xs → RC K G H (.ref a) (.np a xs)
  | ro {a : Addr} {vs : List V} {xs : List D} : G a = none → H a = some (.lst vs) → RepL K G vs xs → RC K G H (.ref a) (.ro a vs xs)
  | fz {v : V} {x : D} : Rep K G v x → RC K G H v (.fz v x)
  | cp {a b : Addr} {vs : List V} {xs : List D} : G b = none → H b = some (.lst vs) → SqL K G a vs → RepL K G vs xs → RC K G H (.ref b) (.cp a xs)
  | nt {p a : Addr} {w : V} {vs : List V} {xs : List D} {y : D} : G p = none → H p = some (.tup [.ref a, w]) → G a = none → H a = some (.lst vs) → RepL K G vs xs → Rep K G w y → RC K G H (.ref p) (.nt a xs y)
  | nn {p : Addr} {as : List Addr} {xss : List (List D)} : G p = none → H p = some (.lst (as.map .ref)) → p ∉ as → as.Nodup → Lists K G H as xss → RC K G H (.ref p) (.nn as xss)
def C.own : C → Bool
  | .d _ => false
  | .fz _ _ => false
  | _ => true
def Fresh (H : Hp) (v : V) (c : C) : Prop := c.own = true → ∀ a, (v = .ref a ∨ a ∈ c.inn) → H a = none
theorem fresh_of {H : Hp} {v : V} {c : C} (h : ∀ a, v = .ref a → H a = none) (n : c.inn = [] := by rfl) : Fresh H v c := fun _ a z => z.elim (h a) fun q => by rw [n] at q; cases q
theorem RC.grow {K : PySem.W.Frag} {G H G' H' : Hp} {v : V} {c : C} (r : RC K G H v c) (g : Gr G H G' H') : RC K G' H' v c := by
  have z : ∀ a o, G a = none → H a = some o → G' a = none := fun a o n h => by
    cases e : G' a with
    | none => rfl
    | some u =>
      rcases g.new a (by rw [e]; simp) with w | w
      · exact absurd n w
      · rw [h] at w; cases w
  cases r with
  | d h => exact .d (h.mono g.gg)
  | nl n h r => exact .nl (z _ _ n h) (g.hh.at h) (r.mono g.gg)
  | nd n h k r => exact .nd (z _ _ n h) (g.hh.at h) k (r.mono g.gg)
  | no n h k r => exact .no (z _ _ n h) (g.hh.at h) k (r.mono g.gg)
  | np n h r => exact .np (z _ _ n h) (g.hh.at h) (r.mono g.gg)
  | ro n h r => exact .ro (z _ _ n h) (g.hh.at h) (r.mono g.gg)
  | fz h => exact .fz (h.mono g.gg)
  | cp n h q r => exact .cp (z _ _ n h) (g.hh.at h) (g.gg.seq q) (r.mono g.gg)
  | nt n h n2 h2 r q => exact .nt (z _ _ n h) (g.hh.at h) (z _ _ n2 h2) (g.hh.at h2) (r.mono g.gg) (q.mono g.gg)
  | nn n h pa nd l => exact .nn (z _ _ n h) (g.hh.at h) pa nd (l.keep g.gg fun a o _ n h t => ⟨z _ _ n h, g.hh.at h t⟩)
theorem RC.ref {K : PySem.W.Frag} {G H : Hp} {v : V} {c : C} (r : RC K G H v c) (o : c.own = true) : ∃ a u, v = .ref a ∧ G a = none ∧ H a = some u := by
  cases r with
  | d h => cases o
  | nl n h r => exact ⟨_, _, rfl, n, h⟩
  | nd n h k r => exact ⟨_, _, rfl, n, h⟩
  | no n h k r => exact ⟨_, _, rfl, n, h⟩
  | np n h r => exact ⟨_, _, rfl, n, h⟩
  | ro n h r => exact ⟨_, _, rfl, n, h⟩
  | fz h => cases o
  | cp n h _ r => exact ⟨_, _, rfl, n, h⟩
  | nt n h => exact ⟨_, _, rfl, n, h⟩
  | nn n h => exact ⟨_, _, rfl, n, h⟩
theorem RC.inn {K : PySem.W.Frag} {G H : Hp} {v : V} {c : C} (r : RC K G H v c) {a : Addr} (ha : a ∈ c.inn) : G a = none ∧ (∃ vs, H a = some (.lst vs)) ∧ v ≠ .ref a := by
  cases r with
  | nt n h n2 h2 r q =>
    rw [show a = _ from List.mem_singleton.mp ha]
    exact ⟨n2, ⟨_, h2⟩, fun z => by cases z; rw [h] at h2; cases h2⟩
  | nn n h pa nd l =>
    obtain ⟨q1, q2⟩ := l.mem a ha
    exact ⟨q1, q2, fun z => by cases z; exact pa ha⟩
  | _ => cases ha
theorem RC.okO {K : PySem.W.Frag} {G H : Hp} {a : Addr} {c : C} (r : RC K G H (.ref a) c) (o : c.own = true) : DL.okO (H a) = true := by
  cases r with
  | d h => cases o
  | nl n h r => rw [h]; rfl
  | nd n h k r => rw [h]; rfl
  | no n h k r => rw [h]; rfl
  | np n h r => rw [h]; rfl
  | ro n h r => rw [h]; rfl
  | fz h => cases o
  | cp n h _ r => rw [h]; rfl
  | nt n h => rw [h]; rfl
  | nn n h => rw [h]; rfl
theorem inn_own {c : C} {a : Addr} (h : a ∈ c.inn) : c.own = true := by
  cases c <;> first | rfl | cases h
theorem RC.move {K : PySem.W.Frag} {G H G' H' : Hp} {v : V} {c : C} (m : Same G G') (r : RC K G H v c) (z : ∀ b o, c.own = true → (v = .ref b ∨ b ∈ c.inn) → G b = none → H b = some o → isT o = false → G' b = none ∧ H' b = some o) : RC K G' H' v c := by
  cases r with
  | d h => exact .d (h.mono m)
  | nl n h r => obtain ⟨z1, z2⟩ := z _ _ rfl (.inl rfl) n h rfl; exact .nl z1 z2 (r.mono m)
  | nd n h k r => obtain ⟨z1, z2⟩ := z _ _ rfl (.inl rfl) n h rfl; exact .nd z1 z2 k (r.mono m)
  | no n h k r => obtain ⟨z1, z2⟩ := z _ _ rfl (.inl rfl) n h rfl; exact .no z1 z2 k (r.mono m)
  | np n h r => obtain ⟨z1, z2⟩ := z _ _ rfl (.inl rfl) n h rfl; exact .np z1 z2 (r.mono m)
  | ro n h r => obtain ⟨z1, z2⟩ := z _ _ rfl (.inl rfl) n h rfl; exact .ro z1 z2 (r.mono m)
  | fz h => exact .fz (h.mono m)
  | cp n h q r => obtain ⟨z1, z2⟩ := z _ _ rfl (.inl rfl) n h rfl; exact .cp z1 z2 (m.seq q) (r.mono m)
  | nt n h n2 h2 r q =>
    obtain ⟨z1, z2⟩ := z _ _ rfl (.inl rfl) n h rfl
    obtain ⟨z3, z4⟩ := z _ _ rfl (.inr (List.mem_singleton.mpr rfl)) n2 h2 rfl
    exact .nt z1 z2 z3 z4 (r.mono m) (q.mono m)
  | nn n h pa nd l =>
    obtain ⟨z1, z2⟩ := z _ _ rfl (.inl rfl) n h rfl
    exact .nn z1 z2 pa nd (l.keep m fun a o hm n h t => z a o rfl (.inr hm) n h t)
structure Ent where
  H : Hp
  G : Hp
structure Glob (e : Ent) (G H : Hp) : Prop where
  gh : Same G H
  old : SameT e.H H
  og : Same e.G G
  new : ∀ a, G a ≠ none → e.G a ≠ none ∨ e.H a = none
structure Rel (K : PySem.W.Frag) (e : Ent) (ρ : Rho) (G : Hp) (σ : L2.St) (H : Hp) : Prop where
  gl : Glob e G H
  tq : TabQ H
  at_ : ∀ (i : Nat) (c : C), ρ[i]? = some (some c) → ∃ v, σ[i]? = some (some v) ∧ RC K G H v c ∧ Fresh e.H v c
  apart : ∀ (i j : Nat) (c c' : C) (v : V), i ≠ j → ρ[i]? = some (some c) → ρ[j]? = some (some c') → c.own = true → c'.own = true → σ[i]? = some (some v) → σ[j]? ≠ some (some v)
  len : ρ.length = σ.length
  inn : ∀ (i j : Nat) (c c' : C) (a : Addr), ρ[i]? = some (some c) → ρ[j]? = some (some c') → a ∈ c.inn → c'.own = true → σ[j]? ≠ some (some (.ref a)) ∧ (i ≠ j → a ∉ c'.inn)
section
variable {K : PySem.W.Frag} {e : Ent} {ρ : Rho} {G H G' H' : Hp} {σ : L2.St}
theorem Glob.grow (R : Glob e G H) (g : Gr G H G' H') : Glob e G' H' :=
  ⟨g.gh, R.old.trans g.hh, R.og.trans g.gg, fun a z => (g.new a z).elim (R.new a) fun w => .inr (R.old.free w)⟩
theorem Rel.grow (R : Rel K e ρ G σ H) (g : Gr G H G' H') : Rel K e ρ G' σ H' :=
  ⟨R.gl.grow g, g.hh.tq R.tq, fun i c h => let ⟨v, h1, h2, h3⟩ := R.at_ i c h; ⟨v, h1, h2.grow g, h3⟩, R.apart, R.len, R.inn⟩
theorem Fresh.old {v : V} {c : C} (R : Glob e G H) (f : Fresh H v c) : Fresh e.H v c := fun o a q => R.old.free (f o a q)
theorem Fresh.back {v : V} {c : C} (g : SameT H H') (f : Fresh H' v c) : Fresh H v c := fun o a q => g.free (f o a q)
theorem Rel.set (R : Rel K e ρ G σ H) {i : Nat} {v : V} {c : C} (r : RC K G H v c) (f : Fresh e.H v c) (u : c.own = true → ∀ (j : Nat) (c' : C), ρ[j]? = some (some c') → c'.own = true → σ[j]? ≠ some (some v))
    (un : ∀ (j : Nat) (c' : C), i ≠ j → ρ[j]? = some (some c') → (∀ a ∈ c'.inn, c.own = true → v ≠ .ref a ∧ a ∉ c.inn) ∧ (c'.own = true → ∀ a ∈ c.inn, σ[j]? ≠ some (some (.ref a)) ∧ a ∉ c'.inn)) : Rel K e (ρ.set i (some c)) G (σ.set i (some v)) H := by
  refine ⟨R.gl, R.tq, fun j c' h => ?_, fun j k c1 c2 w hjk h1 h2 o1 o2 s1 => ?_, by rw [List.length_set, List.length_set, R.len], fun j k c1 c2 a h1 h2 m1 o2 => ?_⟩
  · by_cases hj : i = j
    · subst hj
      have hl : i < ρ.length := by
        cases Nat.lt_or_ge i ρ.length with
        | inl z => exact z
        | inr z =>
          rw [List.getElem?_eq_none (by rw [List.length_set]; exact z)] at h
          cases h
      rw [List.getElem?_set_self hl] at h
      cases h
      exact ⟨v, List.getElem?_set_self (by rw [← R.len]; exact hl), r, f⟩
    · rw [List.getElem?_set_ne hj] at h
      obtain ⟨w, h1, h2⟩ := R.at_ j c' h
      exact ⟨w, by rw [List.getElem?_set_ne hj]; exact h1, h2⟩
  · have hlen : ∀ (c : C) (m : Nat), (ρ.set i (some c))[i]? = some (some c) ∨ ¬ i < ρ.length := fun c m => by
      cases Nat.lt_or_ge i ρ.length with
      | inl z => exact .inl (List.getElem?_set_self z)
      | inr z => exact .inr (by omega)
    by_cases hj : i = j
    · subst hj
      have hl : i < ρ.length := by
        cases Nat.lt_or_ge i ρ.length with
        | inl z => exact z
        | inr z =>
          rw [List.getElem?_eq_none (by rw [List.length_set]; exact z)] at h1
          cases h1
      rw [List.getElem?_set_self hl] at h1
      cases h1
      rw [List.getElem?_set_self (by rw [← R.len]; exact hl)] at s1
      cases s1
      rw [List.getElem?_set_ne hjk] at h2 ⊢
      exact u o1 k c2 h2 o2
    · rw [List.getElem?_set_ne hj] at h1 s1
      by_cases hk : i = k
      · subst hk
        have hl : i < ρ.length := by
          cases Nat.lt_or_ge i ρ.length with
          | inl z => exact z
          | inr z =>
            rw [List.getElem?_eq_none (by rw [List.length_set]; exact z)] at h2
            cases h2
        rw [List.getElem?_set_self hl] at h2
        cases h2
        rw [List.getElem?_set_self (by rw [← R.len]; exact hl)]
        intro q
        cases q
        exact u o2 j c1 h1 o1 s1
      · rw [List.getElem?_set_ne hk] at h2 ⊢
        exact R.apart j k c1 c2 w hjk h1 h2 o1 o2 s1
  · have self : ∀ {x : C}, (ρ.set i (some c))[i]? = some (some x) → x = c ∧ (σ.set i (some v))[i]? = some (some v) := fun {x} h => by
      have hl : i < ρ.length := by
        cases Nat.lt_or_ge i ρ.length with
        | inl z => exact z
        | inr z => rw [List.getElem?_eq_none (by rw [List.length_set]; exact z)] at h; cases h
      rw [List.getElem?_set_self hl] at h
      cases h
      exact ⟨rfl, List.getElem?_set_self (by rw [← R.len]; exact hl)⟩
    by_cases hj : i = j
    · subst hj
      obtain ⟨rfl, sv⟩ := self h1
      by_cases hk : i = k
      · subst hk
        exact ⟨fun q => by rw [sv] at q; cases q; exact (r.inn m1).2.2 rfl, fun z => absurd rfl z⟩
      · rw [List.getElem?_set_ne hk] at h2 ⊢
        have q := (un k c2 hk h2).2 o2 a m1
        exact ⟨q.1, fun _ => q.2⟩
    · rw [List.getElem?_set_ne hj] at h1
      by_cases hk : i = k
      · subst hk
        obtain ⟨rfl, sv⟩ := self h2
        have q := (un j c1 hj h1).1 a m1 o2
        exact ⟨fun z => by rw [sv] at z; cases z; exact q.1 rfl, fun _ => q.2⟩
      · rw [List.getElem?_set_ne hk] at h2 ⊢
        exact R.inn j k c1 c2 a h1 h2 m1 o2
theorem Rel.setD (R : Rel K e ρ G σ H) {i : Nat} {v : V} {x : D} (r : Rep K G v x) : Rel K e (ρ.set i (some (.d x))) G (σ.set i (some v)) H :=
  R.set (.d r) (fun z => by cases z) (fun z => by cases z) fun _ _ _ _ => ⟨fun _ _ z => (by cases z), fun _ _ z => by cases z⟩
theorem Rel.forget (R : Rel K e ρ G σ H) (i : Nat) : Rel K e (ρ.set i none) G σ H := by
  have k : ∀ j c, (ρ.set i none)[j]? = some (some c) → ρ[j]? = some (some c) := fun j c h => by
    by_cases hj : i = j
    · subst hj
      cases Nat.lt_or_ge i ρ.length with
      | inl z => rw [List.getElem?_set_self z] at h; cases h
      | inr z => rw [List.getElem?_eq_none (by rw [List.length_set]; exact z)] at h; cases h
    · rw [List.getElem?_set_ne hj] at h; exact h
  exact ⟨R.gl, R.tq, fun j c h => R.at_ j c (k j c h), fun j l c c' v hj h1 h2 => R.apart j l c c' v hj (k _ _ h1) (k _ _ h2), by rw [List.length_set, R.len], fun j l c c' a h1 h2 => R.inn j l c c' a (k _ _ h1) (k _ _ h2)⟩
end
end DL
namespace DL
open PySem PySem.Spec L2
variable [TP]
inductive LooksL (K : PySem.W.Frag) (G H : Hp) : List Addr → List (List D) → Prop
  | nil : LooksL K G H [] []
  | cons {a : Addr} {as : List Addr} {vs : List V} {xs : List D} {xss : List (List D)} : H a = some (.lst vs) → RepL K G vs xs → LooksL K G H as xss → LooksL K G H (a :: as) (xs :: xss)
theorem Lists.looks {K : PySem.W.Frag} {G H : Hp} : ∀ {as : List Addr} {xss : List (List D)}, Lists K G H as xss → LooksL K G H as xss
  | _, _, .nil => .nil
  | _, _, .cons _ h r l => .cons h r (Lists.looks l)
theorem LooksL.grow {K : PySem.W.Frag} {G H G' H' : Hp} (g : Gr G H G' H') : ∀ {as : List Addr} {xss : List (List D)}, LooksL K G H as xss → LooksL K G' H' as xss
  | _, _, .nil => .nil
  | _, _, .cons h r l => .cons (g.hh.at h) (r.mono g.gg) (LooksL.grow g l)
theorem LooksL.len {K : PySem.W.Frag} {G H : Hp} : ∀ {as : List Addr} {xss : List (List D)}, LooksL K G H as xss → as.length = xss.length
  | _, _, .nil => rfl
  | _, _, .cons _ _ l => by rw [List.length_cons, List.length_cons, LooksL.len l]
theorem LooksL.get {K : PySem.W.Frag} {G H : Hp} : ∀ {as : List Addr} {xss : List (List D)} {i : Nat} {xs : List D}, LooksL K G H as xss → xss[i]? = some xs → ∃ a vs, as[i]? = some a ∧ H a = some (.lst vs) ∧ RepL K G vs xs
  | _, _, _, _, .nil, e => by simp at e
  | _, _, 0, _, .cons h r _, e => by simp at e; subst e; exact ⟨_, _, rfl, h, r⟩
  | _, _, i + 1, xs, .cons _ _ l, e => by
    obtain ⟨a, vs, h1, h2⟩ := LooksL.get (i := i) (xs := xs) l (by simpa using e)
    exact ⟨a, vs, by simpa using h1, h2⟩
inductive RV (K : PySem.W.Frag) (G H : Hp) : V → D → Prop
  | fz {v : V} {x : D} : Rep K G v x → RV K G H v x
  | nl {a : Addr} {vs : List V} {xs : List D} : H a = some (.lst vs) → RepL K G vs xs → RV K G H (.ref a) (.lst xs)
  | nd {a : Addr} {ws : List (Key × V)} {kvs : List (Key × D)} : H a = some (.dK ws) → ws.map (·.1) = kvs.map (·.1) → RepL K G (ws.map (·.2)) (kvs.map (·.2)) → RV K G H (.ref a) (.dic kvs)
  | no {a dx : Addr} {c : Cn} {ws : List (Str × V)} {fs : List (Fd × D)} : H a = some (.ins (He.ga K c.str) dx ws) → ws.map (·.1) = fs.map (fun p => p.1.str) → RepL K G (ws.map (·.2)) (fs.map (·.2)) → RV K G H (.ref a) (.obj c fs)
  | nt {p a : Addr} {w : V} {vs : List V} {xs : List D} {y : D} : H p = some (.tup [.ref a, w]) → H a = some (.lst vs) → RepL K G vs xs → Rep K G w y → RV K G H (.ref p) (.box (.tup [.lst xs, y]))
  | nn {p : Addr} {as : List Addr} {xss : List (List D)} : H p = some (.lst (as.map .ref)) → LooksL K G H as xss → RV K G H (.ref p) (.box (.lst (xss.map .lst)))
section
variable {K : PySem.W.Frag} {G G' H H' : Hp} {v : V} {c : C} {x : D}
theorem RC.rv (r : RC K G H v c) : RV K G H v c.dat := by
  cases r with
  | d h => exact .fz h
  | nl _ h r => exact .nl h r
  | nd _ h k r => exact .nd h k r
  | no _ h k r => exact .no h k r
  | np _ h r => exact .nl h r
  | ro _ h r => exact .nl h r
  | fz h => exact .fz h
  | cp _ h _ r => exact .nl h r
  | nt _ h _ h2 r q => exact .nt h h2 r q
  | nn _ h _ _ l => exact .nn h l.looks
theorem RV.grow (r : RV K G H v x) (g : Gr G H G' H') : RV K G' H' v x := by
  cases r with
  | fz h => exact .fz (h.mono g.gg)
  | nl h r => exact .nl (g.hh.at h) (r.mono g.gg)
  | nd h k r => exact .nd (g.hh.at h) k (r.mono g.gg)
  | no h k r => exact .no (g.hh.at h) k (r.mono g.gg)
  | nt h h2 r q => exact .nt (g.hh.at h) (g.hh.at h2) (r.mono g.gg) (q.mono g.gg)
  | nn h l => exact .nn (g.hh.at h) (l.grow g)
theorem RV.int {i : Int} (r : RV K G H v (.int i)) : v = .int i := by cases r with | fz h => cases h; rfl
theorem RV.bl {i : Bool} (r : RV K G H v (.bl i)) : v = .bl i := by cases r with | fz h => cases h; rfl
theorem RV.str {i : Str} (r : RV K G H v (.str i)) : v = .str i := by cases r with | fz h => cases h; rfl
theorem RV.non (r : RV K G H v .non) : v = .non := by cases r with | fz h => cases h; rfl
theorem RV.lst {xs : List D} (r : RV K G H v (.lst xs)) (s : Same G H) : ∃ a vs, v = .ref a ∧ SqL K H a vs ∧ RepL K G vs xs := by
  cases r with
  | fz h => cases h with | lst h r => exact ⟨_, _, rfl, s.seq h, r⟩
  | nl h r => exact ⟨_, _, rfl, SqL.of h, r⟩
theorem RV.tup {xs : List D} (r : RV K G H v (.tup xs)) (s : Same G H) : ∃ a vs, v = .ref a ∧ Rd H a (.tup vs) ∧ RepL K G vs xs := by
  cases r with
  | fz h => cases h with | tup h r => exact ⟨_, _, rfl, rd_same s h, r⟩
theorem RV.dic {kvs : List (Key × D)} (r : RV K G H v (.dic kvs)) (s : Same G H) : ∃ a ws, v = .ref a ∧ Rd H a (.dK ws) ∧ ws.map (·.1) = kvs.map (·.1) ∧ RepL K G (ws.map (·.2)) (kvs.map (·.2)) := by
  cases r with
  | fz h => cases h with | dic h k r => exact ⟨_, _, rfl, rd_same s h, k, r⟩
  | nd h k r => exact ⟨_, _, rfl, .inl h, k, r⟩
theorem RV.obj {c : Cn} {fs : List (Fd × D)} (r : RV K G H v (.obj c fs)) (s : Same G H) : ∃ a dx ws, v = .ref a ∧ H a = some (.ins (He.ga K c.str) dx ws) ∧ ws.map (·.1) = fs.map (fun p => p.1.str) ∧ RepL K G (ws.map (·.2)) (fs.map (·.2)) := by
  cases r with
  | fz h => cases h with | obj h k r => exact ⟨_, _, _, rfl, s.at h, k, r⟩
  | no h k r => exact ⟨_, _, _, rfl, h, k, r⟩
def frzH (G H : Hp) (bs : List Addr) : Hp := fun b => if b ∈ bs then H b else G b
theorem frzH_in {G H : Hp} {bs : List Addr} {b : Addr} (h : b ∈ bs) : frzH G H bs b = H b := if_pos h
theorem frzH_out {G H : Hp} {bs : List Addr} {b : Addr} (h : b ∉ bs) : frzH G H bs b = G b := if_neg h
theorem frz_same {G H : Hp} {bs : List Addr} (n : ∀ b ∈ bs, G b = none) : Same G (frzH G H bs) := fun b o hb => by
  rw [frzH_out fun z => by rw [n b z] at hb; cases hb]
  exact .inl hb
theorem frz_gr {G H G' H' : Hp} {bs : List Addr} (g : Gr G H G' H') (n : ∀ b ∈ bs, G' b = none) (f : ∀ b ∈ bs, H b = none) : Gr G H (frzH G' H' bs) H' := by
  refine ⟨g.hh, g.gg.trans (frz_same n), fun b o hb => ?_, fun b hb => ?_⟩
  · by_cases e : b ∈ bs
    · rw [frzH_in e] at hb; exact .inl hb
    · rw [frzH_out e] at hb; exact g.gh _ _ hb
  · by_cases e : b ∈ bs
    · exact .inr (f b e)
    · rw [frzH_out e] at hb; exact g.new b hb
theorem Lists.rep {K : PySem.W.Frag} {G H G2 : Hp} (m : Same G G2) : ∀ {as : List Addr} {xss : List (List D)}, (∀ a ∈ as, G2 a = H a) → Lists K G H as xss → RepL K G2 (as.map .ref) (xss.map .lst)
  | _, _, _, .nil => .nil
  | _, _, z, .cons _ h r l => .cons (.lst (SqL.of ((z _ List.mem_cons_self).trans h)) (r.mono m)) (Lists.rep m (fun a hm => z a (List.mem_cons_of_mem _ hm)) l)
theorem RC.freezeX {K : PySem.W.Frag} {G H G' H' : Hp} {v : V} {c : C} (g : Gr G H G' H') (r : RC K G' H' v c) (f : Fresh H v c) : ∃ G2, Gr G H G2 H' ∧ Same G' G2 ∧ Rep K G2 v c.dat ∧ ∀ b, G' b = none → G2 b ≠ none → c.own = true ∧ (v = .ref b ∨ b ∈ c.inn) := by
  have one : ∀ (a : Addr), G' a = none → H a = none → Gr G H (frzH G' H' [a]) H' ∧ Same G' (frzH G' H' [a]) ∧ frzH G' H' [a] a = H' a ∧ ∀ b, G' b = none → frzH G' H' [a] b ≠ none → b = a := fun a n hn =>
    ⟨frz_gr g (fun b hb => by rw [List.mem_singleton.mp hb]; exact n) (fun b hb => by rw [List.mem_singleton.mp hb]; exact hn), frz_same fun b hb => (by rw [List.mem_singleton.mp hb]; exact n), frzH_in (List.mem_singleton.mpr rfl), fun b nb hb => by
      by_cases e : b ∈ [a]
      · exact List.mem_singleton.mp e
      · rw [frzH_out e] at hb; exact absurd nb hb⟩
  cases r with
  | d h => exact ⟨G', g, Same.refl _, h, fun b n z => absurd n z⟩
  | fz h => exact ⟨G', g, Same.refl _, h, fun b n z => absurd n z⟩
  | cp n h _ r =>
    obtain ⟨s1, s2, s3, s4⟩ := one _ n (f rfl _ (.inl rfl))
    exact ⟨_, s1, s2, .lst (SqL.of (s3.trans h)) (r.mono s2), fun b n z => ⟨rfl, .inl (by rw [s4 b n z])⟩⟩
  | nl n h r =>
    obtain ⟨s1, s2, s3, s4⟩ := one _ n (f rfl _ (.inl rfl))
    exact ⟨_, s1, s2, .lst (SqL.of (s3.trans h)) (r.mono s2), fun b n z => ⟨rfl, .inl (by rw [s4 b n z])⟩⟩
  | np n h r =>
    obtain ⟨s1, s2, s3, s4⟩ := one _ n (f rfl _ (.inl rfl))
    exact ⟨_, s1, s2, .lst (SqL.of (s3.trans h)) (r.mono s2), fun b n z => ⟨rfl, .inl (by rw [s4 b n z])⟩⟩
  | ro n h r =>
    obtain ⟨s1, s2, s3, s4⟩ := one _ n (f rfl _ (.inl rfl))
    exact ⟨_, s1, s2, .lst (SqL.of (s3.trans h)) (r.mono s2), fun b n z => ⟨rfl, .inl (by rw [s4 b n z])⟩⟩
  | nd n h k r =>
    obtain ⟨s1, s2, s3, s4⟩ := one _ n (f rfl _ (.inl rfl))
    exact ⟨_, s1, s2, .dic (.inl (s3.trans h)) k (r.mono s2), fun b n z => ⟨rfl, .inl (by rw [s4 b n z])⟩⟩
  | no n h k r =>
    obtain ⟨s1, s2, s3, s4⟩ := one _ n (f rfl _ (.inl rfl))
    exact ⟨_, s1, s2, .obj (s3.trans h) k (r.mono s2), fun b n z => ⟨rfl, .inl (by rw [s4 b n z])⟩⟩
  | @nt p a w vs xs y n h n2 h2 r q =>
    have hn : ∀ b ∈ [p, a], G' b = none := fun b hb => by
      rcases List.mem_cons.mp hb with rfl | hb
      · exact n
      · rw [List.mem_singleton.mp hb]; exact n2
    have hf : ∀ b ∈ [p, a], H b = none := fun b hb => by
      rcases List.mem_cons.mp hb with rfl | hb
      · exact f rfl _ (.inl rfl)
      · exact f rfl _ (.inr hb)
    have s2 := frz_same (H := H') hn
    refine ⟨_, frz_gr g hn hf, s2, .box (.tup (.inl ((frzH_in List.mem_cons_self).trans h)) (.cons (.lst (SqL.of ((frzH_in (by simp)).trans h2)) (r.mono s2)) (.cons (q.mono s2) .nil))), fun b n z => ⟨rfl, ?_⟩⟩
    by_cases e : b ∈ [p, a]
    · rcases List.mem_cons.mp e with rfl | e
      · exact .inl rfl
      · exact .inr e
    · rw [frzH_out e] at z; exact absurd n z
  | @nn p as xss n h pa nd l =>
    have hn : ∀ b ∈ p :: as, G' b = none := fun b hb => by
      rcases List.mem_cons.mp hb with rfl | hb
      · exact n
      · exact (l.mem b hb).1
    have hf : ∀ b ∈ p :: as, H b = none := fun b hb => by
      rcases List.mem_cons.mp hb with rfl | hb
      · exact f rfl _ (.inl rfl)
      · exact f rfl _ (.inr hb)
    have s2 := frz_same (H := H') hn
    refine ⟨_, frz_gr g hn hf, s2, .box (.lst (SqL.of ((frzH_in List.mem_cons_self).trans h)) (l.rep s2 fun a ha => frzH_in (List.mem_cons_of_mem _ ha))), fun b n z => ⟨rfl, ?_⟩⟩
    by_cases e : b ∈ p :: as
    · rcases List.mem_cons.mp e with rfl | e
      · exact .inl rfl
      · exact .inr e
    · rw [frzH_out e] at z; exact absurd n z
theorem RC.freeze {K : PySem.W.Frag} {G H G' H' : Hp} {v : V} {c : C} (g : Gr G H G' H') (r : RC K G' H' v c) (f : Fresh H v c) : ∃ G2, Gr G H G2 H' ∧ Same G' G2 ∧ Rep K G2 v c.dat := let ⟨G2, h1, h2, h3, _⟩ := r.freezeX g f; ⟨G2, h1, h2, h3⟩
end
inductive RX (K : PySem.W.Frag) (G H : Hp) : Value → Option Addr → Exn → Prop
  | plain {c : Cn} : Glo K c → RX K G H (.ref (He.ga K c.str)) none ⟨c, []⟩
  | own {c : Cn} {d : Addr} {ws : List (Str × V)} {fs : List (Fd × D)} : Glo K c → G d = some (.xd ws) → ws.map (·.1) = fs.map (fun p => p.1.str) → RepL K G (ws.map (·.2)) (fs.map (·.2)) → RX K G H (.ref (He.ga K c.str)) (some d) ⟨c, fs⟩
abbrev EX := Exn → Prop
abbrev DTE := Rho → (C → Prop) → EX → Prop
abbrev DTT := Rho → (Bool → Prop) → EX → Prop
abbrev DTA := Rho → (List D → Prop) → EX → Prop
def tD (K : PySem.W.Frag) (W : WX) (t : DTE) : TE := fun σ H Q => ∃ (e : Ent) (ρ : Rho) (G : Hp) (QD : C → Prop) (QE : EX), Rel K e ρ G σ H ∧ t ρ QD QE ∧
  (∀ v H' G' c, Gr G H G' H' → RC K G' H' v c → Fresh H v c → QD c → Q v H') ∧ ∀ x cls d H' G', Gr G H G' H' → RX K G' H' cls d x → QE x → W cls d σ H'
def tB (K : PySem.W.Frag) (W : WX) (t : DTE) : TE := fun σ H Q => ∃ (e : Ent) (ρ : Rho) (G : Hp) (QD : C → Prop) (QE : EX), Rel K e ρ G σ H ∧ t ρ QD QE ∧
  (∀ v H' G' c, Gr G H G' H' → RV K G' H' v c.dat → QD c → Q v H') ∧ ∀ x cls d H' G', Gr G H G' H' → RX K G' H' cls d x → QE x → W cls d σ H'
def tT (K : PySem.W.Frag) (W : WX) (t : DTT) : TT := fun σ H Q => ∃ (e : Ent) (ρ : Rho) (G : Hp) (QD : Bool → Prop) (QE : EX), Rel K e ρ G σ H ∧ t ρ QD QE ∧
  (∀ b H' G', Gr G H G' H' → QD b → Q b H') ∧ ∀ x cls d H' G', Gr G H G' H' → RX K G' H' cls d x → QE x → W cls d σ H'
def tAF (K : PySem.W.Frag) (W : WX) (t : DTA) : TA := fun σ H Q => ∃ (e : Ent) (ρ : Rho) (G : Hp) (QD : List D → Prop) (QE : EX), Rel K e ρ G σ H ∧ t ρ QD QE ∧
  (∀ vs H' G' xs, Gr G H G' H' → RepL K G' vs xs → QD xs → Q vs H') ∧ ∀ x cls d H' G', Gr G H G' H' → RX K G' H' cls d x → QE x → W cls d σ H'
inductive RVL (K : PySem.W.Frag) (G H : Hp) : List V → List D → Prop
  | nil : RVL K G H [] []
  | cons {v : V} {vs : List V} {x : D} {xs : List D} : RV K G H v x → RVL K G H vs xs → RVL K G H (v :: vs) (x :: xs)
def tAB (K : PySem.W.Frag) (W : WX) (t : DTA) : TA := fun σ H Q => ∃ (e : Ent) (ρ : Rho) (G : Hp) (QD : List D → Prop) (QE : EX), Rel K e ρ G σ H ∧ t ρ QD QE ∧
  (∀ vs H' G' xs, Gr G H G' H' → RVL K G' H' vs xs → QD xs → Q vs H') ∧ ∀ x cls d H' G', Gr G H G' H' → RX K G' H' cls d x → QE x → W cls d σ H'
section
variable {X : Cx} {W : WX} {e : Expr} {es : List Expr}
theorem PE_conseq {t t' : TE} (h : PE X e t) (hi : ∀ σ H Q, t' σ H Q → t σ H Q) : PE X e t' := ⟨fun pins s σ H Q I w => h.run pins s σ H Q I (hi σ H Q w)⟩
theorem PT_conseq {t t' : TT} (h : PT X e t) (hi : ∀ σ H Q, t' σ H Q → t σ H Q) : PT X e t' := ⟨fun pins s σ H Q I w => h.run pins s σ H Q I (hi σ H Q w)⟩
theorem PW_conseq {t t' : TT} (h : PW X e t) (hi : ∀ σ H Q, t' σ H Q → t σ H Q) : PW X e t' := ⟨fun whole pins s σ H Q I w => h.run whole pins s σ H Q I (hi σ H Q w)⟩
theorem PA_conseq {t t' : TA} (h : PA X es t) (hi : ∀ σ H Q, t' σ H Q → t σ H Q) : PA X es t' := ⟨fun pos pins s σ H Q I w => h.run pos pins s σ H Q I (hi σ H Q w)⟩
theorem PS_conseq {st : Stmt} {t t' : TS} (h : PS X st t) (hi : ∀ D σ H, t' D σ H → t D σ H) : PS X st t' := ⟨fun pins s σ H D I w => h.run pins s σ H D I (hi D σ H w)⟩
theorem PSs_conseq {st : List Stmt} {t t' : TS} (h : PSs X st t) (hi : ∀ D σ H, t' D σ H → t D σ H) : PSs X st t' := ⟨fun pins s σ H D I w => h.run pins s σ H D I (hi D σ H w)⟩
end
def VPost (K : PySem.W.Frag) (G H : Hp) (QD : C → Prop) (Q : VK) : Prop := ∀ v H' G' c, Gr G H G' H' → RC K G' H' v c → Fresh H v c → QD c → Q v H'
def XPost (K : PySem.W.Frag) (W : WX) (σ : L2.St) (G H : Hp) (QE : EX) : Prop := ∀ x cls d H' G', Gr G H G' H' → RX K G' H' cls d x → QE x → W cls d σ H'
section
variable {K : PySem.W.Frag} {W : WX} {σ : L2.St} {G H G' H' : Hp} {QD : C → Prop} {QE : EX} {Q : VK}
theorem VPost.grow (h : VPost K G H QD Q) (g : Gr G H G' H') : VPost K G' H' QD Q := fun v H2 G2 c g2 r f q => h v H2 G2 c (g.trans g2) r (f.back g.hh) q
theorem XPost.grow (h : XPost K W σ G H QE) (g : Gr G H G' H') : XPost K W σ G' H' QE := fun x cls d H2 G2 g2 r q => h x cls d H2 G2 (g.trans g2) r q
theorem VPost.dat (h : VPost K G H QD Q) (s : Same G H) {v : V} {x : D} (r : Rep K G v x) (q : QD (.d x)) : Q v H := h v H G (.d x) (Gr.refl s) (.d r) (fun z => by cases z) q
theorem gr_new (s : Same G H) {p : Addr} {o : HO} (n : H p = none) : Gr G H G (upd H p o) ∧ G p = none := by
  have hg : G p = none := s.free n
  refine ⟨⟨SameT.new n, Same.refl _, fun b u hb => ?_, fun b hb => .inl hb⟩, hg⟩
  · rw [upd_ne (ne_of_none hb hg)]; exact s _ _ hb
theorem gr_frz (s : Same G H) {p : Addr} {o : HO} (n : H p = none) : Gr G H (upd G p o) (upd H p o) := by
  have hg : G p = none := s.free n
  refine ⟨SameT.new n, fun b u hb => ?_, fun b u hb => ?_, fun b hb => ?_⟩
  · rw [upd_ne (ne_of_none hb hg)]; exact .inl hb
  · by_cases e : b = p
    · subst e; rw [upd_same] at hb ⊢; exact .inl hb
    · rw [upd_ne e] at hb ⊢; exact s _ _ hb
  · by_cases e : b = p
    · subst e; exact .inr n
    · rw [upd_ne e] at hb; exact .inl hb
theorem frz_sub {p : Addr} {o : HO} (s : Same G H) (n : H p = none) : Same G (upd G p o) := fun b u hb => by
  rw [upd_ne (ne_of_none hb (s.free n))]; exact .inl hb
theorem VPost.nl (h : VPost K G H QD Q) (s : Same G H) {p : Addr} {vs : List V} {xs : List D} (n : H p = none) (r : RepL K G vs xs) (q : QD (.nl xs)) : Q (.ref p) (upd H p (.lst vs)) := by
  obtain ⟨g, hg⟩ := gr_new (o := .lst vs) s n
  exact h _ _ _ _ g (.nl hg upd_same r) (fresh_of fun a e => by cases e; exact n) q
theorem VPost.nd (h : VPost K G H QD Q) (s : Same G H) {p : Addr} {ws : List (Key × V)} {kvs : List (Key × D)} (n : H p = none) (k : ws.map (·.1) = kvs.map (·.1)) (r : RepL K G (ws.map (·.2)) (kvs.map (·.2))) (q : QD (.nd kvs)) : Q (.ref p) (upd H p (.dK ws)) := by
  obtain ⟨g, hg⟩ := gr_new (o := .dK ws) s n
  exact h _ _ _ _ g (.nd hg upd_same k r) (fresh_of fun a e => by cases e; exact n) q
theorem VPost.tup (h : VPost K G H QD Q) (s : Same G H) {p : Addr} {vs : List V} {xs : List D} (n : H p = none) (r : RepL K G vs xs) (q : QD (.d (.tup xs))) : Q (.ref p) (upd H p (.tup vs)) :=
  h _ _ _ _ (gr_frz s n) (.d (.tup (.inl upd_same) (r.mono (frz_sub s n)))) (fun z => by cases z) q
end
section
variable {X : Cx} {W : WX} {e : Expr} {t : DTE}
theorem PE_look (h : PE X e (tD X.K W t)) : PE X e (tB X.K W t) :=
  PE_conseq h fun σ H Q ⟨e, ρ, G, QD, QE, R, ht, hq, hx⟩ => ⟨e, ρ, G, QD, QE, R, ht, fun v H' G' c g r _ q => hq v H' G' c g r.rv q, hx⟩
end
abbrev DOp := D → D → (C → Prop) → Prop
def dOp (f : DOp) (ta tb : DTE) : DTE := fun ρ Q E => ta ρ (fun x => tb ρ (fun y => f x.dat y.dat Q) E) E
def Br2 (K : PySem.W.Frag) (r : R2) (f : DOp) : Prop := ∀ (G H : Hp) (v u : V) (x y : D) (QD : C → Prop) (Q : VK), Same G H → RV K G H v x → RV K G H u y → f x y QD → VPost K G H QD Q → r v u H Q
theorem op_D {K : PySem.W.Frag} {W : WX} {r : R2} {f : DOp} {ta tb : DTE} (br : Br2 K r f) (σ : L2.St) (H : Hp) (Q : VK) (h : tD K W (dOp f ta tb) σ H Q) : tOp r (tB K W ta) (tB K W tb) σ H Q := by
  obtain ⟨e, ρ, G, QD, QE, R, ht, hq, hx⟩ := h
  refine ⟨e, ρ, G, _, QE, R, ht, fun v H1 G1 cx g1 r1 h1 => ?_, hx⟩
  refine ⟨e, ρ, G1, _, QE, R.grow g1, h1, fun u H2 G2 cy g2 r2 h2 => ?_, XPost.grow hx g1⟩
  exact br G2 H2 v u cx.dat cy.dat QD Q g2.gh (r1.grow g2) r2 h2 (VPost.grow hq (g1.trans g2))
abbrev DUn := D → (C → Prop) → Prop
def dUn (f : DUn) (ta : DTE) : DTE := fun ρ Q E => ta ρ (fun x => f x.dat Q) E
abbrev DN := List D → (C → Prop) → Prop
def dCB (f : DN) (t : DTA) : DTE := fun ρ Q E => t ρ (fun xs => f xs Q) E
def BrN (K : PySem.W.Frag) (r : List V → Hp → VK → Prop) (f : DN) : Prop := ∀ (G H : Hp) (vs : List V) (xs : List D) (QD : C → Prop) (Q : VK), Same G H → RVL K G H vs xs → f xs QD → VPost K G H QD Q → r vs H Q
theorem cb_D {K : PySem.W.Frag} {W : WX} {r : List V → Hp → VK → Prop} {f : DN} {t : DTA} (br : BrN K r f) (σ : L2.St) (H : Hp) (Q : VK) (h : tD K W (dCB f t) σ H Q) : tCB r (tAB K W t) σ H Q := by
  obtain ⟨e, ρ, G, QD, QE, R, ht, hq, hx⟩ := h
  exact ⟨e, ρ, G, _, QE, R, ht, fun vs H1 G1 xs g1 r1 h1 => br G1 H1 vs xs QD Q g1.gh r1 h1 (VPost.grow hq g1), hx⟩
def dNilA : DTA := fun _ Q _ => Q []
def dConsA (t : DTE) (u : DTA) : DTA := fun ρ Q E => t ρ (fun c => u ρ (fun xs => Q (c.dat :: xs)) E) E
theorem RVL.grow {K : PySem.W.Frag} {G H G' H' : Hp} (g : Gr G H G' H') : ∀ {vs : List V} {xs : List D}, RVL K G H vs xs → RVL K G' H' vs xs
  | _, _, .nil => .nil
  | _, _, .cons h r => .cons (h.grow g) (RVL.grow g r)
section
variable {X : Cx} {W : WX} {e : Expr} {es : List Expr} {t : DTE} {u : DTA} {pos : Pos}
theorem pab_nil : PA X [] (tAB X.K W dNilA) := PA_conseq pa_nil fun σ H Q ⟨e, ρ, G, QD, QE, R, ht, hq, hx⟩ => hq [] H G [] (Gr.refl R.gl.gh) .nil ht
theorem pab_cons (ha : PE X e (tB X.K W t)) (hr : PA X es (tAB X.K W u)) (hs : starEach (e :: es) X.env = (false, eval e X.env) :: starEach es X.env := by rfl) : PA X (e :: es) (tAB X.K W (dConsA t u)) := by
  refine PA_conseq (pa_cons ha hr hs) fun σ H Q ⟨e, ρ, G, QD, QE, R, ht, hq, hx⟩ => ?_
  refine ⟨e, ρ, G, _, QE, R, ht, fun v H1 G1 cx g1 r1 h1 => ?_, hx⟩
  exact ⟨e, ρ, G1, _, QE, R.grow g1, h1, fun vs H2 G2 xs g2 r2 h2 => hq _ _ _ _ (g1.trans g2) (.cons (r1.grow g2) r2) h2, XPost.grow hx g1⟩
theorem paf_nil : PA X [] (tAF X.K W dNilA) := PA_conseq pa_nil fun σ H Q ⟨e, ρ, G, QD, QE, R, ht, hq, hx⟩ => hq [] H G [] (Gr.refl R.gl.gh) .nil ht
theorem paf_cons (ha : PE X e (tD X.K W t)) (hr : PA X es (tAF X.K W u)) (hs : starEach (e :: es) X.env = (false, eval e X.env) :: starEach es X.env := by rfl) : PA X (e :: es) (tAF X.K W (dConsA t u)) := by
  refine PA_conseq (pa_cons ha hr hs) fun σ H Q ⟨e, ρ, G, QD, QE, R, ht, hq, hx⟩ => ?_
  refine ⟨e, ρ, G, _, QE, R, ht, fun v H1 G1 cx g1 r1 f1 h1 => ?_, hx⟩
  obtain ⟨G2, g2, s2, r2⟩ := r1.freeze g1 f1
  exact ⟨e, ρ, G2, _, QE, R.grow g2, h1, fun vs H3 G3 xs g3 r3 h3 => hq _ _ _ _ (g2.trans g3) (.cons (r2.mono g3.gg) r3) h3, XPost.grow hx g2⟩
def dV (i : Nat) : DTE := fun ρ Q _ => match ρ[i]? with
  | some (some (.d x)) => Q (.d x)
  | _ => False
def dL (i : Nat) : DTE := fun ρ Q _ => match ρ[i]? with
  | some (some c) => Q c
  | _ => False
theorem dv_D {K : PySem.W.Frag} {i : Nat} (σ : L2.St) (H : Hp) (Q : VK) (h : tD K W (dV i) σ H Q) : tVar i σ H Q := by
  obtain ⟨e, ρ, G, QD, QE, R, ht, hq, hx⟩ := h
  unfold dV at ht
  cases hr : ρ[i]? with
  | none => rw [hr] at ht; exact ht.elim
  | some o =>
    rw [hr] at ht
    cases o with
    | none => exact ht.elim
    | some c =>
      obtain ⟨v, h1, h2, h3⟩ := R.at_ i c hr
      cases c with
      | d x => exact ⟨v, h1, hq v H G _ (Gr.refl R.gl.gh) h2 (fun z => by cases z) ht⟩
      | _ => exact ht.elim
theorem dl_B {K : PySem.W.Frag} {i : Nat} (σ : L2.St) (H : Hp) (Q : VK) (h : tB K W (dL i) σ H Q) : tVar i σ H Q := by
  obtain ⟨e, ρ, G, QD, QE, R, ht, hq, hx⟩ := h
  unfold dL at ht
  cases hr : ρ[i]? with
  | none => rw [hr] at ht; exact ht.elim
  | some o =>
    rw [hr] at ht
    cases o with
    | none => exact ht.elim
    | some c =>
      obtain ⟨v, h1, h2, h3⟩ := R.at_ i c hr
      exact ⟨v, h1, hq v H G _ (Gr.refl R.gl.gh) h2.rv ht⟩
theorem dv (i : Nat) {x : Str} {pos : Pos} (hN : X.N[i]? = some x := by rfl) (hv : Vis X.env.scope x := by first | exact Or.inl rfl | exact Or.inr (Or.inl rfl) | exact Or.inr (Or.inr rfl)) (hd : (x == ("__debug__" : Str)) = false := by decide)
    (hcd : (x == ("__classdict__" : Str)) = false := by decide) : PE X (.Name x pos) (tD X.K W (dV i)) := PE_conseq (pe_var hN hv hd hcd) dv_D
theorem dl (i : Nat) {x : Str} {pos : Pos} (hN : X.N[i]? = some x := by rfl) (hv : Vis X.env.scope x := by first | exact Or.inl rfl | exact Or.inr (Or.inl rfl) | exact Or.inr (Or.inr rfl)) (hd : (x == ("__debug__" : Str)) = false := by decide)
    (hcd : (x == ("__classdict__" : Str)) = false := by decide) : PE X (.Name x pos) (tB X.K W (dL i)) := PE_conseq (pe_var hN hv hd hcd) dl_B
def dC (x : D) : DTE := fun _ Q _ => Q (.d x)
theorem dc_D {K : PySem.W.Frag} {v : V} {x : D} (r : ∀ G, Rep K G v x) (σ : L2.St) (H : Hp) (Q : VK) (h : tD K W (dC x) σ H Q) : L2.tC v σ H Q := by
  obtain ⟨e, ρ, G, QD, QE, R, ht, hq, hx⟩ := h
  exact VPost.dat hq R.gl.gh (r G) ht
theorem dint {i : Int} {j : Nat} {pos : Pos} : PE X (.Constant (.int i) j pos) (tD X.K W (dC (.int i))) := PE_conseq pe_int (dc_D fun _ => .int _)
theorem dbl {i : Bool} {j : Nat} {pos : Pos} : PE X (.Constant (.bool i) j pos) (tD X.K W (dC (.bl i))) := PE_conseq pe_bl (dc_D fun _ => .bl _)
theorem dnon {j : Nat} {pos : Pos} : PE X (.Constant .none j pos) (tD X.K W (dC .non)) := PE_conseq pe_non (dc_D fun _ => .non)
theorem dstr {i : Str} {j : Nat} {pos : Pos} : PE X (.Constant (.str i) j pos) (tD X.K W (dC (.str i))) := PE_conseq pe_str (dc_D fun _ => .str _)
theorem dgint {x : Str} {i : Int} {tk : Tok} (hm : X.mg x = some (.int i tk)) (hg : Gl X x := by rfl) (hd : (x == ("__debug__" : Str)) = false := by decide) : PE X (.Name x pos) (tD X.K W (dC (.int i))) := PE_conseq (pe_glob (v := .int i) hg hm ⟨tk, rfl⟩ hd) (dc_D fun _ => .int _)
theorem dgstr {x z : Str} {tk : Tok} (hm : X.mg x = some (.str z tk)) (hg : Gl X x := by rfl) (hd : (x == ("__debug__" : Str)) = false := by decide) : PE X (.Name x pos) (tD X.K W (dC (.str z))) := PE_conseq (pe_glob (v := .str z) hg hm ⟨tk, rfl⟩ hd) (dc_D fun _ => .str _)
end
end DL
namespace DL
open PySem PySem.Spec L2
variable [TP]
mutual
def D.py : D → PyData
  | .non => .none
  | .bl b => .bool b
  | .int i => .int i
  | .str x => .str x
  | .lst xs => .list (pyAll xs)
  | .tup xs => .tuple (pyAll xs)
  | .dic _ => .dict []
  | .obj _ _ => .dict []
  | .exn _ _ _ => .dict []
  | .box _ => .dict []
def pyAll : List D → List PyData
  | [] => []
  | x :: xs => x.py :: pyAll xs
end
theorem pyAll_map : ∀ xs : List D, pyAll xs = xs.map D.py
  | [] => rfl
  | x :: xs => by rw [pyAll, pyAll_map xs]; rfl
mutual
theorem Rep.dp {K : PySem.W.Frag} {G H : Hp} (s : Same G H) : ∀ {v : V} {x : D}, x.py.canLay0 = true → Rep K G v x → Dp K H v x.py
  | _, _, _, .non => .non
  | _, _, _, .bl b => .bl b
  | _, _, _, .int i => .int i
  | _, _, _, .str z => .str z
  | _, _, z, .lst h r => .lst (s.seq h) (RepL.dp s z r)
  | _, _, z, .tup h r => .tup (.inl (rd_same s h)) (RepL.dp s z r)
  | _, _, z, .dic h k r => by cases z
  | _, _, z, .obj h k r => by cases z
  | _, _, z, .exn0 _ h k => by cases z
  | _, _, z, .exn1 _ h k g q r => by cases z
  | _, _, z, .box h => by cases z
theorem RepL.dp {K : PySem.W.Frag} {G H : Hp} (s : Same G H) : ∀ {vs : List V} {xs : List D}, PyData.canLayAll0 (pyAll xs) = true → RepL K G vs xs → DpAll K H vs (pyAll xs)
  | _, _, _, .nil => .nil
  | _, _, z, .cons h r => .cons (Rep.dp s (Bool.and_eq_true_iff.mp z).1 h) (RepL.dp s (Bool.and_eq_true_iff.mp z).2 r)
end
theorem RV.dp {K : PySem.W.Frag} {G H : Hp} (s : Same G H) {v : V} {x : D} (z : x.py.canLay0 = true) (r : RV K G H v x) : Dp K H v x.py := by
  cases r with
  | fz h => exact h.dp s z
  | nl h r => exact .lst (SqL.of h) (RepL.dp s z r)
  | nd h k r => cases z
  | no h k r => cases z
  | nt h => cases z
  | nn h => cases z
def big (i : Int) : Nat := i.natAbs.log2
def MulOk (i j : Int) : Prop := (big i < 64 ∨ big j < 64) ∨ big i + big j < 134217000
theorem bits_big (x : Int) : Builtin.Int.intBits x ≤ big x + 1 := by
  unfold Builtin.Int.intBits big
  split <;> omega
theorem big_bits (x : Int) : big x ≤ Builtin.Int.intBits x := by
  unfold Builtin.Int.intBits big
  split
  · rename_i h
    have e : x = 0 := by
      first | exact h | exact beq_iff_eq.mp h
    rw [e]
    exact Nat.le_refl _
  · omega
theorem MulOk.ok {i j : Int} (h : MulOk i j) : IntMulOk i j := by
  have h1 := bits_big i
  have h2 := bits_big j
  rcases h with (h | h) | h
  · exact .of_left (by omega)
  · exact .of_right (by omega)
  · have e : bitsLine = 134217728 := by decide
    unfold IntMulOk
    intro z
    rw [Bool.and_eq_true] at z
    have z2 := z.2
    unfold Builtin.Int.intTooBig at z2
    have z3 := of_decide_eq_true z2
    rw [e] at z3
    omega
theorem op_mulAny {X : Cx} : OpR X (binaryOp .Mult) (rI MulOk fun i j => .int (i * j)) := opI fun _ _ _ _ _ _ _ hc q => P.mul_int q hc.ok
def repS (x : Str) (n : Nat) : Str := ⟨(List.replicate n x.cps).foldl (· ++ ·) #[]⟩
theorem repS_list (x : Str) (n : Nat) : (repS x n).cps.toList = (List.replicate n x.cps.toList).flatten := by
  have key : ∀ (m : Nat) (a : Array Nat), ((List.replicate m x.cps).foldl (· ++ ·) a).toList = a.toList ++ (List.replicate m x.cps.toList).flatten := by
    intro m
    induction m with
    | zero => intro a; simp
    | succ m ih => intro a; rw [List.replicate_succ, List.foldl_cons, ih, List.replicate_succ, List.flatten_cons, Array.toList_append, List.append_assoc]
  have := key n #[]
  simpa [repS] using this
theorem repS_len (x : Str) (n : Nat) : (repS x n).length = n * x.length := by
  show (repS x n).cps.size = n * x.cps.size
  rw [← Array.length_toList, repS_list, List.length_flatten, List.map_replicate, List.sum_replicate_nat, Array.length_toList]
theorem op_mul_str {X : Cx} : OpR X (binaryOp .Mult) (fun x y H Q => ∃ i n, x = .str i ∧ y = .int n ∧ (1 ≤ n ∧ n ≤ 1000 ∧ i.length ≤ 1000) ∧ Q (.str (repS i n.toNat)) H) := by
  intro pins s σ H x y v u Q I rx ry h
  obtain ⟨i, n, rfl, rfl, ⟨h1, h2, h3⟩, q⟩ := h
  obtain ⟨t, rfl⟩ := rx
  obtain ⟨t', rfl⟩ := ry
  have hl : i.length * n.toNat ≤ 1000 * 1000 := Nat.mul_le_mul h3 (by omega)
  have htl : Builtin.Str.tooLong (i.length * n.toNat) = false := by
    show decide _ = false
    exact decide_eq_false (by rw [show sizeLine = 16777216 by decide]; omega)
  refine P.mul_str (by rw [decide_eq_false (by omega), decide_eq_false (by omega)]; rfl) (fun _ _ => ?_) (fun _ _ => htl) ?_
  · have : 9223372036854 ≤ (2 ^ 63 - 1) / n := by
      rw [Int.le_ediv_iff_mul_le (by omega)]
      omega
    omega
  · rw [if_neg (by omega)]
    by_cases hc : (n == 1 || i.length == 0) = true
    · rw [if_pos hc]
      have e : repS i n.toNat = i := by
        have : (repS i n.toNat).cps.toList = i.cps.toList := by
          rw [repS_list]
          rw [Bool.or_eq_true] at hc
          rcases hc with hc | hc
          · have : n = 1 := by simpa using hc
            subst this
            simp
          · have : i.cps.toList = [] := by
              have z : i.cps.size = 0 := beq_iff_eq.mp hc
              exact List.length_eq_zero_iff.mp (by rw [Array.length_toList]; exact z)
            rw [this]
            simp
        cases i
        unfold repS at this ⊢
        congr
        exact Array.toList_inj.mp this
      rw [e] at q
      exact ⟨.str i, H, I, ⟨_, rfl⟩, q⟩
    · rw [if_neg hc]
      refine ⟨?_, .str (repS i n.toNat), H, I.tok _, ⟨_, rfl⟩, q⟩
      have := repS_len i n.toNat
      rw [Nat.mul_comm] at this
      show (repS i n.toNat).length ≤ sizeLine
      rw [this, show sizeLine = 16777216 by decide]
      omega
def dAdd : DOp
  | .int i, .int j, Q => Q (.d (.int (i + j)))
  | .str x, .str y, Q => x.length + y.length ≤ sizeLine ∧ Q (.d (.str (x ++ y)))
  | .lst xs, .lst ys, Q => xs.length + ys.length ≤ sizeLine ∧ Q (.nl (xs ++ ys))
  | .tup xs, .tup ys, Q => xs ≠ [] ∧ ys ≠ [] ∧ xs.length + ys.length ≤ sizeLine ∧ Q (.d (.tup (xs ++ ys)))
  | _, _, _ => False
def dSub : DOp
  | .int i, .int j, Q => Q (.d (.int (i - j)))
  | _, _, _ => False
def dMul : DOp
  | .int i, .int j, Q => MulOk i j ∧ Q (.d (.int (i * j)))
  | .str x, .int n, Q => (1 ≤ n ∧ n ≤ 1000 ∧ x.length ≤ 1000) ∧ Q (.d (.str (repS x n.toNat)))
  | _, _, _ => False
def dDiv : DOp
  | .int i, .int j, Q => (0 < j ∧ big j < 9000) ∧ Q (.d (.int (i / j)))
  | _, _, _ => False
def dMod : DOp
  | .int i, .int j, Q => 0 < j ∧ Q (.d (.int (i % j)))
  | _, _, _ => False
def dPow : DOp
  | .int i, .int j, Q => (0 ≤ j ∧ j ≤ 1000000 ∧ i.natAbs < 2 ^ 64) ∧ Q (.d (.int (i ^ j.toNat)))
  | _, _, _ => False
section
variable {X : Cx}
def rCatR (K : PySem.W.Frag) : R2 := fun x y H Q => ∃ l b xs zs, x = .ref l ∧ y = .ref b ∧ SqL K H l xs ∧ SqL K H b zs ∧ xs.length + zs.length ≤ sizeLine ∧ ∀ p, H p = none → Q (.ref p) (upd H p (.lst (xs ++ zs)))
theorem op_catR : OpR X (binaryOp .Add) (rCatR X.K) := by
  intro pins s σ H x y v u Q I rx ry hh
  obtain ⟨l, b, xs, zs, rfl, rfl, h1, h2, hz, hq⟩ := hh
  cases rx
  cases ry
  obtain ⟨i1, r1, ⟨⟨c1, d1, dt1, sl1⟩, n1, e1, k1, q1, t1⟩, _⟩ := I.list h1
  obtain ⟨i2, r2, ⟨⟨c2, d2, dt2, sl2⟩, n2, e2, k2, q2, t2⟩, _⟩ := I.list h2
  simp only at k1 q1 t1 k2 q2 t2
  subst k1 q1 t1 k2 q2 t2
  have hl : i1.toArray.size + i2.toArray.size ≤ sizeLine := by
    rw [List.size_toArray, List.size_toArray, ← r1.length, ← r2.length]
    exact hz
  refine concat_meets ⟨_, e1, rfl⟩ ⟨_, e2, rfl⟩ noFill_list_add seq_list_add PySem.F.slot_list_add PySem.F.entry_list_add (PySem.F.args_list_add_2 _ _)
    (PyProof.Rows.list_addW l b i1.toArray i2.toArray n1 n2 none none sl1 sl2 hl) ⟨e1, e2, ?_⟩
  have ea : i1.toArray ++ i2.toArray = (i1 ++ i2).toArray := by simp
  rw [ea]
  exact ⟨.ref _, _, I.lnew (t' := s.toks) (r1.append r2) (by rw [List.length_append]; exact hz), rfl, hq _ I.fresh⟩
end
def rAddD (K : PySem.W.Frag) : R2 := fun x y H Q => rI0 (fun i j => .int (i + j)) x y H Q ∨ ((∃ i j, x = .str i ∧ y = .str j ∧ i.length + j.length ≤ sizeLine ∧ Q (.str (i ++ j)) H) ∨ (rCatR K x y H Q ∨ rCatT K x y H Q))
section
variable {K : PySem.W.Frag} {X : Cx}
theorem op_addD : OpR X (binaryOp .Add) (rAddD X.K) := OpR.or op_add (OpR.or op_add_str (OpR.or op_catR op_catT))
theorem br_add : Br2 K (rAddD K) dAdd := by
  intro G H v u x y QD Q s rx ry h p
  cases x <;> cases y <;> try exact h.elim
  · exact .inl ⟨_, _, rx.int, ry.int, p.dat s (.int _) h⟩
  · exact .inr (.inl ⟨_, _, rx.str, ry.str, h.1, p.dat s (.str _) h.2⟩)
  · obtain ⟨a, vs, e1, h1, r1⟩ := rx.lst s
    obtain ⟨b, ws, e2, h2, r2⟩ := ry.lst s
    refine .inr (.inr (.inl ⟨a, b, vs, ws, e1, e2, h1, h2, ?_, fun q hq => p.nl s hq (r1.append r2) h.2⟩))
    rw [r1.length, r2.length]
    exact h.1
  · obtain ⟨a, vs, e1, h1, r1⟩ := rx.tup s
    obtain ⟨b, ws, e2, h2, r2⟩ := ry.tup s
    obtain ⟨n1, n2, hl, hq⟩ := h
    refine .inr (.inr (.inr ⟨a, b, vs, ws, e1, e2, .inl h1, .inl h2, ?_, ?_, fun z => ?_, fun _ q hn => p.tup s hn (r1.append r2) hq⟩))
    · rintro rfl; cases r1; exact n1 rfl
    · rw [r1.length, r2.length]; exact hl
    · subst z; cases r2; exact absurd rfl n2
theorem br_sub : Br2 K (rI0 fun i j => .int (i - j)) dSub := by
  intro G H v u x y QD Q s rx ry h p
  cases x <;> cases y <;> try exact h.elim
  exact ⟨_, _, rx.int, ry.int, p.dat s (.int _) h⟩
def rMulA : R2 := fun x y H Q => rI MulOk (fun i j => .int (i * j)) x y H Q ∨ ∃ i n, x = .str i ∧ y = .int n ∧ (1 ≤ n ∧ n ≤ 1000 ∧ i.length ≤ 1000) ∧ Q (.str (repS i n.toNat)) H
theorem op_mulA : OpR X (binaryOp .Mult) rMulA := OpR.or op_mulAny op_mul_str
theorem br_mul : Br2 K rMulA dMul := by
  intro G H v u x y QD Q s rx ry h p
  cases x <;> cases y <;> try exact h.elim
  · exact .inl ⟨_, _, rx.int, ry.int, h.1, p.dat s (.int _) h.2⟩
  · exact .inr ⟨_, _, rx.str, ry.int, h.1, p.dat s (.str _) h.2⟩
theorem br_div : Br2 K (rI CDivW fun i j => .int (i / j)) dDiv := by
  intro G H v u x y QD Q s rx ry h p
  cases x <;> cases y <;> try exact h.elim
  exact ⟨_, _, rx.int, ry.int, h.1, p.dat s (.int _) h.2⟩
theorem br_mod : Br2 K (rI (fun _ j => 0 < j) fun i j => .int (i % j)) dMod := by
  intro G H v u x y QD Q s rx ry h p
  cases x <;> cases y <;> try exact h.elim
  exact ⟨_, _, rx.int, ry.int, h.1, p.dat s (.int _) h.2⟩
theorem br_pow : Br2 K (rI CPow fun i j => .int (i ^ j.toNat)) dPow := by
  intro G H v u x y QD Q s rx ry h p
  cases x <;> cases y <;> try exact h.elim
  exact ⟨_, _, rx.int, ry.int, h.1, p.dat s (.int _) h.2⟩
variable {W : WX} {a b c : Expr} {ta tb tc : DTE} {pos : Pos}
theorem dadd (ha : PE X a (tB X.K W ta)) (hb : PE X b (tB X.K W tb)) : PE X (.BinOp a .Add b pos) (tD X.K W (dOp dAdd ta tb)) := PE_conseq (pe_op op_addD ha hb) (op_D br_add)
theorem dsub (ha : PE X a (tB X.K W ta)) (hb : PE X b (tB X.K W tb)) : PE X (.BinOp a .Sub b pos) (tD X.K W (dOp dSub ta tb)) := PE_conseq (pe_op op_sub ha hb) (op_D br_sub)
theorem dmul (ha : PE X a (tB X.K W ta)) (hb : PE X b (tB X.K W tb)) : PE X (.BinOp a .Mult b pos) (tD X.K W (dOp dMul ta tb)) := PE_conseq (pe_op op_mulA ha hb) (op_D br_mul)
theorem ddiv (ha : PE X a (tB X.K W ta)) (hb : PE X b (tB X.K W tb)) : PE X (.BinOp a .FloorDiv b pos) (tD X.K W (dOp dDiv ta tb)) := PE_conseq (pe_op op_fdivW ha hb) (op_D br_div)
theorem dmod (ha : PE X a (tB X.K W ta)) (hb : PE X b (tB X.K W tb)) : PE X (.BinOp a .Mod b pos) (tD X.K W (dOp dMod ta tb)) := PE_conseq (pe_op op_mod ha hb) (op_D br_mod)
theorem dpow (ha : PE X a (tB X.K W ta)) (hb : PE X b (tB X.K W tb)) : PE X (.BinOp a .Pow b pos) (tD X.K W (dOp dPow ta tb)) := PE_conseq (pe_op op_pow ha hb) (op_D br_pow)
def dNeg : DUn
  | .int i, Q => Q (.d (.int (-i)))
  | _, _ => False
abbrev DCmp := D → D → (Bool → Prop) → Prop
def cmpV (f : DCmp) : DOp := fun x y Q => f x y fun b => Q (.d (.bl b))
def cLt : DCmp
  | .int i, .int j, Q => Q (decide (i < j))
  | .str x, .str y, Q => Q (decide (x.cps.toList < y.cps.toList))
  | _, _, _ => False
def cLe : DCmp
  | .int i, .int j, Q => Q (decide (i ≤ j))
  | _, _, _ => False
def cGt : DCmp
  | .int i, .int j, Q => Q (decide (j < i))
  | _, _, _ => False
def cGe : DCmp
  | .int i, .int j, Q => Q (decide (j ≤ i))
  | _, _, _ => False
def eqD : D → D → (Bool → Prop) → Prop
  | .int i, .int j, Q => Q (decide (i = j))
  | .str i, .str j, Q => Q (decide (i = j))
  | .bl i, .bl j, Q => Q (decide (i = j))
  | .non, .non, Q => Q true
  | x, y, Q => SeqAt.shaped x.py = true ∧ SeqAt.shaped y.py = true ∧ Q (PyData.eqv x.py y.py)
def cEq : DCmp := eqD
def cNe : DCmp := fun x y Q => eqD x y fun b => Q (!b)
def D.isN : D → Bool
  | .non => true
  | _ => false
def cIsN : DCmp := fun x y Q => y.isN = true ∧ Q x.isN
def cNotN : DCmp := fun x y Q => y.isN = true ∧ Q (!x.isN)
theorem br_lt : Br2 K (fun x y H Q => rI0 (fun i j => .bl (decide (i < j))) x y H Q ∨ (∃ i j, x = .str i ∧ y = .str j ∧ Q (.bl (decide (i.cps.toList < j.cps.toList))) H)) (cmpV cLt) := by
  intro G H v u x y QD Q s rx ry h p
  cases x <;> cases y <;> try exact h.elim
  · exact .inl ⟨_, _, rx.int, ry.int, p.dat s (.bl _) h⟩
  · exact .inr ⟨_, _, rx.str, ry.str, p.dat s (.bl _) h⟩
theorem br_le : Br2 K (rI0 fun i j => .bl (decide (i ≤ j))) (cmpV cLe) := by
  intro G H v u x y QD Q s rx ry h p
  cases x <;> cases y <;> try exact h.elim
  exact ⟨_, _, rx.int, ry.int, p.dat s (.bl _) h⟩
theorem br_gt : Br2 K (rI0 fun i j => .bl (decide (j < i))) (cmpV cGt) := by
  intro G H v u x y QD Q s rx ry h p
  cases x <;> cases y <;> try exact h.elim
  exact ⟨_, _, rx.int, ry.int, p.dat s (.bl _) h⟩
theorem br_ge : Br2 K (rI0 fun i j => .bl (decide (j ≤ i))) (cmpV cGe) := by
  intro G H v u x y QD Q s rx ry h p
  cases x <;> cases y <;> try exact h.elim
  exact ⟨_, _, rx.int, ry.int, p.dat s (.bl _) h⟩
def rEqA (K : PySem.W.Frag) : R2 := fun x y H Q => rEq x y H Q ∨ rEqD K x y H Q
def rNeA (K : PySem.W.Frag) : R2 := fun x y H Q => rNe x y H Q ∨ rNeD K x y H Q
theorem op_eqA (hu : X.A.units + 64 < cLine) : OpR X (compareOp .Eq) (rEqA X.K) := OpR.or op_eq (op_eqD hu)
theorem op_neA (hu : X.A.units + 64 < cLine) : OpR X (compareOp .NotEq) (rNeA X.K) := OpR.or op_ne (op_neD hu)
theorem eqD_cases {G H : Hp} {v u : V} {x y : D} {P : Bool → Prop} (s : Same G H) (rx : RV K G H v x) (ry : RV K G H u y) (h : eqD x y P) :
    (scal v u = true ∧ P (decide (v = u))) ∨ (SeqAt.shaped x.py = true ∧ SeqAt.shaped y.py = true ∧ Dp K H v x.py ∧ Dp K H u y.py ∧ P (PyData.eqv x.py y.py)) := by
  have gen : (SeqAt.shaped x.py = true ∧ SeqAt.shaped y.py = true ∧ P (PyData.eqv x.py y.py)) → (SeqAt.shaped x.py = true ∧ SeqAt.shaped y.py = true ∧ Dp K H v x.py ∧ Dp K H u y.py ∧ P (PyData.eqv x.py y.py)) :=
    fun ⟨a, b, c⟩ => ⟨a, b, rx.dp s (SeqAt.canLay_of_shaped a), ry.dp s (SeqAt.canLay_of_shaped b), c⟩
  cases x <;> cases y <;> try exact .inr (gen h)
  · rw [rx.non, ry.non]; exact .inl ⟨rfl, h⟩
  · rename_i i j
    rw [rx.bl, ry.bl]
    refine .inl ⟨rfl, ?_⟩
    have e : decide (V.bl i = V.bl j) = decide (i = j) := by simp
    rw [e]; exact h
  · rename_i i j
    rw [rx.int, ry.int]
    refine .inl ⟨rfl, ?_⟩
    have e : decide (V.int i = V.int j) = decide (i = j) := by simp
    rw [e]; exact h
  · rename_i i j
    rw [rx.str, ry.str]
    refine .inl ⟨rfl, ?_⟩
    have e : decide (V.str i = V.str j) = decide (i = j) := by simp
    rw [e]; exact h
theorem br_eq : Br2 K (rEqA K) (cmpV cEq) := by
  intro G H v u x y QD Q s rx ry h p
  rcases eqD_cases s rx ry h with ⟨h1, h2⟩ | ⟨h1, h2, h3, h4, h5⟩
  · exact .inl ⟨h1, p.dat s (.bl _) h2⟩
  · exact .inr ⟨_, _, h3, h4, h1, h2, p.dat s (.bl _) h5⟩
theorem br_ne : Br2 K (rNeA K) (cmpV cNe) := by
  intro G H v u x y QD Q s rx ry h p
  rcases eqD_cases s rx ry h with ⟨h1, h2⟩ | ⟨h1, h2, h3, h4, h5⟩
  · exact .inl ⟨h1, p.dat s (.bl _) h2⟩
  · exact .inr ⟨_, _, h3, h4, h1, h2, p.dat s (.bl _) h5⟩
theorem RV.notNon {G H : Hp} {v : V} {x : D} (r : RV K G H v x) (h : x ≠ .non) : v ≠ .non := by
  cases r with
  | fz r => cases r <;> first | exact absurd rfl h | (intro e; cases e)
  | nl _ _ => intro e; cases e
  | nd _ _ _ => intro e; cases e
  | no _ _ _ => intro e; cases e
  | nt _ _ _ _ => intro e; cases e
  | nn _ _ => intro e; cases e
theorem isN_eq {G H : Hp} {v : V} {x : D} (r : RV K G H v x) : decide (v = .non) = x.isN := by
  cases x with
  | non => exact decide_eq_true r.non
  | _ => exact decide_eq_false (r.notNon (by intro e; cases e))
theorem RV.ofN {G H : Hp} {v : V} {x : D} (r : RV K G H v x) (h : x.isN = true) : v = .non := by
  cases x <;> first | exact r.non | cases h
theorem br_isN : Br2 K (fun x y H Q => y = .non ∧ Q (.bl (decide (x = .non))) H) (cmpV cIsN) := by
  intro G H v u x y QD Q s rx ry h p
  refine ⟨ry.ofN h.1, ?_⟩
  rw [isN_eq rx]
  exact p.dat s (.bl _) h.2
theorem br_notN : Br2 K (fun x y H Q => y = .non ∧ Q (.bl (!decide (x = .non))) H) (cmpV cNotN) := by
  intro G H v u x y QD Q s rx ry h p
  refine ⟨ry.ofN h.1, ?_⟩
  rw [isN_eq rx]
  exact p.dat s (.bl _) h.2
end
end DL
namespace DL
open PySem PySem.Spec L2
variable [TP]
def dTst (f : DCmp) (ta tb : DTE) : DTT := fun ρ Q E => ta ρ (fun x => tb ρ (fun y => f x.dat y.dat Q) E) E
def isBl (Q : Bool → Prop) : D → Prop
  | .bl b => Q b
  | _ => False
def toBl (Q : Bool → Prop) : C → Prop := fun c => isBl Q c.dat
section
variable {K : PySem.W.Frag} {W : WX} {X : Cx} {a b c : Expr} {ta tb tc : DTE} {tA tB' : DTT} {pos : Pos} {f f' : DCmp} {r r' : R2}
theorem toBl_rc {G H : Hp} {v : V} {x : D} {Q : Bool → Prop} (h : isBl Q x) (r : RV K G H v x) : ∃ k, v = .bl k ∧ Q k := by
  cases x <;> try exact h.elim
  exact ⟨_, r.bl, h⟩
theorem tst_of {t : DTE} {σ : L2.St} {H : Hp} {Q : Bool → Hp → Prop} {t' : DTT} (hd : ∀ ρ Q E, t' ρ Q E → t ρ (toBl Q) E) (h : tT K W t' σ H Q) : tD K W t σ H fun x H' => ∃ k, x = .bl k ∧ Q k H' := by
  obtain ⟨e, ρ, G, QD, QE, R, ht, hq, hx⟩ := h
  refine ⟨e, ρ, G, toBl QD, QE, R, hd _ _ _ ht, fun v H1 G1 c g1 r1 _ h1 => ?_, hx⟩
  obtain ⟨k, e1, e2⟩ := toBl_rc h1 r1.rv
  exact ⟨k, e1, hq k H1 G1 g1 e2⟩
theorem tst_D (br : Br2 K r (cmpV f)) (σ : L2.St) (H : Hp) (Q : Bool → Hp → Prop) (h : tT K W (dTst f ta tb) σ H Q) : tTest (tOp r (tB K W ta) (tB K W tb)) σ H Q :=
  op_D br σ H _ (tst_of (t := dOp (cmpV f) ta tb) (fun _ _ _ z => z) h)
structure CmpOk (X : Cx) (op : CmpOp) (f : DCmp) : Prop where
  ex : ∃ r, OpR X (compareOp op) r ∧ Br2 X.K r (cmpV f)
theorem dcmp {op : CmpOp} (k : CmpOk X op f) (ha : PE X a (tB X.K W ta)) (hb : PE X b (tB X.K W tb)) (hm : behindInMarks op b = false) : PE X (.Compare a [op] [b] pos) (tD X.K W (dOp (cmpV f) ta tb)) := by
  obtain ⟨r, ho, br⟩ := k.ex
  exact PE_conseq (pe_cmpR ho ha hb hm) (op_D br)
theorem tcmp {op : CmpOp} (k : CmpOk X op f) (ha : PE X a (tB X.K W ta)) (hb : PE X b (tB X.K W tb)) (hm : behindInMarks op b = false) : PT X (.Compare a [op] [b] pos) (tT X.K W (dTst f ta tb)) := by
  obtain ⟨r, ho, br⟩ := k.ex
  exact PT_conseq (pt_cmpR ho ha hb hm) (tst_D br)
theorem k_lt : CmpOk X .Lt cLt := ⟨_, OpR.or op_lt op_lt_str, br_lt⟩
theorem k_le : CmpOk X .LtE cLe := ⟨_, op_le, br_le⟩
theorem k_gt : CmpOk X .Gt cGt := ⟨_, op_gt, br_gt⟩
theorem k_ge : CmpOk X .GtE cGe := ⟨_, op_ge, br_ge⟩
theorem k_eq (hu : X.A.units + 64 < cLine) : CmpOk X .Eq cEq := ⟨_, op_eqA hu, br_eq⟩
theorem k_ne (hu : X.A.units + 64 < cLine) : CmpOk X .NotEq cNe := ⟨_, op_neA hu, br_ne⟩
theorem k_isN : CmpOk X .Is cIsN := ⟨_, op_isN, br_isN⟩
theorem k_notN : CmpOk X .IsNot cNotN := ⟨_, op_notN, br_notN⟩
def dChT (f f' : DCmp) (ta tb tc : DTE) : DTT := fun ρ Q E => ta ρ (fun x => tb ρ (fun y => f x.dat y.dat fun k => if k = true then tc ρ (fun z => f' y.dat z.dat Q) E else Q false) E) E
def dCh (f f' : DCmp) (ta tb tc : DTE) : DTE := fun ρ Q E => dChT f f' ta tb tc ρ (fun k => Q (.d (.bl k))) E
theorem ch_D (br : Br2 K r (cmpV f)) (br' : Br2 K r' (cmpV f')) (σ : L2.St) (H : Hp) (Q : VK) (h : tD K W (dCh f f' ta tb tc) σ H Q) : tChain r r' (tB K W ta) (tB K W tb) (tB K W tc) σ H Q := by
  obtain ⟨e, ρ, G, QD, QE, R, ht, hq, hx⟩ := h
  refine ⟨e, ρ, G, _, QE, R, ht, fun v H1 G1 cx g1 r1 h1 => ?_, hx⟩
  refine ⟨e, ρ, G1, _, QE, R.grow g1, h1, fun u H2 G2 cy g2 r2 h2 => ?_, XPost.grow hx g1⟩
  refine br G2 H2 v u cx.dat cy.dat (toBl fun k => if k = true then tc ρ (fun z => f' cy.dat z.dat fun k => QD (.d (.bl k))) QE else QD (.d (.bl false))) _ g2.gh (r1.grow g2) r2 h2 fun w H3 G3 cw g3 r3 _ h3 => ?_
  obtain ⟨k, e1, e2⟩ := toBl_rc h3 r3.rv
  refine ⟨k, e1, ?_⟩
  have g13 := (g1.trans g2).trans g3
  by_cases hk : k = true
  · rw [if_pos hk] at e2 ⊢
    refine ⟨e, ρ, G3, _, QE, R.grow g13, e2, fun w2 H4 G4 cz g4 r4 h4 => ?_, XPost.grow hx g13⟩
    exact br' G4 H4 u w2 cy.dat cz.dat QD Q g4.gh (r2.grow (g3.trans g4)) r4 h4 (VPost.grow hq (g13.trans g4))
  · rw [if_neg hk] at e2 ⊢
    exact VPost.dat (VPost.grow hq g13) g13.gh (.bl _) e2
theorem tchain {op op' : CmpOp} (k : CmpOk X op f) (k' : CmpOk X op' f') (ha : PE X a (tB X.K W ta)) (hb : PE X b (tB X.K W tb)) (hc : PE X c (tB X.K W tc)) (hm : lastMarks [op, op'] [b, c] = false := by with_unfolding_all rfl) :
    PT X (.Compare a [op, op'] [b, c] pos) (tT X.K W (dChT f f' ta tb tc)) := by
  obtain ⟨r, ho, br⟩ := k.ex
  obtain ⟨r', ho', br'⟩ := k'.ex
  refine PT_conseq (pt_chain ho ho' ha hb hc hm) fun σ H Q h => ch_D br br' σ H _ (tst_of (t := dCh f f' ta tb tc) (fun _ _ _ z => z) h)
def dBool (t : DTE) : DTT := fun ρ Q E => t ρ (fun c => isBl Q c.dat) E
theorem tbool (h : PE X a (tB X.K W ta)) (he : ∀ whole, isTrue a X.env whole = (do let v ← whole; standAt a.pos; holding [v] (truthy v)) := by intro _; rfl) : PT X a (tT X.K W (dBool ta)) := by
  refine PT_conseq (pt_val h he) fun σ H Q ⟨e, ρ, G, QD, QE, R, ht, hq, hx⟩ => ?_
  refine ⟨e, ρ, G, _, QE, R, ht, fun v H1 G1 c g1 r1 h1 => ?_, hx⟩
  obtain ⟨k, e1, e2⟩ := toBl_rc h1 r1
  exact ⟨k, e1, hq _ H1 G1 g1 e2⟩
def dAnd (t u : DTT) : DTT := fun ρ Q E => t ρ (fun b => if b = true then u ρ Q E else Q false) E
def dOr (t u : DTT) : DTT := fun ρ Q E => t ρ (fun b => if b = true then Q true else u ρ Q E) E
def dNot (t : DTT) : DTT := fun ρ Q E => t ρ (fun b => Q (!b)) E
variable {rest : List Expr}
theorem tand1 (ha : PT X a (tT X.K W tA)) : PW X (.BoolOp .And [a] pos) (tT X.K W tA) := pw_and1 ha
theorem tor1 (ha : PT X a (tT X.K W tA)) : PW X (.BoolOp .Or [a] pos) (tT X.K W tA) := pw_or1 ha
theorem tand (ha : PT X a (tT X.K W tA)) (hb : PW X (.BoolOp .And (b :: rest) pos) (tT X.K W tB')) : PW X (.BoolOp .And (a :: b :: rest) pos) (tT X.K W (dAnd tA tB')) := by
  refine PW_conseq (pw_and ha hb) fun σ H Q ⟨e, ρ, G, QD, QE, R, ht, hq, hx⟩ => ?_
  refine ⟨e, ρ, G, _, QE, R, ht, fun k H1 G1 g1 h1 => ?_, hx⟩
  by_cases hk : k = true
  · rw [if_pos hk] at h1 ⊢
    exact ⟨e, ρ, G1, QD, QE, R.grow g1, h1, fun k H2 G2 g2 h2 => hq k H2 G2 (g1.trans g2) h2, XPost.grow hx g1⟩
  · rw [if_neg hk] at h1 ⊢
    exact hq _ _ _ g1 h1
theorem tor (ha : PT X a (tT X.K W tA)) (hb : PW X (.BoolOp .Or (b :: rest) pos) (tT X.K W tB')) : PW X (.BoolOp .Or (a :: b :: rest) pos) (tT X.K W (dOr tA tB')) := by
  refine PW_conseq (pw_or ha hb) fun σ H Q ⟨e, ρ, G, QD, QE, R, ht, hq, hx⟩ => ?_
  refine ⟨e, ρ, G, _, QE, R, ht, fun k H1 G1 g1 h1 => ?_, hx⟩
  by_cases hk : k = true
  · rw [if_pos hk] at h1 ⊢
    exact hq _ _ _ g1 h1
  · rw [if_neg hk] at h1 ⊢
    exact ⟨e, ρ, G1, QD, QE, R.grow g1, h1, fun k H2 G2 g2 h2 => hq k H2 G2 (g1.trans g2) h2, XPost.grow hx g1⟩
theorem tnot (ha : PT X a (tT X.K W tA)) : PT X (.UnaryOp .Not a pos) (tT X.K W (dNot tA)) :=
  PT_conseq (pt_not ha) fun σ H Q ⟨e, ρ, G, QD, QE, R, ht, hq, hx⟩ => ⟨e, ρ, G, _, QE, R, ht, fun k H1 G1 g1 h1 => hq _ H1 G1 g1 h1, hx⟩
def dAndV (ta tb : DTE) : DTE := fun ρ Q E => ta ρ (fun x => isBl (fun k => if k = true then tb ρ Q E else Q (.d (.bl false))) x.dat) E
def dOrV (ta tb : DTE) : DTE := fun ρ Q E => ta ρ (fun x => isBl (fun k => if k = true then Q (.d (.bl true)) else tb ρ Q E) x.dat) E
def dNotV (ta : DTE) : DTE := fun ρ Q E => ta ρ (fun x => isBl (fun k => Q (.d (.bl (!k)))) x.dat) E
theorem done {op : BoolOp} (h : PE X a (tD X.K W ta)) : PE X (.BoolOp op [a] pos) (tD X.K W ta) := pe_one h
theorem dand (ha : PE X a (tD X.K W ta)) (hb : PE X (.BoolOp .And (b :: rest) pos) (tD X.K W tb)) : PE X (.BoolOp .And (a :: b :: rest) pos) (tD X.K W (dAndV ta tb)) := by
  refine PE_conseq (pe_and ha hb) fun σ H Q ⟨e, ρ, G, QD, QE, R, ht, hq, hx⟩ => ?_
  refine ⟨e, ρ, G, _, QE, R, ht, fun v H1 G1 c g1 r1 _ h1 => ?_, hx⟩
  obtain ⟨k, e1, h1⟩ := toBl_rc h1 r1.rv
  refine ⟨k, e1, ?_⟩
  by_cases hk : k = true
  · rw [if_pos hk] at h1 ⊢
    exact ⟨e, ρ, G1, QD, QE, R.grow g1, h1, VPost.grow hq g1, XPost.grow hx g1⟩
  · rw [if_neg hk] at h1 ⊢
    exact VPost.dat (VPost.grow hq g1) g1.gh (.bl _) h1
theorem dor (ha : PE X a (tD X.K W ta)) (hb : PE X (.BoolOp .Or (b :: rest) pos) (tD X.K W tb)) : PE X (.BoolOp .Or (a :: b :: rest) pos) (tD X.K W (dOrV ta tb)) := by
  refine PE_conseq (pe_or ha hb) fun σ H Q ⟨e, ρ, G, QD, QE, R, ht, hq, hx⟩ => ?_
  refine ⟨e, ρ, G, _, QE, R, ht, fun v H1 G1 c g1 r1 _ h1 => ?_, hx⟩
  obtain ⟨k, e1, h1⟩ := toBl_rc h1 r1.rv
  refine ⟨k, e1, ?_⟩
  by_cases hk : k = true
  · rw [if_pos hk] at h1 ⊢
    exact VPost.dat (VPost.grow hq g1) g1.gh (.bl _) h1
  · rw [if_neg hk] at h1 ⊢
    exact ⟨e, ρ, G1, QD, QE, R.grow g1, h1, VPost.grow hq g1, XPost.grow hx g1⟩
theorem dnot (ha : PE X a (tD X.K W ta)) : PE X (.UnaryOp .Not a pos) (tD X.K W (dNotV ta)) := by
  refine PE_conseq (pe_not ha) fun σ H Q ⟨e, ρ, G, QD, QE, R, ht, hq, hx⟩ => ?_
  refine ⟨e, ρ, G, _, QE, R, ht, fun v H1 G1 c g1 r1 _ h1 => ?_, hx⟩
  obtain ⟨k, e1, h1⟩ := toBl_rc h1 r1.rv
  exact ⟨k, e1, VPost.dat (VPost.grow hq g1) g1.gh (.bl _) h1⟩
end
structure DEnds where
  nx : Rho → Prop
  rt : C → Rho → Prop
  bk : Rho → Prop := fun _ => False
  ct : Rho → Prop := fun _ => False
  ex : Exn → Rho → Prop := fun _ _ => False
abbrev DS := DEnds → Rho → Prop
structure Post (K : PySem.W.Frag) (W : WX) (e : Ent) (E : DEnds) (D : Ends) : Prop where
  nx : ∀ ρ G σ H, Rel K e ρ G σ H → E.nx ρ → D.nx σ H
  rt : ∀ ρ G σ H v c, Rel K e ρ G σ H → RC K G H v c → Fresh e.H v c → E.rt c ρ → D.rt v H
  bk : ∀ ρ G σ H, Rel K e ρ G σ H → E.bk ρ → D.bk σ H
  ct : ∀ ρ G σ H, Rel K e ρ G σ H → E.ct ρ → D.ct σ H
  ex : ∀ ρ G σ H x cls d, Rel K e ρ G σ H → RX K G H cls d x → E.ex x ρ → W cls d σ H
def sD (K : PySem.W.Frag) (W : WX) (t : DS) : TS := fun D σ H => ∃ (e : Ent) (ρ : Rho) (G : Hp) (E : DEnds), Rel K e ρ G σ H ∧ t E ρ ∧ Post K W e E D
section
variable {K : PySem.W.Frag} {W : WX} {e : Ent} {E : DEnds} {D : Ends} {ρ : Rho} {G H : Hp} {σ : L2.St}
theorem Post.xp (P : Post K W e E D) (R : Rel K e ρ G σ H) : XPost K W σ G H fun x => E.ex x ρ := fun x cls d H' G' g r q => P.ex ρ G' σ H' x cls d (R.grow g) r q
theorem Post.seq (P : Post K W e E D) {t : DS} : Post K W e { E with nx := t E } { D with nx := sD K W t D } :=
  ⟨fun ρ G σ H R h => ⟨e, ρ, G, E, R, h, P⟩, P.rt, P.bk, P.ct, P.ex⟩
end
def dSeq (t u : DS) : DS := fun E ρ => t { E with nx := u E } ρ
def dNext : DS := fun E ρ => E.nx ρ
def dBrk : DS := fun E ρ => E.bk ρ
def dCnt : DS := fun E ρ => E.ct ρ
def dRet (t : DTE) : DS := fun E ρ => t ρ (fun c => E.rt c ρ) fun x => E.ex x ρ
def dRetL (i : Nat) : DS := fun E ρ => match ρ[i]? with
  | some (some c) => E.rt c ρ
  | _ => False
def dRetN : DS := fun E ρ => E.rt (.d .non) ρ
def dIf (c : DTT) (t u : DS) : DS := fun E ρ => c ρ (fun b => if b = true then t E ρ else u E ρ) fun x => E.ex x ρ
def dSet (i : Nat) (t : DTE) : DS := fun E ρ => t ρ (fun c => E.nx (ρ.set i (some (.d c.dat)))) fun x => E.ex x ρ
def dSetO (i : Nat) (t : DTE) : DS := fun E ρ => t ρ (fun c => E.nx (ρ.set i (some c))) fun x => E.ex x ρ
def dDrop (t : DTE) : DS := fun E ρ => t ρ (fun _ => E.nx ρ) fun x => E.ex x ρ
def dFz (i : Nat) (t : DS) : DS := fun E ρ => match ρ[i]? with
  | some (some c) => t E (ρ.set i (some (.d c.dat)))
  | _ => False
section
variable {X : Cx} {W : WX} {st : Stmt} {rest : List Stmt} {t u : DS} {e : Expr} {te : DTE} {pos : Pos}
theorem dss_nil : PSs X [] (sD X.K W dNext) := PSs_conseq pss_nil fun D σ H ⟨e, ρ, G, E, R, h, P⟩ => P.nx ρ G σ H R h
theorem dss_cons (h1 : PS X st (sD X.K W t)) (h2 : PSs X rest (sD X.K W u)) : PSs X (st :: rest) (sD X.K W (dSeq t u)) :=
  PSs_conseq (pss_cons h1 h2) fun D σ H ⟨e, ρ, G, E, R, h, P⟩ => ⟨e, ρ, G, _, R, h, P.seq⟩
theorem dss_one (h1 : PS X st (sD X.K W t)) : PSs X [st] (sD X.K W t) := pss_one h1
theorem ds_ret (he : PE X e (tD X.K W te)) : PS X (.Return (some e) pos) (sD X.K W (dRet te)) :=
  PS_conseq (ps_ret he) fun D σ H ⟨e, ρ, G, E, R, h, P⟩ => ⟨e, ρ, G, _, _, R, h, fun v H' G' c g r f q => P.rt ρ G' σ H' v c (R.grow g) r (f.old R.gl) q, P.xp R⟩
theorem ds_retL (i : Nat) {x : Str} {p : Pos} (hN : X.N[i]? = some x := by rfl) (hv : Vis X.env.scope x := by first | exact Or.inl rfl | exact Or.inr (Or.inl rfl) | exact Or.inr (Or.inr rfl)) (hd : (x == ("__debug__" : Str)) = false := by decide)
    (hcd : (x == ("__classdict__" : Str)) = false := by decide) : PS X (.Return (some (.Name x p)) pos) (sD X.K W (dRetL i)) := by
  refine PS_conseq (ps_ret (pe_var hN hv hd hcd)) fun D σ H ⟨e, ρ, G, E, R, h, P⟩ => ?_
  unfold dRetL at h
  cases hr : ρ[i]? with
  | none => rw [hr] at h; exact h.elim
  | some o =>
    rw [hr] at h
    cases o with
    | none => exact h.elim
    | some c =>
      obtain ⟨v, h1, h2, h3⟩ := R.at_ i c hr
      exact ⟨v, h1, P.rt ρ G σ H v c R h2 h3 h⟩
theorem ds_if {c : Expr} {a b : List Stmt} {tc : DTT} (hc : PT X c (tT X.K W tc)) (ha : PSs X a (sD X.K W t)) (hb : PSs X b (sD X.K W u)) : PS X (.If c a b pos) (sD X.K W (dIf tc t u)) := by
  refine PS_conseq (ps_if hc ha hb) fun D σ H ⟨e, ρ, G, E, R, h, P⟩ => ?_
  refine ⟨e, ρ, G, _, _, R, h, fun k H1 G1 g1 h1 => ?_, P.xp R⟩
  by_cases hk : k = true
  · rw [if_pos hk] at h1 ⊢
    exact ⟨e, ρ, G1, E, R.grow g1, h1, P⟩
  · rw [if_neg hk] at h1 ⊢
    exact ⟨e, ρ, G1, E, R.grow g1, h1, P⟩
theorem set_fz {K : PySem.W.Frag} {e : Ent} {E : DEnds} {D : Ends} {ρ : Rho} {G H G' H' : Hp} {σ : L2.St} {i : Nat} {v : V} {c : C} (R : Rel K e ρ G σ H) (P : Post K W e E D) (g : Gr G H G' H') (r : RC K G' H' v c) (f : Fresh H v c)
    (q : E.nx (ρ.set i (some (.d c.dat)))) : D.nx (σ.set i (some v)) H' := by
  obtain ⟨G2, g2, _, r2⟩ := r.freeze g f
  exact P.nx _ G2 _ H' ((R.grow g2).setD r2) q
theorem set_own {K : PySem.W.Frag} {e : Ent} {E : DEnds} {D : Ends} {ρ : Rho} {G H G' H' : Hp} {σ : L2.St} {i : Nat} {v : V} {c : C} (R : Rel K e ρ G σ H) (P : Post K W e E D) (g : Gr G H G' H') (r : RC K G' H' v c) (f : Fresh H v c)
    (q : E.nx (ρ.set i (some c))) : D.nx (σ.set i (some v)) H' := by
  refine P.nx _ G' _ H' ((R.grow g).set r (f.old R.gl) (fun o j c' hj ho hs => ?_) fun j c' _ hj => ⟨fun a ha o => ?_, fun ho a ha => ?_⟩) q
  rotate_left
  · obtain ⟨w, _, h2, _⟩ := R.at_ j c' hj
    obtain ⟨_, ⟨vs, h4⟩, _⟩ := h2.inn ha
    exact ⟨fun z => (by rw [f o a (.inl z)] at h4; cases h4), fun z => by rw [f o a (.inr z)] at h4; cases h4⟩
  · obtain ⟨w, h1, h2, _⟩ := R.at_ j c' hj
    have fa := f (inn_own ha) a (.inr ha)
    refine ⟨fun z => ?_, fun z => ?_⟩
    · rw [z] at h1
      cases h1
      obtain ⟨b, o2, e2, _, hb⟩ := h2.ref ho
      cases e2
      rw [fa] at hb
      cases hb
    · obtain ⟨_, ⟨vs, h4⟩, _⟩ := h2.inn z
      rw [fa] at h4
      cases h4
  obtain ⟨a, o1, e1, _, _⟩ := r.ref o
  obtain ⟨w, h1, h2, _⟩ := R.at_ j c' hj
  rw [hs] at h1
  cases h1
  obtain ⟨b, o2, e2, _, hb⟩ := h2.ref ho
  rw [e1] at e2
  cases e2
  rw [f o a (.inl e1)] at hb
  cases hb
theorem ds_set {i : Nat} {x : Str} {pos' : Pos} (hN : X.N.Nodup) (he : PE X e (tD X.K W te)) (hi : X.N[i]? = some x := by rfl) (hx : Loc X.env.scope x := by first | exact Or.inl rfl | exact Or.inr rfl) (hs : swapsWith e (some (.Name x pos')) pos.line X.env = pure false := by rfl)
    (hf : X.fn x = true ∨ X.env.scope.names.lookup x = some .local := by first | exact .inl rfl | exact .inr rfl | assumption) : PS X (.Assign [.Name x pos'] e pos) (sD X.K W (dSet i te)) :=
  PS_conseq (ps_set hN hi hx he hs hf) fun D σ H ⟨e, ρ, G, E, R, h, P⟩ => ⟨e, ρ, G, _, _, R, h, fun v H' G' c g r f q => set_fz R P g r f q, P.xp R⟩
theorem ds_setO {i : Nat} {x : Str} {pos' : Pos} (hN : X.N.Nodup) (he : PE X e (tD X.K W te)) (hi : X.N[i]? = some x := by rfl) (hx : Loc X.env.scope x := by first | exact Or.inl rfl | exact Or.inr rfl) (hs : swapsWith e (some (.Name x pos')) pos.line X.env = pure false := by rfl)
    (hf : X.fn x = true ∨ X.env.scope.names.lookup x = some .local := by first | exact .inl rfl | exact .inr rfl | assumption) : PS X (.Assign [.Name x pos'] e pos) (sD X.K W (dSetO i te)) :=
  PS_conseq (ps_set hN hi hx he hs hf) fun D σ H ⟨e, ρ, G, E, R, h, P⟩ => ⟨e, ρ, G, _, _, R, h, fun v H' G' c g r f q => set_own R P g r f q, P.xp R⟩
end
theorem Rel.freeze {K : PySem.W.Frag} {e : Ent} {ρ : Rho} {G H : Hp} {σ : L2.St} {i : Nat} {c : C} (R : Rel K e ρ G σ H) (hr : ρ[i]? = some (some c)) : ∃ G', Rel K e (ρ.set i (some (.d c.dat))) G' σ H := by
  obtain ⟨v, h1, h2, h3⟩ := R.at_ i c hr
  have hse : σ.set i (some v) = σ := by
    refine List.ext_getElem? fun j => ?_
    by_cases hj : i = j
    · subst hj
      have hl : i < σ.length := (List.getElem?_eq_some_iff.mp h1).1
      rw [List.getElem?_set_self hl, h1]
    · rw [List.getElem?_set_ne hj]
  cases ho : c.own with
  | false =>
    cases c with
    | d x =>
      have h4 : Rep K G v x := by cases h2; assumption
      have q := R.setD (i := i) h4
      rw [hse] at q
      exact ⟨G, q⟩
    | fz _ x =>
      have h4 : Rep K G v x := by cases h2; assumption
      have q := R.setD (i := i) h4
      rw [hse] at q
      exact ⟨G, q⟩
    | _ => cases ho
  | true =>
    obtain ⟨G2, g2, s2, rep, out⟩ := h2.freezeX (G := e.G) (H := e.H) ⟨R.gl.old, R.gl.og, R.gl.gh, R.gl.new⟩ h3
    have R2 : Rel K e (ρ.set i none) G2 σ H := by
      refine ⟨⟨g2.gh, R.gl.old, g2.gg, g2.new⟩, R.tq, fun j c' hj => ?_, (R.forget i).apart, (R.forget i).len, (R.forget i).inn⟩
      have hij : i ≠ j := fun z => by
        subst z
        rw [List.getElem?_set_self (List.getElem?_eq_some_iff.mp hr).1] at hj
        cases hj
      rw [List.getElem?_set_ne hij] at hj
      obtain ⟨w, g1, g2, g3⟩ := R.at_ j c' hj
      refine ⟨w, g1, g2.move s2 fun b o ho' hb nb hb2 _ => ⟨?_, hb2⟩, g3⟩
      cases hG2 : G2 b with
      | none => rfl
      | some o2 =>
        exfalso
        obtain ⟨_, z⟩ := out b nb (by rw [hG2]; exact nofun)
        rcases hb with hb | hb
        · rcases z with z | z
          · exact R.apart i j c c' v hij hr hj ho ho' h1 (by rw [g1, hb, z])
          · exact (R.inn i j c c' b hr hj z ho').1 (by rw [g1, hb])
        · rcases z with z | z
          · exact (R.inn j i c' c b hj hr hb ho).1 (by rw [h1, z])
          · exact (R.inn i j c c' b hr hj z ho').2 hij hb
    have q := R2.setD (i := i) rep
    rw [hse, List.set_set] at q
    exact ⟨_, q⟩
section
variable {X : Cx} {W : WX} {st : Stmt} {sts : List Stmt} {t : DS}
theorem fz_D {K : PySem.W.Frag} {i : Nat} (D : Ends) (σ : L2.St) (H : Hp) (h : sD K W (dFz i t) D σ H) : sD K W t D σ H := by
  obtain ⟨e, ρ, G, E, R, ht, P⟩ := h
  unfold dFz at ht
  cases hr : ρ[i]? with
  | none => rw [hr] at ht; exact ht.elim
  | some o =>
    rw [hr] at ht
    cases o with
    | none => exact ht.elim
    | some c =>
      obtain ⟨G', R'⟩ := R.freeze hr
      exact ⟨e, _, G', E, R', ht, P⟩
theorem ds_fz (i : Nat) (h : PS X st (sD X.K W t)) : PS X st (sD X.K W (dFz i t)) := PS_conseq h fz_D
end
end DL
namespace DL
open PySem PySem.Spec L2
variable [TP]
section
variable {K : PySem.W.Frag} {W : WX} {e : Ent} {E : DEnds} {D : Ends} {ρ : Rho} {G H G1 H1 : Hp} {σ : L2.St}
theorem Rel.rebase (R : Rel K e ρ G σ H) : Rel K ⟨e.H, G⟩ ρ G σ H := ⟨⟨R.gl.gh, R.gl.old, Same.refl _, fun _ z => .inl z⟩, R.tq, R.at_, R.apart, R.len, R.inn⟩
theorem Rel.unbase (g : Glob e G1 H1) (R : Rel K ⟨e.H, G1⟩ ρ G σ H) : Rel K e ρ G σ H :=
  ⟨⟨R.gl.gh, R.gl.old, g.og.trans R.gl.og, fun a z => (R.gl.new a z).elim (g.new a) .inr⟩, R.tq, R.at_, R.apart, R.len, R.inn⟩
theorem Post.rebase (g : Glob e G1 H1) (P : Post K W e E D) : Post K W ⟨e.H, G1⟩ E D :=
  ⟨fun ρ G σ H R => P.nx ρ G σ H (R.unbase g), fun ρ G σ H v c R => P.rt ρ G σ H v c (R.unbase g), fun ρ G σ H R => P.bk ρ G σ H (R.unbase g), fun ρ G σ H R => P.ct ρ G σ H (R.unbase g), fun ρ G σ H x cls d R => P.ex ρ G σ H x cls d (R.unbase g)⟩
end
inductive Tg where
  | one (i : Nat) | many (is : List Nat)
def Tg.slots : Tg → List Nat
  | .one i => [i]
  | .many is => is
def setAll : Rho → List Nat → List D → Rho
  | ρ, i :: is, x :: xs => setAll (ρ.set i (some (.d x))) is xs
  | ρ, _, _ => ρ
def tgSet : Tg → D → Rho → (Rho → Prop) → Prop
  | .one i, x, ρ, Q => Q (ρ.set i (some (.d x)))
  | .many is, .tup xs, ρ, Q => xs.length = is.length ∧ Q (setAll ρ is xs)
  | .many _, _, _, _ => False
def gNames : List Nat → TGs
  | [] => gNil
  | i :: is => gCons (gName i) (gNames is)
def tgT (K : PySem.W.Frag) : Tg → TG
  | .one i => gName i
  | .many is => gTup K is.length (gNames is)
def setV : L2.St → List Nat → List V → L2.St
  | σ, i :: is, v :: vs => setV (σ.set i (some v)) is vs
  | σ, _, _ => σ
theorem gNames_ok {H : Hp} : ∀ {is : List Nat} {vs : List V} {σ : L2.St} {Q : L2.St → Hp → Prop}, vs.length = is.length → Q (setV σ is vs) H → gNames is vs σ H Q
  | [], [], _, _, _, h => ⟨rfl, h⟩
  | [], _ :: _, _, _, l, _ => by cases l
  | _ :: _, [], _, _, l, _ => by cases l
  | i :: is, v :: vs, σ, Q, l, h => ⟨v, vs, rfl, gNames_ok (is := is) (by simpa using l) h⟩
theorem Rel.setAll {K : PySem.W.Frag} {e : Ent} {G H : Hp} : ∀ {is : List Nat} {vs : List V} {xs : List D} {ρ : Rho} {σ : L2.St}, RepL K G vs xs → Rel K e ρ G σ H → Rel K e (setAll ρ is xs) G (setV σ is vs) H
  | [], _, _, _, _, _, R => R
  | _ :: _, _, _, _, _, .nil, R => R
  | i :: is, _, _, _, _, .cons h r, R => Rel.setAll (is := is) r (R.setD h)
theorem tg_ok {K : PySem.W.Frag} {e : Ent} {G H : Hp} {ρ : Rho} {σ : L2.St} {tg : Tg} {v : V} {x : D} {QD : Rho → Prop} {Q : L2.St → Hp → Prop} (R : Rel K e ρ G σ H) (r : Rep K G v x) (h : tgSet tg x ρ QD)
    (q : ∀ ρ' σ', Rel K e ρ' G σ' H → QD ρ' → (∃ vs, σ' = setV σ tg.slots vs) → Q σ' H) : tgT K tg v σ H Q := by
  cases tg with
  | one i => exact q _ _ (R.setD r) h ⟨[v], rfl⟩
  | many is =>
    cases x with
    | tup xs =>
      obtain ⟨hl, h2⟩ := h
      cases r with
      | tup ha rl =>
        exact ⟨_, _, rfl, .inl (rd_same R.gl.gh ha), by rw [rl.length, hl], gNames_ok (by rw [rl.length, hl]) (q _ _ (R.setAll rl) h2 ⟨_, rfl⟩)⟩
    | _ => exact h.elim
abbrev DI := Rho → (List D → Prop) → EX → Prop
def WalkD (K : PySem.W.Frag) (J : It) (xs : List D) (G0 : Hp) : Prop := ∀ (G H : Hp), Same G0 G → Same G H → (∀ i, i < xs.length → J.go i H) ∧ J.stop xs.length H ∧
  ∀ (i : Nat) (v : V) (H' : Hp), i < xs.length → J.yld i H v H' → ∃ (G' : Hp) (x : D), Gr G H G' H' ∧ xs[i]? = some x ∧ Rep K G' v x
def tI (K : PySem.W.Frag) (W : WX) (t : DI) : TI := fun σ H R => ∃ (e : Ent) (ρ : Rho) (G : Hp) (QD : List D → Prop) (QE : EX), Rel K e ρ G σ H ∧ t ρ QD QE ∧
  (∀ J H' G' xs, Gr G H G' H' → WalkD K J xs G' → QD xs → R J H') ∧ XPost K W σ G H QE
def WalkC (K : PySem.W.Frag) (J : It) (xs : List D) (G0 H0 : Hp) : Prop := ∀ (G H : Hp), Same G0 G → Same H0 H → Same G H → (∀ i, i < xs.length → J.go i H) ∧ J.stop xs.length H ∧
  ∀ (i : Nat) (v : V) (H' : Hp), i < xs.length → J.yld i H v H' → ∃ (G' : Hp) (x : D), Gr G H G' H' ∧ xs[i]? = some x ∧ Rep K G' v x
def tIC (K : PySem.W.Frag) (W : WX) (t : DI) : TI := fun σ H R => ∃ (e : Ent) (ρ : Rho) (G : Hp) (QD : List D → Prop) (QE : EX), Rel K e ρ G σ H ∧ t ρ QD QE ∧
  (∀ J H' G' xs, Gr G H G' H' → WalkC K J xs G' H' → QD xs → R J H') ∧ XPost K W σ G H QE
theorem tic {X : Cx} {W : WX} {tg e : Expr} {t : DI} (h : PI X tg e (tI X.K W t)) : PI X tg e (tIC X.K W t) := by
  refine ⟨fun pins s σ H R I ⟨en, ρ, G, QD, QE, Rl, ht, hq, hx⟩ => h.run pins s σ H R I ⟨en, ρ, G, QD, QE, Rl, ht, fun J H' G' xs g w q => hq J H' G' xs g (fun G2 H2 s1 _ s2 => w G2 H2 s1 s2) q, hx⟩⟩
def itL : D → (List D → Prop) → Prop
  | .lst xs, Q => Q xs
  | _, _ => False
def itT : D → (List D → Prop) → Prop
  | .tup xs, Q => Q xs
  | _, _ => False
def signs (x : Str) : List D := x.cps.toList.map fun c => .str ⟨#[c]⟩
def itS : D → (List D → Prop) → Prop
  | .str x, Q => Q (signs x)
  | _, _ => False
def dItL (t : DTE) : DI := fun ρ Q E => t ρ (fun c => itL c.dat Q) E
def dItT (t : DTE) : DI := fun ρ Q E => t ρ (fun c => itT c.dat Q) E
def dItS (t : DTE) : DI := fun ρ Q E => t ρ (fun c => itS c.dat Q) E
def rngD (a n : Int) : List D := (List.range n.toNat).map fun (i : Nat) => .int (a + i)
def small62 (i : Int) : Prop := -(2 ^ 62) ≤ i ∧ i < 2 ^ 62
def rng1 : List D → (List D → Prop) → Prop
  | [.int n], Q => small62 n ∧ Q (rngD 0 n)
  | _, _ => False
def rng2 : List D → (List D → Prop) → Prop
  | [.int a, .int b], Q => small62 a ∧ small62 b ∧ Q (rngD a (b - a))
  | _, _ => False
def dRng1 (t : DTA) : DI := fun ρ Q E => t ρ (fun xs => rng1 xs Q) E
def dRng2 (t : DTA) : DI := fun ρ Q E => t ρ (fun xs => rng2 xs Q) E
section
variable {X : Cx} {W : WX} {tg e : Expr} {te : DTE} {ta : DTA} {K : PySem.W.Frag}
theorem sq_at {α : Type} {xs : List α} {i : Nat} (h : i < xs.length) : ∃ x, xs[i]? = some x := ⟨xs[i], List.getElem?_eq_getElem h⟩
theorem walk_list {G0 : Hp} {a : Addr} {vs : List V} {xs : List D} (h : SqL K G0 a vs) (r : RepL K G0 vs xs) : WalkD K (Itl K a) xs G0 := fun G H s1 s2 => by
  have h2 : SqL K H a vs := (s1.trans s2).seq h
  refine ⟨fun i hi => ?_, ⟨vs, h2, by rw [r.length]; exact Nat.le_refl _⟩, fun i v H' hi y => ?_⟩
  · obtain ⟨x, hx⟩ := sq_at hi
    obtain ⟨v, hv, _⟩ := r.get hx
    exact ⟨vs, v, h2, hv⟩
  · obtain ⟨rfl, hy⟩ := y
    obtain ⟨x, hx, rx⟩ := r.getV (hy vs h2)
    exact ⟨G, x, Gr.refl s2, hx, rx.mono s1⟩
theorem walk_str {G0 : Hp} {x : Str} : WalkD K (Its x) (signs x) G0 := fun G H s1 s2 => by
  have hl : (signs x).length = x.cps.size := by unfold signs; rw [List.length_map, Array.length_toList]
  refine ⟨fun i hi => by rw [hl] at hi; exact hi, by rw [hl]; exact Nat.le_refl _, fun i v H' hi y => ?_⟩
  obtain ⟨rfl, c, hc, rfl⟩ := y
  refine ⟨G, .str ⟨#[c]⟩, Gr.refl s2, ?_, .str _⟩
  unfold signs
  rw [List.getElem?_map, Array.getElem?_toList, hc]
  rfl
theorem rngD_len (a n : Int) : (rngD a n).length = n.toNat := by unfold rngD; rw [List.length_map, List.length_range]
theorem walk_rng {G0 : Hp} {a n : Int} : WalkD K (Itr a n.toNat) (rngD a n) G0 := fun G H s1 s2 => by
  refine ⟨fun i hi => by rw [rngD_len] at hi; exact hi, by rw [rngD_len]; exact Nat.le_refl _, fun i v H' hi y => ?_⟩
  obtain ⟨rfl, rfl⟩ := y
  rw [rngD_len] at hi
  refine ⟨G, .int (a + i), Gr.refl s2, ?_, .int _⟩
  unfold rngD
  rw [List.getElem?_map, List.getElem?_range hi]
  rfl
theorem di_list (h : PE X e (tD X.K W te)) : PI X tg e (tI X.K W (dItL te)) := by
  refine ⟨fun pins s σ H R I ⟨en, ρ, G, QD, QE, Rl, ht, hq, hx⟩ => (pi_list h).run pins s σ H R I ?_⟩
  refine ⟨en, ρ, G, _, QE, Rl, ht, fun v H1 G1 c g1 r1 f1 h1 => ?_, hx⟩
  obtain ⟨G2, g2, _, r2⟩ := r1.freeze g1 f1
  cases hc : c.dat with
  | lst xs =>
    rw [hc] at h1 r2
    cases r2 with
    | lst ha rl => exact ⟨_, rfl, ⟨_, g2.gh.seq ha⟩, hq _ _ G2 xs g2 (walk_list ha rl) h1⟩
  | _ => rw [hc] at h1; exact h1.elim
theorem di_str (h : PE X e (tD X.K W te)) : PI X tg e (tI X.K W (dItS te)) := by
  refine ⟨fun pins s σ H R I ⟨en, ρ, G, QD, QE, Rl, ht, hq, hx⟩ => (pi_str h).run pins s σ H R I ?_⟩
  refine ⟨en, ρ, G, _, QE, Rl, ht, fun v H1 G1 c g1 r1 f1 h1 => ?_, hx⟩
  have r2 := r1.rv
  cases hc : c.dat with
  | str z =>
    rw [hc] at h1 r2
    exact ⟨z, r2.str, hq _ _ G1 _ g1 walk_str h1⟩
  | _ => rw [hc] at h1; exact h1.elim
theorem RVL.one {G H : Hp} {vs : List V} {x : D} (r : RVL K G H vs [x]) : ∃ v, vs = [v] ∧ RV K G H v x := by
  cases r with | cons h r => cases r; exact ⟨_, rfl, h⟩
theorem RVL.two {G H : Hp} {vs : List V} {x y : D} (r : RVL K G H vs [x, y]) : ∃ v u, vs = [v, u] ∧ RV K G H v x ∧ RV K G H u y := by
  cases r with | cons h r => obtain ⟨u, rfl, h2⟩ := r.one; exact ⟨_, _, rfl, h, h2⟩
theorem di_rng1 {a : Expr} {p pos : Pos} (hm : X.mg "range" = none) (ha : PA X [a] (tAB X.K W ta)) (hg : Gl X "range" := by rfl) (hs : starEach [a] X.env = [(false, eval a X.env)] := by rfl) : PI X tg (.Call (.Name "range" p) [a] [] pos) (tI X.K W (dRng1 ta)) := by
  refine ⟨fun pins s σ H R I ⟨en, ρ, G, QD, QE, Rl, ht, hq, hx⟩ => (pi_range1 hg hm ha hs).run pins s σ H R I ?_⟩
  refine ⟨en, ρ, G, _, QE, Rl, ht, fun vs H1 G1 xs g1 r1 h1 => ?_, hx⟩
  match xs, h1, r1 with
  | [.int n], h1, r1 =>
    obtain ⟨v, rfl, rv⟩ := r1.one
    rw [rv.int]
    exact ⟨n, rfl, h1.1.1, h1.1.2, hq _ _ G1 _ g1 (walk_rng (a := 0)) h1.2⟩
theorem di_rng2 {a b : Expr} {p pos : Pos} (hm : X.mg "range" = none) (ha : PA X [a, b] (tAB X.K W ta)) (hg : Gl X "range" := by rfl) (hs : starEach [a, b] X.env = [(false, eval a X.env), (false, eval b X.env)] := by rfl) (hs2 : starEach [b] X.env = [(false, eval b X.env)] := by rfl) :
    PI X tg (.Call (.Name "range" p) [a, b] [] pos) (tI X.K W (dRng2 ta)) := by
  refine ⟨fun pins s σ H R I ⟨en, ρ, G, QD, QE, Rl, ht, hq, hx⟩ => (pi_range2 hg hm ha hs hs2).run pins s σ H R I ?_⟩
  refine ⟨en, ρ, G, _, QE, Rl, ht, fun vs H1 G1 xs g1 r1 h1 => ?_, hx⟩
  match xs, h1, r1 with
  | [.int i, .int j], h1, r1 =>
    obtain ⟨v, u, rfl, rv, ru⟩ := r1.two
    rw [rv.int, ru.int]
    exact ⟨i, j, rfl, ⟨h1.1.1, h1.1.2, h1.2.1.1, h1.2.1.2⟩, hq _ _ G1 _ g1 walk_rng h1.2.2⟩
end
def dForL (tg : Tg) (b : DS) (E : DEnds) : List D → Rho → Prop
  | [], ρ => E.nx ρ
  | x :: xs, ρ => tgSet tg x ρ fun ρ' => b { E with nx := dForL tg b E xs, ct := dForL tg b E xs, bk := E.nx } ρ'
def dFor (tg : Tg) (it : DI) (b : DS) : DS := fun E ρ => it ρ (fun xs => dForL tg b E xs ρ) fun x => E.ex x ρ
section
variable {X : Cx} {W : WX} {tg : Tg} {it : DI} {b : DS} {target iter : Expr} {body : List Stmt} {pos : Pos}
theorem ds_for (hp : PassesOwn (model X.prog X.w) X.A X.env X.xe) (hc : X.calm = true) (hi : PI X target iter (tI X.K W it)) (hg : PG X target (tgT X.K tg)) (hb : PSs X body (sD X.K W b)) (hs : ∀ x, foldedSetIterable iter X.env x = pure x := by intro _; rfl) :
    PS X (.For target iter body [] pos) (sD X.K W (dFor tg it b)) := by
  refine PS_conseq (ps_for hp hc hi hg hb hs) fun D σ H ⟨e, ρ, G, E, R, h, P⟩ => ?_
  refine ⟨e, ρ, G, _, _, R, h, fun J H1 G1 xs g1 w1 h1 => ?_, P.xp R⟩
  have R1 := R.grow g1
  have P1 := P.rebase R1.gl
  refine ⟨fun i m σ H => m = xs.length - i ∧ i ≤ xs.length ∧ ∃ ρ G, Rel X.K ⟨e.H, G1⟩ ρ G σ H ∧ dForL tg b E (xs.drop i) ρ, ⟨xs.length, by omega, Nat.zero_le _, ρ, G1, R1.rebase, by rw [List.drop_zero]; exact h1⟩, ?_⟩
  rintro i m σ2 H2 ⟨rfl, hi2, ρ2, G2, R2, q2⟩
  obtain ⟨w2, w3, w4⟩ := w1 G2 H2 R2.gl.og R2.gl.gh
  by_cases hlt : i < xs.length
  · refine .inr ⟨w2 i hlt, fun σ' H' => ∃ ρ G, Rel X.K ⟨e.H, G1⟩ ρ G σ' H' ∧ dForL tg b E (xs.drop (i + 1)) ρ, fun σ' H' z => ⟨xs.length - (i + 1), by omega, rfl, hlt, z⟩, fun v H3 y => ?_⟩
    obtain ⟨G3, x, g3, hx, rx⟩ := w4 i v H3 hlt y
    have ed : xs.drop i = x :: xs.drop (i + 1) := by
      rw [List.drop_eq_getElem_cons hlt]
      rw [List.getElem?_eq_getElem hlt] at hx
      cases hx
      rfl
    rw [ed] at q2
    refine tg_ok (R2.grow g3) rx q2 fun ρ' σ' R' q' _ => ⟨_, ρ', G3, _, R', q', ?_⟩
    exact ⟨fun ρ G σ H R h => ⟨ρ, G, R, h⟩, P1.rt, P1.nx, fun ρ G σ H R h => ⟨ρ, G, R, h⟩, P1.ex⟩
  · have ei : i = xs.length := by omega
    subst ei
    rw [List.drop_length] at q2
    exact .inl ⟨w3, P1.nx ρ2 G2 σ2 H2 R2 q2⟩
end
def dWhileN (c : DTT) (b : DS) (E : DEnds) : Nat → Rho → Prop
  | 0, _ => False
  | n + 1, ρ => c ρ (fun k => if k = true then b { E with nx := dWhileN c b E n, ct := dWhileN c b E n, bk := E.nx } ρ else E.nx ρ) fun x => E.ex x ρ
def dWhile (c : DTT) (b : DS) : DS := fun E ρ => ∃ n, dWhileN c b E n ρ
section
variable {X : Cx} {W : WX} {c : DTT} {b : DS} {ce : Expr} {body : List Stmt} {pos : Pos}
theorem ds_while (hp : PassesOwn (model X.prog X.w) X.A X.env X.xe) (hc : PT X ce (tT X.K W c)) (hb : PSs X body (sD X.K W b)) : PS X (.While ce body [] pos) (sD X.K W (dWhile c b)) := by
  refine PS_conseq (ps_while hp hc hb) fun D σ H ⟨e, ρ, G, E, R, ⟨n, h⟩, P⟩ => ?_
  refine ⟨fun m σ H => ∃ ρ G, Rel X.K e ρ G σ H ∧ dWhileN c b E m ρ, ⟨n, ρ, G, R, h⟩, ?_⟩
  rintro m σ2 H2 ⟨ρ2, G2, R2, h2⟩
  cases m with
  | zero => exact h2.elim
  | succ m =>
    refine ⟨e, ρ2, G2, _, _, R2, h2, fun k H3 G3 g3 h3 => ?_, P.xp R2⟩
    by_cases hk : k = true
    · rw [if_pos hk] at h3 ⊢
      refine ⟨fun σ' H' => ∃ ρ G, Rel X.K e ρ G σ' H' ∧ dWhileN c b E m ρ, fun σ' H' z => ⟨m, Nat.lt_succ_self _, z⟩, ?_⟩
      exact ⟨e, ρ2, G3, _, R2.grow g3, h3, ⟨fun ρ G σ H R h => ⟨ρ, G, R, h⟩, P.rt, P.nx, fun ρ G σ H R h => ⟨ρ, G, R, h⟩, P.ex⟩⟩
    · rw [if_neg hk] at h3 ⊢
      exact P.nx ρ2 G3 σ2 H3 (R2.grow g3) h3
end
def wipeR (ρ : Rho) : List Nat → Rho
  | [] => ρ
  | i :: is => (wipeR ρ is).set i none
def noEx : EX := fun _ => False
def W0 : WX := fun _ _ _ _ => False
def dLcL (tg : Tg) (c : DTT) (t : DTE) (ρ : Rho) (Q : C → Prop) : List D → List D → Prop
  | [], ys => Q (.nl ys)
  | x :: xs, ys => tgSet tg x ρ fun ρ' => c ρ' (fun b => if b = true then t ρ' (fun z => ys.length < sizeLine ∧ dLcL tg c t ρ Q xs (ys ++ [z.dat])) noEx else dLcL tg c t ρ Q xs ys) noEx
def dLc (tg : Tg) (it : DI) (c : DTT) (t : DTE) (vs : List Nat) : DTE := fun ρ Q E => it ρ (fun xs => dLcL tg c t (wipeR ρ vs) Q xs []) E
def dYes : DTT := fun _ Q _ => Q true
section
variable {K : PySem.W.Frag} {e : Ent} {ρ : Rho} {G H : Hp} {σ : L2.St}
theorem Rel.wipe (R : Rel K e ρ G σ H) : ∀ vs : List Nat, Rel K e (wipeR ρ vs) G (wipe σ vs) H
  | [] => R
  | i :: is => by
    have q := (R.wipe is).forget i
    refine ⟨q.gl, q.tq, fun j c h => ?_, fun j k c c' v hjk h1 h2 o1 o2 s1 => ?_, ?_, fun j k c c' a h1 h2 m1 o2 => ?_⟩
    · obtain ⟨v, h1, h2⟩ := q.at_ j c h
      refine ⟨v, ?_, h2⟩
      have hij : i ≠ j := fun z => by
        subst z
        cases Nat.lt_or_ge i (wipeR ρ is).length with
        | inl z => rw [show wipeR ρ (i :: is) = (wipeR ρ is).set i none from rfl, List.getElem?_set_self z] at h; cases h
        | inr z => rw [List.getElem?_eq_none (by rw [show wipeR ρ (i :: is) = (wipeR ρ is).set i none from rfl, List.length_set]; exact z)] at h; cases h
      show ((L2.wipe σ is).set i none)[j]? = _
      rw [List.getElem?_set_ne hij]
      exact h1
    · have key : ∀ (m : Nat) (c : C), (wipeR ρ (i :: is))[m]? = some (some c) → ((L2.wipe σ is).set i none)[m]? = (L2.wipe σ is)[m]? := fun m c h => by
        have him : i ≠ m := fun z => by
          subst z
          cases Nat.lt_or_ge i (wipeR ρ is).length with
          | inl z => rw [show wipeR ρ (i :: is) = (wipeR ρ is).set i none from rfl, List.getElem?_set_self z] at h; cases h
          | inr z => rw [List.getElem?_eq_none (by rw [show wipeR ρ (i :: is) = (wipeR ρ is).set i none from rfl, List.length_set]; exact z)] at h; cases h
        rw [List.getElem?_set_ne him]
      have s2 : (L2.wipe σ is)[j]? = some (some v) := (key j c h1).symm.trans s1
      intro s3
      exact q.apart j k c c' v hjk h1 h2 o1 o2 s2 ((key k c' h2).symm.trans s3)
    · show ((wipeR ρ is).set i none).length = ((L2.wipe σ is).set i none).length
      rw [List.length_set, List.length_set]
      exact (R.wipe is).len
    · have key : ∀ (m : Nat) (c : C), (wipeR ρ (i :: is))[m]? = some (some c) → ((L2.wipe σ is).set i none)[m]? = (L2.wipe σ is)[m]? := fun m c h => by
        have him : i ≠ m := fun z => by
          subst z
          cases Nat.lt_or_ge i (wipeR ρ is).length with
          | inl z => rw [show wipeR ρ (i :: is) = (wipeR ρ is).set i none from rfl, List.getElem?_set_self z] at h; cases h
          | inr z => rw [List.getElem?_eq_none (by rw [show wipeR ρ (i :: is) = (wipeR ρ is).set i none from rfl, List.length_set]; exact z)] at h; cases h
        rw [List.getElem?_set_ne him]
      have z := q.inn j k c c' a h1 h2 m1 o2
      exact ⟨fun s3 => z.1 ((key k c' h2).symm.trans s3), z.2⟩
theorem wipe_same {i : Nat} {v : Option V} : ∀ {vs : List Nat} {σ : L2.St}, i ∈ vs → L2.wipe (σ.set i v) vs = L2.wipe σ vs
  | [], _, h => by cases h
  | j :: vs, σ, h => by
    show (L2.wipe (σ.set i v) vs).set j none = (L2.wipe σ vs).set j none
    by_cases hi : i ∈ vs
    · rw [wipe_same hi]
    · have hij : i = j := by
        rcases List.mem_cons.mp h with q | q
        · exact q
        · exact absurd q hi
      subst hij
      refine List.ext_getElem? fun k => ?_
      by_cases hk : i = k
      · subst hk
        cases Nat.lt_or_ge i σ.length with
        | inl z => rw [List.getElem?_set_self (by rw [wipe_length, List.length_set]; exact z), List.getElem?_set_self (by rw [wipe_length]; exact z)]
        | inr z => rw [List.getElem?_eq_none (by rw [List.length_set, wipe_length, List.length_set]; exact z), List.getElem?_eq_none (by rw [List.length_set, wipe_length]; exact z)]
      · rw [List.getElem?_set_ne hk, List.getElem?_set_ne hk]
        have aux : ∀ (ws : List Nat), (L2.wipe (σ.set i v) ws)[k]? = (L2.wipe σ ws)[k]? := fun ws => by
          induction ws with
          | nil => exact List.getElem?_set_ne hk
          | cons w ws ih =>
            show ((L2.wipe (σ.set i v) ws).set w none)[k]? = ((L2.wipe σ ws).set w none)[k]?
            by_cases hw : w = k
            · subst hw
              cases Nat.lt_or_ge w σ.length with
              | inl z => rw [List.getElem?_set_self (by rw [wipe_length, List.length_set]; exact z), List.getElem?_set_self (by rw [wipe_length]; exact z)]
              | inr z => rw [List.getElem?_eq_none (by rw [List.length_set, wipe_length, List.length_set]; exact z), List.getElem?_eq_none (by rw [List.length_set, wipe_length]; exact z)]
            · rw [List.getElem?_set_ne hw, List.getElem?_set_ne hw]
              exact ih
        exact aux vs
theorem wipe_setV {vs : List Nat} : ∀ {is : List Nat} {ws : List V} {σ : L2.St}, (∀ i ∈ is, i ∈ vs) → L2.wipe (setV σ is ws) vs = L2.wipe σ vs
  | [], _, _, _ => rfl
  | _ :: _, [], _, _ => rfl
  | i :: is, w :: ws, σ, h => by
    show L2.wipe (setV (σ.set i (some w)) is ws) vs = _
    rw [wipe_setV (is := is) fun j hj => h j (List.mem_cons_of_mem _ hj), wipe_same (h i List.mem_cons_self)]
theorem wipe_wipe {vs : List Nat} : ∀ {ws : List Nat} {σ : L2.St}, (∀ i ∈ ws, i ∈ vs) → L2.wipe (L2.wipe σ ws) vs = L2.wipe σ vs
  | [], _, _ => rfl
  | i :: ws, σ, h => by
    show L2.wipe ((L2.wipe σ ws).set i none) vs = _
    rw [wipe_same (h i List.mem_cons_self)]
    exact wipe_wipe fun j hj => h j (List.mem_cons_of_mem _ hj)
theorem Rel.beside (R : Rel K e ρ G σ H) {p : Addr} {o : HO} (n : G p = none) (ne : e.H p = none) (hok : okO (H p) = true) (u : ∀ (j : Nat) (c : C), ρ[j]? = some (some c) → c.own = true → σ[j]? ≠ some (some (V.ref p)) ∧ p ∉ c.inn) : Rel K e ρ G σ (upd H p o) := by
  have s2 : ∀ {H0 : Hp}, H0 p = none → Same H0 H → Same H0 (upd H p o) := fun hn s b w hb => by
    rw [upd_ne (ne_of_none hb hn)]
    exact s _ _ hb
  refine ⟨⟨s2 n R.gl.gh, R.gl.old.upd ne hok, R.gl.og, R.gl.new⟩, tab_upd hok R.tq, fun j c h => ?_, R.apart, R.len, R.inn⟩
  obtain ⟨v, h1, h2, h3⟩ := R.at_ j c h
  refine ⟨v, h1, h2.move (Same.refl _) fun b w ho hb nb hb2 _ => ⟨nb, ?_⟩, h3⟩
  have hbp : b ≠ p := fun z => by
    rcases hb with hb | hb
    · exact (u j c h ho).1 (by rw [h1, hb, z])
    · exact (u j c h ho).2 (by rw [← z]; exact hb)
  rw [upd_ne hbp]
  exact hb2
theorem Rel.off (R : Rel K e ρ G σ H) {p : Addr} (n : H p = none) : ∀ (j : Nat) (c : C), ρ[j]? = some (some c) → c.own = true → σ[j]? ≠ some (some (V.ref p)) ∧ p ∉ c.inn := fun j c hj ho => by
  obtain ⟨v, q1, q2, _⟩ := R.at_ j c hj
  refine ⟨fun hs => ?_, fun hm => ?_⟩
  · rw [hs] at q1
    cases q1
    obtain ⟨a, u, ea, _, hu⟩ := q2.ref ho
    cases ea
    rw [n] at hu
    cases hu
  · obtain ⟨_, ⟨vs, h4⟩, _⟩ := q2.inn hm
    rw [n] at h4
    cases h4
end
section
variable {K : PySem.W.Frag} {W : WX} {tg : Tg} {it : DI} {c : DTT} {t : DTE} {vs : List Nat}
theorem lc_D (hv : ∀ i ∈ tg.slots, i ∈ vs) (σ : L2.St) (H : Hp) (Q : VK) (h : tD K W (dLc tg it c t vs) σ H Q) : tLc (tIC K W it) (tgT K tg) (tT K W0 c) (tD K W0 t) vs σ H Q := by
  obtain ⟨e, ρ, G, QD, QE, R, ht, hq, hx⟩ := h
  refine ⟨e, ρ, G, _, QE, R, ht, fun J H1 G1 xs g1 w1 h1 => ?_, hx⟩
  intro A hA
  have R1 := R.grow g1
  have RW : Rel K ⟨e.H, G1⟩ (wipeR ρ vs) G1 (wipe σ vs) H1 := (R1.wipe vs).rebase
  have hAe : e.H A = none := R1.gl.old.free hA
  have hAG : G1 A = none := R1.gl.gh.free hA
  have hAs := RW.off hA
  let Inv : List D → Hp → Prop := fun rest H => ∃ G acc ys, Rel K ⟨e.H, G1⟩ (wipeR ρ vs) G (wipe σ vs) H ∧ G A = none ∧ H A = some (.lst acc) ∧ RepL K G acc ys ∧ Gr G1 H1 G H ∧ dLcL tg c t (wipeR ρ vs) QD rest ys
  refine ⟨fun i m H => m = xs.length - i ∧ i ≤ xs.length ∧ Inv (xs.drop i) H, ⟨xs.length, by omega, Nat.zero_le _, G1, [], [], RW.beside hAG hAe (by rw [hA]; rfl) hAs, hAG, upd_same, .nil, (gr_new R1.gl.gh hA).1, by rw [List.drop_zero]; exact h1⟩, ?_⟩
  rintro i m H2 ⟨rfl, hi2, G2, acc, ys, R2, nA, hacc, ry, gG, q2⟩
  obtain ⟨w2, w3, w4⟩ := w1 G2 H2 R2.gl.og gG.hh.s R2.gl.gh
  by_cases hlt : i < xs.length
  · refine .inr ⟨w2 i hlt, Inv (xs.drop (i + 1)), fun H' z => ⟨xs.length - (i + 1), by omega, rfl, hlt, z⟩, fun v H3 y => ?_⟩
    obtain ⟨G3, x, g3, hx3, rx⟩ := w4 i v H3 hlt y
    have ed : xs.drop i = x :: xs.drop (i + 1) := by
      rw [List.drop_eq_getElem_cons hlt]
      rw [List.getElem?_eq_getElem hlt] at hx3
      cases hx3
      rfl
    rw [ed] at q2
    refine tg_ok (R2.grow g3) rx q2 fun ρ' σ' R' q' hσ => ?_
    obtain ⟨ws, rfl⟩ := hσ
    refine ⟨by rw [wipe_setV hv, wipe_wipe fun i hi => hi], ?_⟩
    have keepA : ∀ {G' H' : Hp}, Gr G2 H2 G' H' → G' A = none ∧ H' A = some (.lst acc) := fun {G' H'} g => by
      refine ⟨?_, g.hh.at hacc⟩
      cases q : G' A with
      | none => rfl
      | some o =>
        rcases g.new A (by rw [q]; simp) with z | z
        · exact absurd nA z
        · rw [hacc] at z; cases z
    refine ⟨_, ρ', G3, _, noEx, R', q', fun b H4 G4 g4 h4 => ?_, fun x cls d H' G' _ _ z => z.elim⟩
    have g24 := g3.trans g4
    show if b = true then _ else _
    by_cases hb : b = true
    · rw [if_pos hb] at h4 ⊢
      refine ⟨_, ρ', G4, _, noEx, R'.grow g4, h4, fun y H5 G5 cy g5 r5 f5 h5 => ?_, fun x cls d H' G' _ _ z => z.elim⟩
      obtain ⟨G6, g6, s6, r6⟩ := r5.freeze g5 f5
      have g26 := g24.trans g6
      obtain ⟨n6, a6⟩ := keepA g26
      refine ⟨acc, a6, by rw [ry.length]; exact h5.1, G6, acc ++ [y], ys ++ [cy.dat], (R2.grow g26).beside n6 hAe (by rw [a6]; rfl) hAs, n6, upd_same, (ry.mono g26.gg).append (.cons r6 .nil), ?_, h5.2⟩
      have gg := gG.trans g26
      refine ⟨gg.hh.upd hA (by rw [a6]; rfl), gg.gg, fun b w hb => ?_, gg.new⟩
      · rw [upd_ne (ne_of_none hb n6)]; exact gg.gh _ _ hb
    · rw [if_neg hb] at h4 ⊢
      obtain ⟨n4, a4⟩ := keepA g24
      exact ⟨G4, acc, ys, R2.grow g24, n4, a4, ry.mono g24.gg, gG.trans g24, h4⟩
  · have ei : i = xs.length := by omega
    subst ei
    rw [List.drop_length] at q2
    refine .inl ⟨w3, hq (.ref A) H2 G2 (.nl ys) (g1.trans gG) (.nl nA hacc ry) (fresh_of fun a ea => ?_) q2⟩
    cases ea
    exact g1.hh.free hA
variable {X : Cx} {elt target iter : Expr} {ifs : List Expr} {scope : Scope} {own : List (Str × Nat)} {pos : Pos}
theorem dlc (hc : X.calm = true) (hN : X.N.Nodup) (hi : PI X target iter (tIC X.K W it)) (ok : BlkOk X.N X.env.scope scope own)
    (hg : ∀ (s : Shared) (H : Hp) (C : Addr) (cl : List (Str × Addr)) (fp : List Addr), PG (X.blk s H scope (compEnvC scope cl C X.env) fp) target (tgT X.K tg))
    (ht : ∀ (s : Shared) (H : Hp) (C : Addr) (cl : List (Str × Addr)) (fp : List Addr), PTs (X.blk s H scope (compEnvC scope cl C X.env) fp) ifs (tT X.K W0 c))
    (he : ∀ (s : Shared) (H : Hp) (C : Addr) (cl : List (Str × Addr)) (fp : List Addr), PE (X.blk s H scope (compEnvC scope cl C X.env) fp) elt (tD X.K W0 t)) (hv : ∀ i ∈ tg.slots, i ∈ own.map (·.2))
    (hs : ∀ x, foldedSetIterable iter X.env x = pure x := by intro _; rfl) : PE X (.ListComp elt [⟨target, iter, ifs, 0⟩] scope pos) (tD X.K W (dLc tg it c t (own.map (·.2)))) :=
  PE_conseq (pe_lc hc hN hi ok hg ht he hs) (lc_D hv)
end
theorem pts_yes {X : Cx} : PTs X [] (tT X.K W0 dYes) := ⟨fun pins s σ H Q I ⟨e, ρ, G, QD, QE, R, h, hq, hx⟩ => pts_nil.run pins s σ H Q I (hq true H G (Gr.refl R.gl.gh) h)⟩
theorem pts_if {X : Cx} {e : Expr} {t : DTT} (h : PT X e (tT X.K W0 t)) : PTs X [e] (tT X.K W0 t) := pts_one h
end DL
namespace DL
open PySem PySem.Spec L2
variable [TP]
structure GH (K : PySem.W.Frag) (G H : Hp) : Prop where
  s : Same G H
  tq : TabQ H
theorem Rel.ghq {K : PySem.W.Frag} {e : Ent} {ρ : Rho} {G H : Hp} {σ : L2.St} (R : Rel K e ρ G σ H) : GH K G H := ⟨R.gl.gh, R.tq⟩
abbrev FS := List D → (C → Prop) → EX → Prop
def spD (K : PySem.W.Frag) (n : Nat) (f : FS) : Sp := fun vs H Q E => vs.length = n ∧ ∃ (G : Hp) (xs : List D) (QD : C → Prop) (QE : EX), GH K G H ∧ RepL K G vs xs ∧ f xs QD QE ∧ VPost K G H QD Q ∧
  ∀ x cls d H' G', Gr G H G' H' → RX K G' H' cls d x → QE x → E cls d H'
def rho0 (n : Nat) (xs : List D) : Rho := xs.map (fun x => some (.d x)) ++ List.replicate (n - xs.length) none
section
variable {P : Program} {w : World} {K : PySem.W.Frag} {mg : Str → Option Value} {base : Heap}
theorem rel_start {N : List Str} {G H : Hp} {vs : List V} {xs : List D} (s : GH K G H) (r : RepL K G vs xs) : Rel K ⟨H, G⟩ (rho0 N.length xs) G (L2.start N vs) H := by
  have hl := r.length
  have key : ∀ (i : Nat) (c : C), (rho0 N.length xs)[i]? = some (some c) → ∃ x, xs[i]? = some x ∧ c = .d x := fun i c h => by
    unfold rho0 at h
    cases Nat.lt_or_ge i xs.length with
    | inl z =>
      rw [List.getElem?_append_left (by rw [List.length_map]; exact z), List.getElem?_map] at h
      cases e : xs[i]? with
      | none => rw [e] at h; cases h
      | some x => rw [e] at h; cases h; exact ⟨x, rfl, rfl⟩
    | inr z =>
      rw [List.getElem?_append_right (by rw [List.length_map]; exact z), List.getElem?_replicate] at h
      split at h <;> cases h
  refine ⟨⟨s.s, SameT.refl _, Same.refl _, fun _ z => .inl z⟩, s.tq, fun i c h => ?_, fun i j c c' v _ h1 _ o1 => ?_, ?_, fun i j c c' a h1 _ m1 => by obtain ⟨x, _, rfl⟩ := key i c h1; cases m1⟩
  · obtain ⟨x, hx, rfl⟩ := key i c h
    obtain ⟨v, hv, rv⟩ := r.get hx
    refine ⟨v, ?_, .d rv, fun z => by cases z⟩
    unfold L2.start
    have hi : i < vs.length := (List.getElem?_eq_some_iff.mp hv).1
    rw [List.getElem?_append_left (by rw [List.length_map]; exact hi), List.getElem?_map, hv]
    rfl
  · obtain ⟨x, _, rfl⟩ := key i c h1
    cases o1
  · unfold rho0 L2.start
    rw [List.length_append, List.length_append, List.length_map, List.length_map, List.length_replicate, List.length_replicate, hl]
structure Bd (X : Cx) (W : WX) (k : Nat) : Prop where
  calm : X.calm = true
  tk : L2N.Takes X W
  po : PassesOwn (model X.prog X.w) X.A X.env X.xe
  hr : Room k X.A
  nd : X.N.Nodup
theorem Bd.hu {X : Cx} {W : WX} {k : Nat} (B : Bd X W k) : X.A.units + 1 < cLine := hu_of B.hr
theorem Bd.hu64 {X : Cx} {W : WX} {k : Nat} (B : Bd X W k) : X.A.units + 64 < cLine := B.hr.units
def fEnds (QD : C → Prop) (QE : EX) : DEnds := { nx := fun _ => QD (.d .non), rt := fun c _ => QD c, ex := fun x _ => QE x }
theorem fn_D {x qual : Str} {params : Arguments} {body : List Stmt} {scope : Scope} {dvs : List V} {kws : List (Str × V)} {f : Addr} {fd : FuncData} {N ps : List Str} {k n : Nat} {fs : FS} {r : DS}
    (F : FunD K x qual params body scope dvs kws f fd) (S : FnScope N ps scope) (hn : ps.length = n)
    (hb : ∀ (cdv : Value) (A : Around) (outer : List Env) (s : Shared) (H : Hp) (E : XK), Bd (cxOf (L2N.CX P w) P w K mg base N qual scope f cdv A outer s H E) (fun cls d _ H' => E cls d H') k →
      PSs (cxOf (L2N.CX P w) P w K mg base N qual scope f cdv A outer s H E) body (sD K (fun cls d _ H' => E cls d H') r))
    (hsp : ∀ xs QD QE, xs.length = n → fs xs QD QE → r (fEnds QD QE) (rho0 N.length xs)) : FnOk P w K mg base (L2N.CX P w) (k + 1) f fd ps (spD K n fs) := by
  refine F.ok S (fun vs H Q E h => by rw [h.1, hn]) fun cdv A outer s H vs Q E hr h => ?_
  obtain ⟨hvn, G, xs, QD, QE, sm, rl, hf, hq, hx⟩ := h
  refine ⟨sD K (fun cls d _ H' => E cls d H') r, hb cdv A outer s H E ⟨rfl, L2N.takes_of rfl rfl rfl rfl, passes_of rfl, hr, S.nd⟩, ?_⟩
  refine ⟨⟨H, G⟩, rho0 N.length xs, G, fEnds QD QE, rel_start sm rl, hsp xs QD QE (by rw [← rl.length, hvn]) hf, ?_⟩
  have gr : ∀ {ρ : Rho} {G' : Hp} {σ' : L2.St} {H' : Hp}, Rel K ⟨H, G⟩ ρ G' σ' H' → Gr G H G' H' := fun {ρ G' σ' H'} R => ⟨R.gl.old, R.gl.og, R.gl.gh, R.gl.new⟩
  exact ⟨fun ρ G' σ' H' R q => hq .non H' G' (.d .non) (gr R) (.d .non) (fun z => by cases z) q, fun ρ G' σ' H' v c R rc fr q => hq v H' G' c (gr R) rc fr q, fun _ _ _ _ _ z => z.elim, fun _ _ _ _ _ z => z.elim, fun ρ G' σ' H' y cls d R rx q => hx y cls d H' G' (gr R) rx q⟩
end
def dCall (f : FS) (t : DTA) (ds : List D) : DTE := fun ρ Q E => t ρ (fun xs => f (xs ++ ds) Q E) E
section
variable {X : Cx} {W : WX} {k j n : Nat} {f : Addr} {fd : FuncData} {ps : List Str} {fs : FS} {x : Str} {p pos apos : Pos} {e o : Expr} {es : List Expr} {t : DTA} {dvs : List V} {ds : List Value} {dd : List D} {to : DTE}
theorem call_D {K : PySem.W.Frag} (hd : ∀ G, RepL K G dvs dd) (hk : ∀ xs QD QE, fs xs QD QE → xs.length = n) (σ : L2.St) (H : Hp) (Q : VK) (h : tD K W (dCall fs t dd) σ H Q) : tCallSD (spD K n fs) dvs (WE W) (tAF K W t) σ H Q := by
  obtain ⟨en, ρ, G, QD, QE, R, ht, hq, hx⟩ := h
  refine ⟨en, ρ, G, _, QE, R, ht, fun vs H1 G1 xs g1 r1 h1 => ?_, hx⟩
  have rr := r1.append (hd G1)
  exact ⟨by rw [rr.length]; exact hk _ _ _ h1, G1, _, QD, QE, (R.grow g1).ghq, rr, h1, VPost.grow hq g1, fun y cls d H' G' g r q => hx y cls d H' G' (g1.trans g) r q⟩
theorem dcall (F : FnOk X.prog X.w X.K X.mg X.base (L2N.CX X.prog X.w) j f fd ps (spD X.K n fs)) (B : Bd X W k) (hj : j ≤ k) (hm : X.mg x = some (.ref f)) (hk : PySem.W.keepIn X.K (.ref f) = true) (hb : Binds X.K fd ps ds) (hd : Vals dvs ds)
    (hdd : ∀ G, RepL X.K G dvs dd) (hl : ∀ xs QD QE, fs xs QD QE → xs.length = n) (ha : PA X (e :: es) (tAF X.K W t)) (hg : Gl X x := by rfl) (hdb : (x == ("__debug__" : Str)) = false := by decide)
    (he : starEach (e :: es) X.env = (false, eval e X.env) :: starEach es X.env := by rfl) (hpl : (backTo pos (starEach es X.env)).any (·.1) = false := by rfl) : PE X (.Call (.Name x p) (e :: es) [] pos) (tD X.K W (dCall fs t dd)) :=
  PE_conseq (pe_callSD F (B.hr.mono hj) hg hm hk hb hd (fun σ => L2N.passAt B.tk σ) ha hdb he hpl) (call_D hdd hl)
end
structure MOk (X : Cx) (k : Nat) (m : Str) (c : Cn) (n : Nat) (dvs : List V) (fs : FS) : Prop where
  cl : Cls X.K (He.ga X.K c.str)
  ex : ∃ (g : Addr) (fd : FuncData) (ps : List Str) (ds : List Value) (j : Nat), Meth X.K (He.ga X.K c.str) m g ∧ FnOk X.prog X.w X.K X.mg X.base (L2N.CX X.prog X.w) j g fd ps (spD X.K n fs) ∧ j ≤ k ∧ Binds X.K fd ps ds ∧ Vals dvs ds
  len : ∀ xs QD QE, fs xs QD QE → xs.length = n
def mRecv (alt : Cn → Option FS) : D → (FS → Prop) → Prop
  | .obj c _, P => match alt c with
    | some fs => P fs
    | none => False
  | _, _ => False
def dMeth (alt : Cn → Option FS) (to : DTE) (t : DTA) (dd : List D) : DTE := fun ρ Q E => to ρ (fun o => mRecv alt o.dat fun fs => t ρ (fun xs => fs (o.dat :: (xs ++ dd)) Q E) E) E
def tMethS (X : Cx) (k : Nat) (W : WX) (m : Str) (to : TE) (ta : TA) : TE := fun σ H Q => to σ H fun x H1 => ∃ a c dx ws g fd ps sp dvs ds j, x = .ref a ∧ H1 a = some (.ins c dx ws) ∧ Cls X.K c ∧ Meth X.K c m g ∧ ws.lookup m = none ∧
  FnOk X.prog X.w X.K X.mg X.base (L2N.CX X.prog X.w) j g fd ps sp ∧ j ≤ k ∧ Binds X.K fd ps ds ∧ Vals dvs ds ∧ ta σ H1 fun vs H2 => sp (x :: (vs ++ dvs)) H2 Q (WE W σ)
section
variable {X : Cx} {W : WX} {k n : Nat} {m : Str} {pos apos : Pos} {e o : Expr} {es : List Expr} {t : DTA} {to : DTE} {dvs : List V} {dd : List D} {alt : Cn → Option FS}
theorem pe_methS {pl : Sem Bool} {to : TE} {ta : TA} (B : Bd X W k) (he : PE X o to) (ha : PA X (e :: es) ta) (hst : starEach (e :: es) X.env = (false, eval e X.env) :: starEach es X.env := by rfl) (hpl : (backTo pos (starEach es X.env)).any (·.1) = false := by rfl)
    (ht : eval (.Call (.Attribute o m apos) (e :: es) [] pos) X.env = (do
      let rcv ← eval o X.env
      standAt apos.atName
      let (g, one) ← holding [rcv] (getMethod rcv m pl)
      callWith pos g one (backTo pos (starEach (e :: es) X.env)) (backToKw pos (keywordEach [] X.env))) := by rfl) : PE X (.Call (.Attribute o m apos) (e :: es) [] pos) (tMethS X k W m to ta) := by
  refine ⟨fun pins s σ H Q I h => ?_⟩
  refine PySem.W.methodCall_KW (pl := pl) (thn (he.run pins s σ H _ I h) ?_) ht
  rintro u s1 ⟨x, H1, I1, rx, a, c, dx, ws, g, fd, ps, sp, dvs, ds, j, ex, ea, hc, hm, hl, F, hj, hb, hd, q⟩
  subst ex
  obtain rfl : u = Value.ref a := rx
  refine getmeth_ok I1 ea hc hm hl ?_
  refine PySem.W.callWith_K (first := [.ref a]) (h₀ := X.base) I.ok.mod.kin hm.kp (thn (ha.run pos pins s1 σ H1 _ I1 q) ?_) hst hpl
  rintro us s2 ⟨vs, H2, I2, r, q2⟩
  exact ⟨I2.kIn, run_fnSD (us := .ref a :: us) (vs := .ref a :: vs) (E := WE W) F (B.hr.mono hj) hb hd (L2N.passAt B.tk σ) I2 (.cons rfl r) q2⟩
theorem pe_methS0 {pl : Sem Bool} {to : TE} (B : Bd X W k) (he : PE X o to)
    (ht : eval (.Call (.Attribute o m apos) [] [] pos) X.env = (do
      let rcv ← eval o X.env
      standAt apos.atName
      let (g, one) ← holding [rcv] (getMethod rcv m pl)
      callWith pos g one (backTo pos (starEach [] X.env)) (backToKw pos (keywordEach [] X.env))) := by rfl) : PE X (.Call (.Attribute o m apos) [] [] pos) (tMethS X k W m to L2.tNil) := by
  refine ⟨fun pins s σ H Q I h => ?_⟩
  refine PySem.W.methodCall_KW (pl := pl) (thn (he.run pins s σ H _ I h) ?_) ht
  rintro u s1 ⟨x, H1, I1, rx, a, c, dx, ws, g, fd, ps, sp, dvs, ds, j, ex, ea, hc, hm, hl, F, hj, hb, hd, q⟩
  subst ex
  obtain rfl : u = Value.ref a := rx
  refine getmeth_ok I1 ea hc hm hl ?_
  exact PySem.W.callWith_K0 (first := [.ref a]) I1.kIn hm.kp (run_fnSD (us := [.ref a]) (vs := [.ref a]) (E := WE W) F (B.hr.mono hj) hb hd (L2N.passAt B.tk σ) I1 (.cons rfl .nil) q)
theorem lookup_none {α β : Type} {m : Str} (hm : ∀ f : Fd, f.str ≠ m) : ∀ {ws : List (Str × α)} {fl : List (Fd × β)}, ws.map (·.1) = fl.map (fun p => p.1.str) → ws.lookup m = none
  | [], [], _ => rfl
  | [], _ :: _, e => by cases e
  | _ :: _, [], e => by cases e
  | (k1, v1) :: ws, (k2, v2) :: fl, e => by
    rw [List.map_cons, List.map_cons] at e
    injection e with e1 e2
    have e1 : k1 = k2.str := e1
    rw [List.lookup_cons]
    cases hb : m == k1 with
    | true => exact absurd (e1.symm.trans (beq_iff_eq.mp hb).symm) (hm k2)
    | false => exact lookup_none hm e2
theorem lookup_some {K : PySem.W.Frag} {G : Hp} {m : Fd} {x : D} : ∀ {ws : List (Str × V)} {fl : List (Fd × D)}, ws.map (·.1) = fl.map (fun p => p.1.str) → RepL K G (ws.map (·.2)) (fl.map (·.2)) → fl.lookup m = some x → ∃ v, ws.lookup m.str = some v ∧ Rep K G v x
  | [], [], _, _, h => by cases h
  | [], _ :: _, e, _, _ => by cases e
  | _ :: _, [], e, _, _ => by cases e
  | (k1, v1) :: ws, (k2, v2) :: fl, e, r, h => by
    rw [List.map_cons, List.map_cons] at e r
    injection e with e1 e2
    have e1 : k1 = k2.str := e1
    rw [List.lookup_cons] at h ⊢
    cases r with
    | cons r1 r2 =>
      cases hb : m == k2 with
      | true =>
        rw [hb] at h; cases h
        have e3 : (m.str == k1) = true := by
          rw [beq_iff_eq.mp hb]
          exact beq_iff_eq.mpr e1.symm
        rw [e3]
        exact ⟨v1, rfl, r1⟩
      | false =>
        rw [hb] at h
        have hn : (m.str == k1) = false := by
          cases hc : m.str == k1 with
          | false => rfl
          | true =>
            have := Fd.inj m k2 ((beq_iff_eq.mp hc).trans e1)
            rw [this, beq_self_eq_true] at hb
            cases hb
        rw [hn]
        exact lookup_some e2 r2 h
theorem meth_D (hmf : ∀ f : Fd, f.str ≠ m) (hd : ∀ G, RepL X.K G dvs dd) (ok : ∀ c fs, alt c = some fs → MOk X k m c n dvs fs) (σ : L2.St) (H : Hp) (Q : VK) (h : tD X.K W (dMeth alt to t dd) σ H Q) : tMethS X k W m (tD X.K W to) (tAF X.K W t) σ H Q := by
  obtain ⟨en, ρ, G, QD, QE, R, ht, hq, hx⟩ := h
  refine ⟨en, ρ, G, _, QE, R, ht, fun v H1 G1 co g1 r1 f1 h1 => ?_, hx⟩
  obtain ⟨G2, g2, s2, r2⟩ := r1.freeze g1 f1
  cases hc : co.dat with
  | obj c fl =>
    rw [hc] at h1 r2
    have h1 : (match alt c with
      | some fs => t ρ (fun xs => fs (.obj c fl :: (xs ++ dd)) QD QE) QE
      | none => False) := h1
    cases ha : alt c with
    | none => rw [ha] at h1; exact h1.elim
    | some fs =>
      rw [ha] at h1
      obtain ⟨hcl, ⟨g, fd, ps, ds, j, hm, F, hj, hb, hdv⟩, hlen⟩ := ok c fs ha
      cases r2 with
      | obj hG hk hr =>
        refine ⟨_, _, _, _, g, fd, ps, _, dvs, ds, j, rfl, g2.gh.at hG, hcl, hm, lookup_none hmf hk, F, hj, hb, hdv, ?_⟩
        refine ⟨en, ρ, G2, _, QE, R.grow g2, h1, fun vs H3 G3 xs g3 r3 h3 => ?_, XPost.grow hx g2⟩
        have rr : RepL X.K G3 (.ref _ :: (vs ++ dvs)) (.obj c fl :: (xs ++ dd)) := .cons (.obj (g3.gg.at hG) hk (hr.mono g3.gg)) (r3.append (hd G3))
        exact ⟨by rw [rr.length]; exact hlen _ _ _ h3, G3, _, QD, QE, ((R.grow g2).grow g3).ghq, rr, h3, VPost.grow hq (g2.trans g3), fun y cls d H' G' g r q => hx y cls d H' G' ((g2.trans g3).trans g) r q⟩
  | _ => rw [hc] at h1; exact h1.elim
theorem dmeth (B : Bd X W k) (hmf : ∀ f : Fd, f.str ≠ m) (hd : ∀ G, RepL X.K G dvs dd) (ok : ∀ c fs, alt c = some fs → MOk X k m c n dvs fs) (he : PE X o (tD X.K W to)) (ha : PA X (e :: es) (tAF X.K W t)) {pl : Sem Bool}
    (hst : starEach (e :: es) X.env = (false, eval e X.env) :: starEach es X.env := by rfl) (hpl : (backTo pos (starEach es X.env)).any (·.1) = false := by rfl)
    (ht : eval (.Call (.Attribute o m apos) (e :: es) [] pos) X.env = (do
      let rcv ← eval o X.env
      standAt apos.atName
      let (g, one) ← holding [rcv] (getMethod rcv m pl)
      callWith pos g one (backTo pos (starEach (e :: es) X.env)) (backToKw pos (keywordEach [] X.env))) := by rfl) : PE X (.Call (.Attribute o m apos) (e :: es) [] pos) (tD X.K W (dMeth alt to t dd)) :=
  PE_conseq (pe_methS (pl := pl) B he ha hst hpl ht) (meth_D hmf hd ok)
theorem dmeth0 (B : Bd X W k) (hmf : ∀ f : Fd, f.str ≠ m) (hd : ∀ G, RepL X.K G dvs dd) (ok : ∀ c fs, alt c = some fs → MOk X k m c n dvs fs) (he : PE X o (tD X.K W to)) {pl : Sem Bool}
    (ht : eval (.Call (.Attribute o m apos) [] [] pos) X.env = (do
      let rcv ← eval o X.env
      standAt apos.atName
      let (g, one) ← holding [rcv] (getMethod rcv m pl)
      callWith pos g one (backTo pos (starEach [] X.env)) (backToKw pos (keywordEach [] X.env))) := by rfl) : PE X (.Call (.Attribute o m apos) [] [] pos) (tD X.K W (dMeth alt to dNilA dd)) :=
  PE_conseq (pe_methS0 (pl := pl) B he ht) fun σ H Q h => by
    obtain ⟨en, ρ, G, QD, QE, R, hh, hq, hx⟩ := meth_D (t := dNilA) hmf hd ok σ H Q h
    refine ⟨en, ρ, G, QD, QE, R, hh, fun v H1 G1 c g1 r1 f1 h1 => ?_, hx⟩
    obtain ⟨a, cc, dx, ws, g, fd, ps, sp, dvs, ds, j, e1, e2, e3, e4, e5, e6, e7, e8, e9, e10⟩ := hq v H1 G1 c g1 r1 f1 h1
    refine ⟨a, cc, dx, ws, g, fd, ps, sp, dvs, ds, j, e1, e2, e3, e4, e5, e6, e7, e8, e9, ?_⟩
    obtain ⟨en, ρ, G, QD, QE, R, hh, hq, hx⟩ := e10
    exact hq [] H1 G [] (Gr.refl R.gl.gh) .nil hh
def fldOf (cs : List Cn) (f : Fd) : D → (C → Prop) → Prop
  | .obj c fl, Q => c ∈ cs ∧ match fl.lookup f with
    | some x => Q (.d x)
    | none => False
  | _, _ => False
def dFld (cs : List Cn) (f : Fd) (t : DTE) : DTE := fun ρ Q E => t ρ (fun o => fldOf cs f o.dat Q) E
theorem dfld {cs : List Cn} {f : Fd} (hc : ∀ c, c ∈ cs → Cls X.K (He.ga X.K c.str) ∧ NoAttr X.K (He.ga X.K c.str) f.str) (he : PE X e (tB X.K W to)) (hb : attributeBase e f.str X.env (eval e X.env) = eval e X.env := by rfl) : PE X (.Attribute e f.str pos) (tD X.K W (dFld cs f to)) := by
  refine PE_conseq (pe_fld he hb) fun σ H Q ⟨en, ρ, G, QD, QE, R, ht, hq, hx⟩ => ?_
  refine ⟨en, ρ, G, _, QE, R, ht, fun v H1 G1 co g1 r1 h1 => ?_, hx⟩
  cases hcd : co.dat with
  | obj c fl =>
    rw [hcd] at h1 r1
    obtain ⟨hm, h1⟩ := h1
    obtain ⟨a, dx, ws, rfl, ha, hk, hr⟩ := r1.obj g1.gh
    cases hf : fl.lookup f with
    | none => rw [hf] at h1; exact h1.elim
    | some x =>
      rw [hf] at h1
      obtain ⟨u, hu, ru⟩ := lookup_some hk hr hf
      exact ⟨a, _, dx, ws, u, rfl, ha, (hc c hm).1, (hc c hm).2, hu, VPost.dat (VPost.grow hq g1) g1.gh ru h1⟩
  | _ => rw [hcd] at h1; exact h1.elim
end
abbrev FI := List D → (List (Fd × D) → Prop) → EX → Prop
def less (H : Hp) (a : Addr) : Hp := fun b => if b = a then none else H b
theorem less_at {H : Hp} {a : Addr} : less H a a = none := by unfold less; rw [if_pos rfl]
theorem less_ne {H : Hp} {a b : Addr} (h : b ≠ a) : less H a b = H b := by unfold less; rw [if_neg h]
theorem less_sub {H : Hp} {a : Addr} : SameT (less H a) H := .of fun b o h => by
  by_cases e : b = a
  · subst e; rw [less_at] at h; cases h
  · rw [less_ne e] at h; exact h
theorem tab_less {H : Hp} {a : Addr} (n : okO (H a) = true) (h : TabQ H) : TabQ (less H a) := fun z => by
  obtain ⟨ps, h1, h2, h3⟩ := h z
  refine ⟨ps, ?_, h2, fun pos cv hc => ?_⟩
  · rw [less_ne (fun z => by rw [← z, h1] at n; cases n)]; exact h1
  · obtain ⟨c, e1, e2⟩ := h3 pos cv hc
    refine ⟨c, e1, ?_⟩
    rw [less_ne (fun z => by rw [← z, e2] at n; cases n)]; exact e2
theorem SameT.less {H H1 : Hp} {a : Addr} (s : SameT H H1) (ha : H a = none) (n : okO (H1 a) = true := by rfl) : SameT H (less H1 a) :=
  ⟨fun b o hb => by rw [less_ne (ne_of_none hb ha)]; exact s.s _ _ hb, fun h => tab_less n (s.tq h)⟩
def spI (K : PySem.W.Frag) (c : Cn) (n : Nat) (f : FI) : Sp := fun vs H Q E => vs.length = n + 1 ∧ ∃ (a dx : Addr) (rest : List V) (G : Hp) (xs : List D) (QF : List (Fd × D) → Prop) (QE : EX), vs = .ref a :: rest ∧ H a = some (.ins (He.ga K c.str) dx []) ∧ G a = none ∧ GH K G H ∧ RepL K G rest xs ∧ f xs QF QE ∧
  (∀ H' G' dx' ws fl, Gr G (less H a) G' H' → G' a = none → H' a = some (.ins (He.ga K c.str) dx' ws) → ws.map (·.1) = fl.map (fun p => p.1.str) → RepL K G' (ws.map (·.2)) (fl.map (·.2)) → QF fl → Q .non H') ∧
  ∀ x cls d H' G', Gr G (less H a) G' H' → RX K G' H' cls d x → QE x → E cls d H'
def dMake (c : Cn) (f : FI) (t : DTA) (dd : List D) : DTE := fun ρ Q E => t ρ (fun xs => f (xs ++ dd) (fun fl => Q (.d (.obj c fl))) E) E
def tMakeS (Cl : Addr) (sp : Sp) (dvs : List V) (W : WX) (t : TA) : TE := fun σ H Q => t σ H fun vs H1 => ∀ x dx, H1 x = none → H1 dx = none → dx ≠ x →
  sp (.ref x :: (vs ++ dvs)) (upd (upd H1 dx (.own x)) x (.ins Cl dx [])) (fun v H2 => v = .non ∧ Q (.ref x) H2) (WE W σ)
section
variable {X : Cx} {W : WX} {j k n : Nat} {Cl f : Addr} {fd : FuncData} {ps : List Str} {sp : Sp} {fi : FI} {x : Str} {c : Cn} {p pos : Pos} {e : Expr} {es : List Expr} {t : DTA} {dvs : List V} {ds : List Value} {dd : List D}
theorem run_makeS {pins : List (Addr × Obj)} {σ : L2.St} {H : Hp} {s : Shared} {Q : VK} {us : List Value} {vs : List V} (M : Mk X.K Cl f) (F : FnOk X.prog X.w X.K X.mg X.base (L2N.CX X.prog X.w) j f fd ps sp) (B : Bd X W k) (hj : j + 1 ≤ k) (hb : Binds X.K fd ps ds) (hd : Vals dvs ds)
    (I : Inv X pins σ H s) (r : Vals vs us)
    (h : ∀ x dx, H x = none → H dx = none → dx ≠ x → sp (.ref x :: (vs ++ dvs)) (upd (upd H dx (.own x)) x (.ins Cl dx [])) (fun v H2 => v = .non ∧ Q (.ref x) H2) (WE W σ)) : wpAny (model X.prog X.w) X.A (call (.ref Cl) us) (EP X pins σ Q) X.xe s := by
  have hhr : Room (j + 1) X.A := B.hr.mono hj
  have h1 := h _ s.heap.objs.size (I.hok.fresh (Nat.le_succ s.heap.objs.size)) (I.hok.fresh (Nat.le_refl _)) (Nat.ne_of_lt (Nat.lt_succ_self _))
  have J := Inv.made (C := Cl) I
  have rr : Vals (V.ref (s.heap.objs.size + 1) :: (vs ++ dvs)) (Value.ref (s.heap.objs.size + 1) :: (us ++ ds)) := .cons rfl (r.append hd)
  have hl : (Value.ref (s.heap.objs.size + 1) :: us ++ ds).length = ps.length := (rr.length).symm.trans (F.len _ _ _ _ h1)
  have run := F.run _ X.stack _ _ ⟨Value.ref (s.heap.objs.size + 1) :: us, []⟩ (Value.ref (s.heap.objs.size + 1) :: (us ++ ds)) _ _ (WE W σ) (hhr.make Cl us []) (J.env0.make Cl us []) (hb _ (Value.ref (s.heap.objs.size + 1) :: us) J.kIn hl) rr h1
  refine wpAny_call (make_map (f := f) I.kIn M.makes M.init (beq_iff_eq.mp M.fn) (codeAny_mono run ?_))
  intro res s2 hres
  match res, hres with
  | .error ee, hres => exact L2N.passAt B.tk σ pins _ _ ee s2 J hres
  | .ok (.ret u), hres =>
    obtain ⟨v, H', J2, rv, ev, q3⟩ := J.after hres
    subst ev
    exact ⟨rv, .ref (s.heap.objs.size + 1), H', J2, rfl, q3⟩
theorem pe_makeS {t : TA} (M : Mk X.K Cl f) (F : FnOk X.prog X.w X.K X.mg X.base (L2N.CX X.prog X.w) j f fd ps sp) (B : Bd X W k) (hj : j + 1 ≤ k) (hm : X.mg x = some (.ref Cl)) (hb : Binds X.K fd ps ds) (hd : Vals dvs ds) (ha : PA X (e :: es) t) (hg : Gl X x := by rfl)
    (hdb : (x == ("__debug__" : Str)) = false := by decide) (he : starEach (e :: es) X.env = (false, eval e X.env) :: starEach es X.env := by rfl) (hpl : (backTo pos (starEach es X.env)).any (·.1) = false := by rfl) :
    PE X (.Call (.Name x p) (e :: es) [] pos) (tMakeS Cl sp dvs W t) := by
  refine ⟨fun pins s σ H Q I h => wpAny_Call_Name_kw (ld_glob I hg hm ?_ hdb)⟩
  refine PySem.W.callWith_K (h₀ := X.base) I.ok.mod.kin M.kp (thn (ha.run pos pins s σ H _ I h) ?_) he hpl
  rintro us s1 ⟨vs, H1, I1, r, q⟩
  exact ⟨I1.kIn, run_makeS M F B hj hb hd I1 r q⟩
theorem make_core {K : PySem.W.Frag} {σ : L2.St} {G H : Hp} {QD : C → Prop} {QE : EX} {Q : VK} {vs : List V} {xs : List D} {a dx : Addr} (hlen : ∀ xs QF QE, fi xs QF QE → xs.length = n) (s : GH K G H) (r : RepL K G vs xs) (h : fi xs (fun fl => QD (.d (.obj c fl))) QE)
    (hq : VPost K G H QD Q) (hx : XPost K W σ G H QE) (ha : H a = none) (hdx : H dx = none) (hne : dx ≠ a) :
    spI K c n fi (.ref a :: vs) (upd (upd H dx (.own a)) a (.ins (He.ga K c.str) dx [])) (fun v H2 => v = .non ∧ Q (.ref a) H2) (WE W σ) := by
  have s1 : SameT H (upd (upd H dx (.own a)) a (.ins (He.ga K c.str) dx [])) := ((SameT.refl H).upd hdx (by rw [hdx]; rfl)).upd ha (by rw [upd_ne (fun z => hne z.symm), ha]; rfl)
  have back : ∀ {G' H' : Hp}, Gr G (less (upd (upd H dx (.own a)) a (.ins (He.ga K c.str) dx [])) a) G' H' → Gr G H G' H' := fun {G' H'} g =>
    ⟨SameT.trans (s1.less ha (by rw [upd_same]; rfl)) g.hh, g.gg, g.gh, fun b hb => (g.new b hb).elim .inl fun z => .inr (by
      by_cases e : b = a
      · rw [e]; exact ha
      · rw [less_ne e, upd_ne e] at z
        by_cases e2 : b = dx
        · rw [e2]; exact hdx
        · rw [upd_ne e2] at z; exact z)⟩
  refine ⟨by rw [List.length_cons, r.length, hlen _ _ _ h], a, dx, vs, G, xs, _, QE, rfl, upd_same, s.s.free ha, ⟨s.s.trans s1.s, s1.tq s.tq⟩, r, h, fun H' G' dx' ws fl g hn hH hk hr q => ⟨rfl, ?_⟩, fun y cls d H' G' g rx q => hx y cls d H' G' (back g) rx q⟩
  obtain ⟨G3, g3, _, r3⟩ := RC.freeze (back g) (RC.no hn hH hk hr) (fresh_of fun b eb => by cases eb; exact ha)
  exact hq _ _ _ _ g3 (.d r3) (fun z => by cases z) q
theorem make_D {K : PySem.W.Frag} (hd : ∀ G, RepL K G dvs dd) (hlen : ∀ xs QF QE, fi xs QF QE → xs.length = n) (σ : L2.St) (H : Hp) (Q : VK) (h : tD K W (dMake c fi t dd) σ H Q) : tMakeS (He.ga K c.str) (spI K c n fi) dvs W (tAF K W t) σ H Q := by
  obtain ⟨en, ρ, G, QD, QE, R, ht, hq, hx⟩ := h
  refine ⟨en, ρ, G, _, QE, R, ht, fun vs H1 G1 xs g1 r1 h1 => ?_, hx⟩
  intro a dx ha hdx hne
  exact make_core hlen (R.grow g1).ghq (r1.append (hd G1)) h1 (VPost.grow hq g1) (XPost.grow hx g1) ha hdx hne
theorem dmake (M : Mk X.K (He.ga X.K c.str) f) (F : FnOk X.prog X.w X.K X.mg X.base (L2N.CX X.prog X.w) j f fd ps (spI X.K c n fi)) (B : Bd X W k) (hj : j + 1 ≤ k) (hm : X.mg c.str = some (.ref (He.ga X.K c.str))) (hb : Binds X.K fd ps ds) (hd : Vals dvs ds) (hdd : ∀ G, RepL X.K G dvs dd)
    (hlen : ∀ xs QF QE, fi xs QF QE → xs.length = n) (ha : PA X (e :: es) (tAF X.K W t)) (hg : Gl X c.str := by rfl)
    (hdb : (c.str == ("__debug__" : Str)) = false := by decide) (he : starEach (e :: es) X.env = (false, eval e X.env) :: starEach es X.env := by rfl) (hpl : (backTo pos (starEach es X.env)).any (·.1) = false := by rfl) :
    PE X (.Call (.Name c.str p) (e :: es) [] pos) (tD X.K W (dMake c fi t dd)) := PE_conseq (pe_makeS M F B hj hm hb hd ha hg hdb he hpl) (make_D hdd hlen)
end
theorem init_D {P : Program} {w : World} {K : PySem.W.Frag} {mg : Str → Option Value} {base : Heap} {x qual : Str} {c : Cn} {params : Arguments} {body : List Stmt} {scope : Scope} {dvs : List V} {kws : List (Str × V)} {f : Addr} {fd : FuncData} {N ps : List Str} {k n : Nat} {fi : FI} {r : DS}
    (F : FunD K x qual params body scope dvs kws f fd) (S : FnScope N ps scope) (hn : ps.length = n + 1) (hN : 0 < N.length)
    (hb : ∀ (cdv : Value) (A : Around) (outer : List Env) (s : Shared) (H : Hp) (E : XK), Bd (cxOf (L2N.CX P w) P w K mg base N qual scope f cdv A outer s H E) (fun cls d _ H' => E cls d H') k →
      PSs (cxOf (L2N.CX P w) P w K mg base N qual scope f cdv A outer s H E) body (sD K (fun cls d _ H' => E cls d H') r))
    (hsp : ∀ a xs QF QE, xs.length = n → fi xs QF QE → r { nx := fun ρ => ∃ fl, ρ[0]? = some (some (.no a c fl)) ∧ QF fl, rt := fun _ _ => False, ex := fun x _ => QE x } (some (.no a c []) :: rho0 (N.length - 1) xs)) : FnOk P w K mg base (L2N.CX P w) (k + 1) f fd ps (spI K c n fi) := by
  refine F.ok S (fun vs H Q E h => by rw [h.1, hn]) fun cdv A outer s H vs Q E hr h => ?_
  obtain ⟨hvn, a, dx, rest, G, xs, QF, QE, rfl, hHa, hGa, sm, rl, hf, hq, hx⟩ := h
  refine ⟨sD K (fun cls d _ H' => E cls d H') r, hb cdv A outer s H E ⟨rfl, L2N.takes_of rfl rfl rfl rfl, passes_of rfl, hr, S.nd⟩, ?_⟩
  have hlr : rest.length = n := by simpa using hvn
  have sm2 : Same G (less H a) := fun b o hb => by
    rw [less_ne (ne_of_none hb hGa)]
    exact sm.s _ _ hb
  have R0 := rel_start (K := K) (N := N.tail) sm rl
  have hst : L2.start N (.ref a :: rest) = some (.ref a) :: L2.start N.tail rest := by
    unfold L2.start
    rw [List.map_cons, List.length_cons, List.length_tail]
    rw [show N.length - (rest.length + 1) = N.length - 1 - rest.length by omega]
    rfl
  have R1 : Rel K ⟨less H a, G⟩ (some (.no a c []) :: rho0 (N.length - 1) xs) G (some (.ref a) :: L2.start N.tail rest) H := by
    have hNt : N.tail.length = N.length - 1 := List.length_tail
    rw [hNt] at R0
    refine ⟨⟨sm.s, less_sub, Same.refl _, fun _ z => .inl z⟩, sm.tq, fun i cc h => ?_, fun i j c1 c2 v hij h1 h2 o1 o2 s1 => ?_, ?_, fun i j c1 c2 b h1 h2 m1 o2 => ?_⟩
    · cases i with
      | zero =>
        cases (show some (some (C.no a c [])) = some (some cc) from h)
        exact ⟨.ref a, rfl, .no (ws := []) hGa hHa rfl .nil, fresh_of fun b eb => by cases eb; exact less_at⟩
      | succ i =>
        obtain ⟨v, q1, q2, q3⟩ := R0.at_ i cc h
        refine ⟨v, q1, q2, fun o b eb => ?_⟩
        have z := q3 o b eb
        by_cases e : b = a
        · rw [e]; exact less_at
        · show less H a b = none
          rw [less_ne e]; exact z
    · have frz : ∀ (m : Nat) (cc : C), (rho0 (N.length - 1) xs)[m]? = some (some cc) → cc.own = false := fun m cc hm => by
        obtain ⟨v, q1, q2, q3⟩ := R0.at_ m cc hm
        cases ho : cc.own with
        | false => rfl
        | true =>
          obtain ⟨b, u, eb, _, hb⟩ := q2.ref ho
          have := q3 ho b (.inl eb)
          rw [show (Ent.mk H G).H = H from rfl] at this
          rw [hb] at this
          cases this
      cases i with
      | zero => cases j with
        | zero => exact absurd rfl hij
        | succ j => rw [frz j c2 h2] at o2; cases o2
      | succ i => rw [frz i c1 h1] at o1; cases o1
    · rw [List.length_cons, List.length_cons, R0.len]
    · exfalso
      cases i with
      | zero =>
        cases (show some (some (C.no a c [])) = some (some c1) from h1)
        cases m1
      | succ i =>
        have ho := inn_own m1
        obtain ⟨v, q1, q2, q3⟩ := R0.at_ i c1 h1
        obtain ⟨b, u, eb, _, hb⟩ := q2.ref ho
        have := q3 ho b (.inl eb)
        rw [show (Ent.mk H G).H = H from rfl] at this
        rw [hb] at this
        cases this
  rw [hst]
  refine ⟨⟨less H a, G⟩, _, G, _, R1, hsp a xs QF QE (by rw [← rl.length, hlr]) hf, ?_⟩
  have gr : ∀ {ρ : Rho} {G' : Hp} {σ' : L2.St} {H' : Hp}, Rel K ⟨less H a, G⟩ ρ G' σ' H' → Gr G (less H a) G' H' := fun {ρ G' σ' H'} R => ⟨R.gl.old, R.gl.og, R.gl.gh, R.gl.new⟩
  refine ⟨fun ρ G' σ' H' R ⟨fl, h0, hfl⟩ => ?_, fun _ _ _ _ _ _ _ _ _ z => z.elim, fun _ _ _ _ _ z => z.elim, fun _ _ _ _ _ z => z.elim, fun ρ G' σ' H' y cls d R rx q => hx y cls d H' G' (gr R) rx q⟩
  obtain ⟨v, q1, q2, q3⟩ := R.at_ 0 _ h0
  cases q2 with
  | no m hh kk rr => exact hq H' G' _ _ fl (gr R) m hh kk rr hfl
end DL
namespace DL
open PySem PySem.Spec L2
variable [TP]
def dTup (t : DTA) : DTE := fun ρ Q E => t ρ (fun xs => xs.length ≤ 1000 ∧ Q (.d (.tup xs))) E
def dLst (t : DTA) : DTE := fun ρ Q E => t ρ (fun xs => xs.length ≤ 1000 ∧ Q (.nl xs)) E
def dNewD : DTE := fun _ Q _ => Q (.nd [])
theorem le_line {n : Nat} (h : n ≤ 1000) : n ≤ sizeLine := Nat.le_of_lt (small1000 h)
section
variable {X : Cx} {W : WX} {es : List Expr} {t : DTA} {pos : Pos}
theorem dtup {k : Nat} (h : PA X es (tAF X.K W t)) : PE X (.Tuple es k pos) (tD X.K W (dTup t)) :=
  PE_conseq (pe_tup h) fun σ H Q ⟨en, ρ, G, QD, QE, R, ht, hq, hx⟩ => ⟨en, ρ, G, _, QE, R, ht, fun vs H1 G1 xs g1 r1 h1 => ⟨by rw [r1.length]; exact le_line h1.1, fun p hp => VPost.tup (VPost.grow hq g1) g1.gh hp r1 h1.2⟩, hx⟩
theorem dlst (h : PA X es (tAF X.K W t)) : PE X (.List es pos) (tD X.K W (dLst t)) :=
  PE_conseq (pe_lst h) fun σ H Q ⟨en, ρ, G, QD, QE, R, ht, hq, hx⟩ => ⟨en, ρ, G, _, QE, R, ht, fun vs H1 G1 xs g1 r1 h1 => ⟨by rw [r1.length]; exact le_line h1.1, fun p hp => VPost.nl (VPost.grow hq g1) g1.gh hp r1 h1.2⟩, hx⟩
end
def ixD {α : Type} (xs : List α) (i : Int) : Option α := if 0 ≤ i then xs[i.toNat]? else if -(xs.length : Int) ≤ i then xs[(i + xs.length).toNat]? else none
theorem ixD_at {α : Type} {xs : List α} {i : Int} {x : α} (h : ixD xs i = some x) : ∃ j, ixN xs.length i = some j ∧ xs[j]? = some x := by
  unfold ixD at h
  unfold ixN
  by_cases h0 : 0 ≤ i
  · rw [if_pos h0] at h ⊢
    have hl := (List.getElem?_eq_some_iff.mp h).1
    rw [if_pos (by omega)]
    exact ⟨_, rfl, h⟩
  · rw [if_neg h0] at h ⊢
    by_cases h1 : -(xs.length : Int) ≤ i
    · rw [if_pos h1] at h ⊢
      exact ⟨_, rfl, h⟩
    · rw [if_neg h1] at h
      cases h
theorem ixD_V {K : PySem.W.Frag} {G : Hp} {vs : List V} {xs : List D} {i : Int} {x : D} (r : RepL K G vs xs) (h : ixD xs i = some x) : ∃ v, atI vs i = some v ∧ Rep K G v x := by
  obtain ⟨j, h1, h2⟩ := ixD_at h
  obtain ⟨v, h3, h4⟩ := r.get h2
  refine ⟨v, ?_, h4⟩
  unfold atI
  rw [r.length, h1]
  exact h3
def keyD : D → Option Key
  | .int i => some (.inl i)
  | .str z => some (.inr z)
  | _ => none
def valD (kvs : List (Key × D)) (k : Key) : Option D := (kvs.find? fun kv => decide (kv.1 = k)).map (·.2)
def putD (kvs : List (Key × D)) (k : Key) (x : D) : List (Key × D) := if (kvs.any fun kv => decide (kv.1 = k)) = true then kvs.map (fun kv => if kv.1 = k then (kv.1, x) else kv) else kvs ++ [(k, x)]
theorem keyD_V {K : PySem.W.Frag} {G H : Hp} {v : V} {x : D} {k : Key} (r : RV K G H v x) (h : keyD x = some k) : v = kV k := by
  cases x <;> cases h
  · exact r.int
  · exact r.str
theorem valD_V {K : PySem.W.Frag} {G : Hp} {k : Key} : ∀ {ws : List (Key × V)} {kvs : List (Key × D)}, ws.map (·.1) = kvs.map (·.1) → RepL K G (ws.map (·.2)) (kvs.map (·.2)) → (valD kvs k = none ∧ valV ws k = none) ∨ ∃ v x, valD kvs k = some x ∧ valV ws k = some v ∧ Rep K G v x
  | [], [], _, _ => .inl ⟨rfl, rfl⟩
  | [], _ :: _, e, _ => by cases e
  | _ :: _, [], e, _ => by cases e
  | (k1, v1) :: ws, (k2, v2) :: kvs, e, r => by
    rw [List.map_cons, List.map_cons] at e r
    injection e with e1 e2
    have e1 : k1 = k2 := e1
    subst e1
    cases r with
    | cons r1 r2 =>
      by_cases hk : k1 = k
      · refine .inr ⟨v1, v2, ?_, valV_pos hk, r1⟩
        simp [valD, List.find?_cons, hk]
      · rcases valD_V (k := k) e2 r2 with ⟨a, b⟩ | ⟨v, x, a, b, c⟩
        · refine .inl ⟨?_, by rw [valV_neg (p := (k1, v1)) hk]; exact b⟩
          simp only [valD, List.find?_cons, decide_eq_false hk] at a ⊢
          exact a
        · refine .inr ⟨v, x, ?_, by rw [valV_neg (p := (k1, v1)) hk]; exact b, c⟩
          simp only [valD, List.find?_cons, decide_eq_false hk] at a ⊢
          exact a
theorem any_keys {k : Key} {ws : List (Key × V)} {kvs : List (Key × D)} (e : ws.map (·.1) = kvs.map (·.1)) : (ws.any fun kv => decide (kv.1 = k)) = kvs.any fun kv => decide (kv.1 = k) := by
  have h : ∀ {α : Type} (l : List (Key × α)), (l.any fun kv => decide (kv.1 = k)) = (l.map (·.1)).any fun c => decide (c = k) := fun l => by rw [List.any_map]; rfl
  rw [h, h, e]
theorem putD_V {K : PySem.W.Frag} {G : Hp} {k : Key} {v : V} {x : D} {ws : List (Key × V)} {kvs : List (Key × D)} (e : ws.map (·.1) = kvs.map (·.1)) (r : RepL K G (ws.map (·.2)) (kvs.map (·.2))) (rv : Rep K G v x) :
    (putK ws k v).map (·.1) = (putD kvs k x).map (·.1) ∧ RepL K G ((putK ws k v).map (·.2)) ((putD kvs k x).map (·.2)) := by
  unfold putK putD
  rw [any_keys e]
  by_cases hb : (kvs.any fun kv => decide (kv.1 = k)) = true
  · rw [if_pos hb, if_pos hb]
    clear hb
    induction ws generalizing kvs with
    | nil => cases kvs with
      | nil => exact ⟨rfl, .nil⟩
      | cons _ _ => cases e
    | cons p ws ih => cases kvs with
      | nil => cases e
      | cons q kvs =>
        rw [List.map_cons, List.map_cons] at e r
        injection e with e1 e2
        cases r with
        | cons r1 r2 =>
          obtain ⟨i1, i2⟩ := ih e2 r2
          rw [List.map_cons, List.map_cons, List.map_cons, List.map_cons]
          by_cases hk : p.1 = k
          · rw [if_pos hk, if_pos (e1 ▸ hk), List.map_cons, List.map_cons]
            exact ⟨by rw [i1]; exact congrArg (· :: _) e1, .cons rv i2⟩
          · rw [if_neg hk, if_neg (e1 ▸ hk), List.map_cons, List.map_cons]
            exact ⟨by rw [i1]; exact congrArg (· :: _) e1, .cons r1 i2⟩
  · rw [if_neg hb, if_neg hb, List.map_append, List.map_append, List.map_append, List.map_append, e]
    exact ⟨rfl, r.append (.cons rv .nil)⟩
def oneSign (c : Nat) : Str := ⟨#[c]⟩
def optQ (o : Option D) (Q : C → Prop) : Prop := match o with
  | some x => Q (.d x)
  | none => False
def dIx : DOp
  | .lst xs, .int i, Q => optQ (ixD xs i) Q
  | .tup xs, .int i, Q => optQ (ixD xs i) Q
  | .str z, .int i, Q => z.length ≤ sizeLine ∧ optQ ((ixD z.cps.toList i).map fun c => .str (oneSign c)) Q
  | .dic kvs, k, Q => match keyD k with
    | some k => optQ (valD kvs k) Q
    | none => False
  | _, _, _ => False
theorem optQ_some {o : Option D} {Q : C → Prop} (h : optQ o Q) : ∃ x, o = some x ∧ Q (.d x) := by
  cases o with
  | none => exact h.elim
  | some x => exact ⟨x, rfl, h⟩
section
variable {X : Cx} {W : WX} {K : PySem.W.Frag} {a b : Expr} {ta tb : DTE} {pos : Pos} {k : Nat}
theorem dg_of {H : Hp} {p : Addr} {ws : List (Key × V)} {k : Key} (h : Rd H p (.dK ws)) : DGet H p (kV k) (valV ws k) := .inl ⟨ws, k, h, rfl, rfl⟩
def rGet (K : PySem.W.Frag) : R2 := fun x y H Q => rIx K x y H Q ∨ ∃ p v, x = .ref p ∧ DGet H p y (some v) ∧ Q v H
theorem br_ix : Br2 K (rGet K) dIx := by
  intro G H v u x y QD Q s rx ry h p
  cases x with
  | lst xs =>
    cases y <;> try exact h.elim
    obtain ⟨d, e1, e2⟩ := optQ_some h
    obtain ⟨q, vs, rfl, hr, rl⟩ := rx.lst s
    obtain ⟨w, hw, rw'⟩ := ixD_V rl e1
    exact .inl (.inl ⟨q, vs, _, w, rfl, ry.int, hr, hw, p.dat s rw' e2⟩)
  | tup xs =>
    cases y <;> try exact h.elim
    obtain ⟨d, e1, e2⟩ := optQ_some h
    obtain ⟨q, vs, rfl, hr, rl⟩ := rx.tup s
    obtain ⟨w, hw, rw'⟩ := ixD_V rl e1
    exact .inl (.inr (.inl ⟨q, vs, _, w, rfl, ry.int, .inl hr, hw, p.dat s rw' e2⟩))
  | str z =>
    cases y <;> try exact h.elim
    obtain ⟨hz, h⟩ := h
    obtain ⟨d, e1, e2⟩ := optQ_some h
    rw [Option.map_eq_some_iff] at e1
    obtain ⟨c, e1, rfl⟩ := e1
    obtain ⟨j, h1, h2⟩ := ixD_at e1
    refine .inl (.inr (.inr ⟨z, _, c, rx.str, ry.int, hz, ?_, p.dat s (.str _) e2⟩))
    unfold atI
    rw [h1]
    exact h2
  | dic kvs =>
    have h : (match keyD y with
      | some k => optQ (valD kvs k) QD
      | none => False) := by cases y <;> exact h
    cases hk : keyD y with
    | none => rw [hk] at h; exact h.elim
    | some k =>
      rw [hk] at h
      obtain ⟨d, e1, e2⟩ := optQ_some h
      obtain ⟨q, ws, rfl, hr, hk2, rl⟩ := rx.dic s
      rw [keyD_V ry hk]
      rcases valD_V (k := k) hk2 rl with ⟨z1, _⟩ | ⟨v, x, z1, z2, z3⟩
      · rw [z1] at e1; cases e1
      · rw [e1] at z1
        cases z1
        exact .inr ⟨q, v, rfl, by rw [← z2]; exact dg_of hr, p.dat s z3 e2⟩
  | _ => cases y <;> exact h.elim
def rDk : R2 := fun x y H Q => ∃ p v, x = .ref p ∧ DGet H p y (some v) ∧ Q v H
theorem ix_dic (hu : X.A.units + 1 < cLine) : IxR X rDk := by
  rintro value slice pins s σ H x y v u Q I rx ry ⟨p, w, rfl, g, q⟩ hsub
  cases rx
  have tyd := dict_typeIs I g
  have get := d_getItem (Q := EP X pins σ Q) (E := X.xe) hu I g ry fun w' s3 I3 r3 => ⟨w, H, I3, r3, q⟩
  have body : wpAny (model X.prog X.w) X.A (subscripted slice false (.ref p) u) (fun r s3 => wpAny (model X.prog X.w) X.A (letTemporaryGo value (.ref p) r >>= fun _ => pure r) (EP X pins σ Q) X.xe s3) X.xe s := by
    rw [hsub]
    exact PySem.wpAny_operating (thn get fun r s3 h3 => PySem.wpAny_bind (wpAny_letTemporaryGo (PySem.wpAny_pure h3)))
  unfold PyProof.Rows.subscriptTail
  refine PySem.wpAny_bind ?_
  rw [PySem.getitemInPython_of_ne tyd.not_modules]
  refine PySem.wpAny_bind (PySem.wpAny_specialOf tyd PySem.F.slot_dict_getitem.lookup ?_)
  first
    | exact PySem.wpAny_bind body
    | exact PySem.wpAny_pure (PySem.wpAny_bind body)
    | exact PySem.wpAny_bind (PySem.wpAny_pure (PySem.wpAny_bind body))
theorem dix (hu : X.A.units + 1 < cLine) (ha : PE X a (tB X.K W ta)) (hb : PE X b (tB X.K W tb)) (h1 : PlainIx b := by exact fun _ _ => rfl) : PE X (.Subscript a b pos) (tD X.K W (dOp dIx ta tb)) :=
  PE_conseq (pe_ix (IxR.or ix_seq (ix_dic hu)) ha hb h1) (op_D br_ix)
end
def flatD : D → Bool
  | .non => true
  | .bl _ => true
  | .int _ => true
  | .str _ => true
  | _ => false
def eqF : D → D → Bool
  | .non, .non => true
  | .bl a, .bl b => a == b
  | .bl a, .int b => (if a then 1 else 0) == b
  | .int a, .bl b => a == (if b then 1 else 0)
  | .int a, .int b => a == b
  | .str a, .str b => a == b
  | _, _ => false
def inD (x : D) (xs : List D) : Bool := xs.any fun y => eqF y x
def cIn : DCmp
  | x, .lst xs, Q => flatD x = true ∧ xs.all flatD = true ∧ Q (inD x xs)
  | x, .tup xs, Q => flatD x = true ∧ xs.all flatD = true ∧ Q (inD x xs)
  | x, .dic kvs, Q => match keyD x with
    | some k => Q (valD kvs k).isSome
    | none => False
  | .str x, .str y, Q => Q (!(Builtin.Str.occurrences y x 0 y.length 1).isEmpty)
  | _, _, _ => False
def cNotIn : DCmp := fun x y Q => cIn x y fun b => Q (!b)
section
variable {X : Cx} {W : WX} {K : PySem.W.Frag} {G H : Hp}
theorem flatD_V {v : V} {x : D} (r : RV K G H v x) (f : flatD x = true) : flatV v = true := by
  cases x <;> first | cases f | skip
  · rw [r.non]; rfl
  · rw [r.bl]; rfl
  · rw [r.int]; rfl
  · rw [r.str]; rfl
theorem eqF_V {v u : V} {x y : D} (r : RV K G H v x) (q : RV K G H u y) (f : flatD x = true) (g : flatD y = true) : eqV v u = eqF x y := by
  cases x <;> first | cases f | skip
  all_goals cases y <;> first | cases g | skip
  all_goals
    first | rw [r.non] | rw [r.bl] | rw [r.int] | rw [r.str]
    first | rw [q.non] | rw [q.bl] | rw [q.int] | rw [q.str]
    rfl
theorem all_V : ∀ {vs : List V} {xs : List D}, RepL K G vs xs → xs.all flatD = true → vs.all flatV = true
  | _, _, .nil, _ => rfl
  | _, _, .cons h r, f => by
    rw [List.all_cons, Bool.and_eq_true] at f ⊢
    exact ⟨flatD_V (H := G) (.fz h) f.1, all_V r f.2⟩
theorem inD_V {u : V} {y : D} (q : RV K G H u y) (g : flatD y = true) : ∀ {vs : List V} {xs : List D}, RepL K G vs xs → xs.all flatD = true → inV u vs = inD y xs
  | _, _, .nil, _ => rfl
  | _, _, .cons h r, f => by
    rw [List.all_cons, Bool.and_eq_true] at f
    unfold inV inD
    rw [List.any_cons, List.any_cons, eqF_V (.fz h) q f.1 g]
    exact congrArg (_ || ·) (inD_V q g r f.2)
def rInA (K : PySem.W.Frag) (neg : Bool) : R2 := fun x y H Q => rIn K neg x y H Q ∨ ((∃ i j, x = .str i ∧ y = .str j ∧ Q (.bl (if neg then !(!(Builtin.Str.occurrences j i 0 j.length 1).isEmpty) else !(Builtin.Str.occurrences j i 0 j.length 1).isEmpty)) H) ∨
  ∃ a o, y = .ref a ∧ DGet H a x o ∧ Q (.bl (if neg then !o.isSome else o.isSome)) H)
theorem op_inA (hu : X.A.units + 1 < cLine) : OpR X (compareOp .In) (rInA X.K false) := by
  refine OpR.or op_in_seq (OpR.or op_in_str ?_)
  rintro pins s σ H x y v u Q I rx ry ⟨a, o, rfl, g, q⟩
  cases ry
  exact d_in hu I g rx fun s3 I3 => ⟨.bl o.isSome, H, I3, rfl, q⟩
theorem op_notInA (hu : X.A.units + 1 < cLine) : OpR X (compareOp .NotIn) (rInA X.K true) := by
  refine OpR.or op_notIn_seq (OpR.or op_notIn_str ?_)
  rintro pins s σ H x y v u Q I rx ry ⟨a, o, rfl, g, q⟩
  cases ry
  exact d_notIn hu I g rx fun s3 I3 => ⟨.bl (!o.isSome), H, I3, rfl, q⟩
theorem in_core {v u : V} {x y : D} {P : Bool → Prop} (neg : Bool) {Q : VK} (s : Same G H) (rx : RV K G H v x) (ry : RV K G H u y) (h : cIn x y P) (hq : ∀ b, P b → Q (.bl (if neg then !b else b)) H) : rInA K neg v u H Q := by
  cases y with
  | lst xs =>
    have h : flatD x = true ∧ xs.all flatD = true ∧ P (inD x xs) := by cases x <;> exact h
    obtain ⟨a, vs, rfl, hr, rl⟩ := ry.lst s
    refine .inl ⟨a, vs, rfl, .inl hr, flatD_V rx h.1, all_V rl h.2.1, ?_⟩
    rw [inD_V rx h.1 rl h.2.1]
    exact hq _ h.2.2
  | tup xs =>
    have h : flatD x = true ∧ xs.all flatD = true ∧ P (inD x xs) := by cases x <;> exact h
    obtain ⟨a, vs, rfl, hr, rl⟩ := ry.tup s
    refine .inl ⟨a, vs, rfl, .inr (.inl hr), flatD_V rx h.1, all_V rl h.2.1, ?_⟩
    rw [inD_V rx h.1 rl h.2.1]
    exact hq _ h.2.2
  | dic kvs =>
    have h : (match keyD x with
      | some k => P (valD kvs k).isSome
      | none => False) := by cases x <;> exact h
    cases hk : keyD x with
    | none => rw [hk] at h; exact h.elim
    | some k =>
      rw [hk] at h
      obtain ⟨a, ws, rfl, hr, hk2, rl⟩ := ry.dic s
      refine .inr (.inr ⟨a, valV ws k, rfl, by rw [keyD_V rx hk]; exact dg_of hr, ?_⟩)
      have e : (valV ws k).isSome = (valD kvs k).isSome := by
        rcases valD_V (k := k) hk2 rl with ⟨z1, z2⟩ | ⟨w, d, z1, z2, _⟩
        · rw [z1, z2]; rfl
        · rw [z1, z2]; rfl
      rw [e]
      exact hq _ h
  | str z =>
    cases x <;> try exact h.elim
    exact .inr (.inl ⟨_, _, rx.str, ry.str, hq _ h⟩)
  | _ => cases x <;> exact h.elim
theorem br_in : Br2 K (rInA K false) (cmpV cIn) := fun G H v u x y QD Q s rx ry h p => in_core false s rx ry h fun b hb => p.dat s (.bl _) hb
theorem br_notIn : Br2 K (rInA K true) (cmpV cNotIn) := fun G H v u x y QD Q s rx ry h p => in_core true s rx ry h fun b hb => p.dat s (.bl _) hb
theorem k_in (hu : X.A.units + 1 < cLine) : CmpOk X .In cIn := ⟨_, op_inA hu, br_in⟩
theorem k_notIn (hu : X.A.units + 1 < cLine) : CmpOk X .NotIn cNotIn := ⟨_, op_notInA hu, br_notIn⟩
end
def cutD (xs : List D) (lo hi : Option Int) : List D := (xs.drop (HT.sIx xs.length 0 lo)).take (HT.sIx xs.length xs.length hi - HT.sIx xs.length 0 lo)
abbrev DO := Rho → (Option Int → Prop) → EX → Prop
def tO (K : PySem.W.Frag) (W : WX) (t : DO) : TO := fun σ H Q => ∃ (e : Ent) (ρ : Rho) (G : Hp) (QD : Option Int → Prop) (QE : EX), Rel K e ρ G σ H ∧ t ρ QD QE ∧ (∀ o H' G', Gr G H G' H' → QD o → Q o H') ∧ XPost K W σ G H QE
def dNo : DO := fun _ Q _ => Q none
def isInt (Q : Int → Prop) : D → Prop
  | .int i => Q i
  | _ => False
def dSome (t : DTE) : DO := fun ρ Q E => t ρ (fun c => isInt (fun i => Q (some i)) c.dat) E
def slD (lo hi : Option Int) : D → (C → Prop) → Prop
  | .lst xs, Q => Q (.nl (cutD xs lo hi))
  | .str z, Q => z.length ≤ sizeLine ∧ Q (.d (.str (cutS z lo hi)))
  | .tup xs, Q => ¬ (HT.sIx xs.length 0 lo = 0 ∧ HT.sIx xs.length xs.length hi = xs.length) ∧ Q (.d (.tup (cutD xs lo hi)))
  | _, _ => False
def dSl (t : DTE) (lo hi : DO) : DTE := fun ρ Q E => t ρ (fun c => lo ρ (fun l => hi ρ (fun h => slD l h c.dat Q) E) E) E
section
variable {X : Cx} {W : WX} {K : PySem.W.Frag} {e : Expr} {te : DTE} {lo hi : Option Expr} {tl th : DO} {p2 pos : Pos}
theorem dno : PO X none (tO X.K W dNo) := ⟨fun pins s σ H Q I ⟨en, ρ, G, QD, QE, R, ht, hq, hx⟩ => po_none.run pins s σ H Q I (hq none H G (Gr.refl R.gl.gh) ht)⟩
theorem isInt_rv {G H : Hp} {v : V} {x : D} {P : Int → Prop} (r : RV K G H v x) (h : isInt P x) : ∃ i, v = .int i ∧ P i := by
  cases x <;> try exact h.elim
  exact ⟨_, r.int, h⟩
theorem dsome (h : PE X e (tB X.K W te)) : PO X (some e) (tO X.K W (dSome te)) := by
  refine ⟨fun pins s σ H Q I ⟨en, ρ, G, QD, QE, R, ht, hq, hx⟩ => (po_some h).run pins s σ H Q I ?_⟩
  refine ⟨en, ρ, G, _, QE, R, ht, fun v H1 G1 c g1 r1 h1 => ?_, hx⟩
  obtain ⟨i, e1, e2⟩ := isInt_rv r1 h1
  exact ⟨i, e1, hq _ _ _ g1 e2⟩
theorem dsl (he : PE X e (tB X.K W te)) (hl : PO X lo (tO X.K W tl)) (hu : PO X hi (tO X.K W th)) : PE X (.Subscript e (.Slice lo hi none p2) pos) (tD X.K W (dSl te tl th)) := by
  refine PE_conseq (pe_slice (SlR.or sl_list (SlR.or sl_str sl_tup)) he hl hu) fun σ H Q ⟨en, ρ, G, QD, QE, R, ht, hq, hx⟩ => ?_
  refine ⟨en, ρ, G, _, QE, R, ht, fun v H1 G1 c g1 r1 h1 => ?_, hx⟩
  refine ⟨en, ρ, G1, _, QE, R.grow g1, h1, fun l H2 G2 g2 h2 => ?_, XPost.grow hx g1⟩
  refine ⟨en, ρ, G2, _, QE, R.grow (g1.trans g2), h2, fun u H3 G3 g3 h3 => ?_, XPost.grow hx (g1.trans g2)⟩
  have g := (g1.trans g2).trans g3
  have r3 := r1.grow (g2.trans g3)
  have hq3 := VPost.grow hq g
  cases hc : c.dat with
  | lst xs =>
    rw [hc] at h3 r3
    obtain ⟨a, vs, rfl, hr, rl⟩ := r3.lst g.gh
    refine .inl ⟨a, vs, rfl, hr, fun p hp => hq3.nl g.gh hp ?_ h3⟩
    unfold cutV
    rw [rl.length]
    exact (rl.drop _).take _
  | str z =>
    rw [hc] at h3 r3
    exact .inr (.inl ⟨z, r3.str, h3.1, hq3.dat g.gh (.str _) h3.2⟩)
  | tup xs =>
    rw [hc] at h3 r3
    obtain ⟨a, vs, rfl, hr, rl⟩ := r3.tup g.gh
    refine .inr (.inr ⟨a, vs, rfl, .inl hr, by rw [rl.length]; exact h3.1, fun p hp => hq3.tup g.gh hp ?_ h3.2⟩)
    unfold cutV
    rw [rl.length]
    exact (rl.drop _).take _
  | _ => rw [hc] at h3; exact h3.elim
end
section
variable {K : PySem.W.Frag} {e : Ent} {ρ : Rho} {G H : Hp} {σ : L2.St}
theorem Rel.write (R : Rel K e ρ G σ H) {i : Nat} {c c' : C} {a : Addr} {o : HO} (hr : ρ[i]? = some (some c)) (ho : c.own = true) (hs : σ[i]? = some (some (.ref a))) (hn : RC K G (upd H a o) (.ref a) c') (hi : c'.inn = [] := by rfl) : Rel K e (ρ.set i (some c')) G σ (upd H a o) := by
  obtain ⟨v, h1, h2, h3⟩ := R.at_ i c hr
  rw [hs] at h1
  cases h1
  obtain ⟨b, u, eb, n, hb⟩ := h2.ref ho
  cases eb
  have ne := h3 ho a (.inl rfl)
  have sub : ∀ {H0 : Hp}, H0 a = none → Same H0 H → Same H0 (upd H a o) := fun hn s b w hb => by
    rw [upd_ne (ne_of_none hb hn)]
    exact s _ _ hb
  have hil : i < ρ.length := (List.getElem?_eq_some_iff.mp hr).1
  have hok := h2.okO ho
  refine ⟨⟨sub n R.gl.gh, R.gl.old.upd ne hok, R.gl.og, R.gl.new⟩, tab_upd hok R.tq, fun j d hj => ?_, fun j k d d' v hjk h1 h2 o1 o2 s1 => ?_, by rw [List.length_set, R.len], fun j k d d' b h1 h2 m1 o2 => ?_⟩
  · by_cases hij : i = j
    · subst hij
      rw [List.getElem?_set_self hil] at hj
      cases hj
      exact ⟨.ref a, hs, hn, fresh_of (fun b eb => by cases eb; exact ne) hi⟩
    · rw [List.getElem?_set_ne hij] at hj
      obtain ⟨w, q1, q2, q3⟩ := R.at_ j d hj
      refine ⟨w, q1, q2.move (Same.refl _) fun b w2 hod hb nb hb2 _ => ⟨nb, ?_⟩, q3⟩
      have hap : b ≠ a := fun z => by
        rcases hb with hb | hb
        · exact R.apart i j c d (.ref a) hij hr hj ho hod hs (by rw [q1, hb, z])
        · exact (R.inn j i d c b hj hr hb ho).1 (by rw [hs, z])
      rw [upd_ne hap]
      exact hb2
  · by_cases hij : i = j
    · subst hij
      rw [List.getElem?_set_ne hjk] at h2
      exact R.apart i k c d' v hjk hr h2 ho o2 s1
    · rw [List.getElem?_set_ne hij] at h1
      by_cases hik : i = k
      · subst hik
        exact R.apart j i d c v hjk h1 hr o1 ho s1
      · rw [List.getElem?_set_ne hik] at h2
        exact R.apart j k d d' v hjk h1 h2 o1 o2 s1
  · by_cases hij : i = j
    · subst hij
      rw [List.getElem?_set_self hil] at h1
      cases h1
      rw [hi] at m1
      cases m1
    · rw [List.getElem?_set_ne hij] at h1
      by_cases hik : i = k
      · subst hik
        rw [List.getElem?_set_self hil] at h2
        cases h2
        rw [hi]
        exact ⟨(R.inn j i d c b h1 hr m1 ho).1, fun _ => by simp⟩
      · rw [List.getElem?_set_ne hik] at h2
        exact R.inn j k d d' b h1 h2 m1 o2
end
def ownL (ρ : Rho) (i : Nat) (P : List D → Prop) : Prop := match ρ[i]? with
  | some (some (.nl xs)) => P xs
  | _ => False
def ownK (ρ : Rho) (i : Nat) (P : List (Key × D) → Prop) : Prop := match ρ[i]? with
  | some (some (.nd kvs)) => P kvs
  | _ => False
theorem ownL_some {ρ : Rho} {i : Nat} {P : List D → Prop} (h : ownL ρ i P) : ∃ xs, ρ[i]? = some (some (.nl xs)) ∧ P xs := by
  unfold ownL at h
  cases hr : ρ[i]? with
  | none => rw [hr] at h; exact h.elim
  | some o =>
    rw [hr] at h
    cases o with
    | none => exact h.elim
    | some c => cases c <;> first | exact ⟨_, rfl, h⟩ | exact h.elim
def dApp (i : Nat) (t : DTE) : DS := fun E ρ => ownL ρ i fun xs => t ρ (fun c => xs.length < sizeLine ∧ E.nx (ρ.set i (some (.nl (xs ++ [c.dat]))))) fun x => E.ex x ρ
def slotO (ρ : Rho) (i : Nat) (P : C → Prop) : Prop := match ρ[i]? with
  | some (some c) => c.own = true ∧ P c
  | _ => False
def optN (o : Option Nat) (P : Nat → Prop) : Prop := match o with
  | some n => P n
  | none => False
def optK (o : Option Key) (P : Key → Prop) : Prop := match o with
  | some n => P n
  | none => False
theorem optK_some {o : Option Key} {P : Key → Prop} (h : optK o P) : ∃ n, o = some n ∧ P n := by
  cases o with
  | none => exact h.elim
  | some n => exact ⟨n, rfl, h⟩
def storeAt : C → D → D → (C → Prop) → Prop
  | .nl xs, .int j, v, Q => optN (ixN xs.length j) fun n => Q (.nl (xs.set n v))
  | .np a xs, .int j, v, Q => optN (ixN xs.length j) fun n => Q (.np a (xs.set n v))
  | .nd kvs, k, v, Q => optK (keyD k) fun q => kvs.length < sizeLine ∧ Q (.nd (putD kvs q v))
  | _, _, _, _ => False
def dStore (i : Nat) (tk tv : DTE) : DS := fun E ρ => tv ρ (fun v => slotO ρ i fun c => tk ρ (fun k => storeAt c k.dat v.dat fun c' => E.nx (ρ.set i (some c'))) fun x => E.ex x ρ) fun x => E.ex x ρ
section
variable {X : Cx} {W : WX} {e k : Expr} {te tk : DTE} {pos pos' apos : Pos}
theorem ds_append (i : Nat) {x : Str} {p : Pos} (he : PE X e (tD X.K W te)) (hN : X.N[i]? = some x := by rfl) (hv : Vis X.env.scope x := by first | exact Or.inl rfl | exact Or.inr (Or.inl rfl) | exact Or.inr (Or.inr rfl)) (hd : (x == ("__debug__" : Str)) = false := by decide)
    (hcd : (x == ("__classdict__" : Str)) = false := by decide) (hsw : swapsWith (.Call (.Attribute (.Name x p) "append" apos) [e] [] pos') none pos.line X.env = pure false := by rfl)
    (hbase : attributeBase (.Name x p) "append" X.env (eval (.Name x p) X.env) = eval (.Name x p) X.env := by rfl)
    (hfew : ((backTo pos' (starEach [e] X.env)).all (fun y => !y.1) && (backToKw pos' (keywordEach [] X.env)).all (fun y => y.1.isSome) && decide ([e].length + ([] : List Keyword).length + (if ([] : List Keyword).isEmpty then 0 else 1) < 30)) = true := by rfl)
    (hline : (apos.endLine == pos'.line) = true := by rfl) (hs : starEach [e] X.env = (false, eval e X.env) :: starEach [] X.env := by rfl) (hplain : (backTo pos' (starEach [] X.env)).any (·.1) = false := by rfl) :
    PS X (.Expr (.Call (.Attribute (.Name x p) "append" apos) [e] [] pos') pos) (sD X.K W (dApp i te)) := by
  refine PS_conseq (ps_expr (pe_bm PySem.F.plainAttrs_list PySem.F.slot_list_append PySem.F.type_list_append mt_append (pe_var hN hv hd hcd) (pa_cons he pa_nil hs) hbase hfew hline hs hplain) hsw) fun D σ H ⟨en, ρ, G, E, R, h, P⟩ => ?_
  obtain ⟨xs, hr, h⟩ := ownL_some h
  obtain ⟨v, h1, h2, h3⟩ := R.at_ i _ hr
  cases h2 with
  | @nl a vs _ n hH rl =>
    refine ⟨_, h1, .inl ⟨rfl, vs, SqL.of hH⟩, ?_⟩
    refine ⟨en, ρ, G, _, _, R, h, fun u H1 G1 c g1 r1 f1 h4 => ?_, P.xp R⟩
    obtain ⟨G2, g2, _, r2⟩ := r1.freeze g1 f1
    refine ⟨a, vs, u, rfl, rfl, g1.hh.at hH, by rw [rl.length]; exact h4.1, ?_⟩
    have n2 : G2 a = none := by
      cases q : G2 a with
      | none => rfl
      | some o =>
        rcases g2.new a (by rw [q]; simp) with z | z
        · exact absurd n z
        · rw [hH] at z; cases z
    exact P.nx _ G2 _ _ ((R.grow g2).write hr rfl h1 (.nl n2 upd_same ((rl.mono g2.gg).append (.cons r2 .nil)))) h4.2
end
end DL
namespace DL
open PySem PySem.Spec L2
variable [TP]
section
variable {X : Cx} {W : WX} {K : PySem.W.Frag} {e : Expr} {es : List Expr} {t : DTA} {x : Str} {p pos : Pos} {id T : String} {r : List V → Hp → VK → Prop} {f : DN}
theorem dcb (hc : CallR X (.builtin id) r) (br : BrN X.K r f) (hm : X.mg x = none) (hv : bootBuiltins x = some (.builtin id)) (ha : PA X (e :: es) (tAB X.K W t)) (hg : Gl X x := by rfl) (hn : x ≠ "__name__" := by decide) (hdb : (x == ("__debug__" : Str)) = false := by decide)
    (he : starEach (e :: es) X.env = (false, eval e X.env) :: starEach es X.env := by rfl) (hpl : (backTo pos (starEach es X.env)).any (·.1) = false := by rfl) : PE X (.Call (.Name x p) (e :: es) [] pos) (tD X.K W (dCB f t)) :=
  PE_conseq (pe_callB hc hg hm hv ha hn hdb he hpl) (cb_D br)
theorem dct (hc : CallR X (.type T) r) (br : BrN X.K r f) (hm : X.mg x = none) (hv : bootBuiltins x = some (.type T)) (ha : PA X (e :: es) (tAB X.K W t)) (hg : Gl X x := by rfl) (hn : x ≠ "__name__" := by decide) (hdb : (x == ("__debug__" : Str)) = false := by decide)
    (he : starEach (e :: es) X.env = (false, eval e X.env) :: starEach es X.env := by rfl) (hpl : (backTo pos (starEach es X.env)).any (·.1) = false := by rfl) : PE X (.Call (.Name x p) (e :: es) [] pos) (tD X.K W (dCB f t)) :=
  PE_conseq (pe_callTy hc hg hm hv ha hn hdb he hpl) (cb_D br)
end
theorem CallR_or {X : Cx} {f : Value} {r r' : List V → Hp → VK → Prop} (h : CallR X f r) (h' : CallR X f r') : CallR X f (fun xs H Q => r xs H Q ∨ r' xs H Q) := fun pins s σ H xs us Q I rv q => q.elim (h pins s σ H xs us Q I rv) (h' pins s σ H xs us Q I rv)
def fLen : DN
  | [.lst xs], Q => Q (.d (.int xs.length))
  | [.tup xs], Q => Q (.d (.int xs.length))
  | [.str z], Q => z.length ≤ sizeLine ∧ Q (.d (.int z.length))
  | [.dic kvs], Q => Q (.d (.int kvs.length))
  | _, _ => False
def fInt : DN
  | [.int i], Q => Q (.d (.int i))
  | [.bl b], Q => Q (.d (.int (if b then 1 else 0)))
  | [.str a], Q => a.length ≤ 640 ∧ (match PySem.intText? a with
    | some n => Q (.d (.int n))
    | none => False)
  | _, _ => False
def fStr : DN
  | [.int i], Q => big i < 1920 ∧ Q (.d (.str (toString i)))
  | _, _ => False
def fList : DN
  | [.lst xs], Q => Q (.nl xs)
  | [.tup xs], Q => Q (.nl xs)
  | _, _ => False
def fMax2 : DN
  | [.int i, .int j], Q => Q (.d (.int (max i j)))
  | _, _ => False
def fMin2 : DN
  | [.int i, .int j], Q => Q (.d (.int (min i j)))
  | _, _ => False
def intsD : List D → Option (List Int)
  | [] => some []
  | .int i :: xs => (intsD xs).map (i :: ·)
  | _ :: _ => none
def blsD : List D → Option (List Bool)
  | [] => some []
  | .bl i :: xs => (blsD xs).map (i :: ·)
  | _ :: _ => none
def strsD : List D → Option (List Str)
  | [] => some []
  | .str i :: xs => (strsD xs).map (i :: ·)
  | _ :: _ => none
theorem intsD_map : ∀ ns : List Int, intsD (ns.map D.int) = some ns
  | [] => rfl
  | n :: ns => by rw [List.map_cons, intsD, intsD_map ns]; rfl
theorem strsD_map : ∀ ns : List Str, strsD (ns.map D.str) = some ns
  | [] => rfl
  | n :: ns => by rw [List.map_cons, strsD, strsD_map ns]; rfl
theorem intsD_eq : ∀ {xs : List D} {ns : List Int}, intsD xs = some ns → xs = ns.map D.int
  | [], ns, h => by cases h; rfl
  | x :: xs, ns, h => by
    cases x <;> first | cases h | skip
    rename_i i
    rw [intsD, Option.map_eq_some_iff] at h
    obtain ⟨m, h1, rfl⟩ := h
    rw [intsD_eq h1]; rfl
theorem blsD_eq : ∀ {xs : List D} {ns : List Bool}, blsD xs = some ns → xs = ns.map D.bl
  | [], ns, h => by cases h; rfl
  | x :: xs, ns, h => by
    cases x <;> first | cases h | skip
    rename_i i
    rw [blsD, Option.map_eq_some_iff] at h
    obtain ⟨m, h1, rfl⟩ := h
    rw [blsD_eq h1]; rfl
theorem strsD_eq : ∀ {xs : List D} {ns : List Str}, strsD xs = some ns → xs = ns.map D.str
  | [], ns, h => by cases h; rfl
  | x :: xs, ns, h => by
    cases x <;> first | cases h | skip
    rename_i i
    rw [strsD, Option.map_eq_some_iff] at h
    obtain ⟨m, h1, rfl⟩ := h
    rw [strsD_eq h1]; rfl
def withI (o : Option (List Int)) (P : List Int → Prop) : Prop := match o with
  | some ns => P ns
  | none => False
def withB (o : Option (List Bool)) (P : List Bool → Prop) : Prop := match o with
  | some ns => P ns
  | none => False
def withS (o : Option (List Str)) (P : List Str → Prop) : Prop := match o with
  | some ns => P ns
  | none => False
theorem withI_some {o : Option (List Int)} {P : List Int → Prop} (h : withI o P) : ∃ ns, o = some ns ∧ P ns := by cases o with | none => exact h.elim | some ns => exact ⟨ns, rfl, h⟩
theorem withB_some {o : Option (List Bool)} {P : List Bool → Prop} (h : withB o P) : ∃ ns, o = some ns ∧ P ns := by cases o with | none => exact h.elim | some ns => exact ⟨ns, rfl, h⟩
def fSum : DN
  | [.lst xs], Q => withI (intsD xs) fun ns => Q (.d (.int ns.sum))
  | _, _ => False
def fMaxL : DN
  | [.lst xs], Q => withI (intsD xs) fun ns => ns ≠ [] ∧ ∀ m, m ∈ ns → (∀ y, y ∈ ns → y ≤ m) → Q (.d (.int m))
  | _, _ => False
def fMinL : DN
  | [.lst xs], Q => withI (intsD xs) fun ns => ns ≠ [] ∧ ∀ m, m ∈ ns → (∀ y, y ∈ ns → m ≤ y) → Q (.d (.int m))
  | _, _ => False
def fAll : DN
  | [.lst xs], Q => withB (blsD xs) fun ns => Q (.d (.bl (ns.all id)))
  | _, _ => False
def fAny : DN
  | [.lst xs], Q => withB (blsD xs) fun ns => Q (.d (.bl (ns.any id)))
  | _, _ => False
def fSortI : DN
  | [.lst xs], Q => withI (intsD xs) fun ns => ∀ ms : List Int, ms.Perm ns → ms.Pairwise (· ≤ ·) → Q (.nl (ms.map D.int))
  | _, _ => False
def fDivmod : DN
  | [.int i, .int j], Q => (0 < j ∧ big j < 9000) ∧ Q (.d (.tup [.int (i / j), .int (i % j)]))
  | _, _ => False
section
variable {X : Cx} {W : WX} {K : PySem.W.Frag}
def rLenA (K : PySem.W.Frag) : List V → Hp → VK → Prop := fun xs H Q => (∃ x n, xs = [x] ∧ LenV K x H n ∧ Q (.int n) H) ∨ ∃ a kvs, xs = [V.ref a] ∧ Rd H a (.dK kvs) ∧ Q (.int kvs.length) H
theorem cr_len : CallR X (.builtin "len") (rLenA X.K) := by
  refine CallR_or call_len ?_
  rintro pins s σ H xs us Q I r ⟨a, kvs, rfl, h, q⟩
  obtain ⟨u, rfl, ru⟩ := vals1 r
  cases ru
  exact d_len I h fun t s' I' => ⟨.int kvs.length, H, I', ⟨t, rfl⟩, q⟩
theorem br_len : BrN K (rLenA K) fLen := by
  intro G H vs xs QD Q s r h p
  match xs, r, h with
  | [.lst ys], r, h =>
    obtain ⟨v, rfl, rv⟩ := r.one
    obtain ⟨a, ws, rfl, hr, rl⟩ := rv.lst s
    exact .inl ⟨_, ys.length, rfl, .inl ⟨ws, hr, rl.length.symm⟩, p.dat s (.int _) h⟩
  | [.tup ys], r, h =>
    obtain ⟨v, rfl, rv⟩ := r.one
    obtain ⟨a, ws, rfl, hr, rl⟩ := rv.tup s
    exact .inl ⟨_, ys.length, rfl, .inr ⟨ws, .inl hr, rl.length.symm⟩, p.dat s (.int _) h⟩
  | [.str z], r, h =>
    obtain ⟨v, rfl, rv⟩ := r.one
    rw [rv.str]
    exact .inl ⟨_, z.length, rfl, ⟨h.1, rfl⟩, p.dat s (.int _) h.2⟩
  | [.dic kvs], r, h =>
    obtain ⟨v, rfl, rv⟩ := r.one
    obtain ⟨a, ws, rfl, hr, hk, rl⟩ := rv.dic s
    have hl : ws.length = kvs.length := by have := congrArg List.length hk; rw [List.length_map, List.length_map] at this; exact this
    exact .inr ⟨a, ws, rfl, hr, by rw [hl]; exact p.dat s (.int _) h⟩
theorem br_list : BrN K (fun xs H Q => ∃ p ys, xs = [.ref p] ∧ (SqL K H p ys ∨ SqT K H p ys) ∧ ∀ l, H l = none → Q (.ref l) (upd H l (.lst ys))) fList := by
  intro G H vs xs QD Q s r h p
  match xs, r, h with
  | [.lst ys], r, h =>
    obtain ⟨v, rfl, rv⟩ := r.one
    obtain ⟨a, ws, rfl, hr, rl⟩ := rv.lst s
    exact ⟨a, ws, rfl, .inl hr, fun q hq => p.nl s hq rl h⟩
  | [.tup ys], r, h =>
    obtain ⟨v, rfl, rv⟩ := r.one
    obtain ⟨a, ws, rfl, hr, rl⟩ := rv.tup s
    exact ⟨a, ws, rfl, .inr (.inl hr), fun q hq => p.nl s hq rl h⟩
theorem br_max2 : BrN K (fun xs H Q => ∃ i j, xs = [.int i, .int j] ∧ Q (.int (if j > i then j else i)) H) fMax2 := by
  intro G H vs xs QD Q s r h p
  match xs, r, h with
  | [.int i, .int j], r, h =>
    obtain ⟨v, u, rfl, rv, ru⟩ := r.two
    rw [rv.int, ru.int]
    refine ⟨i, j, rfl, ?_⟩
    rw [show (if j > i then j else i) = max i j by omega]
    exact p.dat s (.int _) h
theorem br_min2 : BrN K (fun xs H Q => ∃ i j, xs = [.int i, .int j] ∧ Q (.int (if j < i then j else i)) H) fMin2 := by
  intro G H vs xs QD Q s r h p
  match xs, r, h with
  | [.int i, .int j], r, h =>
    obtain ⟨v, u, rfl, rv, ru⟩ := r.two
    rw [rv.int, ru.int]
    refine ⟨i, j, rfl, ?_⟩
    rw [show (if j < i then j else i) = min i j by omega]
    exact p.dat s (.int _) h
theorem rv_ints {G H : Hp} {v : V} {xs : List D} {ns : List Int} (s : Same G H) (r : RV K G H v (.lst xs)) (h : intsD xs = some ns) : ∃ a, v = .ref a ∧ SqL K H a (ns.map V.int) := by
  obtain ⟨a, ws, rfl, hr, rl⟩ := r.lst s
  rw [intsD_eq h] at rl
  rw [rl.ofInts] at hr
  exact ⟨a, rfl, hr⟩
theorem rv_bls {G H : Hp} {v : V} {xs : List D} {ns : List Bool} (s : Same G H) (r : RV K G H v (.lst xs)) (h : blsD xs = some ns) : ∃ a, v = .ref a ∧ SqL K H a (ns.map V.bl) := by
  obtain ⟨a, ws, rfl, hr, rl⟩ := r.lst s
  rw [blsD_eq h] at rl
  rw [rl.ofBls] at hr
  exact ⟨a, rfl, hr⟩
theorem rv_strs {G H : Hp} {v : V} {xs : List D} {ns : List Str} (s : Same G H) (r : RV K G H v (.lst xs)) (h : strsD xs = some ns) : ∃ a, v = .ref a ∧ SqL K H a (ns.map V.str) := by
  obtain ⟨a, ws, rfl, hr, rl⟩ := r.lst s
  rw [strsD_eq h] at rl
  rw [rl.ofStrs] at hr
  exact ⟨a, rfl, hr⟩
theorem br_all : BrN K (rAll K) fAll := by
  intro G H vs xs QD Q s r h p
  match xs, r, h with
  | [.lst ys], r, h =>
    obtain ⟨v, rfl, rv⟩ := r.one
    obtain ⟨ns, e1, e2⟩ := withB_some h
    obtain ⟨a, rfl, hs⟩ := rv_bls s rv e1
    exact ⟨a, ns, rfl, hs, p.dat s (.bl _) e2⟩
theorem br_divmod : BrN K (fun xs H Q => ∃ i j, xs = [.int i, .int j] ∧ CDivP i j ∧ ∀ p, H p = none → Q (.ref p) (upd H p (.tup [.int (i / j), .int (i % j)]))) fDivmod := by
  intro G H vs xs QD Q s r h p
  match xs, r, h with
  | [.int i, .int j], r, h =>
    obtain ⟨v, u, rfl, rv, ru⟩ := r.two
    rw [rv.int, ru.int]
    exact ⟨i, j, rfl, ⟨h.1.1, PyProof.noPylong_of_log2 h.1.2⟩, fun q hq => p.tup s hq (.cons (.int _) (.cons (.int _) .nil)) h.2⟩
end
def kindD : D → Option String
  | .non => some "NoneType"
  | .bl _ => some "bool"
  | .int _ => some "int"
  | .str _ => some "str"
  | .lst _ => some "list"
  | .tup _ => some "tuple"
  | .dic _ => some "dict"
  | .obj _ _ => none
  | .exn _ _ _ => none
  | .box _ => none
def subT (a b : String) : Bool := a == b || (a == "bool" && b == "int")
def dIs (T : String) (t : DTE) : DTE := fun ρ Q E => t ρ (fun c => match kindD c.dat with
  | some k => Q (.d (.bl (subT k T)))
  | none => False) E
theorem kit_kinds : ∀ a ∈ ["NoneType", "bool", "int", "str", "list", "tuple", "dict"], ∀ b ∈ ["bool", "int", "str", "list", "tuple", "dict"], kitB a b = some (subT a b) := by decide +kernel
theorem kind_mem {x : D} {k : String} (h : kindD x = some k) : k ∈ ["NoneType", "bool", "int", "str", "list", "tuple", "dict"] := by
  unfold kindD at h
  split at h <;> cases h <;> simp
theorem kind_ty {K : PySem.W.Frag} {G H : Hp} {v : V} {x : D} {k : String} (s : Same G H) (r : RV K G H v x) (h : kindD x = some k) : TyX K H v (.type k) := by
  unfold kindD at h
  split at h <;> cases h
  · rw [r.non]; exact .base .non
  · rw [r.bl]; exact .base (.bl _)
  · rw [r.int]; exact .base (.int _)
  · rw [r.str]; exact .base (.str _)
  · obtain ⟨a, ws, rfl, hr, _⟩ := r.lst s
    rcases hr with (hr | ⟨o, hr⟩) | ⟨o, its, n, hk, hc, _⟩
    · exact .base (.lst hr)
    · exact .base (.frz hr)
    · exact .kList hk hc
  · obtain ⟨a, ws, rfl, hr, _⟩ := r.tup s
    rcases hr with hr | ⟨o, hr⟩
    · exact .base (.tup hr)
    · exact .fTuple hr
  · obtain ⟨a, ws, rfl, hr, _, _⟩ := r.dic s
    rcases hr with hr | ⟨o, hr⟩
    · exact .base (.dK hr)
    · exact .fDict hr
section
variable {X : Cx} {W : WX} {e : Expr} {te : DTE} {x : Str} {p p2 pos : Pos} {T : String}
theorem disT (hT : T ∈ ["bool", "int", "str", "list", "tuple", "dict"]) (hi : X.mg "isinstance" = none) (hm : X.mg x = none) (hv : bootBuiltins x = some (.type T)) (hbi : bootBuiltins "isinstance" = some (.builtin "isinstance")) (he : PE X e (tB X.K W te)) (hg : Gl X "isinstance" := by rfl) (hgx : Gl X x := by rfl) (hnx : x ≠ "__name__" := by decide) (hdx : (x == ("__debug__" : Str)) = false := by decide)
    (hs : starEach [e, .Name x p2] X.env = (false, eval e X.env) :: starEach [.Name x p2] X.env := by rfl) (hs2 : starEach [.Name x p2] X.env = (false, eval (.Name x p2) X.env) :: starEach [] X.env := by rfl) (hpl : (backTo pos (starEach [.Name x p2] X.env)).any (·.1) = false := by rfl) :
    PE X (.Call (.Name "isinstance" p) [e, .Name x p2] [] pos) (tD X.K W (dIs T te)) := by
  refine PE_conseq (pe_callB call_isi hg hi hbi (pa_cons he (pa_cons (pe_bltn (v := .ty T) hgx hm hv rfl hnx hdx) pa_nil hs2) hs) (by decide) (by decide) hs hpl) fun σ H Q ⟨en, ρ, G, QD, QE, R, ht, hq, hx⟩ => ?_
  refine ⟨en, ρ, G, _, QE, R, ht, fun v H1 G1 c g1 r1 h1 => ?_, hx⟩
  cases hk : kindD c.dat with
  | none => rw [hk] at h1; exact h1.elim
  | some k =>
    rw [hk] at h1
    exact ⟨v, .ty T, .type k, .type T, _, rfl, .ty T, kind_ty g1.gh r1 hk, kit_ty (kit_kinds k (kind_mem hk) T hT), VPost.dat (VPost.grow hq g1) g1.gh (.bl _) h1⟩
end
def cIsB : DCmp
  | .bl a, .bl b, Q => Q (decide (a = b))
  | _, _, _ => False
def cNotB : DCmp
  | .bl a, .bl b, Q => Q (!decide (a = b))
  | _, _, _ => False
def slotD (ρ : Rho) (i : Nat) (P : D → Prop) : Prop := match ρ[i]? with
  | some (some (.d x)) => P x
  | _ => False
theorem slotD_some {ρ : Rho} {i : Nat} {P : D → Prop} (h : slotD ρ i P) : ∃ x, ρ[i]? = some (some (.d x)) ∧ P x := by
  unfold slotD at h
  cases hr : ρ[i]? with
  | none => rw [hr] at h; exact h.elim
  | some o =>
    rw [hr] at h
    cases o with
    | none => exact h.elim
    | some c => cases c <;> first | exact ⟨_, rfl, h⟩ | exact h.elim
def dAug (i : Nat) (f : DOp) (t : DTE) : DS := fun E ρ => slotD ρ i fun x => t ρ (fun c => f x c.dat fun z => E.nx (ρ.set i (some (.d z.dat)))) fun x => E.ex x ρ
def dAddI : DOp
  | .int i, .int j, Q => Q (.d (.int (i + j)))
  | .str x, .str y, Q => x.length + y.length ≤ sizeLine ∧ Q (.d (.str (x ++ y)))
  | _, _, _ => False
section
variable {X : Cx} {W : WX} {e : Expr} {te : DTE} {pos : Pos}
theorem ds_aug {i : Nat} {x : Str} {op : Operator} {r : R2} {f : DOp} {pos' : Pos} (ho : OpR X (inplaceOp op) r) (br : Br2 X.K r f) (hN : X.N.Nodup) (he : PE X e (tB X.K W te)) (hi : X.N[i]? = some x := by rfl) (hx : Loc X.env.scope x := by first | exact Or.inl rfl | exact Or.inr rfl)
    (hf : X.fn x = true ∨ X.env.scope.names.lookup x = some .local := by first | exact .inl rfl | exact .inr rfl | assumption) : PS X (.AugAssign (.Name x pos') op e pos) (sD X.K W (dAug i f te)) := by
  refine PS_conseq (ps_aug hN hi hx he (show PIp X op r from ho) hf) fun D σ H ⟨en, ρ, G, E, R, h, P⟩ => ?_
  obtain ⟨d, hr, h⟩ := slotD_some h
  obtain ⟨v, h1, h2, h3⟩ := R.at_ i _ hr
  refine ⟨v, h1, en, ρ, G, _, _, R, h, fun u H1 G1 c g1 r1 q1 => ?_, P.xp R⟩
  refine br G1 H1 v u d c.dat _ _ g1.gh (h2.rv.grow g1) r1 q1 fun w H2 G2 z g2 r2 f2 q2 => ?_
  exact set_fz R P (g1.trans g2) r2 (f2.back g1.hh) q2
theorem br_addI {K : PySem.W.Frag} : Br2 K (fun x y H Q => rI0 (fun i j => .int (i + j)) x y H Q ∨ ∃ i j, x = .str i ∧ y = .str j ∧ i.length + j.length ≤ sizeLine ∧ Q (.str (i ++ j)) H) dAddI := by
  intro G H v u x y QD Q s rx ry h p
  cases x <;> cases y <;> try exact h.elim
  · exact .inl ⟨_, _, rx.int, ry.int, p.dat s (.int _) h⟩
  · exact .inr ⟨_, _, rx.str, ry.str, h.1, p.dat s (.str _) h.2⟩
theorem ds_iadd {i : Nat} {x : Str} {pos' : Pos} (hN : X.N.Nodup) (he : PE X e (tB X.K W te)) (hi : X.N[i]? = some x := by rfl) (hx : Loc X.env.scope x := by first | exact Or.inl rfl | exact Or.inr rfl)
    (hf : X.fn x = true ∨ X.env.scope.names.lookup x = some .local := by first | exact .inl rfl | exact .inr rfl | assumption) : PS X (.AugAssign (.Name x pos') .Add e pos) (sD X.K W (dAug i dAddI te)) :=
  ds_aug (OpR.or iop_add iop_add_str) br_addI hN he hi hx hf
end
def dUnp (is : List Nat) (t : DTE) : DS := fun E ρ => t ρ (fun c => tgSet (.many is) c.dat ρ E.nx) fun x => E.ex x ρ
theorem ds_unp {X : Cx} {W : WX} {e target : Expr} {te : DTE} {pos : Pos} {is : List Nat} (he : PE X e (tD X.K W te)) (hg : PG X target (tgT X.K (.many is))) (hs : swapsWithSole [target] e pos.line X.env = pure false := by rfl) (hw : swappedStores [target] e X.env = pure none := by rfl) (h1 : (assignEach [target] X.env).map (·.2) = [assign target X.env] := by rfl) :
    PS X (.Assign [target] e pos) (sD X.K W (dUnp is te)) := by
  refine PS_conseq (ps_asg he hg hs hw h1) fun D σ H ⟨en, ρ, G, E, R, h, P⟩ => ?_
  refine ⟨en, ρ, G, _, _, R, h, fun v H1 G1 c g1 r1 f1 q1 => ?_, P.xp R⟩
  obtain ⟨G2, g2, _, r2⟩ := r1.freeze g1 f1
  exact tg_ok (R.grow g2) r2 q1 fun ρ' σ' R' q' _ => P.nx ρ' G2 σ' H1 R' q'
end DL
namespace DL
open PySem PySem.Spec L2
variable [TP]
def putFd (f : Fd) (x : D) : List (Fd × D) → List (Fd × D)
  | [] => [(f, x)]
  | (g, y) :: r => if g = f then (g, x) :: r else (g, y) :: putFd f x r
theorem putFd_V {K : PySem.W.Frag} {G : Hp} {f : Fd} {v : V} {x : D} (rv : Rep K G v x) : ∀ {ws : List (Str × V)} {fl : List (Fd × D)}, ws.map (·.1) = fl.map (fun p => p.1.str) → RepL K G (ws.map (·.2)) (fl.map (·.2)) →
    (putF f.str v ws).map (·.1) = (putFd f x fl).map (fun p => p.1.str) ∧ RepL K G ((putF f.str v ws).map (·.2)) ((putFd f x fl).map (·.2))
  | [], [], _, _ => ⟨rfl, .cons rv .nil⟩
  | [], _ :: _, e, _ => by cases e
  | _ :: _, [], e, _ => by cases e
  | (k1, v1) :: ws, (k2, v2) :: fl, e, r => by
    rw [List.map_cons, List.map_cons] at e r
    injection e with e1 e2
    have e1 : k1 = k2.str := e1
    cases r with
    | cons r1 r2 =>
      by_cases hk : k2 = f
      · have h1 : k1 = f.str := by rw [e1, hk]
        unfold putF putFd
        rw [if_pos h1, if_pos hk]
        exact ⟨by rw [List.map_cons, List.map_cons, e2]; exact congrArg (· :: _) e1, .cons rv r2⟩
      · have h1 : ¬ k1 = f.str := fun z => hk (Fd.inj _ _ (e1.symm.trans z))
        unfold putF putFd
        rw [if_neg h1, if_neg hk]
        obtain ⟨i1, i2⟩ := putFd_V rv e2 r2
        exact ⟨by rw [List.map_cons, List.map_cons, i1]; exact congrArg (· :: _) e1, .cons r1 i2⟩
def slotI (ρ : Rho) (i : Nat) (P : Addr → Cn → List (Fd × D) → Prop) : Prop := match ρ[i]? with
  | some (some (.no a c fl)) => P a c fl
  | _ => False
theorem slotI_some {ρ : Rho} {i : Nat} {P : Addr → Cn → List (Fd × D) → Prop} (h : slotI ρ i P) : ∃ a c fl, ρ[i]? = some (some (.no a c fl)) ∧ P a c fl := by
  unfold slotI at h
  cases hr : ρ[i]? with
  | none => rw [hr] at h; exact h.elim
  | some o =>
    rw [hr] at h
    cases o with
    | none => exact h.elim
    | some c => cases c <;> first | exact ⟨_, _, _, rfl, h⟩ | exact h.elim
def dFldS (i : Nat) (cs : List Cn) (f : Fd) (t : DTE) : DS := fun E ρ => t ρ (fun c => slotI ρ i fun a cl fl => cl ∈ cs ∧ fl.length < 1000 ∧ E.nx (ρ.set i (some (.no a cl (putFd f c.dat fl))))) fun x => E.ex x ρ
section
variable {X : Cx} {W : WX} {e : Expr} {te : DTE} {pos pos' : Pos}
theorem ds_fld (i : Nat) {cs : List Cn} {f : Fd} {x : Str} {p : Pos} (hc : ∀ c, c ∈ cs → Cls X.K (He.ga X.K c.str) ∧ NoAttr X.K (He.ga X.K c.str) f.str) (he : PE X e (tD X.K W te)) (hN : X.N[i]? = some x := by rfl)
    (hv : Vis X.env.scope x := by first | exact Or.inl rfl | exact Or.inr (Or.inl rfl) | exact Or.inr (Or.inr rfl)) (hd : (x == ("__debug__" : Str)) = false := by decide) (hcd : (x == ("__classdict__" : Str)) = false := by decide)
    (hs : swapsWith e (some (.Attribute (.Name x p) f.str pos')) pos.line X.env = pure false := by rfl) : PS X (.Assign [.Attribute (.Name x p) f.str pos'] e pos) (sD X.K W (dFldS i cs f te)) := by
  refine PS_conseq (ps_fld (pe_var hN hv hd hcd) he hs) fun D σ H ⟨en, ρ, G, E, R, h, P⟩ => ?_
  refine ⟨en, ρ, G, _, _, R, h, fun v H1 G1 c g1 r1 f1 h1 => ?_, P.xp R⟩
  obtain ⟨G2, g2, _, r2⟩ := r1.freeze g1 f1
  obtain ⟨a, cl, fl, hr, hcl, hl, h2⟩ := slotI_some h1
  obtain ⟨w, w1, w2, w3⟩ := (R.grow g2).at_ i _ hr
  cases w2 with
  | @no _ dx _ ws _ n hH hk rl =>
    refine ⟨_, w1, a, _, dx, ws, rfl, hH, (hc cl hcl).1, (hc cl hcl).2, ?_, ?_⟩
    · have := congrArg List.length hk
      rw [List.length_map, List.length_map] at this
      rw [this]; exact hl
    · obtain ⟨p1, p2⟩ := putFd_V (f := f) r2 hk rl
      exact P.nx _ G2 _ _ ((R.grow g2).write hr rfl w1 (.no n upd_same p1 p2)) h2
end
def dRaise (c : Cn) : DS := fun E ρ => E.ex ⟨c, []⟩ ρ
structure ExC (K : PySem.W.Frag) (mg : Str → Option Value) (c : Cn) : Prop where
  ex : ∃ bm, PySem.W.excIn K (He.ga K c.str) bm "ValueError.__new__" = true ∧ bm = He.veBase
  kp : PySem.W.keepIn K (.ref (He.ga K c.str)) = true
  sub : PySem.W.subIn K (.ref (He.ga K c.str)) (.type "BaseException") = some true
  ty : PySem.W.typeIn K (.ref (He.ga K c.str)) = some (.type "type")
  gl : mg c.str = some (.ref (He.ga K c.str))
  gk : Glo K c
theorem ds_raise {X : Cx} {W : WX} {k : Nat} {c : Cn} {m : Str} {j : Nat} {p p2 pos pos2 : Pos} (B : Bd X W k) (T : ExC X.K X.mg c) (hg : Gl X c.str := by rfl) (hdb : (c.str == ("__debug__" : Str)) = false := by decide) :
    PS X (.Raise (some (.Call (.Name c.str p) [.Constant (.str m) j p2] [] pos)) none pos2) (sD X.K W (dRaise c)) := by
  obtain ⟨bm, h1, rfl⟩ := T.ex
  refine PS_conseq (L2N.ps_raise B.calm B.tk (L2N.pmk_own PySem.F.excBase_ValueError h1 T.gl T.kp (raises_own T.sub T.ty) hg hdb)) fun D σ H ⟨en, ρ, G, E, R, h, P⟩ => ?_
  exact P.ex ρ G σ H _ _ _ R (.plain T.gk) h
structure Fn (K : PySem.W.Frag) (mg : Str → Option Value) (base : Heap) (P : Program) (w : World) (x : Str) (j n : Nat) (dvs : List V) (fs : FS) : Prop where
  ex : ∃ (f : Addr) (fd : FuncData) (ps : List Str) (ds : List Value), FnOk P w K mg base (L2N.CX P w) j f fd ps (spD K n fs) ∧ mg x = some (.ref f) ∧ PySem.W.keepIn K (.ref f) = true ∧ Binds K fd ps ds ∧ Vals dvs ds
  len : ∀ xs QD QE, fs xs QD QE → xs.length = n
theorem dcallF {X : Cx} {W : WX} {k j n : Nat} {fs : FS} {x : Str} {p pos : Pos} {e : Expr} {es : List Expr} {t : DTA} {dvs : List V} {dd : List D} (F : Fn X.K X.mg X.base X.prog X.w x j n dvs fs) (B : Bd X W k) (hj : j ≤ k) (hdd : ∀ G, RepL X.K G dvs dd) (ha : PA X (e :: es) (tAF X.K W t)) (hg : Gl X x := by rfl)
    (hdb : (x == ("__debug__" : Str)) = false := by decide) (he : starEach (e :: es) X.env = (false, eval e X.env) :: starEach es X.env := by rfl) (hpl : (backTo pos (starEach es X.env)).any (·.1) = false := by rfl) : PE X (.Call (.Name x p) (e :: es) [] pos) (tD X.K W (dCall fs t dd)) := by
  obtain ⟨f, fd, ps, ds, h1, h2, h3, h4, h5⟩ := F.ex
  exact dcall h1 B hj h2 h3 h4 h5 hdd F.len ha hg hdb he hpl
end DL
namespace DL
open PySem PySem.Spec L2
variable [TP]
structure Mm (K : PySem.W.Frag) (mg : Str → Option Value) (base : Heap) (P : Program) (w : World) (m : Str) (c : Cn) (j n : Nat) (dvs : List V) (fs : FS) : Prop where
  cl : Cls K (He.ga K c.str)
  ex : ∃ (g : Addr) (fd : FuncData) (ps : List Str) (ds : List Value), Meth K (He.ga K c.str) m g ∧ FnOk P w K mg base (L2N.CX P w) j g fd ps (spD K n fs) ∧ Binds K fd ps ds ∧ Vals dvs ds
  len : ∀ xs QD QE, fs xs QD QE → xs.length = n
theorem Mm.ok {X : Cx} {m : Str} {c : Cn} {j n k : Nat} {dvs : List V} {fs : FS} (h : Mm X.K X.mg X.base X.prog X.w m c j n dvs fs) (hj : j ≤ k) : MOk X k m c n dvs fs := by
  obtain ⟨g, fd, ps, ds, h1, h2, h3, h4⟩ := h.ex
  exact ⟨h.cl, ⟨g, fd, ps, ds, j, h1, h2, hj, h3, h4⟩, h.len⟩
def altL (l : List (Cn × FS)) : Cn → Option FS := fun c => l.lookup c
theorem alt_nil {X : Cx} {k n : Nat} {m : Str} {dvs : List V} : ∀ c fs, altL [] c = some fs → MOk X k m c n dvs fs := fun _ _ h => by cases h
theorem alt_cons {X : Cx} {k n : Nat} {m : Str} {dvs : List V} {c : Cn} {fs : FS} {l : List (Cn × FS)} (h : MOk X k m c n dvs fs) (hl : ∀ c fs, altL l c = some fs → MOk X k m c n dvs fs) : ∀ c' fs', altL ((c, fs) :: l) c' = some fs' → MOk X k m c' n dvs fs' := fun c' fs' e => by
  unfold altL at e
  rw [List.lookup_cons] at e
  cases hb : c' == c with
  | true => rw [hb] at e; cases e; rw [beq_iff_eq.mp hb]; exact h
  | false => rw [hb] at e; exact hl c' fs' e
structure McA (K : PySem.W.Frag) (mg : Str → Option Value) (base : Heap) (P : Program) (w : World) (c : Cn) (j n : Nat) (dvs : List V) (fi : FI) : Prop where
  ex : ∃ (f : Addr) (fd : FuncData) (ps : List Str) (ds : List Value), Mk K (He.ga K c.str) f ∧ FnOk P w K mg base (L2N.CX P w) j f fd ps (spI K c n fi) ∧ mg c.str = some (.ref (He.ga K c.str)) ∧ Binds K fd ps ds ∧ Vals dvs ds
  len : ∀ xs QF QE, fi xs QF QE → xs.length = n
theorem dmakeF {X : Cx} {W : WX} {k j n : Nat} {fi : FI} {c : Cn} {p pos : Pos} {e : Expr} {es : List Expr} {t : DTA} {dvs : List V} {dd : List D} (F : McA X.K X.mg X.base X.prog X.w c j n dvs fi) (B : Bd X W k) (hj : j + 1 ≤ k) (hdd : ∀ G, RepL X.K G dvs dd) (ha : PA X (e :: es) (tAF X.K W t)) (hg : Gl X c.str := by rfl)
    (hdb : (c.str == ("__debug__" : Str)) = false := by decide) (he : starEach (e :: es) X.env = (false, eval e X.env) :: starEach es X.env := by rfl) (hpl : (backTo pos (starEach es X.env)).any (·.1) = false := by rfl) : PE X (.Call (.Name c.str p) (e :: es) [] pos) (tD X.K W (dMake c fi t dd)) := by
  obtain ⟨f, fd, ps, ds, h1, h2, h3, h4, h5⟩ := F.ex
  exact dmake h1 h2 B hj h3 h4 h5 hdd F.len ha hg hdb he hpl
theorem Bd.blk {X : Cx} {W : WX} {k : Nat} {s : Shared} {H : Hp} {scope : Scope} {cenv : Env} {fp : List Addr} (B : Bd X W k) : Bd (X.blk s H scope cenv fp) W0 k :=
  ⟨B.calm, fun u s' h => by obtain ⟨_, _, _, _, _, _, _, _, _, _, _, _, _, _, _, _, z⟩ := h; exact z.elim, PassesOwn.never, B.hr, B.nd⟩
theorem bt_len : bootBuiltins "len" = some (.builtin "len") := by decide +kernel
theorem bt_int : bootBuiltins "int" = some (.type "int") := by decide +kernel
theorem bt_str : bootBuiltins "str" = some (.type "str") := by decide +kernel
theorem bt_list : bootBuiltins "list" = some (.type "list") := by decide +kernel
theorem bt_tuple : bootBuiltins "tuple" = some (.type "tuple") := by decide +kernel
theorem bt_bool : bootBuiltins "bool" = some (.type "bool") := by decide +kernel
theorem bt_max : bootBuiltins "max" = some (.builtin "max") := by decide +kernel
theorem bt_min : bootBuiltins "min" = some (.builtin "min") := by decide +kernel
theorem bt_all : bootBuiltins "all" = some (.builtin "all") := by decide +kernel
theorem bt_sorted : bootBuiltins "sorted" = some (.builtin "sorted") := by decide +kernel
theorem bt_divmod : bootBuiltins "divmod" = some (.builtin "divmod") := by decide +kernel
theorem bt_isinstance : bootBuiltins "isinstance" = some (.builtin "isinstance") := by decide +kernel
def spLaw : FS := fun xs Q _ => ∃ ns : List Int, xs = [.lst (ns.map .int)] ∧ (ns.length ≤ 63 ∧ ∀ z ∈ ns, big z ≤ 1048576) ∧ Q (.d (.bl true))
end DL
namespace DL
open PySem PySem.Spec L2
variable [TP]
def revD : DUn
  | .lst xs, Q => Q (.nl xs.reverse)
  | _, _ => False
section
variable {X : Cx} {W : WX} {e : Expr} {te : DTE} {pos p1 p2 p3 : Pos} {k : Nat}
def lrgD (a b : Int) (Q : C → Prop) : Prop := small62 a ∧ small62 b ∧ (b - a).toNat ≤ 2 ^ 24 ∧ Q (.nl (rngD a (b - a)))
def dLRg1 (t : DTE) : DTE := fun ρ Q E => t ρ (fun c => isInt (fun n => lrgD 0 n Q) c.dat) E
def dLRg2 (t u : DTE) : DTE := fun ρ Q E => t ρ (fun c => isInt (fun a => u ρ (fun d => isInt (fun n => lrgD a n Q) d.dat) E) c.dat) E
theorem rep_rg {K : PySem.W.Frag} {G : Hp} {a b : Int} : RepL K G (rgV a b) (rngD a (b - a)) := by
  have e1 : rgV a b = ((List.range (b - a).toNat).map fun (i : Nat) => (a + i : Int)).map V.int := by unfold rgV; rw [List.map_map]; rfl
  have e2 : rngD a (b - a) = ((List.range (b - a).toNat).map fun (i : Nat) => (a + i : Int)).map D.int := by unfold rngD; rw [List.map_map]; rfl
  rw [e1, e2]
  exact RepL.ints _
theorem lrg_ok {K : PySem.W.Frag} {G H : Hp} {a b : Int} {QD : C → Prop} {Q : VK} (s : Same G H) (h : lrgD a b QD) (q : VPost K G H QD Q) : RgOk a b ∧ ∀ p, H p = none → Q (.ref p) (upd H p (.lst (rgV a b))) :=
  ⟨⟨h.1.1, h.1.2, h.2.1.1, h.2.1.2, h.2.2.1⟩, fun p hp => q.nl s hp rep_rg h.2.2.2⟩
theorem dlrg1 {p q : Pos} (B : X.calm = true) (hl : X.mg "list" = none) (hm : X.mg "range" = none) (he : PE X e (tB X.K W te)) (hgl : Gl X "list" := by rfl) (hg : Gl X "range" := by rfl) (hs : starEach [e] X.env = (false, eval e X.env) :: starEach [] X.env := by rfl)
    (hs2 : starEach [.Call (.Name "range" p) [e] [] pos] X.env = (false, eval (.Call (.Name "range" p) [e] [] pos) X.env) :: starEach [] X.env := by rfl) : PE X (.Call (.Name "list" q) [.Call (.Name "range" p) [e] [] pos] [] p3) (tD X.K W (dLRg1 te)) := by
  refine PE_conseq (pe_listRg B hgl hl (prg_1 hg hm he hs) hs2) fun σ H Q ⟨en, ρ, G, QD, QE, R, ht, hq, hx⟩ => ?_
  refine ⟨en, ρ, G, _, QE, R, ht, fun v H1 G1 c g1 r1 h1 => ?_, hx⟩
  obtain ⟨i, rfl, h2⟩ := isInt_rv r1 h1
  exact ⟨i, rfl, lrg_ok g1.gh h2 (VPost.grow hq g1)⟩
def dDisp1 (tk tv : DTE) : DTE := fun ρ Q E => tk ρ (fun k => tv ρ (fun v => optK (keyD k.dat) fun q => Q (.nd [(q, v.dat)])) E) E
end
def dChT3 (f f' f'' : DCmp) (ta tb tc td : DTE) : DTT := fun ρ Q E => ta ρ (fun x => tb ρ (fun y => f x.dat y.dat fun k => if k = true then tc ρ (fun z => f' y.dat z.dat fun k' => if k' = true then td ρ (fun u => f'' z.dat u.dat Q) E else Q false) E else Q false) E) E
def dCh3 (f f' f'' : DCmp) (ta tb tc td : DTE) : DTE := fun ρ Q E => dChT3 f f' f'' ta tb tc td ρ (fun k => Q (.d (.bl k))) E
def tChain3 (r r' r'' : R2) (ta tb tc td : TE) : TE := fun σ H Q => ta σ H fun x H1 => tb σ H1 fun y H2 => r x y H2 fun z H3 => ∃ k, z = .bl k ∧
  (if k = true then tc σ H3 fun w H4 => r' y w H4 fun z' H5 => ∃ k', z' = .bl k' ∧ (if k' = true then td σ H5 fun u H6 => r'' w u H6 Q else Q (.bl false) H5) else Q (.bl false) H3)
section
open PyProof.Rows
variable {X : Cx} {W : WX} {a b c d : Expr} {ta tb tc td : TE} {pos : Pos} {r r' r'' : R2} {op op' op'' : CmpOp}
theorem pe_chain3 (ho : OpR X (compareOp op) r) (ho' : OpR X (compareOp op') r') (ho'' : OpR X (compareOp op'') r'') (ha : PE X a ta) (hb : PE X b tb) (hc : PE X c tc) (hd : PE X d td)
    (hm : lastMarks [op, op', op''] [b, c, d] = false := by with_unfolding_all rfl) : PE X (.Compare a [op, op', op''] [b, c, d] pos) (tChain3 r r' r'' ta tb tc td) := by
  refine ⟨fun pins s σ H Q I h => ?_⟩
  refine Compare_chain (thn (ha.run pins s σ H _ I h) fun v s1 ⟨x, H1, I1, r1, q1⟩ => chain_link (thn (hb.run pins s1 σ H1 _ I1 q1) fun u s2 ⟨y, H2, I2, r2, q2⟩ =>
    thn (ho pins s2 σ H2 x y v u _ I2 r1 r2 q2) fun d s3 ⟨z, H3, I3, r3, k, e, q3⟩ => ?_)) hm
  subst e
  cases r3
  refine wpAny_truthy_bool ?_
  cases k with
  | false => exact ite_ff ⟨.bl false, H3, I3, rfl, q3⟩
  | true =>
    refine ite_tt (chain_link (thn (hc.run pins s3 σ H3 _ I3 q3) fun w' s4 ⟨z', H4, I4, r4, q4⟩ => thn (ho' pins s4 σ H4 y z' u w' _ I4 r2 r4 q4) fun d5 s5 ⟨z5, H5, I5, r5, k5, e5, q5⟩ => ?_))
    subst e5
    cases r5
    refine wpAny_truthy_bool ?_
    cases k5 with
    | false => exact ite_ff ⟨.bl false, H5, I5, rfl, q5⟩
    | true => exact ite_tt (chain_last (thn (hd.run pins s5 σ H5 _ I5 q5) fun w6 s6 ⟨z6, H6, I6, r6, q6⟩ => ho'' pins s6 σ H6 z' z6 w' w6 Q I6 r4 r6 q6))
end
section
variable {K : PySem.W.Frag} {X : Cx} {W : WX} {a b c d : Expr} {ta tb tc td : DTE} {pos : Pos} {r r' r'' : R2} {op op' op'' : CmpOp} {f f' f'' : DCmp}
theorem ch3_D (br : Br2 K r (cmpV f)) (br' : Br2 K r' (cmpV f')) (br'' : Br2 K r'' (cmpV f'')) (σ : L2.St) (H : Hp) (Q : VK) (h : tD K W (dCh3 f f' f'' ta tb tc td) σ H Q) : tChain3 r r' r'' (tB K W ta) (tB K W tb) (tB K W tc) (tB K W td) σ H Q := by
  obtain ⟨e, ρ, G, QD, QE, R, ht, hq, hx⟩ := h
  refine ⟨e, ρ, G, _, QE, R, ht, fun v H1 G1 cx g1 r1 h1 => ?_, hx⟩
  refine ⟨e, ρ, G1, _, QE, R.grow g1, h1, fun u H2 G2 cy g2 r2 h2 => ?_, XPost.grow hx g1⟩
  refine br G2 H2 v u cx.dat cy.dat (toBl fun k => if k = true then tc ρ (fun z => f' cy.dat z.dat fun k' => if k' = true then td ρ (fun u => f'' z.dat u.dat fun k => QD (.d (.bl k))) QE else QD (.d (.bl false))) QE else QD (.d (.bl false))) _ g2.gh (r1.grow g2) r2 h2 fun w H3 G3 cw g3 r3 _ h3 => ?_
  obtain ⟨k, e1, e2⟩ := toBl_rc h3 r3.rv
  refine ⟨k, e1, ?_⟩
  have g13 := (g1.trans g2).trans g3
  by_cases hk : k = true
  · rw [if_pos hk] at e2 ⊢
    refine ⟨e, ρ, G3, _, QE, R.grow g13, e2, fun w2 H4 G4 cz g4 r4 h4 => ?_, XPost.grow hx g13⟩
    have g14 := g13.trans g4
    refine br' G4 H4 u w2 cy.dat cz.dat (toBl fun k' => if k' = true then td ρ (fun u => f'' cz.dat u.dat fun k => QD (.d (.bl k))) QE else QD (.d (.bl false))) _ g4.gh (r2.grow (g3.trans g4)) r4 h4 fun w5 H5 G5 c5 g5 r5 _ h5 => ?_
    obtain ⟨k5, e5, e6⟩ := toBl_rc h5 r5.rv
    refine ⟨k5, e5, ?_⟩
    have g15 := g14.trans g5
    by_cases hk5 : k5 = true
    · rw [if_pos hk5] at e6 ⊢
      refine ⟨e, ρ, G5, _, QE, R.grow g15, e6, fun w6 H6 G6 c6 g6 r6 h6 => ?_, XPost.grow hx g15⟩
      exact br'' G6 H6 w2 w6 cz.dat c6.dat QD Q g6.gh (r4.grow (g5.trans g6)) r6 h6 (VPost.grow hq (g15.trans g6))
    · rw [if_neg hk5] at e6 ⊢
      exact VPost.dat (VPost.grow hq g15) g15.gh (.bl _) e6
  · rw [if_neg hk] at e2 ⊢
    exact VPost.dat (VPost.grow hq g13) g13.gh (.bl _) e2
theorem dchain3 (k : CmpOk X op f) (k' : CmpOk X op' f') (k'' : CmpOk X op'' f'') (ha : PE X a (tB X.K W ta)) (hb : PE X b (tB X.K W tb)) (hc : PE X c (tB X.K W tc)) (hd : PE X d (tB X.K W td)) (hm : lastMarks [op, op', op''] [b, c, d] = false := by with_unfolding_all rfl) :
    PE X (.Compare a [op, op', op''] [b, c, d] pos) (tD X.K W (dCh3 f f' f'' ta tb tc td)) := by
  obtain ⟨r, ho, br⟩ := k.ex
  obtain ⟨r', ho', br'⟩ := k'.ex
  obtain ⟨r'', ho'', br''⟩ := k''.ex
  exact PE_conseq (pe_chain3 ho ho' ho'' ha hb hc hd hm) (ch3_D br br' br'')
end
section
variable {X : Cx} {W : WX} {tg : Tg} {it : DI} {c : DTT} {t : DTE} {elt target iter : Expr} {ifs : List Expr} {scope : Scope} {own : List (Str × Nat)} {pos spos py : Pos} {y : Str} {i : Nat}
theorem ds_setLc (hc : X.calm = true) (hN : X.N.Nodup) (hy : X.N[i]? = some y) (hyl : X.env.scope.names.lookup y = some .local) (hsw : swapsWith (.ListComp elt [⟨target, iter, ifs, 0⟩] scope pos) (some (.Name y py)) spos.line X.env = pure true) (hi : PI X target iter (tIC X.K W it)) (ok : BlkOk X.N X.env.scope scope own)
    (hg : ∀ (s : Shared) (H : Hp) (C : Addr) (cl : List (Str × Addr)) (fp : List Addr), PG (X.blk s H scope (compEnvC scope cl C X.env) fp) target (tgT X.K tg))
    (ht : ∀ (s : Shared) (H : Hp) (C : Addr) (cl : List (Str × Addr)) (fp : List Addr), PTs (X.blk s H scope (compEnvC scope cl C X.env) fp) ifs (tT X.K W0 c))
    (he : ∀ (s : Shared) (H : Hp) (C : Addr) (cl : List (Str × Addr)) (fp : List Addr), PE (X.blk s H scope (compEnvC scope cl C X.env) fp) elt (tD X.K W0 t)) (hv : ∀ i ∈ tg.slots, i ∈ own.map (·.2))
    (hs : ∀ x, foldedSetIterable iter X.env x = pure x := by intro _; rfl) : PS X (.Assign [.Name y py] (.ListComp elt [⟨target, iter, ifs, 0⟩] scope pos) spos) (sD X.K W (dSet i (dLc tg it c t (own.map (·.2))))) := by
  refine PS_conseq (ps_setLc hc hN hy hyl hsw hi ok hg ht he hs) fun D σ H ⟨en, ρ, G, E, R, h, P⟩ => ?_
  refine lc_D (K := X.K) (W := W) (tg := tg) (it := it) (c := c) (t := t) hv σ H _ ⟨en, ρ, G, _, _, R, h, fun v H' G' d g r f q => ?_, P.xp R⟩
  exact set_fz R P g r f q
end
end DL
namespace DL
open PySem PySem.Spec L2
variable [TP]
def maxOr (d : Int) : List Int → Int
  | [] => d
  | n :: ns => ns.foldl max n
theorem foldl_max_ge : ∀ (ns : List Int) (m : Int), m ≤ ns.foldl max m ∧ ∀ y ∈ ns, y ≤ ns.foldl max m
  | [], m => ⟨Int.le_refl _, fun y h => by cases h⟩
  | n :: ns, m => by
    obtain ⟨h1, h2⟩ := foldl_max_ge ns (max m n)
    rw [List.foldl_cons]
    refine ⟨Int.le_trans (Int.le_max_left ..) h1, fun y hy => ?_⟩
    rcases List.mem_cons.mp hy with rfl | hy
    · exact Int.le_trans (Int.le_max_right ..) h1
    · exact h2 y hy
theorem foldl_max_mem : ∀ (ns : List Int) (m : Int), ns.foldl max m = m ∨ ns.foldl max m ∈ ns
  | [], m => .inl rfl
  | n :: ns, m => by
    rw [List.foldl_cons]
    rcases foldl_max_mem ns (max m n) with h | h
    · rw [h]
      by_cases hm : m ≤ n
      · rw [Int.max_eq_right hm]; exact .inr List.mem_cons_self
      · rw [Int.max_eq_left (by omega)]; exact .inl rfl
    · exact .inr (List.mem_cons_of_mem _ h)
theorem maxOr_ge {d : Int} {ns : List Int} {y : Int} (h : y ∈ ns) : y ≤ maxOr d ns := by
  cases ns with
  | nil => cases h
  | cons n ns =>
    obtain ⟨h1, h2⟩ := foldl_max_ge ns n
    rcases List.mem_cons.mp h with rfl | h
    · exact h1
    · exact h2 y h
theorem maxOr_mem {d : Int} {ns : List Int} : (ns = [] ∧ maxOr d ns = d) ∨ maxOr d ns ∈ ns := by
  cases ns with
  | nil => exact .inl ⟨rfl, rfl⟩
  | cons n ns =>
    rcases foldl_max_mem ns n with h | h
    · right
      show ns.foldl max n ∈ _
      rw [h]
      exact List.mem_cons_self
    · exact .inr (List.mem_cons_of_mem _ h)
def rMaxOr (K : PySem.W.Frag) : List V → List V → Hp → VK → Prop := fun vs zs H Q => ∃ (a : Addr) (ns : List Int) (d : Int), vs = [V.ref a] ∧ zs = [V.int d] ∧ SqL K H a (ns.map V.int) ∧ Q (.int (maxOr d ns)) H
theorem alike_ints (ns : List Int) : PySem.W.AlikeAll (ns.map PyData.int) := by
  refine ⟨fun x hx y hy => ?_, fun x hx => ?_⟩
  · obtain ⟨i, _, rfl⟩ := List.mem_map.mp hx
    obtain ⟨j, _, rfl⟩ := List.mem_map.mp hy
    first | rfl | simp [alike]
  · obtain ⟨i, _, rfl⟩ := List.mem_map.mp hx
    intro z
    cases z
theorem reads_int {h : Heap} {v : Value} {i : Int} {as : List Addr} (r : Reads h v (.int i) as) : ∃ t, v = .int i t := by
  cases r
  exact ⟨_, rfl⟩
section
variable {X : Cx} {W : WX}
theorem cr_maxOr (hc : X.calm = true) (hu : X.A.units + 1 < cLine) : CallRK X (.builtin "max") [Str.ofString "default"] (rMaxOr X.K) := by
  intro pins s σ H vs zs us ws Q I r rz h
  obtain ⟨a, ns, d, rfl, rfl, hs, q⟩ := h
  obtain ⟨its, rv, hl, _⟩ := I.list hs
  rw [Vals.ref1 r]
  obtain ⟨w1, rfl, e1⟩ := vals1 rz
  obtain ⟨td, rfl⟩ := (show ∃ t, w1 = Value.int d t from e1)
  refine PySem.W.max_list_default (I.ok.hd hc) hl.isList (rv.ints.reads s.heap) (alike_ints ns) (by rw [PyProof.Rows.depthAll_ints]; exact hu) (fun e h' tk hk => ?_) fun y ys i v h' tk bs e _ hr hk => ?_
  · have e : ns = [] := List.map_eq_nil_iff.mp e
    subst e
    exact ⟨.int d, H, I.kept hk, ⟨_, rfl⟩, q⟩
  · cases ns with
    | nil => cases e
    | cons n ns =>
      cases e
      rw [PySem.W.maxD_ints] at hr
      obtain ⟨t, rfl⟩ := reads_int hr
      exact ⟨.int _, H, I.kept hk, ⟨_, rfl⟩, q⟩
def maxOrD : D → D → (C → Prop) → Prop
  | .lst xs, .int d, Q => withI (intsD xs) fun ns => Q (.d (.int (maxOr d ns)))
  | _, _, _ => False
def dMaxOr (t u : DTE) : DTE := fun ρ Q E => t ρ (fun c => u ρ (fun d => maxOrD c.dat d.dat Q) E) E
theorem dmaxOr {e f : Expr} {t u : DTE} {p pos kpos : Pos} (hc : X.calm = true) (hu : X.A.units + 1 < cLine) (hm : X.mg "max" = none) (he : PE X e (tB X.K W t)) (hf : PE X f (tB X.K W u)) (hg : Gl X "max" := by rfl)
    (h1 : backTo pos (starEach [e] X.env) = (false, eval e X.env) :: backTo pos (starEach [] X.env) := by rfl) (h1b : starEach [e] X.env = (false, eval e X.env) :: starEach [] X.env := by rfl) (h2 : (backTo pos (starEach [e] X.env)).any (·.1) = false := by rfl)
    (h3 : (backToKw pos (keywordEach [⟨some (Str.ofString "default"), f, kpos⟩] X.env)).all (·.1.isSome) = true := by rfl) (h4 : (backToKw pos (keywordEach [⟨some (Str.ofString "default"), f, kpos⟩] X.env)).any (·.1.isNone) = false := by rfl)
    (h5 : (backToKw pos (keywordEach [⟨some (Str.ofString "default"), f, kpos⟩] X.env)).filterMap (·.1) = [Str.ofString "default"] := by rfl) : PE X (.Call (.Name "max" p) [e] [⟨some (Str.ofString "default"), f, kpos⟩] pos) (tD X.K W (dMaxOr t u)) := by
  refine PE_conseq (pe_callBK (cr_maxOr hc hu) hg hm bt_max (pa_cons he pa_nil h1b) (pk_cons hf pk_nil) (by decide) (by decide) h1 h2 h3 h4 h5) fun σ H Q ⟨en, ρ, G, QD, QE, R, ht, hq, hx⟩ => ?_
  refine ⟨en, ρ, G, _, QE, R, ht, fun v H1 G1 c g1 r1 h1 => ?_, hx⟩
  refine ⟨en, ρ, G1, _, QE, R.grow g1, h1, fun w H2 G2 d g2 r2 h2 => ?_, XPost.grow hx g1⟩
  have r3 := r1.grow g2
  have hq2 := VPost.grow hq (g1.trans g2)
  cases hcx : c.dat <;> rw [hcx] at h2 r3 <;> try exact h2.elim
  cases hdx : d.dat <;> rw [hdx] at h2 r2 <;> try exact h2.elim
  obtain ⟨ns, e1, e2⟩ := withI_some h2
  obtain ⟨a, rfl, hs⟩ := rv_ints g2.gh r3 e1
  exact ⟨a, ns, _, rfl, by rw [r2.int], hs, hq2.dat g2.gh (.int _) e2⟩
end
structure IsF (K : PySem.W.Frag) (mg : Str → Option Value) (cs : List Cn) (y : Cn) : Prop where
  gl : mg y.str = some (.ref (He.ga K y.str))
  kd : ∀ k ∈ kinds, PySem.W.kitOne K (.type k) (.ref (He.ga K y.str)) = some false
  ob : ∀ c ∈ cs, Cls K (He.ga K c.str) ∧ (PySem.W.findIn K (.ref (He.ga K c.str)) "__class__" = some (some (.builtin "object.__class__")) ∧ PySem.W.specialIn K (.builtin "object.__class__") "__get__" = some (some (.builtin "getset_descriptor.__get__")) ∧ PySem.W.takesIn K (.builtin "object.__class__") = some true ∧ PySem.W.mroIn K (He.ga K c.str) (.type "object") = some true) ∧
    PySem.W.kitOne K (.ref (He.ga K c.str)) (.ref (He.ga K y.str)) = some (c.sub y)
def isC (cs : List Cn) (y : Cn) : D → (C → Prop) → Prop
  | .obj c _, Q => c ∈ cs ∧ Q (.d (.bl (c.sub y)))
  | .exn _ _ _, _ => False
  | .box _, _ => False
  | _, Q => Q (.d (.bl false))
def dIsC (cs : List Cn) (y : Cn) (t : DTE) : DTE := fun ρ Q E => t ρ (fun c => isC cs y c.dat Q) E
section
variable {X : Cx} {W : WX} {e : Expr} {te : DTE} {p p2 pos : Pos} {cs : List Cn} {y : Cn}
theorem disC (F : IsF X.K X.mg cs y) (hi : X.mg "isinstance" = none) (he : PE X e (tB X.K W te)) (hg : Gl X "isinstance" := by rfl) (hgx : Gl X y.str := by rfl) (hdx : (y.str == ("__debug__" : Str)) = false := by decide)
    (hs : starEach [e, .Name y.str p2] X.env = (false, eval e X.env) :: starEach [.Name y.str p2] X.env := by rfl) (hs2 : starEach [.Name y.str p2] X.env = (false, eval (.Name y.str p2) X.env) :: starEach [] X.env := by rfl) (hpl : (backTo pos (starEach [.Name y.str p2] X.env)).any (·.1) = false := by rfl) :
    PE X (.Call (.Name "isinstance" p) [e, .Name y.str p2] [] pos) (tD X.K W (dIsC cs y te)) := by
  refine PE_conseq (pe_callB call_isi hg hi bt_isinstance (pa_cons he (pa_cons (pe_glob (v := .ref (He.ga X.K y.str)) hgx F.gl rfl hdx) pa_nil hs2) hs) (by decide) (by decide) hs hpl) fun σ H Q ⟨en, ρ, G, QD, QE, R, ht, hq, hx⟩ => ?_
  refine ⟨en, ρ, G, _, QE, R, ht, fun v H1 G1 c g1 r1 h1 => ?_, hx⟩
  have hq1 := VPost.grow hq g1
  by_cases hx : ∃ z, c.dat = .box z
  · obtain ⟨z, hd⟩ := hx
    rw [hd] at h1
    exact h1.elim
  by_cases hn : ∃ k d fl, c.dat = .exn k d fl
  · obtain ⟨k, d, fl, hd⟩ := hn
    rw [hd] at h1
    exact h1.elim
  by_cases ho : ∃ d fl, c.dat = .obj d fl
  · obtain ⟨d, fl, hd⟩ := ho
    rw [hd] at h1 r1
    obtain ⟨hm, h1⟩ := h1
    obtain ⟨a, dx, ws, rfl, ha, _, _⟩ := r1.obj g1.gh
    obtain ⟨k1, ⟨k2, k3, k4, k5⟩, k6⟩ := F.ob d hm
    exact ⟨_, .ref (He.ga X.K y.str), _, _, _, rfl, .own _, .base (.ins ha k1 k2 k3 k4 k5), k6, hq1.dat g1.gh (.bl _) h1⟩
  · have hk : ∃ k, kindD c.dat = some k := by
      cases hc : c.dat <;> first | exact ⟨_, rfl⟩ | exact (ho ⟨_, _, hc⟩).elim | exact (hn ⟨_, _, _, hc⟩).elim | exact (hx ⟨_, hc⟩).elim
    obtain ⟨k, hk⟩ := hk
    have h1 : QD (.d (.bl false)) := by
      cases hc : c.dat <;> rw [hc] at h1 <;> first | exact h1 | exact (ho ⟨_, _, hc⟩).elim | exact (hn ⟨_, _, _, hc⟩).elim | exact (hx ⟨_, hc⟩).elim
    exact ⟨v, .ref (He.ga X.K y.str), .type k, _, _, rfl, .own _, kind_ty g1.gh r1 hk, F.kd k (kind_mem hk), hq1.dat g1.gh (.bl _) h1⟩
end
theorem kitNo_ok {K : PySem.W.Frag} {y : Str} (h : kitNo y K = true) : ∀ k ∈ kinds, PySem.W.kitOne K (.type k) (.ref (He.ga K y)) = some false := fun k hk => of_decide_eq_true (List.all_eq_true.mp h k hk)
theorem kitIs_ok {K : PySem.W.Frag} {x y : Str} {b : Bool} (h : kitIs x y b K = true) : PySem.W.kitOne K (.ref (He.ga K x)) (.ref (He.ga K y)) = some b := of_decide_eq_true h
theorem tyOwn_ok {K : PySem.W.Frag} {x : Str} (h : tyOwn x K = true) : PySem.W.findIn K (.ref (He.ga K x)) "__class__" = some (some (.builtin "object.__class__")) ∧ PySem.W.specialIn K (.builtin "object.__class__") "__get__" = some (some (.builtin "getset_descriptor.__get__")) ∧ PySem.W.takesIn K (.builtin "object.__class__") = some true ∧ PySem.W.mroIn K (He.ga K x) (.type "object") = some true := by
  obtain ⟨h1, h2⟩ := He.ba h
  obtain ⟨h2, h3⟩ := He.ba h2
  obtain ⟨h3, h4⟩ := He.ba h3
  exact ⟨He.eqO_ok h1, He.eqO_ok h2, of_decide_eq_true h3, of_decide_eq_true h4⟩
theorem exFact {ex : List ExB} {K : PySem.W.Frag} (c : (ex.all fun f => f K) = true) (i : Nat) {f : ExB} (h : ex[i]? = some f := by rfl) : f K = true := List.all_eq_true.mp c f (List.mem_of_getElem? h)
mutual
def D.plain : D → Bool
  | .non => true
  | .bl _ => true
  | .int _ => true
  | .str _ => true
  | .tup xs => plainL xs
  | .lst _ => false
  | .dic _ => false
  | .obj _ _ => false
  | .exn _ _ _ => false
  | .box _ => false
def plainL : List D → Bool
  | [] => true
  | x :: xs => x.plain && plainL xs
end
def D.atom : D → Bool
  | .non | .bl _ | .int _ | .str _ => true
  | _ => false
theorem Rep.atom {K : PySem.W.Frag} {G G' : Hp} {v : V} {x : D} (h : x.atom = true) (r : Rep K G v x) : Rep K G' v x := by
  cases r <;> first | exact .non | exact .bl _ | exact .int _ | exact .str _ | cases h
def lentK : HO → Bool
  | .lst _ => true
  | .dK _ => true
  | .ins _ _ _ => true
  | _ => false
def KpNl (G G' : Hp) : Prop := ∀ b o, lentK o = false → G b = some o → G' b = some o ∨ ∃ a ws vs, o = .tup (.ref a :: ws) ∧ G a = some (.lst vs)
theorem kpNl_tup {K : PySem.W.Frag} {G G' : Hp} (hg : KpNl G G') {a : Addr} {vs : List V} {xs : List D} (h : Rd G a (.tup vs)) (hx : ∀ b x, vs.head? = some (.ref b) → xs.head? = some x → ∀ ys, G b = some (.lst ys) → False) (hl : vs.length = xs.length) : Rd G' a (.tup vs) := by
  have no : ∀ {b ws ys}, vs = .ref b :: ws → G b = some (.lst ys) → False := fun {b ws ys} e hb => by
    subst e
    cases xs with
    | nil => cases hl
    | cons x xs => exact hx b x rfl rfl ys hb
  rcases h with h | ⟨o, h⟩
  · rcases hg _ _ rfl h with z | ⟨b, ws, ys, e, hb⟩
    · exact .inl z
    · cases e; exact (no rfl hb).elim
  · rcases hg _ _ rfl h with z | ⟨b, ws, ys, e, hb⟩
    · exact .inr ⟨o, z⟩
    · cases e
mutual
theorem Rep.plain {K : PySem.W.Frag} {G G' : Hp} (hg : KpNl G G') : ∀ {v : V} {x : D}, x.plain = true → Rep K G v x → Rep K G' v x
  | _, _, _, .non => .non
  | _, _, _, .bl b => .bl b
  | _, _, _, .int i => .int i
  | _, _, _, .str z => .str z
  | _, _, h, .tup q r => .tup (kpNl_tup (K := K) hg q (fun b x h1 h2 ys h3 => by
      rw [D.plain] at h
      cases r with
      | nil => cases h1
      | cons a t =>
        cases h1
        cases h2
        rw [plainL, Bool.and_eq_true] at h
        cases a with
        | tup w _ =>
          rcases w with w | ⟨o, w⟩
          · rw [h3] at w; cases w
          · rw [h3] at w; cases w
        | lst _ _ => rw [D.plain] at h; cases h.1
        | dic _ _ _ => rw [D.plain] at h; cases h.1
        | obj _ _ _ => rw [D.plain] at h; cases h.1
        | exn0 _ _ _ => rw [D.plain] at h; cases h.1
        | exn1 _ _ _ _ _ _ => rw [D.plain] at h; cases h.1
        | box _ => rw [D.plain] at h; cases h.1) r.length) (RepL.plain hg (by rw [D.plain] at h; exact h) r)
  | _, _, h, .lst _ _ => by rw [D.plain] at h; cases h
  | _, _, h, .dic _ _ _ => by rw [D.plain] at h; cases h
  | _, _, h, .obj _ _ _ => by rw [D.plain] at h; cases h
  | _, _, h, .exn0 _ _ _ => by rw [D.plain] at h; cases h
  | _, _, h, .exn1 _ _ _ _ _ _ => by rw [D.plain] at h; cases h
  | _, _, h, .box _ => by rw [D.plain] at h; cases h
theorem RepL.plain {K : PySem.W.Frag} {G G' : Hp} (hg : KpNl G G') : ∀ {vs : List V} {xs : List D}, plainL xs = true → RepL K G vs xs → RepL K G' vs xs
  | _, _, _, .nil => .nil
  | _, _, h, .cons a r => .cons (Rep.plain hg (by rw [plainL, Bool.and_eq_true] at h; exact h.1) a) (RepL.plain hg (by rw [plainL, Bool.and_eq_true] at h; exact h.2) r)
end
def C.plain : C → Bool
  | .d x => x.plain
  | .nl xs => plainL xs
  | .nd kvs => plainL (kvs.map (·.2))
  | .no _ _ fs => plainL (fs.map (·.2))
  | .np _ _ => false
  | .ro _ _ _ => false
  | .fz _ x => x.plain
  | .cp _ _ => false
  | .nt _ _ _ => false
  | .nn _ _ => false
theorem RC.plain {K : PySem.W.Frag} {G G' H : Hp} {v : V} {c : C} (hg : KpNl G G') (hn : ∀ b, G b = none → G' b = none) (h : c.plain = true) (r : RC K G H v c) : RC K G' H v c := by
  cases r with
  | d r => exact .d (Rep.plain hg h r)
  | nl n q r => exact .nl (hn _ n) q (RepL.plain hg h r)
  | nd n q k r => exact .nd (hn _ n) q k (RepL.plain hg h r)
  | no n q k r => exact .no (hn _ n) q k (RepL.plain hg h r)
  | np n q r => cases h
  | ro n q r => cases h
  | fz r => exact .fz (Rep.plain hg h r)
  | cp n q r _ => cases h
  | nt _ _ _ _ _ _ => cases h
  | nn _ _ _ _ _ => cases h
theorem frzL {G H : Hp} {bs : List Addr} (s : Same G H) : Same G (frzH G H bs) ∧ Same (frzH G H bs) H := by
  refine ⟨fun b o hb => ?_, fun b o hb => ?_⟩
  · by_cases e : b ∈ bs
    · rw [frzH_in e]; exact s _ _ hb
    · rw [frzH_out e]; exact .inl hb
  · by_cases e : b ∈ bs
    · rw [frzH_in e] at hb; exact .inl hb
    · rw [frzH_out e] at hb; exact s _ _ hb
theorem LooksL.rep {K : PySem.W.Frag} {G H G2 : Hp} (m : Same G G2) : ∀ {as : List Addr} {xss : List (List D)}, (∀ a ∈ as, G2 a = H a) → LooksL K G H as xss → RepL K G2 (as.map .ref) (xss.map .lst)
  | _, _, _, .nil => .nil
  | _, _, z, .cons h r l => .cons (.lst (SqL.of ((z _ List.mem_cons_self).trans h)) (r.mono m)) (LooksL.rep m (fun a hm => z a (List.mem_cons_of_mem _ hm)) l)
theorem LooksL.mem {K : PySem.W.Frag} {G H : Hp} : ∀ {as : List Addr} {xss : List (List D)}, LooksL K G H as xss → ∀ a ∈ as, ∃ vs, H a = some (.lst vs)
  | _, _, .cons h _ l, a, hm => by
    rcases List.mem_cons.mp hm with rfl | hm
    · exact ⟨_, h⟩
    · exact LooksL.mem l a hm
theorem LooksL.more {K : PySem.W.Frag} {G H G2 : Hp} (m : Same G G2) : ∀ {as : List Addr} {xss : List (List D)}, LooksL K G H as xss → LooksL K G2 H as xss
  | _, _, .nil => .nil
  | _, _, .cons h r l => .cons h (r.mono m) (LooksL.more m l)
theorem RV.lend {K : PySem.W.Frag} {G H : Hp} {v : V} {x : D} (s : Same G H) (r : RV K G H v x) : ∃ G1, Same G G1 ∧ Same G1 H ∧ Rep K G1 v x ∧ KpNl G1 G := by
  have step : ∀ (a : Addr) (o : HO), H a = some o → lentK o = true → Same G (upd G a o) ∧ Same (upd G a o) H ∧ KpNl (upd G a o) G := fun a o h hn => by
    refine ⟨fun b w hb => ?_, fun b w hb => ?_, fun b w hk hb => ?_⟩
    rotate_left 2
    · by_cases e : b = a
      · subst e
        rw [upd_same] at hb
        rw [← Option.some.inj hb, hn] at hk
        cases hk
      · rw [upd_ne e] at hb; exact .inl hb
    · by_cases e : b = a
      · subst e
        rw [upd_same, ← h]
        rcases s _ _ hb with z | ⟨z, _⟩
        · exact .inl z
        · exact .inr ⟨z, by rw [h]; exact fun w => by cases w⟩
      · rw [upd_ne e]; exact .inl hb
    · by_cases e : b = a
      · subst e
        rw [upd_same] at hb
        exact .inl (by rw [h, hb])
      · rw [upd_ne e] at hb
        exact s _ _ hb
  cases r with
  | fz h => exact ⟨G, Same.refl _, s, h, fun _ _ _ z => .inl z⟩
  | @nt p a w vs xs y h h2 r q =>
    obtain ⟨s1, s2⟩ := frzL (bs := [p, a]) s
    refine ⟨_, s1, s2, .box (.tup (.inl ((frzH_in List.mem_cons_self).trans h)) (.cons (.lst (SqL.of ((frzH_in (by simp)).trans h2)) (r.mono s1)) (.cons (q.mono s1) .nil))), fun b o hk hb => ?_⟩
    by_cases e : b ∈ [p, a]
    · rcases List.mem_cons.mp e with rfl | e
      · rw [frzH_in (by simp), h] at hb
        cases hb
        exact .inr ⟨a, _, vs, rfl, (frzH_in (by simp)).trans h2⟩
      · rw [List.mem_singleton.mp e, frzH_in (by simp), h2] at hb
        cases hb
        cases hk
    · rw [frzH_out e] at hb; exact .inl hb
  | @nn p as xss h l =>
    obtain ⟨s1, s2⟩ := frzL (bs := p :: as) s
    refine ⟨_, s1, s2, .box (.lst (SqL.of ((frzH_in List.mem_cons_self).trans h)) (l.rep s1 fun a ha => frzH_in (List.mem_cons_of_mem _ ha))), fun b o hk hb => ?_⟩
    by_cases e : b ∈ p :: as
    · rcases List.mem_cons.mp e with rfl | e
      · rw [frzH_in List.mem_cons_self, h] at hb
        cases hb
        cases hk
      · obtain ⟨vs, hv⟩ := l.mem b e
        rw [frzH_in (List.mem_cons_of_mem _ e), hv] at hb
        cases hb
        cases hk
    · rw [frzH_out e] at hb; exact .inl hb
  | nl h r => obtain ⟨s1, s2, s3⟩ := step _ _ h rfl; exact ⟨_, s1, s2, .lst (SqL.of upd_same) (r.mono s1), s3⟩
  | nd h k r => obtain ⟨s1, s2, s3⟩ := step _ _ h rfl; exact ⟨_, s1, s2, .dic (.inl upd_same) k (r.mono s1), s3⟩
  | no h k r => obtain ⟨s1, s2, s3⟩ := step _ _ h rfl; exact ⟨_, s1, s2, .obj upd_same k (r.mono s1), s3⟩
theorem RVL.lend {K : PySem.W.Frag} {H : Hp} : ∀ {G : Hp} {vs : List V} {xs : List D}, Same G H → RVL K G H vs xs → ∃ G1, Same G G1 ∧ Same G1 H ∧ RepL K G1 vs xs ∧ KpNl G1 G
  | G, [], [], s, .nil => ⟨G, Same.refl _, s, .nil, fun _ _ _ z => .inl z⟩
  | G, _ :: _, _ :: _, s, .cons h r => by
    obtain ⟨G1, s1, s2, r1, n1⟩ := h.lend s
    have rr : ∀ {vs : List V} {xs : List D}, RVL K G H vs xs → RVL K G1 H vs xs := fun {vs xs} r => by
      have g : Gr G H G1 H → RVL K G1 H vs xs := fun g => r.grow g
      clear g
      induction r with
      | nil => exact .nil
      | cons h _ ih =>
        refine .cons ?_ ih
        cases h with
        | fz h => exact .fz (h.mono s1)
        | nl h r => exact .nl h (r.mono s1)
        | nd h k r => exact .nd h k (r.mono s1)
        | no h k r => exact .no h k (r.mono s1)
        | nt h h2 r q => exact .nt h h2 (r.mono s1) (q.mono s1)
        | nn h l => exact .nn h (l.more s1)
    obtain ⟨G2, s3, s4, r2, n2⟩ := RVL.lend s2 (rr r)
    exact ⟨G2, s1.trans s3, s4, .cons (r1.mono s3) r2, fun b o k z => by
      rcases n2 b o k z with w | w
      · rcases n1 b o k w with w | ⟨a, ws, vs, e, ha⟩
        · exact .inl w
        · refine .inr ⟨a, ws, vs, e, ?_⟩
          rcases s3 _ _ ha with q | ⟨q, _⟩
          · exact q
          · cases q
      · exact .inr w⟩
theorem gr_back0 {G G1 H G' H' : Hp} (s : Same G H) (s1 : Same G G1) (s2 : Same G1 H) (g : Gr G1 H G' H') : Gr G H (fun b => if G1 b ≠ none ∧ G b = none then none else G' b) H' := by
  refine ⟨g.hh, fun b o hb => ?_, fun b o hb => ?_, fun b hb => ?_⟩
  · show (if G1 b ≠ none ∧ G b = none then none else G' b) = some o ∨ (isT o = true ∧ (if G1 b ≠ none ∧ G b = none then none else G' b) ≠ none)
    rw [if_neg (by rw [hb]; exact fun z => by cases z.2)]
    exact (s1.trans g.gg) _ _ hb
  · have hb : (if G1 b ≠ none ∧ G b = none then none else G' b) = some o := hb
    by_cases hc : G1 b ≠ none ∧ G b = none
    · rw [if_pos hc] at hb; cases hb
    · rw [if_neg hc] at hb; exact g.gh _ _ hb
  · have hb : (if G1 b ≠ none ∧ G b = none then none else G' b) ≠ none := hb
    by_cases hc : G1 b ≠ none ∧ G b = none
    · rw [if_pos hc] at hb; exact absurd rfl hb
    · rw [if_neg hc] at hb
      rcases g.new b hb with z | z
      · exact .inl fun e => hc ⟨z, e⟩
      · exact .inr z
theorem gr_back {G G1 H G' H' : Hp} (s : Same G H) (s1 : Same G G1) (s2 : Same G1 H) (n1 : KpNl G1 G) (g : Gr G1 H G' H') : ∃ G2, Gr G H G2 H' ∧ KpNl G' G2 ∧ ∀ b, G' b = none → G2 b = none := by
  refine ⟨_, gr_back0 s s1 s2 g, fun b o hk hb => ?_, fun b hb => ?_⟩
  · show (if G1 b ≠ none ∧ G b = none then none else G' b) = some o ∨ _
    by_cases z : G1 b ≠ none ∧ G b = none
    · cases e : G1 b with
      | none => exact (z.1 e).elim
      | some u =>
        rcases g.gg _ _ e with e2 | ⟨e2, _⟩
        · rw [hb] at e2
          cases e2
          rcases n1 _ _ hk e with w | ⟨a, ws, vs, e3, ha⟩
          · rw [z.2] at w
            cases w
          · refine .inr ⟨a, ws, vs, e3, ?_⟩
            rcases g.gg _ _ ha with q | ⟨q, _⟩
            · exact q
            · cases q
        · exfalso
          rcases n1 _ _ (by cases u <;> first | rfl | cases e2) e with w | ⟨a, ws, vs, e3, ha⟩
          · rw [z.2] at w
            cases w
          · rw [e3] at e2
            cases e2
    · exact .inl ((if_neg z).trans hb)
  · show (if G1 b ≠ none ∧ G b = none then none else G' b) = none
    split
    · rfl
    · exact hb
def Exn.plain (x : Exn) : Bool := x.fs.all fun p => p.2.plain
theorem RX.toPlain {K : PySem.W.Frag} {G G' H : Hp} {cls : Value} {d : Option Addr} {x : Exn} (hg : KpNl G G') (h : x.plain = true) (r : RX K G H cls d x) : RX K G' H cls d x := by
  cases r with
  | plain g0 => exact .plain g0
  | @own c a ws fs g0 h1 h2 h3 =>
    refine .own g0 (by
      rcases hg _ _ rfl h1 with z | ⟨_, _, _, e, _⟩
      · exact z
      · cases e) h2 ?_
    have key : ∀ {vs : List V} {fl : List (Fd × D)}, (fl.all fun p => p.2.plain) = true → RepL K G vs (fl.map (·.2)) → RepL K G' vs (fl.map (·.2)) := by
      intro vs fl
      induction fl generalizing vs with
      | nil => intro _ r; cases r; exact .nil
      | cons p fl ih =>
        intro h r
        rw [List.all_cons, Bool.and_eq_true] at h
        cases r with
        | cons r1 r2 => exact .cons (Rep.plain hg h.1 r1) (ih h.2 r2)
    exact key h h3
def dCallT (f : FS) (t : DTA) (ds : List D) : DTE := fun ρ Q E => t ρ (fun xs => f (xs ++ ds) (fun c => c.plain = true ∧ Q c) (fun x => x.plain = true ∧ E x)) E
def dMethT (alt : Cn → Option FS) (to : DTE) (t : DTA) (dd : List D) : DTE := fun ρ Q E => to ρ (fun o => mRecv alt o.dat fun fs => t ρ (fun xs => fs (o.dat :: (xs ++ dd)) (fun c => c.plain = true ∧ Q c) (fun x => x.plain = true ∧ E x)) E) E
section
variable {X : Cx} {W : WX} {k j n : Nat} {f : Addr} {fd : FuncData} {ps : List Str} {fs : FS} {x m : Str} {p pos apos : Pos} {e o : Expr} {es : List Expr} {t : DTA} {dvs : List V} {ds : List Value} {dd : List D} {to : DTE} {alt : Cn → Option FS}
theorem spD_lent {K : PySem.W.Frag} {G H : Hp} {vs : List V} {xs : List D} {QD : C → Prop} {QE : EX} {Q : VK} {E : XK} (sq : GH K G H) (r : RVL K G H vs xs) (hl : xs.length = n) (h : fs xs (fun c => c.plain = true ∧ QD c) (fun x => x.plain = true ∧ QE x))
    (hq : VPost K G H QD Q) (hx : ∀ x cls d H' G', Gr G H G' H' → RX K G' H' cls d x → QE x → E cls d H') : spD K n fs vs H Q E := by
  have s := sq.s
  obtain ⟨G1, s1, s2, r1, n1⟩ := r.lend s
  refine ⟨by rw [r1.length, hl], G1, xs, _, _, ⟨s2, sq.tq⟩, r1, h, fun v H' G' c g rc fr ⟨hp, q⟩ => ?_, fun y cls d H' G' g rx ⟨hp, q⟩ => ?_⟩
  · obtain ⟨G3, g3, g4, g5⟩ := gr_back s s1 s2 n1 g
    exact hq v H' G3 c g3 (rc.plain g4 g5 hp) fr q
  · obtain ⟨G3, g3, g4, _⟩ := gr_back s s1 s2 n1 g
    exact hx y cls d H' G3 g3 (rx.toPlain g4 hp) q
theorem RepL.rvl {K : PySem.W.Frag} {G H : Hp} : ∀ {vs : List V} {xs : List D}, RepL K G vs xs → RVL K G H vs xs
  | _, _, .nil => .nil
  | _, _, .cons h r => .cons (.fz h) (RepL.rvl r)
theorem RVL.append {K : PySem.W.Frag} {G H : Hp} : ∀ {vs ws : List V} {xs ys : List D}, RVL K G H vs xs → RVL K G H ws ys → RVL K G H (vs ++ ws) (xs ++ ys)
  | _, _, _, _, .nil, s => s
  | _, _, _, _, .cons h r, s => .cons h (RVL.append r s)
theorem callT_D {K : PySem.W.Frag} (hd : ∀ G, RepL K G dvs dd) (hk : ∀ xs QD QE, fs xs QD QE → xs.length = n) (σ : L2.St) (H : Hp) (Q : VK) (h : tD K W (dCallT fs t dd) σ H Q) : tCallSD (spD K n fs) dvs (WE W) (tAB K W t) σ H Q := by
  obtain ⟨en, ρ, G, QD, QE, R, ht, hq, hx⟩ := h
  refine ⟨en, ρ, G, _, QE, R, ht, fun vs H1 G1 xs g1 r1 h1 => ?_, hx⟩
  exact spD_lent (R.grow g1).ghq (r1.append (hd G1).rvl) (hk _ _ _ h1) h1 (VPost.grow hq g1) fun y cls d H' G' g r q => hx y cls d H' G' (g1.trans g) r q
theorem dcallT (F : FnOk X.prog X.w X.K X.mg X.base (L2N.CX X.prog X.w) j f fd ps (spD X.K n fs)) (B : Bd X W k) (hj : j ≤ k) (hm : X.mg x = some (.ref f)) (hk : PySem.W.keepIn X.K (.ref f) = true) (hb : Binds X.K fd ps ds) (hd : Vals dvs ds)
    (hdd : ∀ G, RepL X.K G dvs dd) (hl : ∀ xs QD QE, fs xs QD QE → xs.length = n) (ha : PA X (e :: es) (tAB X.K W t)) (hg : Gl X x := by rfl) (hdb : (x == ("__debug__" : Str)) = false := by decide)
    (he : starEach (e :: es) X.env = (false, eval e X.env) :: starEach es X.env := by rfl) (hpl : (backTo pos (starEach es X.env)).any (·.1) = false := by rfl) : PE X (.Call (.Name x p) (e :: es) [] pos) (tD X.K W (dCallT fs t dd)) :=
  PE_conseq (pe_callSD F (B.hr.mono hj) hg hm hk hb hd (fun σ => L2N.passAt B.tk σ) ha hdb he hpl) (callT_D hdd hl)
theorem dcallFT {j n : Nat} (F : Fn X.K X.mg X.base X.prog X.w x j n dvs fs) (B : Bd X W k) (hj : j ≤ k) (hdd : ∀ G, RepL X.K G dvs dd) (ha : PA X (e :: es) (tAB X.K W t)) (hg : Gl X x := by rfl) (hdb : (x == ("__debug__" : Str)) = false := by decide)
    (he : starEach (e :: es) X.env = (false, eval e X.env) :: starEach es X.env := by rfl) (hpl : (backTo pos (starEach es X.env)).any (·.1) = false := by rfl) : PE X (.Call (.Name x p) (e :: es) [] pos) (tD X.K W (dCallT fs t dd)) := by
  obtain ⟨f, fd, ps, ds, h1, h2, h3, h4, h5⟩ := F.ex
  exact dcallT h1 B hj h2 h3 h4 h5 hdd F.len ha hg hdb he hpl
theorem methT_D (hmf : ∀ f : Fd, f.str ≠ m) (hd : ∀ G, RepL X.K G dvs dd) (ok : ∀ c fs, alt c = some fs → MOk X k m c n dvs fs) (σ : L2.St) (H : Hp) (Q : VK) (h : tD X.K W (dMethT alt to t dd) σ H Q) : tMethS X k W m (tB X.K W to) (tAB X.K W t) σ H Q := by
  obtain ⟨en, ρ, G, QD, QE, R, ht, hq, hx⟩ := h
  refine ⟨en, ρ, G, _, QE, R, ht, fun v H1 G1 co g1 r1 h1 => ?_, hx⟩
  cases hc : co.dat with
  | obj c fl =>
    rw [hc] at h1 r1
    have h1 : (match alt c with
      | some fs => t ρ (fun xs => fs (.obj c fl :: (xs ++ dd)) (fun c => c.plain = true ∧ QD c) (fun x => x.plain = true ∧ QE x)) QE
      | none => False) := h1
    cases ha : alt c with
    | none => rw [ha] at h1; exact h1.elim
    | some fs =>
      rw [ha] at h1
      obtain ⟨hcl, ⟨g, fd, ps, ds, j, hm, F, hj, hb, hdv⟩, hlen⟩ := ok c fs ha
      obtain ⟨a, dx, ws, rfl, hG, hk, hr⟩ := r1.obj g1.gh
      refine ⟨_, _, _, _, g, fd, ps, _, dvs, ds, j, rfl, hG, hcl, hm, lookup_none hmf hk, F, hj, hb, hdv, ?_⟩
      refine ⟨en, ρ, G1, _, QE, R.grow g1, h1, fun vs H3 G3 xs g3 r3 h3 => ?_, XPost.grow hx g1⟩
      have g13 := g1.trans g3
      exact spD_lent (R.grow g13).ghq (.cons (r1.grow g3) (r3.append (hd G3).rvl)) (hlen _ _ _ h3) h3 (VPost.grow hq g13) fun y cls d H' G' g r q => hx y cls d H' G' (g13.trans g) r q
  | _ => rw [hc] at h1; exact h1.elim
theorem dmethT0 (B : Bd X W k) (hmf : ∀ f : Fd, f.str ≠ m) (hd : ∀ G, RepL X.K G dvs dd) (ok : ∀ c fs, alt c = some fs → MOk X k m c n dvs fs) (he : PE X o (tB X.K W to)) {pl : Sem Bool}
    (ht : eval (.Call (.Attribute o m apos) [] [] pos) X.env = (do
      let rcv ← eval o X.env
      standAt apos.atName
      let (g, one) ← holding [rcv] (getMethod rcv m pl)
      callWith pos g one (backTo pos (starEach [] X.env)) (backToKw pos (keywordEach [] X.env))) := by rfl) : PE X (.Call (.Attribute o m apos) [] [] pos) (tD X.K W (dMethT alt to dNilA dd)) :=
  PE_conseq (pe_methS0 (pl := pl) B he ht) fun σ H Q h => by
    obtain ⟨en, ρ, G, QD, QE, R, hh, hq, hx⟩ := methT_D (t := dNilA) hmf hd ok σ H Q h
    refine ⟨en, ρ, G, QD, QE, R, hh, fun v H1 G1 c g1 r1 h1 => ?_, hx⟩
    obtain ⟨a, cc, dx, ws, g, fd, ps, sp, dvs, ds, j, e1, e2, e3, e4, e5, e6, e7, e8, e9, e10⟩ := hq v H1 G1 c g1 r1 h1
    refine ⟨a, cc, dx, ws, g, fd, ps, sp, dvs, ds, j, e1, e2, e3, e4, e5, e6, e7, e8, e9, ?_⟩
    obtain ⟨en, ρ, G, QD, QE, R, hh, hq, hx⟩ := e10
    exact hq [] H1 G [] (Gr.refl R.gl.gh) .nil hh
end
end DL
namespace DLS
open PySem PySem.W PySem.Calls PyProof.Rows Builtin
section
variable {prog : Program} {w : World} {A : Around} {E : Value → Shared → Prop} {s : Shared} {Q : Bool → Shared → Prop}
theorem lexK {b f : Bool} {xs ys : List Value} {ns ms : List Int} (i : Nat) (hx : IntsAre xs ns) (hy : IntsAre ys ms) (hf : f = decide (ns.length < ms.length)) (h : Q (HT.lexLt ns ms) s) : PySem.W.KatLex prog w A b f Q (xs.zip ys) i s := by
  induction hx generalizing ys ms i with
  | nil =>
    cases hy with
    | nil =>
      rw [HT.lexLt_nil_nil] at h
      subst hf
      exact PySem.W.kat_nil h
    | cons q u hy =>
      rw [HT.lexLt_nil_cons] at h
      subst hf
      refine PySem.W.kat_nil ?_
      rw [decide_eq_true (by simp)]
      exact h
  | @cons p t xs ns hx ih =>
    cases hy with
    | nil =>
      rw [HT.lexLt_cons_nil] at h
      subst hf
      refine PySem.W.kat_nil ?_
      rw [decide_eq_false (by simp)]
      exact h
    | @cons q u ys ms hy =>
      show PySem.W.KatLex prog w A b f Q ((Value.int p t, Value.int q u) :: xs.zip ys) i s
      refine PySem.W.kat_cons (wpAny_eqBool_int ?_)
      rw [HT.lexLt_cons] at h
      by_cases e : p = q
      · subst e
        rw [if_pos rfl] at h
        rw [beq_self_eq_true]
        refine PySem.W.kat_yes ?_
        exact ih (i + 1) hy (by rw [hf]; simp) h
      · rw [if_neg e] at h
        rw [show (p == q) = false from beq_eq_false_iff_ne.mpr e]
        exact PySem.W.kat_no (TS.oneLt_ints _ h)
theorem tup_cmp {vs : List Value} {k : Value → List Int} (hp : ∀ v ∈ vs, TS.TupInts s.heap v (k v)) : SrtO.Cmp prog w A s (tuples' true) (fun p => p.1 ∈ vs) (SrtO.lt2 fun v u => HT.lexLt (k v) (k u)) := by
  intro p q hm hm'
  have h1 := hp _ hm
  have h2 := hp _ hm'
  show wpAny (model prog w) A (keyLt' (tuples' true) p.1 q.1) (fun r s' => s' = s ∧ r = HT.lexLt (k p.1) (k q.1)) (fun _ _ => False) s
  obtain ⟨a, xs, e1, ⟨o, ho, hc, n, hdt⟩, i⟩ := h1
  obtain ⟨a', ys, e2, ⟨o', ho', hc', n', hdt'⟩, i'⟩ := h2
  generalize k p.1 = ns at i ⊢
  generalize k q.1 = ms at i' ⊢
  rw [e1, e2]
  refine PySem.W.kat_lt ho hdt ho' hdt' ?_
  have l1 := i.length
  have l2 := i'.length
  rw [Array.length_toList] at l1 l2
  exact lexK 0 i i' (by rw [l1, l2]) ⟨rfl, rfl⟩
theorem tup_firsts {h : Heap} {k : Value → List Int} : ∀ vs : List Value, (∀ v ∈ vs, TS.TupInts h v (k v) ∧ k v ≠ []) → ∃ fs, PySem.W.KatTups h vs fs ∧ fs.length = vs.length ∧ ∀ f, f ∈ fs → ∃ n t, f = Value.int n t
  | [], _ => ⟨[], PySem.W.KatTups.nil, rfl, fun f hf => by simp at hf⟩
  | v :: vs, x => by
    obtain ⟨fs, hk, hl, hi⟩ := tup_firsts vs fun u hu => x u (List.mem_cons_of_mem _ hu)
    obtain ⟨⟨a, xs, e0, ⟨o, ho, hc, n, hdt⟩, i⟩, hn⟩ := x v (List.mem_cons_self ..)
    obtain ⟨y, ys, e⟩ : ∃ y ys, xs.toList = y :: ys := by
      cases q : xs.toList with
      | nil =>
        rw [q] at i
        have l := i.length
        exact absurd (List.length_eq_zero_iff.mp l.symm) hn
      | cons y ys => exact ⟨y, ys, rfl⟩
    obtain ⟨m, t, hy⟩ := i.all y (by rw [e]; exact List.mem_cons_self ..)
    subst e0
    refine ⟨y :: fs, PySem.W.KatTups.cons ho hc hdt ?_ hk, by simp [hl], ?_⟩
    · have z := congrArg (fun l : List Value => l[0]?) e
      simpa using z
    · intro f hf
      rcases List.mem_cons.mp hf with rfl | hf
      · exact ⟨m, t, hy⟩
      · exact hi f hf
theorem tup_sortable {a : Addr} {vs : List Value} {k : Value → List Int} (h0 : 0 < vs.length) (hp : ∀ v ∈ vs, TS.TupInts s.heap v (k v) ∧ k v ≠ []) (ha : ∀ o, s.heap.get? a = some o → o.cls ≠ .type "tuple") : SrtO.SortableO prog w A s a vs fun v u => HT.lexLt (k v) (k u) := by
  intro h' keep
  have hp' : ∀ v ∈ vs, TS.TupInts h' v (k v) ∧ k v ≠ [] := fun v hm => ⟨(hp v hm).1.keeps fun b o e c => keep b o (fun z => by subst z; exact ha o e c) e, (hp v hm).2⟩
  obtain ⟨fs, h1, h2, h3⟩ := tup_firsts vs hp'
  refine ⟨tuples' true, fun Q E hq => ?_, tup_cmp fun v hm => (hp' v hm).1⟩
  refine PySem.W.kat_kind (T := .type "int") h1 (by omega) (fun f hm => ?_) (by rfl) ?_
  · obtain ⟨x, t, rfl⟩ := h3 f hm
    exact PySem.W.Looks.now
  · have e : (Value.type "int" != Value.type "tuple") = true := by first | decide +kernel | rfl | decide
    rw [e]
    exact hq
theorem sorted_tups {l : Addr} {vs : List Value} {k : Value → List Int} {Q : Value → Shared → Prop} (hl : s.heap.IsList l vs.toArray) (hz : vs.length ≤ sizeLine) (hp : ∀ v ∈ vs, TS.TupInts s.heap v (k v) ∧ k v ≠ [])
    (h : ∀ (h' : Heap) (d : Addr) (out : List Value), SrtO.Srtd (fun v u => HT.lexLt (k v) (k u)) out → SrtO.Stb (fun v u => HT.lexLt (k v) (k u)) out vs → (∀ b o, s.heap.get? b = some o → h'.get? b = some o) → s.heap.objs.size ≤ d → (∃ n, h'.get? d = some (seqObj "list" out.toArray n)) → Q (.ref d) { s with heap := h' }) :
    wpAny (model prog w) A (call (.builtin "sorted") [.ref l]) Q E s := by
  refine SrtO.sorted_ord (NtL.swo_lexL k) hl hz (fun h2 h₁ a ha kk => ?_) fun out hs hb => ?_
  · refine tup_sortable (s := { s with heap := h₁ }) (by omega) (fun v hm => ⟨(hp v hm).1.keeps fun b o e _ => (kk b o e).2, (hp v hm).2⟩) fun o e => ?_
    have e' : some o = some (seqObj "list" vs.toArray 0) := e.symm.trans ha
    cases e'
    intro c
    exact absurd (Value.type.inj c) (by decide)
  · exact h _ _ out hs hb (fun b o e => sortedAll_old e) (Nat.le_succ _) (sortedAll_at s.heap vs out.toArray)
end
end DLS
namespace DL
open PySem PySem.Spec PyProof.Rows L2
variable [TP]
def intsV : List V → List Int
  | .int i :: r => i :: intsV r
  | _ => []
theorem intsV_map : ∀ ns : List Int, intsV (ns.map V.int) = ns
  | [] => rfl
  | n :: ns => by rw [List.map_cons]; show n :: intsV _ = _; rw [intsV_map ns]
def rSortedT (K : PySem.W.Frag) : List V → Hp → VK → Prop := fun vs H Q => ∃ (a : Addr) (xs : List V) (k : V → List Int), vs = [V.ref a] ∧ SqL K H a xs ∧ (∀ x ∈ xs, k x ≠ [] ∧ ∃ t, x = V.ref t ∧ Rd H t (.tup ((k x).map V.int))) ∧
  ∀ ys p, SrtO.Srtd (fun x y => HT.lexLt (k x) (k y)) ys → ys.Perm xs → H p = none → Q (.ref p) (upd H p (.lst ys))
section
variable {X : Cx}
theorem cr_sortedT : CallR X (.builtin "sorted") (rSortedT X.K) := by
  intro pins s σ H vs us Q I r h
  obtain ⟨a, xs, k, rfl, hs, hx, q⟩ := h
  obtain ⟨its, rv, hl, hz⟩ := I.list hs
  obtain ⟨u, rfl, ru⟩ := vals1 r
  obtain rfl : u = Value.ref a := ru
  obtain ⟨e1, e2⟩ := refs_back rv fun x m => by
    obtain ⟨_, t, e, _⟩ := hx x m
    exact ⟨t, e⟩
  refine DLS.sorted_tups (k := fun u => k (backV u)) hl.isList (by rw [← rv.length]; exact hz) (fun v hv => ?_) fun h' d out h1 h2 kp hd hn => ?_
  · obtain ⟨t, rfl⟩ := e2 v hv
    have hm : V.ref t ∈ xs := by rw [e1]; exact List.mem_map.mpr ⟨_, hv, rfl⟩
    obtain ⟨hne, t', e, ht⟩ := hx _ hm
    cases e
    obtain ⟨_, its2, r2, o, ho, hc, n, hd⟩ := ht.ok I.hok
    refine ⟨⟨t, _, rfl, ⟨o, ho, hc, n, hd⟩, ?_⟩, hne⟩
    rw [List.toList_toArray]
    exact r2.ints
  · have h3 : ∀ u ∈ out, ∃ a, u = Value.ref a := fun u hu => e2 u (h2.perm.mem_iff.mp hu)
    obtain ⟨n, hn⟩ := hn
    have hb : (out.map backV).Perm xs := by
      rw [e1]
      exact h2.perm.map backV
    refine ⟨.ref d, upd H d (.lst (out.map backV)), I.laid (t' := s.toks) kp hd ⟨?_, out, n, vals_back h3, hn⟩, rfl, q _ d (SrtO.srtd_map (lt := fun x y => HT.lexLt (k x) (k y)) h1) hb (I.hok.fresh hd)⟩
    rw [hb.length_eq]
    exact hz
end
def tupsD : List D → Option (List (List Int))
  | [] => some []
  | .tup ys :: r => match intsD ys, tupsD r with
    | some (n :: ns), some l => some ((n :: ns) :: l)
    | _, _ => none
  | _ => none
def tupD (ns : List Int) : D := .tup (ns.map D.int)
theorem tupsD_eq : ∀ {xs : List D} {l : List (List Int)}, tupsD xs = some l → xs = l.map tupD ∧ ∀ ns ∈ l, ns ≠ []
  | [], l, h => by cases h; exact ⟨rfl, fun _ z => by simp at z⟩
  | .tup ys :: r, l, h => by
    unfold tupsD at h
    cases hi : intsD ys with
    | none => rw [hi] at h; cases h
    | some ns =>
      rw [hi] at h
      cases ns with
      | nil => cases h
      | cons n ns =>
        cases hr : tupsD r with
        | none => rw [hr] at h; cases h
        | some l' =>
          rw [hr] at h
          cases h
          obtain ⟨e1, e2⟩ := tupsD_eq hr
          refine ⟨?_, fun ms hm => ?_⟩
          · rw [List.map_cons, ← e1]
            show _ = D.tup _ :: _
            rw [← intsD_eq hi]
          · rcases List.mem_cons.mp hm with rfl | hm
            · simp
            · exact e2 _ hm
  | .non :: _, _, h => by cases h
  | .bl _ :: _, _, h => by cases h
  | .int _ :: _, _, h => by cases h
  | .str _ :: _, _, h => by cases h
  | .lst _ :: _, _, h => by cases h
  | .dic _ :: _, _, h => by cases h
  | .obj _ _ :: _, _, h => by cases h
  | .exn _ _ _ :: _, _, h => by cases h
def kH (G : Hp) : V → List Int
  | .ref t => match G t with
    | some (.tup vs) => intsV vs
    | some (.frz _ (.tup vs)) => intsV vs
    | _ => []
  | _ => []
theorem kH_of {K : PySem.W.Frag} {G : Hp} {v : V} {ns : List Int} (r : Rep K G v (tupD ns)) : kH G v = ns ∧ ∃ t, v = .ref t ∧ Rd G t (.tup (ns.map V.int)) := by
  cases r with
  | @tup t vs xs h r =>
    have e := RepL.ofInts r
    subst e
    refine ⟨?_, t, rfl, h⟩
    rcases h with h | ⟨o, h⟩
    · show (match G t with | some (.tup vs) => intsV vs | some (.frz _ (.tup vs)) => intsV vs | _ => []) = ns
      rw [h]
      exact intsV_map ns
    · show (match G t with | some (.tup vs) => intsV vs | some (.frz _ (.tup vs)) => intsV vs | _ => []) = ns
      rw [h]
      exact intsV_map ns
theorem kH_all {K : PySem.W.Frag} {G : Hp} : ∀ {vs : List V} {l : List (List Int)}, RepL K G vs (l.map tupD) → vs.map (kH G) = l ∧ ∀ v ∈ vs, ∃ t, v = .ref t ∧ Rd G t (.tup ((kH G v).map V.int))
  | _, [], h => by cases h; exact ⟨rfl, fun _ z => by simp at z⟩
  | _, ns :: l, h => by
    cases h with
    | @cons v vs _ _ h1 h2 =>
      obtain ⟨e, t, e1, e2⟩ := kH_of h1
      obtain ⟨e3, e4⟩ := kH_all h2
      refine ⟨by rw [List.map_cons, e, e3], fun u hu => ?_⟩
      rcases List.mem_cons.mp hu with rfl | hu
      · exact ⟨t, e1, by rw [e]; exact e2⟩
      · exact e4 u hu
theorem kH_back {K : PySem.W.Frag} {G : Hp} : ∀ {vs : List V}, (∀ v ∈ vs, ∃ t, v = V.ref t ∧ Rd G t (.tup ((kH G v).map V.int))) → RepL K G vs ((vs.map (kH G)).map tupD)
  | [], _ => .nil
  | v :: vs, h => by
    obtain ⟨t, e, ht⟩ := h v (List.mem_cons_self ..)
    refine .cons ?_ (kH_back fun u hu => h u (List.mem_cons_of_mem _ hu))
    generalize kH G v = ns at ht
    subst e
    exact .tup ht (RepL.ints ns)
def lexS (l : List (List Int)) : Prop := l.Pairwise fun x y => HT.lexLt y x = false
def fSortT : List (List Int) → (C → Prop) → Prop := fun l Q => ∀ ms : List (List Int), ms.Perm l → lexS ms → Q (.nl (ms.map tupD))
theorem br_sortT {K : PySem.W.Frag} {G H : Hp} {v : V} {xs : List D} {l : List (List Int)} {QD : C → Prop} {Q : VK} (s : Same G H) (r : RV K G H v (.lst xs)) (hl : tupsD xs = some l) (h : fSortT l QD) (p : VPost K G H QD Q) : rSortedT K [v] H Q := by
  obtain ⟨a, vs, rfl, hs, hr⟩ := r.lst s
  obtain ⟨rfl, hne⟩ := tupsD_eq hl
  obtain ⟨e, hk⟩ := kH_all hr
  refine ⟨a, vs, kH G, rfl, hs, fun x hx => ?_, fun ys q h1 h2 hq => ?_⟩
  · obtain ⟨t, e1, e2⟩ := hk x hx
    exact ⟨hne _ (by rw [← e]; exact List.mem_map.mpr ⟨x, hx, rfl⟩), t, e1, rd_same s e2⟩
  · refine p.nl s hq (kH_back fun v hv => hk v (h2.mem_iff.mp hv)) (h _ ?_ ?_)
    · rw [← e]
      exact h2.map _
    · exact List.pairwise_map.mpr h1
end DL
namespace DL
open PySem PySem.Spec L2
variable [TP]
def noOwn (ρ : Rho) : Prop := ∀ (j : Nat) (c : C), ρ[j]? = some (some c) → c.own = false
theorem set_same {α : Type} {l : List α} {i : Nat} {x : α} (h : l[i]? = some x) : l.set i x = l := by
  refine List.ext_getElem? fun j => ?_
  by_cases e : i = j
  · subst e
    rw [List.getElem?_set_self (List.getElem?_eq_some_iff.mp h).1, h]
  · rw [List.getElem?_set_ne e]
structure NumI (K : PySem.W.Frag) (e : Ent) (i : Nat) (cl : Cn) (f : Fd) (fl : List (Fd × D)) (a b : Addr) (ρ : Rho) (kvs : List (Key × D)) (G : Hp) (σ : L2.St) (H : Hp) : Prop where
  R : Rel K e (ρ.set i none) G σ H
  no : noOwn (ρ.set i none)
  hs : σ[i]? = some (some (.ref a))
  ga : G a = none
  gb : G b = none
  ea : e.H a = none
  eb : e.H b = none
  ha : ∃ dx ws, H a = some (.ins (He.ga K cl.str) dx (putF f.str (.ref b) ws)) ∧ ws.map (·.1) = fl.map (fun p => p.1.str) ∧ RepL K G (ws.map (·.2)) (fl.map (·.2))
  hb : ∃ wd, H b = some (.dK wd) ∧ wd.map (·.1) = kvs.map (·.1) ∧ RepL K G (wd.map (·.2)) (kvs.map (·.2))
section
variable {K : PySem.W.Frag} {W : WX} {e : Ent} {i : Nat} {cl : Cn} {f : Fd} {fl : List (Fd × D)} {a b : Addr} {ρ : Rho} {kvs : List (Key × D)} {G H G' H' : Hp} {σ : L2.St}
theorem none_grow (g : Gr G H G' H') {p : Addr} {o : HO} (n : G p = none) (h : H p = some o) : G' p = none := by
  cases z : G' p with
  | none => rfl
  | some u =>
    rcases g.new p (by rw [z]; simp) with w | w
    · exact absurd n w
    · rw [h] at w; cases w
theorem NumI.grow (N : NumI K e i cl f fl a b ρ kvs G σ H) (g : Gr G H G' H') : NumI K e i cl f fl a b ρ kvs G' σ H' := by
  obtain ⟨dx, ws, h1, h2, h3⟩ := N.ha
  obtain ⟨wd, h4, h5, h6⟩ := N.hb
  exact ⟨N.R.grow g, N.no, N.hs, none_grow g N.ga h1, none_grow g N.gb h4, N.ea, N.eb, ⟨dx, ws, g.hh.at h1, h2, h3.mono g.gg⟩, ⟨wd, g.hh.at h4, h5, h6.mono g.gg⟩⟩
theorem NumI.ne (N : NumI K e i cl f fl a b ρ kvs G σ H) : a ≠ b := fun z => by
  obtain ⟨dx, ws, h1, _⟩ := N.ha
  obtain ⟨wd, h4, _⟩ := N.hb
  rw [z, h4] at h1
  cases h1
theorem NumI.lent (N : NumI K e i cl f fl a b ρ kvs G σ H) (hi : i < ρ.length) : ∃ G1, Same G G1 ∧ Same G1 H ∧ Rel K ⟨H, G1⟩ (ρ.set i (some (.d (.obj cl (putFd f (.dic kvs) fl))))) G1 σ H := by
  obtain ⟨dx, ws, h1, h2, h3⟩ := N.ha
  obtain ⟨wd, h4, h5, h6⟩ := N.hb
  have hab := N.ne
  have s0 := N.R.gl.gh
  have s1 : Same G (upd (upd G b (.dK wd)) a (.ins (He.ga K cl.str) dx (putF f.str (.ref b) ws))) := fun c u hc => by
    rw [upd_ne (ne_of_none hc N.ga), upd_ne (ne_of_none hc N.gb)]; exact .inl hc
  have s2 : Same (upd (upd G b (.dK wd)) a (.ins (He.ga K cl.str) dx (putF f.str (.ref b) ws))) H := fun c u hc => by
    by_cases e1 : c = a
    · subst e1; rw [upd_same] at hc; exact .inl (by rw [h1, hc])
    · rw [upd_ne e1] at hc
      by_cases e2 : c = b
      · subst e2; rw [upd_same] at hc; exact .inl (by rw [h4, hc])
      · rw [upd_ne e2] at hc; exact s0 _ _ hc
  have rb : Rep K (upd (upd G b (.dK wd)) a (.ins (He.ga K cl.str) dx (putF f.str (.ref b) ws))) (.ref b) (.dic kvs) := .dic (.inl (by rw [upd_ne (fun z => hab z.symm), upd_same])) h5 (h6.mono s1)
  obtain ⟨p1, p2⟩ := putFd_V (f := f) rb h2 (h3.mono s1)
  refine ⟨_, s1, s2, ⟨⟨s2, SameT.refl _, Same.refl _, fun _ z => .inl z⟩, N.R.tq, fun j c hj => ?_, fun j k c c' v hjk h1 h2 o1 o2 s => ?_, ?_, fun j k c c' a h1 h2 m1 => ?_⟩⟩
  · by_cases e1 : i = j
    · subst e1
      rw [List.getElem?_set_self hi] at hj
      cases hj
      exact ⟨.ref a, N.hs, .d (.obj upd_same p1 p2), fun z => by cases z⟩
    · rw [List.getElem?_set_ne e1] at hj
      have hj2 : (ρ.set i none)[j]? = some (some c) := by rw [List.getElem?_set_ne e1]; exact hj
      obtain ⟨v, q1, q2, _⟩ := N.R.at_ j c hj2
      have ho := N.no j c hj2
      cases c with
      | d x => cases q2 with | d r => exact ⟨v, q1, .d (r.mono s1), fun z => by cases z⟩
      | fz _ x => cases q2 with | fz r => exact ⟨v, q1, .fz (r.mono s1), fun z => by cases z⟩
      | _ => cases ho
  · have key : ∀ (j : Nat) (c : C), (ρ.set i (some (.d (.obj cl (putFd f (.dic kvs) fl)))))[j]? = some (some c) → c.own = false := fun j c hj => by
      by_cases e1 : i = j
      · subst e1
        rw [List.getElem?_set_self hi] at hj
        cases hj
        rfl
      · rw [List.getElem?_set_ne e1] at hj
        exact N.no j c (by rw [List.getElem?_set_ne e1]; exact hj)
    rw [key j c h1] at o1
    cases o1
  · have := N.R.len
    rw [List.length_set] at this ⊢
    exact this
  · by_cases e1 : i = j
    · subst e1
      rw [List.getElem?_set_self hi] at h1
      cases h1
      cases m1
    · rw [List.getElem?_set_ne e1] at h1
      have z := N.no j c (by rw [List.getElem?_set_ne e1]; exact h1)
      rw [inn_own m1] at z
      cases z
theorem NumI.put (N : NumI K e i cl f fl a b ρ kvs G σ H) {wd : List (Key × V)} {q : Key} {v : V} {x : D} (hb : H b = some (.dK wd)) (r : Rep K G v x) : NumI K e i cl f fl a b ρ (putD kvs q x) G σ (upd H b (.dK (putK wd q v))) := by
  obtain ⟨dx, ws, h1, h2, h3⟩ := N.ha
  obtain ⟨wd', h4, h5, h6⟩ := N.hb
  rw [hb] at h4
  cases h4
  obtain ⟨p1, p2⟩ := putD_V (k := q) h5 h6 r
  exact ⟨N.R.beside N.gb N.eb (by rw [hb]; rfl) (fun j c hj ho => by rw [N.no j c hj] at ho; cases ho), N.no, N.hs, N.ga, N.gb, N.ea, N.eb, ⟨dx, ws, by rw [upd_ne N.ne]; exact h1, h2, h3⟩, ⟨_, upd_same, p1, p2⟩⟩
theorem NumI.end_ (N : NumI K e i cl f fl a b ρ kvs G σ H) (hi : i < ρ.length) : ∃ G2, Rel K e (ρ.set i (some (.no a cl (putFd f (.dic kvs) fl)))) G2 σ H := by
  obtain ⟨dx, ws, h1, h2, h3⟩ := N.ha
  obtain ⟨wd, h4, h5, h6⟩ := N.hb
  have s1 : Same G (upd G b (.dK wd)) := fun c u hc => by rw [upd_ne (ne_of_none hc N.gb)]; exact .inl hc
  have s2 : Same (upd G b (.dK wd)) H := fun c u hc => by
    by_cases e2 : c = b
    · subst e2; rw [upd_same] at hc; exact .inl (by rw [h4, hc])
    · rw [upd_ne e2] at hc; exact N.R.gl.gh _ _ hc
  have rb : Rep K (upd G b (.dK wd)) (.ref b) (.dic kvs) := .dic (.inl upd_same) h5 (h6.mono s1)
  obtain ⟨p1, p2⟩ := putFd_V (f := f) rb h2 (h3.mono s1)
  have R2 : Rel K e (ρ.set i none) (upd G b (.dK wd)) σ H := by
    refine ⟨⟨s2, N.R.gl.old, N.R.gl.og.trans s1, fun c hc => ?_⟩, N.R.tq, fun j c hj => ?_, N.R.apart, N.R.len, N.R.inn⟩
    · by_cases e2 : c = b
      · rw [e2]; exact .inr N.eb
      · rw [upd_ne e2] at hc; exact N.R.gl.new c hc
    · obtain ⟨v, q1, q2, q3⟩ := N.R.at_ j c hj
      have ho := N.no j c hj
      cases c with
      | d x => cases q2 with | d r => exact ⟨v, q1, .d (r.mono s1), q3⟩
      | fz _ x => cases q2 with | fz r => exact ⟨v, q1, .fz (r.mono s1), q3⟩
      | _ => cases ho
  have R3 := R2.set (i := i) (v := .ref a) (c := .no a cl (putFd f (.dic kvs) fl)) (.no (by rw [upd_ne N.ne]; exact N.ga) h1 p1 p2) (fresh_of fun c ec => by cases ec; exact N.ea) (fun _ j c' hj ho => by rw [N.no j c' hj] at ho; cases ho) fun j c' _ hj => ⟨fun a ha => (by have z := N.no j c' hj; rw [inn_own ha] at z; cases z), fun ho => by rw [N.no j c' hj] at ho; cases ho⟩
  rw [List.set_set, set_same N.hs] at R3
  exact ⟨_, R3⟩
end
def numsL (E : DEnds) (i at_ : Nat) (a : Addr) (cl : Cn) (f : Fd) (fl : List (Fd × D)) (tt : DTT) (tk tv : DTE) (dr : DS) : List D → List (Key × D) → Rho → Prop
  | [], kvs, ρ => E.nx (ρ.set i (some (.no a cl (putFd f (.dic kvs) fl))))
  | x :: xs, kvs, ρ => tt ((ρ.set at_ (some (.d x))).set i (some (.d (.obj cl (putFd f (.dic kvs) fl))))) (fun b => if b = true then dr { nx := fun _ => False, rt := E.rt, ex := E.ex } ((ρ.set at_ (some (.d x))).set i none) else
      tv ((ρ.set at_ (some (.d x))).set i (some (.d (.obj cl (putFd f (.dic kvs) fl))))) (fun v => v.dat.atom = true ∧
        tk ((ρ.set at_ (some (.d x))).set i (some (.d (.obj cl (putFd f (.dic kvs) fl))))) (fun k => optK (keyD k.dat) fun q => kvs.length < sizeLine ∧ numsL E i at_ a cl f fl tt tk tv dr xs (putD kvs q v.dat) (ρ.set at_ (some (.d x)))) noEx) noEx) noEx
def dNums (i at_ : Nat) (cs : List Cn) (f : Fd) (ta : DTA) (tt : DTT) (tk tv : DTE) (dr : DS) : DS := fun E ρ => slotI ρ i fun a cl fl => cl ∈ cs ∧ fl.length < 1000 ∧ i ≠ at_ ∧ noOwn (ρ.set i none) ∧
  ta (ρ.set i (some (.d (.obj cl (putFd f (.dic []) fl))))) (fun ys => rng1 ys fun xs => numsL E i at_ a cl f fl tt tk tv dr xs [] ρ) noEx
section
variable {X : Cx} {W : WX} {k : Nat} {x y : Str} {p p1 p2 p3 p4 p5 p6 p7 p8 q q1 q2 q3 : Pos} {ea key val test : Expr} {raise rest : List Stmt} {ta : DTA} {tt : DTT} {tk tv : DTE} {dr u : DS} {f : Fd} {cs : List Cn}
theorem ds_nums (i at_ : Nat) (B : Bd X W k) (hc : ∀ c, c ∈ cs → Cls X.K (He.ga X.K c.str) ∧ NoAttr X.K (He.ga X.K c.str) f.str) (hm : X.mg "range" = none) (hea : PA X [ea] (tAB X.K W ta)) (htt : PT X test (tT X.K W tt)) (hrs : PSs X raise (sD X.K W dr))
    (hk : PE X key (tB X.K W tk)) (hv : PE X val (tB X.K W tv)) (hpg : PG X (.Name y p4) (gName at_)) (hrest : PSs X rest (sD X.K W u)) (hN : X.N[i]? = some x := by rfl)
    (hvi : Vis X.env.scope x := by first | exact Or.inl rfl | exact Or.inr (Or.inl rfl) | exact Or.inr (Or.inr rfl)) (hd : (x == ("__debug__" : Str)) = false := by decide) (hcd : (x == ("__classdict__" : Str)) = false := by decide)
    (hsw : swapsWith (.Dict [] [] p2) (some (.Attribute (.Name x p) f.str p1)) p3.line X.env = pure false := by rfl) (hg : Gl X "range" := by rfl) (hs : starEach [ea] X.env = [(false, eval ea X.env)] := by rfl)
    (hfi : ∀ z, foldedSetIterable (.Call (.Name "range" p5) [ea] [] p6) X.env z = pure z := by intro _; rfl) (hb : attributeBase (.Name x q) f.str X.env (eval (.Name x q) X.env) = eval (.Name x q) X.env := by rfl)
    (hsw2 : swapsWithSole [.Subscript (.Attribute (.Name x q) f.str q1) key q2] val q3.line X.env = pure false := by rfl) (hw2 : swappedStores [.Subscript (.Attribute (.Name x q) f.str q1) key q2] val X.env = pure none := by rfl)
    (ha : ∀ v, assign (.Subscript (.Attribute (.Name x q) f.str q1) key q2) X.env v = (do
      let own ← holding [v] (eval (.Attribute (.Name x q) f.str q1) X.env)
      let key ← holding [v, own] (eval key X.env)
      standAt q2
      holding [v, own, key] (setItem own key v)
      release [v, own, key] []) := by intro _; rfl) :
    PSs X (.Assign [.Attribute (.Name x p) f.str p1] (.Dict [] [] p2) p3 :: .For (.Name y p4) (.Call (.Name "range" p5) [ea] [] p6) [.If test raise [] p7, .Assign [.Subscript (.Attribute (.Name x q) f.str q1) key q2] val q3] [] p8 :: rest) (sD X.K W (dSeq (dNums i at_ cs f ta tt tk tv dr) u)) := by
  have put : PSet X (fun o i v H Q => ∃ a H', o = .ref a ∧ DPut H a i v H' ∧ Q H') := by
    intro pins s σ H o i v ov iv w Q I ro ri rv h
    obtain ⟨a, H', rfl, g, qq⟩ := h
    cases ro
    exact d_setItem B.hu I g ri rv fun s' I' => ⟨H', I', qq⟩
  refine PSs_conseq (pss_cons (ps_fld (pe_var hN hvi hd hcd) pe_dnewK hsw) (pss_cons (ps_for B.po B.calm (pi_range1 hg hm hea hs) hpg (pss_cons (ps_if htt hrs pss_nil) (pss_cons (ps_asg hv (pg_sub (pe_fld (pe_var hN hvi hd hcd) hb) hk put ha) hsw2 hw2) pss_nil)) hfi) hrest)) fun D σ H ⟨e, ρ, G, E, R, h, P⟩ => ?_
  obtain ⟨a, cl, fl, hr0, hcl, hl, hne, hno, h⟩ := slotI_some h
  intro b hbn
  have hil : i < ρ.length := (List.getElem?_eq_some_iff.mp hr0).1
  obtain ⟨w, w1, w2, w3⟩ := R.at_ i _ hr0
  cases w2 with
  | @no _ dx _ ws _ n hH hkk rl =>
    have hab : a ≠ b := fun z => by rw [z, hbn] at hH; cases hH
    refine ⟨_, w1, a, _, dx, ws, rfl, by rw [upd_ne hab]; exact hH, (hc cl hcl).1, (hc cl hcl).2, ?_, ?_⟩
    · have := congrArg List.length hkk
      rw [List.length_map, List.length_map] at this
      rw [this]; exact hl
    obtain ⟨g0, gb0⟩ := gr_new (o := .dK []) R.gl.gh hbn
    have hea0 : e.H a = none := w3 rfl a (.inl rfl)
    have heb0 : e.H b = none := R.gl.old.free hbn
    have N0 : NumI X.K e i cl f fl a b ρ [] G σ (upd (upd H b (.dK [])) a (.ins (He.ga X.K cl.str) dx (putF f.str (.ref b) ws))) :=
      ⟨((R.forget i).grow g0).beside n hea0 (by rw [upd_ne hab, hH]; rfl) (fun j c hj ho => by rw [hno j c hj] at ho; cases ho), hno, w1, n, gb0, hea0, heb0, ⟨dx, ws, upd_same, hkk, rl⟩, ⟨[], by rw [upd_ne (fun z => hab z.symm), upd_same], rfl, .nil⟩⟩
    generalize upd (upd H b (.dK [])) a (.ins (He.ga X.K cl.str) dx (putF f.str (.ref b) ws)) = H0 at N0
    obtain ⟨G1, s1, s2, RL⟩ := N0.lent hil
    refine ⟨⟨H0, G1⟩, _, G1, _, noEx, RL, h, fun vs H1 G1' ys g1 r1 h1 => ?_, fun _ _ _ _ _ _ _ z => z.elim⟩
    match ys, h1, r1 with
    | [.int m], h1, r1 =>
      obtain ⟨v, rfl, rv⟩ := r1.one
      rw [rv.int]
      obtain ⟨G2, g2⟩ : ∃ GG, Gr _ _ GG _ := ⟨_, gr_back0 N0.R.gl.gh s1 s2 g1⟩
      have N1 := N0.grow g2
      refine ⟨m, rfl, h1.1.1, h1.1.2, ?_⟩
      have h1 := h1.2
      refine ⟨fun j t σ H => t = m.toNat - j ∧ j ≤ m.toNat ∧ ∃ ρ kvs G, NumI X.K e i cl f fl a b ρ kvs G σ H ∧ i < ρ.length ∧ numsL { E with nx := u E } i at_ a cl f fl tt tk tv dr ((rngD 0 m).drop j) kvs ρ, ⟨m.toNat, by omega, Nat.zero_le _, ρ, [], G2, N1, hil, by rw [List.drop_zero]; exact h1⟩, ?_⟩
      rintro j t σ2 H2 ⟨rfl, hj2, ρ2, kvs, G3, N2, hil2, q2⟩
      obtain ⟨w2, w3, w4⟩ := walk_rng (K := X.K) (a := 0) (n := m) (G0 := G3) G3 H2 (Same.refl _) N2.R.gl.gh
      by_cases hlt : j < (rngD 0 m).length
      · have hlt2 : j < m.toNat := by rw [rngD_len] at hlt; exact hlt
        refine .inr ⟨w2 j hlt, fun σ H => ∃ ρ kvs G, NumI X.K e i cl f fl a b ρ kvs G σ H ∧ i < ρ.length ∧ numsL { E with nx := u E } i at_ a cl f fl tt tk tv dr ((rngD 0 m).drop (j + 1)) kvs ρ, fun σ' H' z => ⟨m.toNat - (j + 1), by omega, rfl, hlt2, z⟩, fun v H3 yy => ?_⟩
        obtain ⟨G4, x4, g4, hx4, rx4⟩ := w4 j v H3 hlt yy
        have N3 := N2.grow g4
        have ed : (rngD 0 m).drop j = x4 :: (rngD 0 m).drop (j + 1) := by
          rw [List.drop_eq_getElem_cons hlt]
          rw [List.getElem?_eq_getElem hlt] at hx4
          cases hx4
          rfl
        rw [ed] at q2
        -- the target is stored
        have N4 : NumI X.K e i cl f fl a b (ρ2.set at_ (some (.d x4))) kvs G4 (σ2.set at_ (some v)) H3 := by
          refine ⟨?_, fun z c hz => ?_, by rw [List.getElem?_set_ne (fun z => hne z.symm)]; exact N3.hs, N3.ga, N3.gb, N3.ea, N3.eb, N3.ha, N3.hb⟩
          · rw [List.set_comm _ _ (fun z => hne z.symm)]
            exact N3.R.setD rx4
          · rw [List.set_comm _ _ (fun z => hne z.symm)] at hz
            by_cases e1 : at_ = z
            · subst e1
              have hzl : at_ < (ρ2.set i none).length := by
                have := (List.getElem?_eq_some_iff.mp hz).1
                rwa [List.length_set] at this
              rw [List.getElem?_set_self hzl] at hz
              cases hz
              rfl
            · rw [List.getElem?_set_ne e1] at hz
              exact N3.no z c hz
        have hil4 : i < (ρ2.set at_ (some (.d x4))).length := by rw [List.length_set]; exact hil2
        obtain ⟨G5, s5, s6, RL5⟩ := N4.lent hil4
        refine ⟨⟨H3, G5⟩, _, G5, _, noEx, RL5, q2, fun bb H6 G6 g6 h6 => ?_, fun _ _ _ _ _ _ _ z => z.elim⟩
        obtain ⟨G7, g7⟩ : ∃ GG, Gr _ _ GG _ := ⟨_, gr_back0 N4.R.gl.gh s5 s6 g6⟩
        have N7 := N4.grow g7
        by_cases hbb : bb = true
        · rw [if_pos hbb] at h6 ⊢
          exact ⟨e, _, G7, _, N7.R, h6, ⟨fun _ _ _ _ _ z => z.elim, P.rt, fun _ _ _ _ _ z => z.elim, fun _ _ _ _ _ z => z.elim, P.ex⟩⟩
        · rw [if_neg hbb] at h6 ⊢
          obtain ⟨G8, s8, s9, RL8⟩ := N7.lent hil4
          refine ⟨⟨H6, G8⟩, _, G8, _, noEx, RL8, h6, fun vv H9 G9 cv g9 r9 h9 => ?_, fun _ _ _ _ _ _ _ z => z.elim⟩
          obtain ⟨hpl, h9⟩ := h9
          obtain ⟨G10, g10⟩ : ∃ GG, Gr _ _ GG _ := ⟨_, gr_back0 N7.R.gl.gh s8 s9 g9⟩
          have N10 := N7.grow g10
          have rvv : Rep X.K G10 vv cv.dat := by
            have key : ∀ z : DL.D, z.atom = true → RV X.K G9 H9 vv z → Rep X.K G10 vv z := fun z hz r => by
              cases r with
              | fz r => exact r.atom hz
              | _ => cases hz
            exact key _ hpl r9
          obtain ⟨dx2, ws2, hA, hwk, hwr⟩ := N10.ha
          refine ⟨_, N10.hs, a, _, dx2, _, .ref b, rfl, hA, (hc cl hcl).1, (hc cl hcl).2, by rw [lookup_putF, if_pos rfl], ?_⟩
          obtain ⟨G11, s11, s12, RL11⟩ := N10.lent hil4
          refine ⟨⟨H9, G11⟩, _, G11, _, noEx, RL11, h9, fun kk H12 G12 ck g12 r12 h12 => ?_, fun _ _ _ _ _ _ _ z => z.elim⟩
          obtain ⟨G13, g13⟩ : ∃ GG, Gr _ _ GG _ := ⟨_, gr_back0 N10.R.gl.gh s11 s12 g12⟩
          have N13 := N10.grow g13
          obtain ⟨qk, eq1, hlen, eq2⟩ := optK_some h12
          obtain ⟨wd, hB, hwd, hwdr⟩ := N13.hb
          have hlen2 : wd.length < sizeLine := by
            have := congrArg List.length hwd
            rw [List.length_map, List.length_map] at this
            rw [this]; exact hlen
          refine ⟨b, _, rfl, .inl ⟨wd, qk, hB, keyD_V r12 eq1, hlen2, rfl⟩, ?_⟩
          exact ⟨_, _, G13, N13.put hB (rvv.mono g13.gg), hil4, eq2⟩
      · have ei : j = m.toNat := by rw [rngD_len] at hlt; omega
        subst ei
        rw [show m.toNat = (rngD 0 m).length from (rngD_len 0 m).symm, List.drop_length] at q2
        obtain ⟨G4, R4⟩ := N2.end_ hil2
        exact .inl ⟨by rw [rngD_len] at w3; exact w3, e, _, G4, E, R4, q2, P⟩
end
def fSort2 : DN
  | [.lst xs], Q => match intsD xs with
    | some ns => ∀ ms : List Int, ms.Perm ns → ms.Pairwise (· ≤ ·) → Q (.nl (ms.map D.int))
    | none => match strsD xs with
      | some ss => ss.length < 64 ∧ ∀ ys : List Str, ys.Perm ss → PyProof.Rows.sortedS ys = true → Q (.nl (ys.map D.str))
      | none => match tupsD xs with
        | some l => fSortT l Q
        | none => False
  | _, _ => False
def rSort2 (K : PySem.W.Frag) : List V → Hp → VK → Prop := fun xs H Q => rSortedI K xs H Q ∨ (rSortedS K xs H Q ∨ rSortedT K xs H Q)
theorem cr_sort2 {X : Cx} : CallR X (.builtin "sorted") (rSort2 X.K) := CallR_or cr_sortedI (CallR_or cr_sortedS cr_sortedT)
theorem br_sort2 {K : PySem.W.Frag} : BrN K (rSort2 K) fSort2 := by
  intro G H vs xs QD Q s r h p
  match xs, r, h with
  | [.lst ys], r, h =>
    obtain ⟨v, rfl, rv⟩ := r.one
    have h : (match intsD ys with
      | some ns => ∀ ms : List Int, ms.Perm ns → ms.Pairwise (· ≤ ·) → QD (.nl (ms.map D.int))
      | none => match strsD ys with
        | some ss => ss.length < 64 ∧ ∀ ys : List Str, ys.Perm ss → PyProof.Rows.sortedS ys = true → QD (.nl (ys.map D.str))
        | none => match tupsD ys with
          | some l => fSortT l QD
          | none => False) := h
    cases hi : intsD ys with
    | some ns =>
      rw [hi] at h
      obtain ⟨a, rfl, hs⟩ := rv_ints s rv hi
      exact .inl ⟨a, ns, rfl, hs, fun ms q h1 h2 hq => p.nl s hq (RepL.ints ms) (h ms h1 h2)⟩
    | none =>
      rw [hi] at h
      cases hs2 : strsD ys with
      | none =>
        rw [hs2] at h
        cases ht : tupsD ys with
        | none => rw [ht] at h; exact h.elim
        | some l =>
          rw [ht] at h
          exact .inr (.inr (br_sortT s rv ht h p))
      | some ss =>
        rw [hs2] at h
        obtain ⟨a, rfl, hs⟩ := rv_strs s rv hs2
        exact .inr (.inl ⟨a, ss, rfl, hs, h.1, fun ms q h1 h2 hq => p.nl s hq (RepL.strs ms) (h.2 ms h1 h2)⟩)
end DL
namespace DL
open PySem PySem.Spec L2
variable [TP]
section
open PyProof.Rows
variable {X : Cx} {e : Expr} {es : List Expr} {ta : TA} {p pos : Pos}
omit [TP] in
theorem mk_endN {pins : List (Addr × Obj)} {σ : L2.St} {H1 H2 : Hp} {Q : XK} {hp hp2 h2 : Heap} {g1 g2 : Array GenState} {d1 d2 : Drawn} {t1 t2 : Nat} {os1 os2 : OsState} {a C d : Addr} {fs : List (Str × V)} (T : Raises X (.ref C)) (I1 : Inv X pins σ H1 ⟨hp, g1, d1, t1, os1⟩)
    (ha : hp.objs.size ≤ a) (k : ∀ b o, hp.get? b = some o → hp2.get? b = some o) (un : Un (frs X.stack) [] (upd H1 a (exo a C none)) H2 hp2 h2) (hok : HOk X.prog X.w H2 h2) (ho : os2 = os1) (hb : AllBare g2)
    (ea : H2 a = some (exo a C (some d))) (ed : H2 d = some (exd d fs)) (hd1 : H1 d = none) (q : Q (.ref C) (some d) (upd (del H2 a) d (.xd fs))) : L2N.MkP X pins σ Q (.ref a) ⟨h2, g2, d2, t2, os2⟩ := by
  obtain ⟨t0, G, J, kG, ge, hoe, na⟩ := mk_end0 (d2 := d2) (t2 := t2) I1 ha k un hok ho hb ea ed hd1
  exact ⟨a, _, _, ⟨G, g2, d2, t2, os2⟩, _, .ref C, some d, rfl, J, kG, ge, hoe, ⟨rfl, rfl, fun vs e => by cases e; rfl⟩, rfl, rfl, na, rfl, hb, T, q⟩
omit [TP] in
theorem pmk_oexN {CX : CXT} {x : Str} {C fI : Addr} {k : Nat} {fd : FuncData} {ps : List Str} {sp : Sp} {ds : List Value} {dvs : List V} (T : OexC X.K C) (iC : PySem.W.findIn X.K (.ref C) "__init__" = some (some (.ref fI))) (tI : PySem.W.typeIn X.K (.ref fI) = some (.type "function"))
    (F1 : FnOk X.prog X.w X.K X.mg X.base CX k fI fd ps sp) (hr : Room (k + 1) X.A) (hb : Binds X.K fd ps ds) (hd : Vals dvs ds) (hx : Passes CX X (fun _ _ _ => False)) (hg : Gl X x) (hm : X.mg x = some (.ref C)) (ha : PA X (e :: es) ta)
    (hdb : (x == ("__debug__" : Str)) = false := by decide) (he : starEach (e :: es) X.env = (false, eval e X.env) :: starEach es X.env := by rfl) (hpl : (backTo pos (starEach es X.env)).any (·.1) = false := by rfl) :
    L2N.PMk X (.Call (.Name x p) (e :: es) [] pos) (tMkO C sp dvs ta) := by
  intro pins s σ H Q I h
  obtain ⟨nm, q, N, bs, bm, sn, sub, ab, col, dd, k0, k1, k2, k3, k5, hC, hbm⟩ := T.cls
  refine wpAny_Call_Name_kw (ld_glob I hg hm ?_ hdb)
  refine PySem.W.callWith_K (h₀ := X.base) I.ok.mod.kin T.kC (thn (ha.run pos pins s σ H _ I h) fun us s1 ⟨vs, H1, I1, r1, hz, q1⟩ => ⟨I1.kIn, ?_⟩) he hpl
  show wpAny _ _ (call (.ref C) us) _ _ _
  obtain ⟨hp, g, dr, tk, os⟩ := s1
  have hsz : hp.objs.size ≤ hp.objs.size + 1 := Nat.le_succ _
  have hn : H1 (hp.objs.size + 1) = none := I1.hok.fresh hsz
  have hq := q1 (hp.objs.size + 1) hn
  have kk : ∀ b o, hp.get? b = some o → ((hp.push (PySem.W.kdv_tup us)).push (PySem.HandSPX.excO C hp.objs.size)).get? b = some o := fun b o e => Heap.get?_push_of_some _ (Heap.get?_push_of_some _ e)
  have hget : ((hp.push (PySem.W.kdv_tup us)).push (PySem.HandSPX.excO C hp.objs.size)).get? (hp.objs.size + 1) = some (PySem.HandSPX.excO C hp.objs.size) := by heap_get
  have I2 : Inv X pins σ (upd H1 (hp.objs.size + 1) (exo (hp.objs.size + 1) C none)) ⟨(hp.push (PySem.W.kdv_tup us)).push (PySem.HandSPX.excO C hp.objs.size), g, dr, tk, os⟩ :=
    I1.laid (t' := tk) (a := hp.objs.size + 1) (o := exo (hp.objs.size + 1) C none) (h' := (hp.push (PySem.W.kdv_tup us)).push (PySem.HandSPX.excO C hp.objs.size)) kk hsz (exo_ok hget)
  have r2 : Vals (V.ref (hp.objs.size + 1) :: (vs ++ dvs)) (Value.ref (hp.objs.size + 1) :: (us ++ ds)) := .cons rfl (r1.append hd)
  have hl : (Value.ref (hp.objs.size + 1) :: us ++ ds).length = ps.length := by
    have e := r2.length
    rw [F1.len _ _ _ _ hq] at e
    exact e.symm
  have hus : us.length ≤ sizeLine := by
    rw [← Paired.length r1, sizeLine_eq]
    omega
  refine wpAny_call (PySem.HandSPX.call_own F.excBase_ValueError (fun Y => PySem.HandSPX.refsVE_contains Y bm hbm) (I1.kIn _ _ hC) (PySem.W.looks_findIn I1.kIn iC) (fun self => PySem.W.bind_fn I1.kIn self tI) hus
    (codeAny_mono (F1.run _ X.stack _ _ ⟨Value.ref (hp.objs.size + 1) :: us, []⟩ (Value.ref (hp.objs.size + 1) :: (us ++ ds)) _ _ (fun _ _ _ => False) (hr.make C us []) (I2.env0.make C us []) (hb _ (Value.ref (hp.objs.size + 1) :: us) I2.kIn hl) r2 hq) fun r s' hq' => ?_))
  cases r with
  | error er => exact hx pins σ _ _ er s' I2 hq'
  | ok fl =>
    cases fl with
    | ret u =>
      obtain ⟨v, H2, os2, bare2, un2, hok2, rv, ev, d, fs, ea, ed, hd1, q2⟩ := hq'
      subst ev
      obtain ⟨h2, g2, d2, t2, os'⟩ := s'
      exact ⟨rv, mk_endN (raises_own T.exC T.tyC) I1 hsz kk un2 hok2 os2 bare2 ea ed hd1 q2⟩
    | next => exact False.elim hq'
    | brk => exact False.elim hq'
    | cont => exact False.elim hq'
end
theorem xobIn_ok {K : PySem.W.Frag} {x : Str} (h : xobIn x K = true) : ∃ nm q N bs bm sn sub ab col dd k0 k1 k2 k3 k5, K.lookup (He.ga K x) = some (excClassObj nm q (He.ga K x) N bs bm true sn sub ab col dd k0 k1 k2 k3 k5 "ValueError.__new__") ∧ PySem.HandSPX.refsVE bm = true := by
  unfold xobIn at h
  split at h
  · rename_i dd cd sl ho
    split at h
    · rename_i C' bm k0 k1 k2 k3 n k5 hm hs
      obtain ⟨h1, h⟩ := He.ba h
      obtain ⟨h2, h⟩ := He.ba h
      obtain ⟨h3, h⟩ := He.ba h
      obtain ⟨h4, h5⟩ := He.ba h
      have h1 := of_decide_eq_true h1
      have h2 := of_decide_eq_true h2
      have h3' : cd.hasDel = false := by
        cases e : cd.hasDel with
        | true => rw [e] at h3; cases h3
        | false => rfl
      obtain ⟨nm, bs, mro, ns, qn, hd, sn, sub, ab, col, del⟩ := cd
      dsimp only at hm h3' h4
      subst hm h3' h4 h2 h1
      have hsl : sl = #[k0, k1, k2, k3, some (.builtin "ValueError.__new__"), k5] := by
        rw [← Array.toArray_toList (xs := sl), hs]
      subst hsl
      exact ⟨nm, qn, ns, bs, bm, sn, sub, ab, col, dd, k0, k1, k2, k3, k5, ho, h5⟩
    · cases h
  · cases h
theorem xown_ok {K : PySem.W.Frag} {x : Str} (h : xownB x K = true) : OexC K (He.ga K x) ∧ PySem.W.typeIn K (.ref (He.ma K (He.ga K x) "__init__")) = some (.type "function") := by
  obtain ⟨h1, h⟩ := He.ba h
  obtain ⟨h2, h⟩ := He.ba h
  obtain ⟨h3, h⟩ := He.ba h
  obtain ⟨h4, h⟩ := He.ba h
  obtain ⟨h5, h6⟩ := He.ba h
  exact ⟨⟨xobIn_ok h1, He.eqO_ok h2, of_decide_eq_true h3, of_decide_eq_true h4, h5⟩, of_decide_eq_true h6⟩
def spE (K : PySem.W.Frag) (C : Addr) (f : Str) : Sp := fun vs H Q _ => vs.length = 2 ∧ ∃ (a : Addr) (v : V), vs = [.ref a, v] ∧ OexC K C ∧ PySem.W.findIn K (.ref C) f = some none ∧ H a = some (exo a C none) ∧
  ∀ dx, H dx = none → dx ≠ a → Q .non (upd (upd H dx (exd dx [(f, v)])) a (exo a C (some dx)))
structure ExI (K : PySem.W.Frag) (mg : Str → Option Value) (base : Heap) (P : Program) (w : World) (c : Cn) (f : Fd) (j : Nat) : Prop where
  ox : OexC K (He.ga K c.str)
  no : PySem.W.findIn K (.ref (He.ga K c.str)) f.str = some none
  gl : mg c.str = some (.ref (He.ga K c.str))
  gk : Glo K c
  ini : ∃ (fI : Addr) (fd : FuncData) (ps : List Str), PySem.W.findIn K (.ref (He.ga K c.str)) "__init__" = some (some (.ref fI)) ∧ PySem.W.typeIn K (.ref fI) = some (.type "function") ∧ FnOk P w K mg base (L2N.CX P w) j fI fd ps (spE K (He.ga K c.str) f.str) ∧ Binds K fd ps []
theorem init_E {P : Program} {w : World} {K : PySem.W.Frag} {mg : Str → Option Value} {base : Heap} {x qual : Str} {C : Addr} {params : Arguments} {scope : Scope} {f : Addr} {fd : FuncData} {a b fl : Str} {p1 p2 p3 p4 : Pos}
    (F : FunD K x qual params [.Assign [.Attribute (.Name a p1) fl p2] (.Name b p3) p4] scope [] [] f fd) (S : FnScope [a, b] [a, b] scope) (d1 : (a == ("__debug__" : Str)) = false := by decide) (d2 : (a == ("__classdict__" : Str)) = false := by decide)
    (d3 : (b == ("__debug__" : Str)) = false := by decide) (d4 : (b == ("__classdict__" : Str)) = false := by decide)
    (hs : ∀ env, swapsWith (.Name b p3) (some (.Attribute (.Name a p1) fl p2)) p4.line env = pure false := by intro _; rfl) : FnOk P w K mg base (L2N.CX P w) 1 f fd [a, b] (spE K C fl) := by
  refine F.ok S (fun vs H Q E h => h.1) fun cdv A outer s H vs Q E hr h => ?_
  obtain ⟨hl, ax, v, rfl, T, hno, hH, hq⟩ := h
  have va : Vis scope a := by rcases S.par a (by simp) with q | q; exact .inl q; exact .inr (.inl q)
  have vb : Vis scope b := by rcases S.par b (by simp) with q | q; exact .inl q; exact .inr (.inl q)
  refine ⟨_, pss_one (ps_ost (pe_var (i := 0) rfl va d1 d2) (pe_var (i := 1) rfl vb d3 d4) (hs _)), ?_⟩
  exact ⟨v, rfl, .ref ax, rfl, ax, C, rfl, T, hno, .inl ⟨hH, fun dx n ne => hq dx n ne⟩⟩
def dRaiseI (c : Cn) (f : Fd) (t : DTA) : DS := fun E ρ => t ρ (fun xs => xs.length = 1 ∧ ∀ x, xs = [x] → E.ex ⟨c, [(f, x)]⟩ ρ) fun x => E.ex x ρ
theorem ds_raiseI {X : Cx} {W : WX} {k j : Nat} {c : Cn} {f : Fd} {t : DTA} {e : Expr} {p pos pos2 : Pos} (B : Bd X W k) (T : ExI X.K X.mg X.base X.prog X.w c f j) (hj : j + 1 ≤ k) (ha : PA X [e] (tAF X.K W t)) (hg : Gl X c.str := by rfl) (hdb : (c.str == ("__debug__" : Str)) = false := by decide)
    (he : starEach [e] X.env = (false, eval e X.env) :: starEach [] X.env := by rfl) (hpl : (backTo pos (starEach [] X.env)).any (·.1) = false := by rfl) :
    PS X (.Raise (some (.Call (.Name c.str p) [e] [] pos)) none pos2) (sD X.K W (dRaiseI c f t)) := by
  obtain ⟨fI, fd, ps, h1, h2, F, hb⟩ := T.ini
  refine PS_conseq (L2N.ps_raise B.calm B.tk (pmk_oexN T.ox h1 h2 F (B.hr.mono hj) hb .nil (fun _ _ _ _ _ _ _ ⟨_, _, _, _, _, _, _, _, _, _, _, _, z⟩ => z.elim) hg T.gl ha hdb he hpl)) fun D σ H ⟨en, ρ, G, E, R, h, P⟩ => ?_
  refine ⟨en, ρ, G, _, _, R, h, fun vs H1 G1 xs g1 r1 ⟨hl, h1⟩ => ?_, fun x cls d H' G' g r q => P.ex ρ G' σ H' x cls d (R.grow g) r q⟩
  match xs, hl with
  | [x], _ =>
    cases r1 with
    | @cons v vs x xs rv rn =>
      cases rn
      refine ⟨by simp, fun a ha1 => ⟨rfl, a, v, rfl, T.ox, T.no, upd_same, fun dx hd hne => ⟨rfl, dx, [(f.str, v)], upd_same, ?_, ?_, ?_⟩⟩⟩
      · rw [upd_ne hne, upd_same]
      · rw [upd_ne hne] at hd; exact hd
      · have hd1 : H1 dx = none := by rw [upd_ne hne] at hd; exact hd
        have eH : upd (del (upd (upd (upd H1 a (exo a (He.ga X.K c.str) none)) dx (exd dx [(f.str, v)])) a (exo a (He.ga X.K c.str) (some dx))) a) dx (.xd [(f.str, v)]) = upd H1 dx (.xd [(f.str, v)]) := by
          funext b
          by_cases e1 : b = dx
          · rw [e1, upd_same, upd_same]
          · rw [upd_ne e1, upd_ne e1]
            by_cases e2 : b = a
            · rw [e2, del_same, ha1]
            · rw [del_ne e2, upd_ne e2, upd_ne e1, upd_ne e2]
        rw [eH]
        have g2 := gr_frz (o := .xd [(f.str, v)]) g1.gh hd1
        exact P.ex ρ _ σ _ _ _ _ (R.grow (g1.trans g2)) (RX.own (fs := [(f, x)]) T.gk upd_same rfl (.cons (rv.mono g2.gg) .nil)) (h1 x rfl)
structure CatC (K : PySem.W.Frag) (mg : Str → Option Value) (c : Cn) : Prop where
  gl : mg c.str = some (.ref (He.ga K c.str))
  ex : ∀ x ∈ exAll, Glo K x → PySem.W.exmOne K (.ref (He.ga K x.str)) (.ref (He.ga K c.str)) = some (x.sub c)
theorem rx_rep {K : PySem.W.Frag} {G H : Hp} {cls : Value} {d : Option Addr} {x : Exn} {a : Addr} (r : RX K G H cls d x) : Rep K G (.ref a) (.exn ⟨a, cls, d⟩ x.cls x.fs) := by
  cases r with
  | plain g0 => exact .exn0 (k := ⟨a, _, none⟩) g0 rfl rfl
  | own g0 h1 h2 h3 => exact .exn1 (k := ⟨a, _, some _⟩) g0 rfl rfl h1 h2 h3
theorem rx_glo {K : PySem.W.Frag} {G H : Hp} {cls : Value} {d : Option Addr} {x : Exn} (r : RX K G H cls d x) : Glo K x.cls := by cases r <;> assumption
theorem rx_cls {K : PySem.W.Frag} {G H : Hp} {cls : Value} {d : Option Addr} {x : Exn} (r : RX K G H cls d x) : cls = .ref (He.ga K x.cls.str) := by cases r <;> rfl
def dTry1 (c : Cn) (i : Nat) (rb : DS) (rs : XI → DS) : DS := fun E ρ => rb { E with ex := fun x ρ' => x.cls ∈ exAll ∧ if x.cls.sub c = true then ∀ k : XI, rs k { nx := fun ρ2 => E.nx (ρ2.set i none), rt := E.rt, bk := fun ρ2 => E.bk (ρ2.set i none), ct := fun ρ2 => E.ct (ρ2.set i none) } (ρ'.set i (some (.d (.exn k x.cls x.fs)))) else E.ex x ρ' } ρ
theorem Rel.clear {K : PySem.W.Frag} {e : Ent} {ρ : Rho} {G H : Hp} {σ : L2.St} (R : Rel K e ρ G σ H) (i : Nat) : Rel K e (ρ.set i none) G (σ.set i none) H := by
  have R2 := R.forget i
  have ne : ∀ (j : Nat) (c : C), (ρ.set i none)[j]? = some (some c) → i ≠ j := fun j c h e => by
    subst e
    cases Nat.lt_or_ge i ρ.length with
    | inl z => rw [List.getElem?_set_self z] at h; cases h
    | inr z => rw [List.getElem?_eq_none (by rw [List.length_set]; exact z)] at h; cases h
  refine ⟨R2.gl, R2.tq, fun j c h => ?_, fun j l c c' v hj h1 h2 o1 o2 s1 => ?_, by rw [List.length_set, List.length_set, R.len], fun j l c c' a h1 h2 m1 o2 => by
    have z := R2.inn j l c c' a h1 h2 m1 o2
    exact ⟨by rw [List.getElem?_set_ne (ne l c' h2)]; exact z.1, z.2⟩⟩
  · obtain ⟨v, h1, h2⟩ := R2.at_ j c h
    exact ⟨v, by rw [List.getElem?_set_ne (ne j c h)]; exact h1, h2⟩
  · rw [List.getElem?_set_ne (ne j c h1)] at s1
    rw [List.getElem?_set_ne (ne l c' h2)]
    exact R2.apart j l c c' v hj h1 h2 o1 o2 s1
theorem Bd.tr {X : Cx} {W W' : WX} {k : Nat} (B : Bd X W k) {pn : List (Addr × Obj)} {xe : Value → Shared → Prop} (tk : L2N.Takes (X.tr pn xe) W') (po : PassesOwn (model X.prog X.w) X.A X.env xe) : Bd (X.tr pn xe) W' k := ⟨B.calm, tk, po, B.hr, B.nd⟩
def noX : WX := fun _ _ _ _ => False
section
variable {X : Cx} {W : WX} {k i : Nat} {n : Str} {c : Cn} {body suite : List Stmt} {b₀ : Stmt} {np pos pos' : Pos} {rb : DS} {rs : XI → DS}
theorem ds_try1 (i : Nat) (B : Bd X W k) (T : CatC X.K X.mg c) (hb : ∀ (W' : WX) (pn : List (Addr × Obj)) (xe : Value → Shared → Prop), Bd (X.tr pn xe) W' k → PSs (X.tr pn xe) body (sD X.K W' rb))
    (hsu : ∀ (a : Addr) (oe : Obj) (cls : Value) (d : Option Addr) (pn : List (Addr × Obj)), L2N.Zn cls d oe → (∃ vs, oe.data = .fields vs) → PSs (X.suite a ((a, oe) :: pn)) (b₀ :: suite) (sD X.K noX (rs ⟨a, cls, d⟩)))
    (hs : X.stack = X.env :: X.outer := by rfl) (hf : X.env.frame = some X.env.locals := by rfl) (hN : X.N[i]? = some n := by rfl) (hln : X.env.kindOf n = some .local := by rfl) (hg : Gl X c.str := by rfl) (hdb : (c.str == ("__debug__" : Str)) = false := by decide) :
    PS X (.Try body [.ExceptHandler (some (.Name c.str np)) (some n) (b₀ :: suite) pos'] [] [] pos) (sD X.K W (dTry1 c i rb rs)) := by
  refine PS_conseq (L2N.ps_try_as (i := i) hs hf B.nd hN hln (c := .ref (He.ga X.K c.str)) ⟨hg, hdb, .inl T.gl⟩ B.tk (tb := fun W' => sD X.K W' rb) (fun W' pn xe tk po => hb W' pn xe (B.tr tk po)) hsu) fun D σ H ⟨en, ρ, G, E, R, h, P⟩ => ?_
  refine ⟨en, ρ, G, _, R, h, ⟨P.nx, P.rt, P.bk, P.ct, fun ρ' G' σ' H' x cls d R' rx ⟨hm, q⟩ => ?_⟩⟩
  obtain rfl := rx_cls rx
  refine ⟨x.cls.sub c, T.ex _ hm (rx_glo rx), fun hb1 a ha => ?_, fun hb1 => ?_⟩
  · rw [if_pos hb1] at q
    refine ⟨en, _, G', _, R'.setD (rx_rep rx), q ⟨a, _, d⟩, ⟨fun ρ2 G2 σ2 H2 R2 q2 => P.nx _ G2 _ _ (R2.clear i) q2, P.rt, fun ρ2 G2 σ2 H2 R2 q2 => P.bk _ G2 _ _ (R2.clear i) q2, fun ρ2 G2 σ2 H2 R2 q2 => P.ct _ G2 _ _ (R2.clear i) q2, fun _ _ _ _ _ _ _ _ _ z => z.elim⟩⟩
  · rw [if_neg (by rw [hb1]; simp)] at q
    exact P.ex _ _ _ _ _ _ _ R' rx q
end
def xatOf (k : XI) (c : Cn) (f : Fd) : D → (C → Prop) → Prop
  | .exn k2 c2 fs, Q => k2 = k ∧ c2 = c ∧ optQ (fs.lookup f) Q
  | _, _ => False
def dXat (k : XI) (c : Cn) (f : Fd) (t : DTE) : DTE := fun ρ Q E => t ρ (fun v => xatOf k c f v.dat Q) E
structure XisC (K : PySem.W.Frag) (c : Cn) : Prop where
  cl : (PySem.W.clsIn K (He.ga K c.str)).isSome = true
  ga : PySem.W.findIn K (.ref (He.ga K c.str)) "__getattribute__" = some (some (.builtin "BaseException.__getattribute__"))
  gt : PySem.W.findIn K (.ref (He.ga K c.str)) "__getattr__" = some none
  hs : PySem.W.subIn K (.ref (He.ga K c.str)) (.type "BaseException") = some true
  ha : PySem.W.findIn K (.ref (He.ga K c.str)) "__class__" = some (some (.builtin "object.__class__"))
  hn : PySem.W.specialIn K (.builtin "object.__class__") "__get__" = some (some (.builtin "getset_descriptor.__get__"))
  ht : PySem.W.takesIn K (.builtin "object.__class__") = some true
  hm : PySem.W.mroIn K (He.ga K c.str) (.type "object") = some true
def Ask.str : Ask → Str
  | .own c => c.str
  | .ve => "ValueError"
def Ask.v (K : PySem.W.Frag) : Ask → V
  | .own c => .ref (He.ga K c.str)
  | .ve => .ty "ValueError"
structure AskC (K : PySem.W.Frag) (mg : Str → Option Value) (cs : List Cn) (y : Ask) : Prop where
  gl : mg y.str = some (y.val K) ∨ (mg y.str = none ∧ y = .ve)
  ob : ∀ c ∈ cs, Glo K c → XisC K c ∧ PySem.W.kitOne K (.ref (He.ga K c.str)) (y.val K) = some (y.of c)
def xisOf (k : XI) (cs : List Cn) (y : Ask) : D → (C → Prop) → Prop
  | .exn k2 c2 _, Q => k2 = k ∧ c2 ∈ cs ∧ Q (.d (.bl (y.of c2)))
  | _, _ => False
theorem xisOf_un {k : XI} {cs : List Cn} {y : Ask} {x : D} {Q : C → Prop} (h : xisOf k cs y x Q) : ∃ c fs, x = .exn k c fs ∧ c ∈ cs ∧ Q (.d (.bl (y.of c))) := by
  cases x <;> first | exact h.elim | skip
  obtain ⟨rfl, h⟩ := h
  exact ⟨_, _, rfl, h⟩
def dXis (k : XI) (cs : List Cn) (y : Ask) (t : DTE) : DTE := fun ρ Q E => t ρ (fun v => xisOf k cs y v.dat Q) E
def rIsX (K : PySem.W.Frag) (D a : Addr) (d : Option Addr) : List V → Hp → VK → Prop := fun xs H Q => ∃ (c : V) (cv : Value) (b : Bool), xs = [.ref a, c] ∧ (∀ dd, d = some dd → ∃ ws, H dd = some (.xd ws)) ∧ (∀ u, RelV c u → u = cv) ∧ PySem.W.kitOne K (.ref D) cv = some b ∧ Q (.bl b) H
theorem call_isX {X : Cx} {a D : Addr} {c : Cn} {d : Option Addr} {oe : Obj} {pn : List (Addr × Obj)} (C : XisC X.K c) (eD : D = He.ga X.K c.str) (hz : L2N.Zn (.ref D) d oe) (hf : ∃ vs, oe.data = .fields vs) : CallR (X.suite a ((a, oe) :: pn)) (.builtin "isinstance") (rIsX X.K D a d) := by
  intro pins s σ H xs us Q I r h
  obtain ⟨c, cv, b, rfl, hd, hcv, e, q⟩ := h
  cases r with
  | cons rx rr =>
    cases rr with
    | cons rt rr =>
      cases rr
      cases rx
      have ec := hcv _ rt
      subst ec
      obtain ⟨hget, _⟩ := I.pin (a, oe) (List.mem_append.mpr (.inl List.mem_cons_self))
      obtain ⟨vs, hv⟩ := hf
      have hod : ∃ od : Option Obj, match d, od with | some dd, some o => s.heap.get? dd = some o | none, none => True | _, _ => False := by
        cases d with
        | none => exact ⟨none, trivial⟩
        | some dd =>
          obtain ⟨ws, hw⟩ := hd dd rfl
          have hx : ObjOk X.prog X.w H s.heap dd (.xd ws) := I.hok dd _ hw
          obtain ⟨mA, hns, _⟩ := hx
          obtain ⟨od, ho, _⟩ := lookIn_ns hns
          exact ⟨some od, ho⟩
      obtain ⟨od, hod⟩ := hod
      have J : PySem.W.InstAt s.heap a oe D od := by
        obtain ⟨oc, odd, oda, osl⟩ := oe
        obtain ⟨h1, h2, _⟩ := hz
        dsimp only at h1 h2 hv
        subst h1 h2 hv
        refine ⟨hget, rfl, rfl, ?_⟩
        cases odd with
        | none => cases od with
          | none => trivial
          | some o => exact hod.elim
        | some dd => cases od with
          | none => exact hod.elim
          | some o => exact hod
      subst eD
      exact PySem.W.kia_one (PySem.W.kitx_exc C.cl C.ga C.gt C.hs C.ha C.hn C.ht C.hm) I.kIn J e (fun z => nomatch z) fun tk => ⟨.bl b, H, I.kept (t' := tk) fun _ _ z => z, rfl, q⟩
section
variable {X : Cx} {a : Addr} {oe : Obj} {cls : Value} {d : Option Addr} {pn : List (Addr × Obj)} {e : Expr} {te : DTE} {p p2 pos : Pos} {cs : List Cn} {y : Ask}
theorem dxis (hz : L2N.Zn cls d oe) (hf : ∃ vs, oe.data = .fields vs) (T : AskC X.K X.mg cs y) (hi : X.mg "isinstance" = none) (he : PE (X.suite a ((a, oe) :: pn)) e (tB X.K noX te)) (hg : Gl X "isinstance" := by rfl) (hgx : Gl X y.str := by rfl) (hdx : (y.str == ("__debug__" : Str)) = false := by decide)
    (hs : starEach [e, .Name y.str p2] X.env = (false, eval e X.env) :: starEach [.Name y.str p2] X.env := by rfl) (hs2 : starEach [.Name y.str p2] X.env = (false, eval (.Name y.str p2) X.env) :: starEach [] X.env := by rfl) (hpl : (backTo pos (starEach [.Name y.str p2] X.env)).any (·.1) = false := by rfl) :
    PE (X.suite a ((a, oe) :: pn)) (.Call (.Name "isinstance" p) [e, .Name y.str p2] [] pos) (tD X.K noX (dXis ⟨a, cls, d⟩ cs y te)) := by
  have hn : PE (X.suite a ((a, oe) :: pn)) (.Name y.str p2) (L2.tC (y.v X.K)) := by
    rcases T.gl with g | ⟨g, rfl⟩
    · cases y with
      | own c => exact pe_glob hgx g rfl hdx
      | ve => exact pe_glob hgx g rfl hdx
    · exact pe_bltn hgx g PyProof.Rows.Boot.«ValueError» rfl (by decide) hdx
  have key : ∀ {G H : Hp} {v : V} {co : C} {c' : Cn} {fs : List (Fd × D)}, Same G H → RV X.K G H v co.dat → co.dat = .exn ⟨a, cls, d⟩ c' fs → v = .ref a ∧ (cls = .ref (He.ga X.K c'.str) ∧ Glo X.K c') ∧ ∀ dd, d = some dd → ∃ ws, H dd = some (.xd ws) := by
    intro G H v co c' fs s r e
    rw [e] at r
    cases r with
    | fz r =>
      cases r with
      | exn0 g0 e1 e2 => exact ⟨rfl, ⟨e1, g0⟩, fun dd z => by rw [show d = none from e2] at z; cases z⟩
      | exn1 g0 e1 e2 e3 e4 e5 => exact ⟨rfl, ⟨e1, g0⟩, fun dd z => by rw [show d = some _ from e2] at z; cases z; exact ⟨_, s.at e3⟩⟩
  by_cases hc : ∃ c, c ∈ cs ∧ Glo X.K c ∧ cls = .ref (He.ga X.K c.str)
  · obtain ⟨c, hm, hgc, rfl⟩ := hc
    refine PE_conseq (pe_callB (call_isX (T.ob c hm hgc).1 rfl hz hf) hg hi bt_isinstance (pa_cons he (pa_cons hn pa_nil hs2) hs) (by decide) (by decide) hs hpl) fun σ H Q ⟨en, ρ, G, QD, QE, R, ht, hq, hx⟩ => ?_
    refine ⟨en, ρ, G, _, QE, R, ht, fun v H1 G1 co g1 r1 hh => ?_, hx⟩
    obtain ⟨c', fs, hd, hm', h1⟩ := xisOf_un hh
    obtain ⟨rfl, ⟨e1, hgc'⟩, e2⟩ := key g1.gh r1 hd
    have e3 : He.ga X.K c.str = He.ga X.K c'.str := Value.ref.inj e1
    have e4 : y.of c = y.of c' := by
      have k1 := (T.ob c hm hgc).2
      have k2 := (T.ob c' hm' hgc').2
      rw [← e3, k1] at k2
      exact Option.some.inj k2
    refine ⟨y.v X.K, y.val X.K, y.of c, rfl, e2, fun u hu => ?_, (T.ob c hm hgc).2, (VPost.grow hq g1).dat g1.gh (.bl _) (by rw [e4]; exact h1)⟩
    cases y <;> exact hu
  · have cn : CallR (X.suite a ((a, oe) :: pn)) (.builtin "isinstance") (fun _ _ _ => False) := fun _ _ _ _ _ _ _ _ _ h => h.elim
    refine PE_conseq (pe_callB cn hg hi bt_isinstance (pa_cons he (pa_cons hn pa_nil hs2) hs) (by decide) (by decide) hs hpl) fun σ H Q ⟨en, ρ, G, QD, QE, R, ht, hq, hx⟩ => ?_
    refine ⟨en, ρ, G, _, QE, R, ht, fun v H1 G1 co g1 r1 hh => ?_, hx⟩
    obtain ⟨c', fs, hd, hm', h1⟩ := xisOf_un hh
    obtain ⟨_, ⟨e1, hgc⟩, _⟩ := key g1.gh r1 hd
    exact hc ⟨c', hm', hgc, e1⟩
end
theorem xisB_ok {K : PySem.W.Frag} {c : Cn} (h : xisB c.str K = true) : XisC K c := by
  obtain ⟨h1, h⟩ := He.ba h
  obtain ⟨h2, h⟩ := He.ba h
  obtain ⟨h3, h⟩ := He.ba h
  obtain ⟨h4, h5⟩ := He.ba h
  obtain ⟨h5, h6, h7, h8⟩ := tyOwn_ok h5
  exact ⟨h1, He.eqO_ok h2, He.eqO_ok h3, of_decide_eq_true h4, h5, h6, h7, h8⟩
theorem gloB_of {K : PySem.W.Frag} {c : Cn} {b : Bool} (h : (!gloB K c || b) = true) (g : Glo K c) : b = true := by
  have e : gloB K c = true := decide_eq_true g
  rw [e] at h
  exact h
theorem catB_ok {K : PySem.W.Frag} {y : Cn} (h : catB y K = true) : ∀ x ∈ exAll, Glo K x → PySem.W.exmOne K (.ref (He.ga K x.str)) (.ref (He.ga K y.str)) = some (x.sub y) := fun x hx g => of_decide_eq_true (gloB_of (List.all_eq_true.mp h x hx) g)
theorem askB_ok {K : PySem.W.Frag} {y : Ask} (h : askB y K = true) : ∀ c ∈ exAll, Glo K c → XisC K c ∧ PySem.W.kitOne K (.ref (He.ga K c.str)) (y.val K) = some (y.of c) := fun c hc g => by
  obtain ⟨h1, h2⟩ := He.ba (gloB_of (List.all_eq_true.mp h c hc) g)
  exact ⟨xisB_ok h1, of_decide_eq_true h2⟩
def enumD : Nat → List D → List D
  | _, [] => []
  | n, x :: xs => .tup [.int n, x] :: enumD (n + 1) xs
def itE : D → (List D → Prop) → Prop
  | .lst xs, Q => Q (enumD 0 xs)
  | _, _ => False
def dEnum (te : DTE) : DI := fun ρ Q E => te ρ (fun c => itE c.dat Q) E
end DL
namespace DL
open PySem PySem.Spec L2
variable [TP]
def joinD : D → D → (C → Prop) → Prop
  | .str a, .lst xs, Q => withS (strsD xs) fun ys => (ys.map (·.length)).sum + ys.length * a.length ≤ 16777216 ∧ Q (.d (.str (Txt.join a ys)))
  | _, _, _ => False
def partD : D → D → (C → Prop) → Prop
  | .str a, .str b, Q => ((b.length == 0) = false ∧ a.length ≤ sizeLine) ∧ Q (.d (.tup [.str (Txt.partition a b).1, .str (Txt.partition a b).2.1, .str (Txt.partition a b).2.2]))
  | _, _, _ => False
def splitD : D → D → (C → Prop) → Prop
  | .str a, .str b, Q => ((b.length == 0) = false ∧ a.length + 2 ≤ sizeLine) ∧ Q (.nl ((Txt.split a b).map D.str))
  | _, _, _ => False
def startsD : D → D → (C → Prop) → Prop
  | .str a, .str b, Q => Q (.d (.bl (Txt.startswith a b)))
  | _, _, _ => False
def upperD : D → (C → Prop) → Prop
  | .str a, Q => a.length ≤ 5592405 ∧ Q (.d (.str (Txt.upper a)))
  | _, _ => False
def isStrD : D → Prop
  | .str _ => True
  | _ => False
def dTm1 (f : D → D → (C → Prop) → Prop) (to te : DTE) : DTE := fun ρ Q E => to ρ (fun z => isStrD z.dat ∧ te ρ (fun c => f z.dat c.dat Q) E) E
def dTm0 (f : D → (C → Prop) → Prop) (to : DTE) : DTE := fun ρ Q E => to ρ (fun z => f z.dat Q) E
def dLm (f : List D → List D) (i : Nat) : DS := fun E ρ => ownL ρ i fun xs => E.nx (ρ.set i (some (.nl (f xs))))
section
variable {X : Cx} {W : WX} {pos pos' apos : Pos}
def dAppPop (i j : Nat) (te : DTE) : DS := fun E ρ => ownL ρ i fun xs => ownL ρ j fun ys => te ρ (fun c => isInt (fun k => i ≠ j ∧ (0 ≤ k ∧ k < 2 ^ 62) ∧ optQ (ys[k.toNat]?) fun y => xs.length < sizeLine ∧ E.nx ((ρ.set j (some (.nl (ys.eraseIdx k.toNat)))).set i (some (.nl (xs ++ [y.dat]))))) c.dat) fun x => E.ex x ρ
theorem RepL.erase {K : PySem.W.Frag} {G : Hp} : ∀ {vs : List V} {xs : List D} (n : Nat), RepL K G vs xs → RepL K G (vs.eraseIdx n) (xs.eraseIdx n)
  | _, _, _, .nil => .nil
  | _, _, 0, .cons _ r => r
  | _, _, n + 1, .cons h r => .cons h (RepL.erase n r)
end
end DL
namespace DL
open PySem PySem.Spec L2
variable [TP]
section
variable {K : PySem.W.Frag} {e : Ent} {ρ : Rho} {G H G' H' : Hp} {σ : L2.St} {i : Nat} {c0 c1 : C} {a : Addr}
theorem RC.back {c : C} {v : V} (g : Gr G (less H a) G' H') (r : RC K G H v c) (h : c.own = true → ∀ b, (v = .ref b ∨ b ∈ c.inn) → b ≠ a) : RC K G' H' v c :=
  r.move g.gg fun b u ho hb n hb2 hu => by
    have hne := h ho b hb
    refine ⟨?_, g.hh.at (by rw [less_ne hne]; exact hb2) hu⟩
    cases e : G' b with
    | none => rfl
    | some o =>
      rcases g.new b (by rw [e]; simp) with w | w
      · exact absurd n w
      · rw [less_ne hne, hb2] at w; cases w
theorem Rel.back (R : Rel K e ρ G σ H) (hr : ρ[i]? = some (some c0)) (ho : c0.own = true) (hs : σ[i]? = some (some (.ref a))) (g : Gr G (less H a) G' H') (hn : RC K G' H' (.ref a) c1) (o1 : c1.own = true) (hi : c1.inn = [] := by rfl) : Rel K e (ρ.set i (some c1)) G' σ H' := by
  obtain ⟨v, h1, h2, h3⟩ := R.at_ i c0 hr
  rw [hs] at h1
  cases h1
  have hea : e.H a = none := h3 ho a (.inl rfl)
  have hil : i < ρ.length := (List.getElem?_eq_some_iff.mp hr).1
  have hok := h2.okO ho
  refine ⟨⟨g.gh, ⟨Same.trans (H1 := less H a) (fun b o hb => by rw [less_ne (ne_of_none hb hea)]; exact R.gl.old.s b o hb) g.hh.s, fun h => g.hh.tq (tab_less hok (R.gl.old.tq h))⟩, R.gl.og.trans g.gg, fun b hb => ?_⟩, g.hh.tq (tab_less hok R.tq), fun j d hj => ?_, fun j k d d' v hjk h1 h2 p1 p2 s1 => ?_, by rw [List.length_set, R.len], fun j k d d' b h1 h2 m1 p2 => ?_⟩
  · rcases g.new b hb with z | z
    · exact R.gl.new b z
    · by_cases hba : b = a
      · rw [hba]; exact .inr hea
      · rw [less_ne hba] at z
        exact .inr (R.gl.old.free z)
  · by_cases hij : i = j
    · subst hij
      rw [List.getElem?_set_self hil] at hj
      cases hj
      exact ⟨.ref a, hs, hn, fresh_of (fun b eb => by cases eb; exact hea) hi⟩
    · rw [List.getElem?_set_ne hij] at hj
      obtain ⟨w, q1, q2, q3⟩ := R.at_ j d hj
      refine ⟨w, q1, q2.back g fun hod b hb z => ?_, q3⟩
      subst z
      rcases hb with hb | hb
      · exact R.apart i j c0 d (.ref b) hij hr hj ho hod hs (by rw [q1, hb])
      · exact (R.inn j i d c0 b hj hr hb ho).1 hs
  · by_cases hij : i = j
    · subst hij
      rw [List.getElem?_set_self hil] at h1
      rw [List.getElem?_set_ne hjk] at h2
      exact R.apart i k c0 d' v hjk hr h2 ho p2 s1
    · rw [List.getElem?_set_ne hij] at h1
      by_cases hik : i = k
      · subst hik
        exact R.apart j i d c0 v hjk h1 hr p1 ho s1
      · rw [List.getElem?_set_ne hik] at h2
        exact R.apart j k d d' v hjk h1 h2 p1 p2 s1
  · by_cases hij : i = j
    · subst hij
      rw [List.getElem?_set_self hil] at h1
      cases h1
      rw [hi] at m1
      cases m1
    · rw [List.getElem?_set_ne hij] at h1
      by_cases hik : i = k
      · subst hik
        rw [List.getElem?_set_self hil] at h2
        cases h2
        rw [hi]
        exact ⟨(R.inn j i d c0 b h1 hr m1 ho).1, fun _ => by simp⟩
      · rw [List.getElem?_set_ne hik] at h2
        exact R.inn j k d d' b h1 h2 m1 p2
end
def selfO (c : Cn) (ρ : Rho) (P : Addr → Prop) : Prop := match ρ[(0 : Nat)]? with
  | some (some (.no a c' [])) => c' = c ∧ P a
  | _ => False
def dBase (c : Cn) (fi : FI) (t : DTA) : DS := fun E ρ => selfO c ρ fun a => t ρ (fun xs => fi xs (fun fl => E.nx (ρ.set 0 (some (.no a c fl)))) fun _ => False) fun x => E.ex x ρ
abbrev FP := List D → (List D → D → Prop) → Prop
inductive RPL (K : PySem.W.Frag) (G : Hp) (a : Addr) (ys : List D) : Nat → List V → List D → Prop
  | own {vs : List V} {xs : List D} : RepL K G vs xs → RPL K G a ys 0 (.ref a :: vs) (.lst ys :: xs)
  | frz {i : Nat} {v : V} {x : D} {vs : List V} {xs : List D} : Rep K G v x → RPL K G a ys i vs xs → RPL K G a ys (i + 1) (v :: vs) (x :: xs)
section
variable {K : PySem.W.Frag} {G G' H : Hp} {a : Addr} {ys : List D}
theorem RPL.mono (e : Same G G') : ∀ {i : Nat} {vs : List V} {xs : List D}, RPL K G a ys i vs xs → RPL K G' a ys i vs xs
  | _, _, _, .own r => .own (r.mono e)
  | _, _, _, .frz h r => .frz (h.mono e) (RPL.mono e r)
theorem RPL.length : ∀ {i : Nat} {vs : List V} {xs : List D}, RPL K G a ys i vs xs → vs.length = xs.length
  | _, _, _, .own r => by rw [List.length_cons, List.length_cons, r.length]
  | _, _, _, .frz _ r => by rw [List.length_cons, List.length_cons, RPL.length r]
theorem RPL.lt : ∀ {i : Nat} {vs : List V} {xs : List D}, RPL K G a ys i vs xs → i < xs.length
  | _, _, _, .own r => by simp
  | _, _, _, .frz _ r => by have := RPL.lt r; simpa using this
theorem RPL.at : ∀ {i : Nat} {vs : List V} {xs : List D}, RPL K G a ys i vs xs → vs[i]? = some (.ref a)
  | _, _, _, .own r => rfl
  | _, _, _, .frz _ r => by simpa using RPL.at r
theorem RPL.get : ∀ {i m : Nat} {vs : List V} {xs : List D} {x : D}, RPL K G a ys i vs xs → m ≠ i → xs[m]? = some x → ∃ v, vs[m]? = some v ∧ Rep K G v x
  | _, 0, _, _, _, .own r, hm, _ => absurd rfl hm
  | _, m + 1, _, _, x, .own r, _, hx => r.get (i := m) (x := x) (by simpa using hx)
  | _, 0, _, _, _, .frz h _, _, hx => by simp at hx; subst hx; exact ⟨_, rfl, h⟩
  | _, m + 1, _, _, x, .frz _ r, hm, hx => RPL.get (m := m) (x := x) r (by omega) (by simpa using hx)
end
def fEndsP (i : Nat) (a : Addr) (QD : List D → D → Prop) : DEnds := { nx := fun ρ => ∃ ys, ρ[i]? = some (some (.np a ys)) ∧ QD ys .non, rt := fun c ρ => ∃ x, c = .d x ∧ ∃ ys, ρ[i]? = some (some (.np a ys)) ∧ QD ys x, ex := fun _ _ => False }
def rho0P (n i : Nat) (a : Addr) (xs : List D) : Rho := (rho0 n xs).set i (match xs[i]? with | some (.lst ys) => some (.np a ys) | _ => none)
def dCallP (m : Nat) (f : FP) (t : DTA) : DS := fun E ρ => ownL ρ m fun _ => t ρ (fun xs => f xs fun ys _ => E.nx (ρ.set m (some (.nl ys)))) fun x => E.ex x ρ
def dAppCallP (k m : Nat) (f : FP) (t : DTA) : DS := fun E ρ => k ≠ m ∧ ownL ρ k fun zs => ownL ρ m fun _ => t ρ (fun xs => f xs fun ys x => zs.length < sizeLine ∧ E.nx ((ρ.set m (some (.nl ys))).set k (some (.nl (zs ++ [x]))))) fun x => E.ex x ρ
def ownAt (ρ : Rho) (i : Nat) (P : Addr → List D → Prop) : Prop := match ρ[i]? with
  | some (some (.np a xs)) => P a xs
  | _ => False
def dAppP (i : Nat) (t : DTE) : DS := fun E ρ => ownAt ρ i fun a xs => t ρ (fun c => xs.length < sizeLine ∧ E.nx (ρ.set i (some (.np a (xs ++ [c.dat]))))) fun x => E.ex x ρ
def dPopIxP (j i : Nat) (k : Int) : DS := fun E ρ => ownAt ρ i fun a xs => i ≠ j ∧ match xs.getLast? with
  | some z => optQ (match z with | .tup ys => ixD ys k | _ => none) fun c => E.nx ((ρ.set i (some (.np a xs.dropLast))).set j (some (.d c.dat)))
  | none => False
def dAugS (i : Nat) (tk tv : DTE) : DS := fun E ρ => ownL ρ i fun xs => tk ρ (fun k => isInt (fun k => 0 ≤ k ∧ ∃ z : Int, xs[k.toNat]? = some (.int z) ∧ tv ρ (fun c => isInt (fun y => E.nx (ρ.set i (some (.nl (xs.set k.toNat (.int (z + y))))))) c.dat) fun x => E.ex x ρ) k.dat) fun x => E.ex x ρ
def dRem (i : Nat) (t : DTE) : DS := fun E ρ => ownL ρ i fun xs => t ρ (fun c => isInt (fun k => ∃ ns : List Int, xs = ns.map D.int ∧ k ∈ ns ∧ E.nx (ρ.set i (some (.nl ((ns.erase k).map D.int))))) c.dat) fun x => E.ex x ρ
section
variable {X : Cx} {W : WX} {e k : Expr} {te tk : DTE} {pos pos' apos : Pos}
theorem RepL.dropLast {K : PySem.W.Frag} {G : Hp} : ∀ {vs : List V} {xs : List D}, RepL K G vs xs → RepL K G vs.dropLast xs.dropLast
  | _, _, .nil => .nil
  | _, _, .cons _ .nil => .nil
  | _, _, .cons h (.cons h2 r) => .cons h (RepL.dropLast (.cons h2 r))
end
end DL
namespace DL
open PySem PySem.Spec L2
variable [TP]
def mulL : C → D → (C → Prop) → Prop
  | .nl xs, .int n, Q => (0 ≤ n ∧ n ≤ 100000 ∧ xs.length ≤ 100) ∧ Q (.nl (List.replicate n.toNat xs).flatten)
  | _, _, _ => False
def dMulL (ta tb : DTE) : DTE := fun ρ Q E => ta ρ (fun x => tb ρ (fun y => mulL x y.dat Q) E) E
theorem RepL.rep {K : PySem.W.Frag} {G : Hp} {vs : List V} {xs : List D} (r : RepL K G vs xs) : ∀ n : Nat, RepL K G (List.replicate n vs).flatten (List.replicate n xs).flatten
  | 0 => .nil
  | n + 1 => by
    rw [List.replicate_succ, List.replicate_succ, List.flatten_cons, List.flatten_cons]
    exact r.append (RepL.rep r n)
def isNl (c : C) (P : List D → Prop) : Prop := match c with
  | .nl xs => P xs
  | _ => False
section
variable {X : Cx} {W : WX} {a b e o : Expr} {ta tb te to : DTE} {pos pos' apos : Pos}
def dAppX (to te : DTE) : DS := fun E ρ => to ρ (fun c => isNl c fun xs => xs.length < sizeLine ∧ te ρ (fun _ => E.nx ρ) fun x => E.ex x ρ) fun x => E.ex x ρ
end
def unpL (is : List Nat) : D → Rho → (Rho → Prop) → Prop
  | .lst xs, ρ, Q => xs.length = is.length ∧ Q (setAll ρ is xs)
  | _, _, _ => False
def dUnpL (is : List Nat) (t : DTE) : DS := fun E ρ => t ρ (fun c => unpL is c.dat ρ E.nx) fun x => E.ex x ρ
end DL
namespace DL
open PySem PySem.Spec L2
variable [TP]
section
variable {P : Program} {w : World} {K : PySem.W.Frag} {mg : Str → Option Value} {base : Heap}
def roAt (i : Nat) (a : Addr) (wv : List V) (ρ : Rho) : Prop := ∃ ys, ρ[i]? = some (some (.ro a wv ys))
def fEndsR (i : Nat) (a : Addr) (wv : List V) (QD : C → Prop) (QE : EX) : DEnds := { nx := fun ρ => roAt i a wv ρ ∧ QD (.d .non), rt := fun c ρ => (c.own = false ∧ roAt i a wv ρ) ∧ QD c, ex := fun x ρ => roAt i a wv ρ ∧ QE x }
theorem Gr.put {G H G' H' : Hp} {a : Addr} {o : HO} (g : Gr G (less H a) G' H') (h : H a = some o) (h' : H' a = some o) (n' : G' a = none) (ok : okO (some o) = true := by rfl) : Gr G H G' H' := by
  refine ⟨⟨fun b u hb => ?_, fun z => g.hh.tq (tab_less (by rw [h]; exact ok) z)⟩, g.gg, g.gh, fun b hb => ?_⟩
  · by_cases e : b = a
    · subst e; rw [h] at hb; exact .inl (by rw [h', hb])
    · exact g.hh.s b u (by rw [less_ne e]; exact hb)
  · rcases g.new b hb with z | z
    · exact .inl z
    · by_cases e : b = a
      · subst e; exact absurd n' hb
      · rw [less_ne e] at z; exact .inr z
end
def rdQ (ρ : Rho) (m : Nat) (P : Prop) : Prop := match ρ[m]? with
  | some (some (.nl _)) => P
  | some (some (.ro _ _ _)) => P
  | some (some (.cp _ _)) => P
  | _ => False
def dCallR (m : Nat) (f : FS) (t : DTA) : DTE := fun ρ Q E => rdQ ρ m (t ρ (fun xs => f xs Q E) E)
def dMakeR (m : Nat) (c : Cn) (f : FI) (t : DTA) : DTE := fun ρ Q E => rdQ ρ m (t ρ (fun xs => f xs (fun fl => Q (.d (.obj c fl))) E) E)
end DL
namespace DL
open PySem PySem.Spec L2 NdefX LamX
variable [TP]
def slotsD (ρ : Rho) : List Nat → Option (List D)
  | [] => some []
  | j :: js => match ρ[j]? with
    | some (some (.d x)) => (slotsD ρ js).map (x :: ·)
    | _ => none
def pickQ : D → (List Int → Prop) → Prop
  | .lst xs, Q => withI (intsD xs) Q
  | _, _ => False
def pickB (fs : FS) (js : List Nat) (E : DEnds) (ρ : Rho) (ns : List Int) : Prop := ns ≠ [] ∧ ∃ (cs : List D) (key : Int → List Int), slotsD ρ js = some cs ∧ (∀ i ∈ ns, fs (.int i :: cs) (fun c => c = .d (.tup ((key i).map .int))) noEx) ∧
  ∀ i ∈ ns, (∀ j ∈ ns, HT.lexLt (key j) (key i) = false) → E.rt (.d (.int i)) ρ
def pickR (fs : FS) (js : List Nat) (tw : DTE) : DS := fun E ρ => tw ρ (fun c => pickQ c.dat (pickB fs js E ρ)) fun x => E.ex x ρ
def dPick (i : Nat) (fs : FS) (js : List Nat) (tw : DTE) : DS := fun E ρ => i < ρ.length ∧ pickR fs js tw E (ρ.set i none)
section
variable {X : Cx} {W : WX} {k j n i : Nat} {st : Stmt} {e : Expr} {tw : DTE} {fs : FS} {js : List Nat} {fr : List Str} {y name : Str} {c P : Addr}
theorem gr_ndef {G H H1 : Hp} (on : TP.on = true) (s : Same G H) (eN : ExtN H H1) (nn : ∀ b, H1 b = none → H b = none) (T1 : TabsN [(TP.P, fun _ _ => TP.q)] H1) : Gr G H G H1 := by
  have sm : Same H H1 := fun b o hb => by
    cases ht : isT o with
    | false => exact .inl (eN b o hb (fun ps z => by subst z; cases ht))
    | true => exact .inr ⟨rfl, fun z => by rw [nn b z] at hb; cases hb⟩
  exact ⟨⟨sm, fun _ _ => (T1 _ List.mem_cons_self).to⟩, Same.refl _, s.trans sm, fun _ z => .inl z⟩
end
structure PickT (K : PySem.W.Frag) (base : Heap) (mg : Str → Option Value) (d : He.Defn := pickD) (q : Str := q0) : Prop where
  on : TP.on = true ∧ TP.q = q
  tb : TabB base mg (He.codeOf K d) TP.P
section
variable {P : Program} {w : World} {K : PySem.W.Frag} {mg : Str → Option Value} {base : Heap}
theorem fn_Dc {x qual : Str} {params : Arguments} {body : List Stmt} {scope : Scope} {dvs : List V} {kws : List (Str × V)} {d : He.Defn} {fd : FuncData} {N ps : List Str} {k n : Nat} {fs : FS} {r : DS}
    (F : FunD K x qual params body scope dvs kws (He.fAd K d) fd) (S : FnScope N ps scope) (hn : ps.length = n)
    (hb : ∀ (A : Around) (outer : List Env) (s : Shared) (H : Hp) (E : XK), Bd (cxOf (L2N.CX P w) P w K mg base N qual scope (He.fAd K d) (.ref (He.codeOf K d)) A outer s H E) (fun cls d _ H' => E cls d H') k →
      PSs (cxOf (L2N.CX P w) P w K mg base N qual scope (He.fAd K d) (.ref (He.codeOf K d)) A outer s H E) body (sD K (fun cls d _ H' => E cls d H') r))
    (hsp : ∀ xs QD QE, xs.length = n → fs xs QD QE → r (fEnds QD QE) (rho0 N.length xs)) : FnOk P w K mg base (L2N.CX P w) (k + 1) (He.fAd K d) fd ps (spD K n fs) := by
  obtain ⟨oc, od, dV, kV, doc, pm, an, cdv, ct, osl, rfl, lk, hcd, _, _⟩ := F.ex
  obtain ⟨c, rfl⟩ := He.codeIn_ref hcd
  have ec : He.codeOf K d = c := He.codeOf_eq lk rfl
  refine fn_of lk hcd S (fun vs H Q E h => by rw [h.1, hn]) fun A outer s H vs Q E hr h => ?_
  obtain ⟨hvn, G, xs, QD, QE, sm, rl, hf, hq, hx⟩ := h
  have q := hb A outer s H E
  rw [ec] at q
  refine ⟨sD K (fun cls d _ H' => E cls d H') r, q ⟨rfl, L2N.takes_of rfl rfl rfl rfl, passes_of rfl, hr, S.nd⟩, ?_⟩
  refine ⟨⟨H, G⟩, rho0 N.length xs, G, fEnds QD QE, rel_start sm rl, hsp xs QD QE (by rw [← rl.length, hvn]) hf, ?_⟩
  have gr : ∀ {ρ : Rho} {G' : Hp} {σ' : L2.St} {H' : Hp}, Rel K ⟨H, G⟩ ρ G' σ' H' → Gr G H G' H' := fun {ρ G' σ' H'} R => ⟨R.gl.old, R.gl.og, R.gl.gh, R.gl.new⟩
  exact ⟨fun ρ G' σ' H' R q => hq .non H' G' (.d .non) (gr R) (.d .non) (fun z => by cases z) q, fun ρ G' σ' H' v c R rc fr q => hq v H' G' c (gr R) rc fr q, fun _ _ _ _ _ z => z.elim, fun _ _ _ _ _ z => z.elim, fun ρ G' σ' H' y cls d R rx q => hx y cls d H' G' (gr R) rx q⟩
end
end DL
namespace DL
open PySem PySem.Spec PyProof.Rows L2
variable [TP]
def defD (kvs : List (Key × D)) (k : Key) (x : D) : List (Key × D) := match valD kvs k with
  | some _ => kvs
  | none => putD kvs k x
def dSetd (i : Nat) (tk tv : DTE) : DS := fun E ρ => ownK ρ i fun kvs => tk ρ (fun k => tv ρ (fun c => optK (keyD k.dat) fun q => kvs.length < sizeLine ∧ E.nx (ρ.set i (some (.nd (defD kvs q c.dat))))) fun x => E.ex x ρ) fun x => E.ex x ρ
def fMax3 : DN
  | [.int i, .int j, .int k], Q => Q (.d (.int (max (max i j) k)))
  | _, _ => False
def fMaxTu : DN
  | [.tup xs], Q => withI (intsD xs) fun ns => ns ≠ [] ∧ ∀ m, m ∈ ns → (∀ y ∈ ns, y ≤ m) → Q (.d (.int m))
  | _, _ => False
def cLtT : DCmp
  | .tup xs, .tup ys, Q => withI (intsD xs) fun ns => withI (intsD ys) fun ms => Q (HT.lexLt ns ms)
  | _, _, _ => False
end DL
namespace DL
open PySem PySem.Spec L2
variable [TP]
def dRetNT (i j : Nat) : DS := fun E ρ => ownL ρ i fun xs => slotD ρ j fun y => ∀ a, E.rt (.nt a xs y) ρ
def dIsNT (i : Nat) : DTE := fun ρ Q _ => match ρ[i]? with
  | some (some (.nt _ _ _)) => Q (.d (.bl true))
  | _ => False
def dLenNT (i : Nat) : DTE := fun ρ Q _ => match ρ[i]? with
  | some (some (.nt _ _ _)) => Q (.d (.int 2))
  | _ => False
def dUnpNT (i j k : Nat) : DS := fun E ρ => match ρ[i]? with
  | some (some (.nt _ xs y)) => E.nx (((ρ.set i none).set j (some (.nl xs))).set k (some (.d y)))
  | _ => False
def dExt (i : Nat) (t : DTE) : DS := fun E ρ => ownL ρ i fun xs => t ρ (fun c => isNl c fun ys => xs.length + ys.length ≤ sizeLine ∧ E.nx (ρ.set i (some (.nl (xs ++ ys))))) fun x => E.ex x ρ
def rev1 : List D → (List D → Prop) → Prop
  | [.lst ys], Q => Q ys.reverse
  | _, _ => False
def dRev (t : DTA) : DI := fun ρ Q E => t ρ (fun xs => rev1 xs Q) E
section
variable {X : Cx} {W : WX} {tg e : Expr} {ta : DTA} {K : PySem.W.Frag}
theorem walk_rev {G0 : Hp} {a : Addr} {vs : List V} {xs : List D} (h : SqL K G0 a vs) (r : RepL K G0 vs xs) : WalkD K (Itv K a vs.length) xs.reverse G0 := fun G H s1 s2 => by
  have h2 : SqL K H a vs := (s1.trans s2).seq h
  have hl := r.length
  rw [List.length_reverse]
  refine ⟨fun i hi => ?_, by show vs.length ≤ xs.length; omega, fun i v H' hi y => ?_⟩
  · obtain ⟨x, hx⟩ := sq_at (xs := xs) (i := vs.length - 1 - i) (by omega)
    obtain ⟨v, hv, _⟩ := r.get hx
    exact ⟨by omega, vs, v, h2, hv⟩
  · obtain ⟨rfl, hy⟩ := y
    obtain ⟨x, hx, rx⟩ := r.getV (hy vs h2)
    refine ⟨G, x, Gr.refl s2, ?_, rx.mono s1⟩
    rw [List.getElem?_reverse (by omega), ← hl]
    exact hx
theorem di_rev {p pos : Pos} (hm : X.mg "reversed" = none) (ha : PA X [e] (tAF X.K W ta)) (hg : Gl X "reversed" := by rfl) (hs : starEach [e] X.env = [(false, eval e X.env)] := by rfl) : PI X tg (.Call (.Name "reversed" p) [e] [] pos) (tI X.K W (dRev ta)) := by
  refine ⟨fun pins s σ H R I ⟨en, ρ, G, QD, QE, Rl, ht, hq, hx⟩ => (pi_reversed hg hm ha hs).run pins s σ H R I ?_⟩
  refine ⟨en, ρ, G, _, QE, Rl, ht, fun vs H1 G1 xs g1 r1 h1 => ?_, hx⟩
  match xs, h1, r1 with
  | [.lst ys], h1, r1 =>
    cases r1 with
    | cons ra r2 =>
      cases r2
      cases ra with
      | lst hq2 rl => exact ⟨_, _, rfl, g1.gh.seq hq2, hq _ _ G1 _ g1 (walk_rev hq2 rl) h1⟩
end
def dIdx (to tx : DTE) : DTE := fun ρ Q E => to ρ (fun c => itL c.dat fun xs => tx ρ (fun d =>
  SeqAt.shaped (D.lst xs).py = true ∧ SeqAt.shaped d.dat.py = true ∧ ∃ (j : Nat) (z : D), xs[j]? = some z ∧ PyData.eqv z.py d.dat.py = true ∧ (∀ (m : Nat) (z' : D), m < j → xs[m]? = some z' → PyData.eqv z'.py d.dat.py = false) ∧ Q (.d (.int j))) E) E
def stepD : DUn
  | .lst xs, Q => ∀ is : List Nat, Q (.nl (is.filterMap (xs[·]?)))
  | _, _ => False
end DL
namespace DL
open PySem PySem.Spec L2
variable [TP]
theorem Lists.get {K : PySem.W.Frag} {G H : Hp} : ∀ {as : List Addr} {xss : List (List D)} {i : Nat} {xs : List D}, Lists K G H as xss → xss[i]? = some xs → ∃ a vs, as[i]? = some a ∧ G a = none ∧ H a = some (.lst vs) ∧ RepL K G vs xs
  | _, _, _, _, .nil, e => by simp at e
  | _, _, 0, _, .cons n h r _, e => by simp at e; subst e; exact ⟨_, _, rfl, n, h, r⟩
  | _, _, i + 1, xs, .cons _ _ _ l, e => by
    obtain ⟨a, vs, h1, h2⟩ := Lists.get (i := i) (xs := xs) l (by simpa using e)
    exact ⟨a, vs, by simpa using h1, h2⟩
theorem Lists.write {K : PySem.W.Frag} {G H : Hp} {a : Addr} {vs : List V} {ys : List D} (r : RepL K G vs ys) : ∀ {as : List Addr} {xss : List (List D)} {i : Nat}, as.Nodup → as[i]? = some a → Lists K G H as xss → Lists K G (upd H a (.lst vs)) as (xss.set i ys)
  | _, _, _, _, e, .nil => by simp at e
  | _, _, 0, nd, e, .cons n h r2 l => by
    simp at e
    subst e
    rw [List.nodup_cons] at nd
    exact .cons n upd_same r (l.keep (Same.refl _) fun b o hb nb h _ => ⟨nb, by rw [upd_ne fun z => nd.1 (by rw [← z]; exact hb)]; exact h⟩)
  | _, _, i + 1, nd, e, .cons n h r2 l => by
    rw [List.nodup_cons] at nd
    have e2 := (List.getElem?_cons_succ).symm.trans e
    exact .cons n (by rw [upd_ne fun z => nd.1 (by rw [z]; exact List.mem_of_getElem? e2)]; exact h) r2 (Lists.write r nd.2 e2 l)
def ownN (ρ : Rho) (i : Nat) (P : List Addr → List (List D) → Prop) : Prop := match ρ[i]? with
  | some (some (.nn as xss)) => P as xss
  | _ => False
def isI (x : D) (P : Int → Prop) : Prop := match x with
  | .int j => P j
  | _ => False
def dItN (i : Nat) (tk : DTE) : DTE := fun ρ Q E => ownN ρ i fun _ xss => tk ρ (fun k => isI k.dat fun j => ∃ xs, ixD xss j = some xs ∧ Q (.nl xs)) E
def dAppN (i : Nat) (tk t : DTE) : DS := fun E ρ => ownN ρ i fun as xss => tk ρ (fun k => isI k.dat fun j => ∃ n xs, ixN xss.length j = some n ∧ xss[n]? = some xs ∧ xs.length < sizeLine ∧ t ρ (fun c => E.nx (ρ.set i (some (.nn as (xss.set n (xs ++ [c.dat])))))) fun x => E.ex x ρ) fun x => E.ex x ρ
def dStoreN (i : Nat) (tk tl tv : DTE) : DS := fun E ρ => tv ρ (fun c => ownN ρ i fun as xss => tk ρ (fun k => isI k.dat fun j => ∃ n xs, ixN xss.length j = some n ∧ xss[n]? = some xs ∧
  tl ρ (fun l => isI l.dat fun m => ∃ o, ixN xs.length m = some o ∧ E.nx (ρ.set i (some (.nn as (xss.set n (xs.set o c.dat)))))) fun x => E.ex x ρ) fun x => E.ex x ρ) fun x => E.ex x ρ
def dLcNL (tg : Tg) (t : DTE) (ρ : Rho) (Q : C → Prop) : List D → List (List D) → Prop
  | [], xss => ∀ as : List Addr, as.length = xss.length → Q (.nn as xss)
  | x :: xs, xss => tgSet tg x ρ fun ρ' => t ρ' (fun z => isNl z fun ys => xss.length < sizeLine ∧ dLcNL tg t ρ Q xs (xss ++ [ys])) noEx
def dLcN (tg : Tg) (it : DI) (t : DTE) (vs : List Nat) : DTE := fun ρ Q E => it ρ (fun xs => dLcNL tg t (wipeR ρ vs) Q xs []) E
def isBox (x : D) (P : D → Prop) : Prop := match x with
  | .box y => P y
  | _ => False
def dUnb (t : DTE) : DTE := fun ρ Q E => t ρ (fun c => isBox c.dat fun y => Q (.d y)) E
def dFzN (i : Nat) (t : DS) : DS := fun E ρ => match ρ[i]? with
  | some (some c) => isBox c.dat fun y => t E (ρ.set i (some (.d y)))
  | _ => False
def dForOL (tg : Tg) (i : Nat) (a : Addr) (all : List D) (b : DS) (E : DEnds) : List D → Rho → Prop
  | [], ρ => ρ[i]? = some (some (.np a all)) ∧ E.nx (ρ.set i (some (.nl all)))
  | x :: xs, ρ => ρ[i]? = some (some (.np a all)) ∧ tgSet tg x ρ fun ρ' => b { E with nx := dForOL tg i a all b E xs, ct := dForOL tg i a all b E xs, bk := fun ρ => ρ[i]? = some (some (.np a all)) ∧ E.nx (ρ.set i (some (.nl all))) } ρ'
def dForO (tg : Tg) (i : Nat) (b : DS) : DS := fun E ρ => ownL ρ i fun xs => ∀ a, dForOL tg i a xs b E xs (ρ.set i (some (.np a xs)))
end DL
namespace DL
open PySem PySem.Spec L2
end DL
namespace DL
open PySem PySem.Spec L2
theorem law_end [TP] {K : PySem.W.Frag} {H : Hp} {a : Addr} {ns : List Int} (hq : TabQ H) (hl : ns.length ≤ 63) (hb : ∀ z ∈ ns, Builtin.Int.intBits z ≤ 1048576) (hS : SqL K H a (ns.map V.int)) : spD K 1 spLaw [.ref a] H (fun v _ => v = .bl true) fun _ _ _ => False := by
  refine ⟨rfl, H, [.lst (ns.map .int)], fun c => c = .d (.bl true), fun _ => False, ⟨Same.refl H, hq⟩, .cons (.lst hS (RepL.ints ns)) .nil, ⟨ns, rfl, ⟨hl, fun z hz => Nat.le_trans (big_bits z) (hb z hz)⟩, rfl⟩, fun v H' G' c g r f q => ?_, fun _ _ _ _ _ _ _ z => z.elim⟩
  subst q
  cases r with
  | d h => cases h; rfl
@[reducible] def tpK (K : PySem.W.Frag) (d : He.Defn := pickD) (q : Str := q0) : TP := ⟨true, (He.cT K d).2, q⟩
def EndB (law : PySem.W.OpenLaw) (w : World) (mg : Str → Option Value) (f : Addr) (heap : Heap) (k : Nat) (par : Str) (K : PySem.W.Frag) (T : TP) (cs : List (Addr × Addr)) : Prop :=
  ∃ fd : FuncData, K.In heap ∧ (∀ p ∈ cs, heap.get? p.2 = some { cls := .none, data := .fields #[] }) ∧ (∀ p ∈ cs, K.lookup p.2 = none) ∧ (∀ p ∈ cs, PySem.W.CodeHd heap p.1 p.2) ∧ (∀ (s : Shared) (arg : Value), BindsTo s fd ⟨[arg], []⟩ [(par, arg)]) ∧ (∀ H : Hp, (∀ p ∈ cs, H p.2 = some (.tbl #[])) → @TabQ T H) ∧
    ∀ base : Heap, K.In base → base.Ns mainGlobals mg → (∀ p ∈ cs, LamX.TabB base mg p.1 p.2) → FnOk law.prog w K mg base (L2N.CX law.prog w) k f fd [par] (@spD T K 1 spLaw)
theorem walk_b {law : PySem.W.OpenLaw} {prog : Program} {names : List Str} {X0 : (Str → Option Value) → Heap → Prop} {says : World → Heap → Prop} {def_ : DefRec} {k : Nat} {par : Str} (h1 : law.most = some 63) (h3 : def_.params.defaults = []) (h4 : Room k callerA)
    (all : ∀ (w : World) (mg : Str → Option Value) (f : Addr) (heap : Heap), says w heap → heap.Ns mainGlobals mg → mg def_.name = some (.ref f) → ∃ (K : PySem.W.Frag) (T : TP) (cs : List (Addr × Addr)), EndB law w mg f heap k par K T cs) :
    PySem.W.WalkO prog names X0 says law.row.toRowW def_ [] (fun g vs => PySem.call g vs) := by
  refine LamX.walk_ofTsE (x := par) (CX := fun w => L2N.CX law.prog w) h1 (by decide) h3 h4 (fun w mg fa h Y ns e => ?_) fun w H s e s' hq => ?_
  · obtain ⟨K, T, cs, fd, KX, t1, t2, t3, hb, hq, hF⟩ := all w mg fa h Y ns e
    exact ⟨K, KX, fd, cs, _, t1, t2, t3, hb, fun H a ns hl hbits hT hS => @law_end T K H a ns (hq H hT) hl hbits hS, hF⟩
  · obtain ⟨_, _, _, _, _, _, _, _, _, _, _, _, z⟩ := hq
    exact z.elim
theorem end1 {d : He.Defn} {q : Str} {law : PySem.W.OpenLaw} {w : World} {mg : Str → Option Value} {f : Addr} {heap : Heap} {k : Nat} {par : Str} {K : PySem.W.Frag} {fd : FuncData} {fa : List He.Fa} {fn : List He.DefD} {ex : List ExB} (hK : K.In heap) (c : SaysB fa fn ex [d] heap K) (hb : ∀ (s : Shared) (arg : Value), BindsTo s fd ⟨[arg], []⟩ [(par, arg)])
    (hF : ∀ base : Heap, K.In base → base.Ns mainGlobals mg → @PickT (tpK K d q) K base mg d q → FnOk law.prog w K mg base (L2N.CX law.prog w) k f fd [par] (@spD (tpK K d q) K 1 spLaw)) : EndB law w mg f heap k par K (tpK K d q) [He.cT K d] := by
  refine ⟨fd, hK, fun p hp => ?_, fun p hp => ?_, fun p hp => ?_, hb, fun H hT _ => LamX.TabS.nil (hT _ List.mem_cons_self), fun base h1 h2 h5 => hF base h1 h2 (@PickT.mk (tpK K d q) K base mg d q ⟨rfl, rfl⟩ (h5 _ List.mem_cons_self))⟩ <;> obtain rfl := List.mem_singleton.mp hp
  · exact c.empty _ List.mem_cons_self
  · exact c.out _ List.mem_cons_self
  · exact PySem.W.codeHd_of_K hK (c.hd _ List.mem_cons_self)
end DL
namespace L2
open PySem PySem.Spec PyProof.Rows
structure NCl where
  c : Value
  i : Nat
  ts : Addr → Value → Option Addr → TS
inductive NOk (X : Cx) : List ExceptHandler → List NCl → Prop
  | nil : NOk X [] []
  | cons {x n : Str} {c : Value} {i : Nat} {ts : Addr → Value → Option Addr → TS} {b0 : Stmt} {bs : List Stmt} {p1 p2 : Pos} {hs : List ExceptHandler} {l : List NCl} (at_ : X.N[i]? = some n) (loc : X.env.kindOf n = some .local) (nm : Names X x c)
      (suite : ∀ (p : Addr) (o : Obj) (cls : Value) (d : Option Addr) (pn : List (Addr × Obj)), L2N.Zn cls d o → (∃ vs, o.data = .fields vs) → PSs (X.suite p ((p, o) :: pn)) (b0 :: bs) (ts p cls d)) (r : NOk X hs l) :
      NOk X (.ExceptHandler (some (.Name x p1)) (some n) (b0 :: bs) p2 :: hs) (⟨c, i, ts⟩ :: l)
end L2
namespace DL
open PySem PySem.Spec L2
variable [TP]
inductive DClOk (X : Cx) : List ExceptHandler → List (Cn × Nat × (XI → DS)) → Prop
  | nil : DClOk X [] []
  | cons {n : Str} {c : Cn} {i : Nat} {rs : XI → DS} {b0 : Stmt} {bs : List Stmt} {p1 p2 : Pos} {hs : List ExceptHandler} {l : List (Cn × Nat × (XI → DS))} (T : CatC X.K X.mg c) (at_ : X.N[i]? = some n) (loc : X.env.kindOf n = some .local) (gl : Gl X c.str) (db : (c.str == ("__debug__" : Str)) = false)
      (suite : ∀ (p : Addr) (o : Obj) (cls : Value) (d : Option Addr) (pn : List (Addr × Obj)), L2N.Zn cls d o → (∃ vs, o.data = .fields vs) → PSs (X.suite p ((p, o) :: pn)) (b0 :: bs) (sD X.K noX (rs ⟨p, cls, d⟩))) (r : DClOk X hs l) :
      DClOk X (.ExceptHandler (some (.Name c.str p1)) (some n) (b0 :: bs) p2 :: hs) ((c, i, rs) :: l)
def nclOf (K : PySem.W.Frag) (l : List (Cn × Nat × (XI → DS))) : List NCl := l.map fun y => ⟨.ref (He.ga K y.1.str), y.2.1, fun p cls d => sD K noX (y.2.2 ⟨p, cls, d⟩)⟩
theorem DClOk.ok {X : Cx} {hs : List ExceptHandler} {l : List (Cn × Nat × (XI → DS))} (h : DClOk X hs l) : NOk X hs (nclOf X.K l) := by
  induction h with
  | nil => exact .nil
  | cons T at_ loc gl db suite _ ih => exact .cons at_ loc ⟨gl, db, .inl T.gl⟩ suite ih
theorem DClOk.all {X : Cx} {hs : List ExceptHandler} {l : List (Cn × Nat × (XI → DS))} (h : DClOk X hs l) : ∀ y ∈ l, CatC X.K X.mg y.1 := by
  induction h with
  | nil => exact fun _ z => by cases z
  | cons T _ _ _ _ _ _ ih =>
    intro y hy
    rcases List.mem_cons.mp hy with rfl | hy
    · exact T
    · exact ih y hy
end DL
namespace DL
open PySem PySem.Spec PyProof.Rows L2
end DL
namespace L2
open PySem PySem.Spec PySem.Calls PyProof.Rows Builtin
end L2
namespace DL
open PySem PySem.Spec L2
end DL
namespace DL
open PySem PySem.Spec L2
end DL
namespace DL
open PySem PySem.Spec L2
variable [TP]
def mclOf (K : PySem.W.Frag) (l : List (Cn × DS)) : List (Value × (Addr → Value → Option Addr → TS)) := l.map fun y => (.ref (He.ga K y.1.str), fun _ _ _ => sD K noX y.2)
inductive MClOk (X : Cx) : List ExceptHandler → List (Cn × DS) → Prop
  | nil : MClOk X [] []
  | cons {c : Cn} {rs : DS} {b0 : Stmt} {bs : List Stmt} {p1 p2 : Pos} {hs : List ExceptHandler} {l : List (Cn × DS)} (T : CatC X.K X.mg c) (gl : Gl X c.str) (db : (c.str == ("__debug__" : Str)) = false)
      (suite : ∀ (p : Addr) (o : Obj) (cls : Value) (d : Option Addr) (pn : List (Addr × Obj)), L2N.Zn cls d o → (∃ vs, o.data = .fields vs) → PSs (X.suite p ((p, o) :: pn)) (b0 :: bs) (sD X.K noX rs)) (r : MClOk X hs l) :
      MClOk X (.ExceptHandler (some (.Name c.str p1)) none (b0 :: bs) p2 :: hs) ((c, rs) :: l)
theorem MClOk.ok {X : Cx} {hs : List ExceptHandler} {l : List (Cn × DS)} (h : MClOk X hs l) : L2N.HdsOk X hs (mclOf X.K l) := by
  induction h with
  | nil => exact .nil
  | cons T gl db suite _ ih => exact .cons ⟨gl, db, .inl T.gl⟩ suite ih
theorem MClOk.all {X : Cx} {hs : List ExceptHandler} {l : List (Cn × DS)} (h : MClOk X hs l) : ∀ y ∈ l, CatC X.K X.mg y.1 := by
  induction h with
  | nil => exact fun _ z => by cases z
  | cons T _ _ _ _ ih =>
    intro y hy
    rcases List.mem_cons.mp hy with rfl | hy
    · exact T
    · exact ih y hy
end DL
namespace HotX
open PySem PySem.Spec PyProof.Rows
end HotX
namespace L2H
open PySem PySem.Spec PyProof.Rows L2 HotX
end L2H
namespace L2H
open PySem PySem.Spec PyProof.Rows L2 HotX
abbrev blkH (X : Cx) (s : Shared) (H : Hp) (scope : Scope) (cenv : Env) (fp : List Addr) : Cx := { X with s_0 := s, H_0 := H, env := cenv, outer := X.stack, ex := fp, fn := fun x => scope.names.lookup x == some .cell, xe := fun _ _ => False }
end L2H
namespace DL
open PySem PySem.Spec L2 L2H
end DL
namespace HotX
open PySem PySem.Spec PyProof.Rows
section
variable {prog : Program} {w : World} {A : Around} {E : Value → Shared → Prop} {s : Shared}
theorem HotAt.keep {x1 : Addr} {h h' : Heap} (hot : HotAt A x1 h) (k : ∀ o, h.get? x1 = some o → h'.get? x1 = some o) : HotAt A x1 h' := by
  obtain ⟨hh, o1, vs1, e1, d1, c1⟩ := hot
  exact ⟨hh, o1, vs1, k _ e1, d1, c1⟩
end
end HotX
namespace L2H
open PySem PySem.Spec PyProof.Rows L2 HotX
end L2H
namespace DL
open PySem PySem.Spec L2 L2H HotX PyProof.Rows
variable [TP]
section
variable {X : Cx} {W : WX}
structure BdH (X : Cx) (W : WX) (k : Nat) : Prop where
  tk : L2N.Takes X W
  po : PassesOwn (model X.prog X.w) X.A X.env X.xe
  hr : RoomH k X.A
  nd : X.N.Nodup
  hot : HotC X
theorem BdH.hu {k : Nat} (B : BdH X W k) : X.A.units + 1 < cLine := by have := B.hr.un; omega
theorem BdH.hu64 {k : Nat} (B : BdH X W k) : X.A.units + 64 < cLine := by have := B.hr.un; omega
theorem BdH.blk {k : Nat} {s : Shared} {H : Hp} {scope : Scope} {cenv : Env} {fp : List Addr} (B : BdH X W k) : BdH (blkH X s H scope cenv fp) W0 k :=
  ⟨fun u s' h => by obtain ⟨_, _, _, _, _, _, _, _, _, _, _, _, _, _, _, _, z⟩ := h; exact z.elim, PassesOwn.never, B.hr, B.nd, B.hot⟩
theorem takes_noX {X : Cx} : L2N.Takes X noX := fun u s' ⟨_, _, _, _, _, _, _, _, _, _, _, _, _, _, _, _, z⟩ => z.elim
theorem hot1_of {a : Addr} {oe : Obj} {cls : Value} {d : Option Addr} (hz : L2N.Zn cls d oe) (hf : ∃ vs, oe.data = .fields vs) {A : Around} (hh : A.handled = some (.ref a)) : Hot1 A (a, oe) := by
  obtain ⟨vs, hv⟩ := hf
  exact ⟨hh, vs, hv, hz.2.2 vs hv⟩
theorem Bd.suite {k : Nat} (B : Bd X W k) {a : Addr} {oe : Obj} {cls : Value} {d : Option Addr} {pn : List (Addr × Obj)} (hz : L2N.Zn cls d oe) (hf : ∃ vs, oe.data = .fields vs) : BdH (X.suite a ((a, oe) :: pn)) noX k :=
  ⟨takes_noX, PassesOwn.never, ⟨(roomH_of B.hr).dp, (roomH_of B.hr).un⟩, B.nd, ⟨(a, oe), hot1_of hz hf rfl, List.mem_cons_self⟩⟩
end
section
variable {X : Cx} {W : WX} {k j n : Nat} {fs : FS} {x m : Str} {p pos apos : Pos} {e o : Expr} {es : List Expr} {t : DTA} {to : DTE}
structure MOkH (X : Cx) (k : Nat) (m : Str) (c : Cn) (n : Nat) (fs : FS) : Prop where
  cl : Cls X.K (He.ga X.K c.str)
  ex : ∃ (g : Addr) (fd : FuncData) (ps : List Str) (j : Nat), Meth X.K (He.ga X.K c.str) m g ∧ FnH X.prog X.w X.K X.mg X.base (L2N.CX X.prog X.w) j g fd ps (spD X.K n fs) ∧ j ≤ k ∧ Binds X.K fd ps []
  len : ∀ xs QD QE, fs xs QD QE → xs.length = n
variable {alt : Cn → Option FS}
end
structure MmG (K : PySem.W.Frag) (mg : Str → Option Value) (base : Heap) (P : Program) (w : World) (m : Str) (c : Cn) (j n : Nat) (fs : FS) : Prop where
  cl : Cls K (He.ga K c.str)
  ex : ∃ (g : Addr) (fd : FuncData) (ps : List Str), Meth K (He.ga K c.str) m g ∧ FnH P w K mg base (L2N.CX P w) j g fd ps (spD K n fs) ∧ Binds K fd ps []
  len : ∀ xs QD QE, fs xs QD QE → xs.length = n
theorem MmG.ok {X : Cx} {m : Str} {c : Cn} {j n k : Nat} {fs : FS} (h : MmG X.K X.mg X.base X.prog X.w m c j n fs) (hj : j ≤ k) : MOkH X k m c n fs := by
  obtain ⟨g, fd, ps, h1, h2, h3⟩ := h.ex
  exact ⟨h.cl, ⟨g, fd, ps, j, h1, h2, hj, h3⟩, h.len⟩
end DL
namespace DL
open PySem PySem.Spec L2 L2H HotX PyProof.Rows
end DL
namespace DL
open PySem PySem.Spec L2 PyProof.Rows
variable [TP]
section
variable {X : Cx} {W : WX} {e1 e2 k b : Expr} {t u tk te : DTE} {pos p pos' spos apos : Pos} {x : Str}
theorem Lists.dp {K : PySem.W.Frag} {G H : Hp} (s : Same G H) : ∀ {as : List Addr} {xss : List (List D)}, PyData.canLayAll0 (pyAll (xss.map .lst)) = true → Lists K G H as xss → DpAll K H (as.map .ref) (pyAll (xss.map .lst))
  | _, _, _, .nil => .nil
  | _, _, z, .cons _ h r l => .cons (.lst (SqL.of h) (RepL.dp s (Bool.and_eq_true_iff.mp z).1 r)) (Lists.dp s (Bool.and_eq_true_iff.mp z).2 l)
variable {c : Cn} {j k2 n : Nat} {fi : FI} {ta : DTA} {es : List Expr}
end
end DL
namespace DL
open PySem PySem.Spec L2 L2H PyProof.Rows
end DL
namespace PySem.SeqAt
open AutoSeq1 (wpAny_loadPart')
open MeetsSeq MeetsSeq2 MeetsSeq3 SeqRoads2
end PySem.SeqAt
namespace DL
open PySem PySem.Spec L2 L2H PyProof.Rows
end DL
namespace DL
open PySem PySem.Spec L2
end DL
namespace DL
open PySem PySem.Spec L2 L2H PyProof.Rows
end DL
namespace DL
open PySem PySem.Spec L2
variable [TP]
def oneRo (ρ : Rho) (m r : Nat) (wv : List V) (rs : List D) : Prop := ρ[m]? = some (some (.ro r wv rs)) ∧ ∀ (j : Nat) (c : C), ρ[j]? = some (some c) → j ≠ m → c.own = false
structure NumJ (K : PySem.W.Frag) (e : Ent) (i : Nat) (cl : Cn) (f : Fd) (fl : List (Fd × D)) (a b : Addr) (m r : Nat) (wv : List V) (rs : List D) (ρ : Rho) (kvs : List (Key × D)) (G : Hp) (σ : L2.St) (H : Hp) : Prop where
  R : Rel K e (ρ.set i none) G σ H
  no : oneRo (ρ.set i none) m r wv rs
  hs : σ[i]? = some (some (.ref a))
  ga : G a = none
  gb : G b = none
  ea : e.H a = none
  eb : e.H b = none
  ha : ∃ dx ws, H a = some (.ins (He.ga K cl.str) dx (putF f.str (.ref b) ws)) ∧ ws.map (·.1) = fl.map (fun p => p.1.str) ∧ RepL K G (ws.map (·.2)) (fl.map (·.2))
  hb : ∃ wd, H b = some (.dK wd) ∧ wd.map (·.1) = kvs.map (·.1) ∧ RepL K G (wd.map (·.2)) (kvs.map (·.2))
section
variable {K : PySem.W.Frag} {W : WX} {e : Ent} {i : Nat} {cl : Cn} {f : Fd} {fl : List (Fd × D)} {a b : Addr} {m r : Nat} {wv : List V} {rs : List D} {ρ : Rho} {kvs : List (Key × D)} {G H G' H' : Hp} {σ : L2.St}
theorem NumJ.im (N : NumJ K e i cl f fl a b m r wv rs ρ kvs G σ H) : m ≠ i := fun z => by
  have h := N.no.1
  subst z
  rw [List.getElem?_set_self (by have := (List.getElem?_eq_some_iff.mp h).1; rwa [List.length_set] at this)] at h
  cases h
theorem NumJ.ro (N : NumJ K e i cl f fl a b m r wv rs ρ kvs G σ H) : σ[m]? = some (some (.ref r)) ∧ G r = none ∧ H r = some (.lst wv) ∧ RepL K G wv rs ∧ e.H r = none := by
  obtain ⟨v, h1, h2, h3⟩ := N.R.at_ m _ N.no.1
  cases h2 with
  | ro n h q => exact ⟨h1, n, h, q, h3 rfl r (.inl rfl)⟩
theorem NumJ.ra (N : NumJ K e i cl f fl a b m r wv rs ρ kvs G σ H) : r ≠ a := fun z => by
  obtain ⟨dx, ws, h1, _⟩ := N.ha
  have := N.ro.2.2.1
  rw [z, h1] at this
  cases this
theorem NumJ.rb (N : NumJ K e i cl f fl a b m r wv rs ρ kvs G σ H) : r ≠ b := fun z => by
  obtain ⟨wd, h1, _⟩ := N.hb
  have := N.ro.2.2.1
  rw [z, h1] at this
  cases this
theorem NumJ.own (N : NumJ K e i cl f fl a b m r wv rs ρ kvs G σ H) {j : Nat} {c : C} (h : (ρ.set i none)[j]? = some (some c)) (o : c.own = true) : j = m ∧ c = .ro r wv rs := by
  by_cases e1 : j = m
  · subst e1
    rw [N.no.1] at h
    cases h
    exact ⟨rfl, rfl⟩
  · rw [N.no.2 j c h e1] at o
    cases o
theorem NumJ.off (N : NumJ K e i cl f fl a b m r wv rs ρ kvs G σ H) {p : Addr} (hp : r ≠ p) : ∀ (j : Nat) (c : C), (ρ.set i none)[j]? = some (some c) → c.own = true → σ[j]? ≠ some (some (V.ref p)) ∧ p ∉ c.inn := fun j c hj ho => by
  obtain ⟨rfl, rfl⟩ := N.own hj ho
  refine ⟨fun z => ?_, fun z => by cases z⟩
  rw [N.ro.1] at z
  cases z
  exact hp rfl
theorem NumJ.grow (N : NumJ K e i cl f fl a b m r wv rs ρ kvs G σ H) (g : Gr G H G' H') : NumJ K e i cl f fl a b m r wv rs ρ kvs G' σ H' := by
  obtain ⟨dx, ws, h1, h2, h3⟩ := N.ha
  obtain ⟨wd, h4, h5, h6⟩ := N.hb
  exact ⟨N.R.grow g, N.no, N.hs, none_grow g N.ga h1, none_grow g N.gb h4, N.ea, N.eb, ⟨dx, ws, g.hh.at h1, h2, h3.mono g.gg⟩, ⟨wd, g.hh.at h4, h5, h6.mono g.gg⟩⟩
theorem NumJ.ne (N : NumJ K e i cl f fl a b m r wv rs ρ kvs G σ H) : a ≠ b := fun z => by
  obtain ⟨dx, ws, h1, _⟩ := N.ha
  obtain ⟨wd, h4, _⟩ := N.hb
  rw [z, h4] at h1
  cases h1
theorem NumJ.lent (N : NumJ K e i cl f fl a b m r wv rs ρ kvs G σ H) (hi : i < ρ.length) : ∃ G1, Same G G1 ∧ Same G1 H ∧ Rel K ⟨H, G1⟩ ((ρ.set i (some (.d (.obj cl (putFd f (.dic kvs) fl))))).set m (some (.d (.lst rs)))) G1 σ H := by
  obtain ⟨dx, ws, h1, h2, h3⟩ := N.ha
  obtain ⟨wd, h4, h5, h6⟩ := N.hb
  obtain ⟨ho1, ho2, ho3, ho4, ho5⟩ := N.ro
  have hab := N.ne
  have hra := N.ra
  have hrb := N.rb
  have him := N.im
  have s0 := N.R.gl.gh
  have s1 : Same G (upd (upd (upd G r (.lst wv)) b (.dK wd)) a (.ins (He.ga K cl.str) dx (putF f.str (.ref b) ws))) := fun c u hc => by
    rw [upd_ne (ne_of_none hc N.ga), upd_ne (ne_of_none hc N.gb), upd_ne (ne_of_none hc ho2)]; exact .inl hc
  have s2 : Same (upd (upd (upd G r (.lst wv)) b (.dK wd)) a (.ins (He.ga K cl.str) dx (putF f.str (.ref b) ws))) H := fun c u hc => by
    by_cases e1 : c = a
    · subst e1; rw [upd_same] at hc; exact .inl (by rw [h1, hc])
    · rw [upd_ne e1] at hc
      by_cases e2 : c = b
      · subst e2; rw [upd_same] at hc; exact .inl (by rw [h4, hc])
      · rw [upd_ne e2] at hc
        by_cases e3 : c = r
        · subst e3; rw [upd_same] at hc; exact .inl (by rw [ho3, hc])
        · rw [upd_ne e3] at hc; exact s0 _ _ hc
  have rb : Rep K (upd (upd (upd G r (.lst wv)) b (.dK wd)) a (.ins (He.ga K cl.str) dx (putF f.str (.ref b) ws))) (.ref b) (.dic kvs) := .dic (.inl (by rw [upd_ne (fun z => hab z.symm), upd_same])) h5 (h6.mono s1)
  have rr : Rep K (upd (upd (upd G r (.lst wv)) b (.dK wd)) a (.ins (He.ga K cl.str) dx (putF f.str (.ref b) ws))) (.ref r) (.lst rs) := .lst (SqL.of (by rw [upd_ne hra, upd_ne hrb, upd_same])) (ho4.mono s1)
  obtain ⟨p1, p2⟩ := putFd_V (f := f) rb h2 (h3.mono s1)
  have hm : m < ρ.length := by
    have := (List.getElem?_eq_some_iff.mp N.no.1).1
    rwa [List.length_set] at this
  have key : ∀ (j : Nat) (c : C), ((ρ.set i (some (.d (.obj cl (putFd f (.dic kvs) fl))))).set m (some (.d (.lst rs))))[j]? = some (some c) → (j = m ∧ c = .d (.lst rs)) ∨ (j = i ∧ c = .d (.obj cl (putFd f (.dic kvs) fl))) ∨ (j ≠ m ∧ j ≠ i ∧ (ρ.set i none)[j]? = some (some c) ∧ c.own = false) := fun j c hj => by
    by_cases e0 : m = j
    · subst e0
      rw [List.getElem?_set_self (by rw [List.length_set]; exact hm)] at hj
      cases hj
      exact .inl ⟨rfl, rfl⟩
    · rw [List.getElem?_set_ne e0] at hj
      by_cases e1 : i = j
      · subst e1
        rw [List.getElem?_set_self hi] at hj
        cases hj
        exact .inr (.inl ⟨rfl, rfl⟩)
      · rw [List.getElem?_set_ne e1] at hj
        have hj2 : (ρ.set i none)[j]? = some (some c) := by rw [List.getElem?_set_ne e1]; exact hj
        exact .inr (.inr ⟨fun z => e0 z.symm, fun z => e1 z.symm, hj2, N.no.2 j c hj2 fun z => e0 z.symm⟩)
  have nown : ∀ (j : Nat) (c : C), ((ρ.set i (some (.d (.obj cl (putFd f (.dic kvs) fl))))).set m (some (.d (.lst rs))))[j]? = some (some c) → c.own = false := fun j c hj => by
    rcases key j c hj with ⟨_, rfl⟩ | ⟨_, rfl⟩ | ⟨_, _, _, z⟩
    · rfl
    · rfl
    · exact z
  refine ⟨_, s1, s2, ⟨⟨s2, SameT.refl _, Same.refl _, fun _ z => .inl z⟩, N.R.tq, fun j c hj => ?_, fun j k c c' v hjk h1 h2 o1 o2 s => ?_, ?_, fun j k c c' a h1 h2 m1 => ?_⟩⟩
  · rcases key j c hj with ⟨rfl, rfl⟩ | ⟨rfl, rfl⟩ | ⟨_, _, hj2, ho⟩
    · exact ⟨_, ho1, .d rr, fun z => by cases z⟩
    · exact ⟨.ref a, N.hs, .d (.obj upd_same p1 p2), fun z => by cases z⟩
    · obtain ⟨v, q1, q2, _⟩ := N.R.at_ j c hj2
      cases c with
      | d x => cases q2 with | d r => exact ⟨v, q1, .d (r.mono s1), fun z => by cases z⟩
      | fz _ x => cases q2 with | fz r => exact ⟨v, q1, .fz (r.mono s1), fun z => by cases z⟩
      | _ => cases ho
  · rw [nown j c h1] at o1
    cases o1
  · have := N.R.len
    rw [List.length_set] at this
    rw [List.length_set, List.length_set]
    exact this
  · have z := nown j c h1
    rw [inn_own m1] at z
    cases z
theorem NumJ.put (N : NumJ K e i cl f fl a b m r wv rs ρ kvs G σ H) {wd : List (Key × V)} {q : Key} {v : V} {x : D} (hb : H b = some (.dK wd)) (rp : Rep K G v x) : NumJ K e i cl f fl a b m r wv rs ρ (putD kvs q x) G σ (upd H b (.dK (putK wd q v))) := by
  obtain ⟨dx, ws, h1, h2, h3⟩ := N.ha
  obtain ⟨wd', h4, h5, h6⟩ := N.hb
  rw [hb] at h4
  cases h4
  obtain ⟨p1, p2⟩ := putD_V (k := q) h5 h6 rp
  exact ⟨N.R.beside N.gb N.eb (by rw [hb]; rfl) (N.off N.rb), N.no, N.hs, N.ga, N.gb, N.ea, N.eb, ⟨dx, ws, by rw [upd_ne N.ne]; exact h1, h2, h3⟩, ⟨_, upd_same, p1, p2⟩⟩
theorem NumJ.end_ (N : NumJ K e i cl f fl a b m r wv rs ρ kvs G σ H) (hi : i < ρ.length) : ∃ G2, Rel K e (ρ.set i (some (.no a cl (putFd f (.dic kvs) fl)))) G2 σ H := by
  obtain ⟨dx, ws, h1, h2, h3⟩ := N.ha
  obtain ⟨wd, h4, h5, h6⟩ := N.hb
  have s1 : Same G (upd G b (.dK wd)) := fun c u hc => by rw [upd_ne (ne_of_none hc N.gb)]; exact .inl hc
  have s2 : Same (upd G b (.dK wd)) H := fun c u hc => by
    by_cases e2 : c = b
    · subst e2; rw [upd_same] at hc; exact .inl (by rw [h4, hc])
    · rw [upd_ne e2] at hc; exact N.R.gl.gh _ _ hc
  have rb : Rep K (upd G b (.dK wd)) (.ref b) (.dic kvs) := .dic (.inl upd_same) h5 (h6.mono s1)
  obtain ⟨p1, p2⟩ := putFd_V (f := f) rb h2 (h3.mono s1)
  have R2 : Rel K e (ρ.set i none) (upd G b (.dK wd)) σ H := by
    refine ⟨⟨s2, N.R.gl.old, N.R.gl.og.trans s1, fun c hc => ?_⟩, N.R.tq, fun j c hj => ?_, N.R.apart, N.R.len, N.R.inn⟩
    · by_cases e2 : c = b
      · rw [e2]; exact .inr N.eb
      · rw [upd_ne e2] at hc; exact N.R.gl.new c hc
    · obtain ⟨v, q1, q2, q3⟩ := N.R.at_ j c hj
      by_cases e3 : j = m
      · subst e3
        rw [N.no.1] at hj
        cases hj
        cases q2 with
        | ro n h q => exact ⟨_, q1, .ro (by rw [upd_ne N.rb]; exact n) h (q.mono s1), q3⟩
      have ho := N.no.2 j c hj e3
      cases c with
      | d x => cases q2 with | d r => exact ⟨v, q1, .d (r.mono s1), q3⟩
      | fz _ x => cases q2 with | fz r => exact ⟨v, q1, .fz (r.mono s1), q3⟩
      | _ => cases ho
  have R3 := R2.set (i := i) (v := .ref a) (c := .no a cl (putFd f (.dic kvs) fl)) (.no (by rw [upd_ne N.ne]; exact N.ga) h1 p1 p2) (fresh_of fun c ec => by cases ec; exact N.ea) (fun _ j c' hj ho => (N.off N.ra j c' hj ho).1) fun j c' _ hj => ⟨fun a ha => (by obtain ⟨_, rfl⟩ := N.own hj (inn_own ha); cases ha), fun ho a ha => by cases ha⟩
  rw [List.set_set, set_same N.hs] at R3
  exact ⟨_, R3⟩
end
end DL
namespace DL
open PySem PySem.Spec L2
variable [TP]
def fTuple : DN
  | [.lst xs], Q => Q (.d (.tup xs))
  | [.tup xs], Q => Q (.d (.tup xs))
  | _, _ => False
end DL
namespace DL
open PySem PySem.Spec L2
end DL
namespace DL
open PySem PySem.Spec L2
end DL
namespace DL
open PySem PySem.Spec L2
variable [TP]
def KpNi (G G' : Hp) : Prop := ∀ b o, (∀ c d ws, o ≠ .ins c d ws) → G b = some o → G' b = some o
theorem KpNi.seq {K : PySem.W.Frag} {G G' : Hp} (e : KpNi G G') {a : Addr} {xs : List V} (h : SqL K G a xs) : SqL K G' a xs := by
  rcases h with (h | ⟨o, h⟩) | h
  · exact .inl (.inl (e _ _ (fun _ _ _ z => by cases z) h))
  · exact .inl (.inr ⟨o, e _ _ (fun _ _ _ z => by cases z) h⟩)
  · exact .inr h
theorem KpNi.nl {G G' : Hp} (e : KpNi G G') : KpNl G G' := fun b o hk hb => .inl (e b o (fun _ _ _ z => by rw [z] at hk; cases hk) hb)
end DL
namespace DL
open PySem PySem.Spec L2
open Sem (wp)
end DL
namespace DL
open PySem PySem.Spec L2
end DL
namespace PySem
open PySem.Builtin
end PySem
namespace DL
open PySem PySem.Spec L2 L2H PyProof.Rows
end DL
namespace PySem
open Builtin
end PySem
namespace L2
open PySem PySem.Spec PyProof.Rows
end L2
namespace DL
open PySem PySem.Spec L2 L2H PyProof.Rows
end DL
namespace SortL
open PySem PySem.Spec PyProof.Rows L2 LamX
section
variable {prog : Program} {w : World} {A : Around} {E : Value → Shared → Prop} {s : Shared}
theorem cell_run {env : Env} {m : Str → Option Value} {r x : Str} {c a t : Addr} {its vs : Array Value} {n : Nat} {tn : Tok} {k : Nat} {j : Nat} {u : Int} {tu : Tok} {p1 p2 p3 p4 p5 : Pos} {Q : Value → Shared → Prop}
    (hk : env.scope.kind = .function) (hx : env.kindOf x = some .local) (hr : env.kindOf r = some .free) (hn : s.heap.Ns env.locals m) (hm : m x = some (.int n tn)) (hc : env.cells.lookup r = some c) (hcell : s.heap.IsCell c (some (.ref a)))
    (hl : s.heap.IsList a its) (hf : (n : Int) < 2 ^ 63) (hi : its[n]? = some (.ref t)) (ht : IsTup s.heap t vs) (hs : vs.size < 2 ^ 63) (hv : vs[k]? = some (.int u tu))
    (hd1 : (r == ("__debug__" : Str)) = false) (hd2 : (x == ("__debug__" : Str)) = false) (hcd : (r == ("__classdict__" : Str)) = false)
    (h : Q (.int u tu) { s with toks := s.toks + 1 }) :
    wpAny (model prog w) A (eval (.Subscript (.Subscript (.Name r p1) (.Name x p2) p3) (.Constant (.int (k : Int)) j p4) p5) env) Q E s := by
  refine Subscript_ (Subscript_ (wpAny_Name (wpAny_loadName_free hk hr hc hcell (wpAny_Name (wpAny_loadName_local hk hx hn hm (item_listR hl (Int.natCast_nonneg n) hf (by rw [Int.toNat_natCast]; exact hi) ?_ (by with_unfolding_all rfl))) hd2) hcd) hd1))
  refine wpAny_Constant_int ?_
  have hk2 : k < vs.size := by
    rcases Nat.lt_or_ge k vs.size with z | z
    · exact z
    · rw [Array.getElem?_eq_none (by exact z)] at hv
      cases hv
  refine subscriptTail_builtinR (x := .int u tu) (s := { s with toks := s.toks + 1 }) ht.typeIs slot_tuple_getitem.lookup (PyProof.Rows.getItem_tuple (j := k) (Q := fun r s' => r = _ ∧ Q r s') ht (by omega) (by omega) (seqIndex_of (Int.natCast_nonneg k) (by omega)) hv ⟨rfl, h⟩) (by with_unfolding_all rfl)
structure KeyS (x r : Str) (scope : Scope) : Prop where
  kind : scope.kind = .function
  co : scope.isCoroutine = false
  gen : scope.isGenerator = false
  nocell : ∀ y ∈ scope.names, y.2 ≠ .cell
  par : scope.names.lookup x = some .local
  free : scope.names.lookup r = some .free
def keySB (x r : Str) (sc : Scope) : Bool := decide (sc.kind = .function) && !sc.isCoroutine && !sc.isGenerator && sc.names.all (fun y => !decide (y.2 = .cell)) && decide (sc.names.lookup x = some .local) && decide (sc.names.lookup r = some .free)
theorem keyS_by {x r : Str} {sc : Scope} (h : keySB x r sc = true) : KeyS x r sc := by
  unfold keySB at h
  simp only [Bool.and_eq_true, Bool.not_eq_true', decide_eq_true_eq, List.all_eq_true, decide_eq_false_iff_not] at h
  obtain ⟨⟨⟨⟨⟨h1, h2⟩, h3⟩, h4⟩, h5⟩, h6⟩ := h
  exact ⟨h1, h2, h3, h4, h5, h6⟩
theorem key_turn {kk : Nat} (hr : Room kk A) {f c' c a t : Addr} {q r x : Str} {params : Arguments} {scope : Scope} {clo : List (Str × Addr)} {pm ctv : Value} {its vs : Array Value} {n : Nat} {tn : Tok} {ka kb : Nat} {ja jb : Nat} {u v : Int} {tu tv : Tok} {p1 p2 p3 p4 p5 p6 p7 p8 p9 p10 p11 : Pos}
    (S : KeyS x r scope) (lim : s.heap.NoLimit)
    (hbind : ∀ v, bindArgs (PySem.W.kla_fn "<lambda>" q params (.BinOp (.Subscript (.Subscript (.Name r p1) (.Name x p2) p3) (.Constant (.int (ka : Int)) ja p4) p5) .Sub (.Subscript (.Subscript (.Name r p6) (.Name x p7) p8) (.Constant (.int (kb : Int)) jb p9) p10) p11) scope clo pm (.ref c') ctv) ⟨[v], []⟩ = pure [(x, v)])
    (of : s.heap.get? f = some (PySem.W.kla_obj "<lambda>" q params (.BinOp (.Subscript (.Subscript (.Name r p1) (.Name x p2) p3) (.Constant (.int (ka : Int)) ja p4) p5) .Sub (.Subscript (.Subscript (.Name r p6) (.Name x p7) p8) (.Constant (.int (kb : Int)) jb p9) p10) p11) scope clo pm c' ctv))
    (hcode : s.heap.CodeRec (.ref c') q) (hc : clo.lookup r = some c) (hcell : s.heap.IsCell c (some (.ref a)))
    (hl : s.heap.IsList a its) (hf : (n : Int) < 2 ^ 63) (hi : its[n]? = some (.ref t)) (ht : IsTup s.heap t vs) (hs : vs.size < 2 ^ 63) (hu : vs[ka]? = some (.int u tu)) (hv : vs[kb]? = some (.int v tv))
    (hd1 : (r == ("__debug__" : Str)) = false) (hd2 : (x == ("__debug__" : Str)) = false) (hcd : (r == ("__classdict__" : Str)) = false) :
    wpAny (model prog w) A (call (.ref f) [.int n tn]) (PySem.W.KeyPure (.int (u - v)) s) (fun _ _ => False) s := by
  have rc : codeAny (model prog w) A (.call (.ref f) ⟨[.int n tn], []⟩) (fun r s' => match r with | .ok (.ret z) => PySem.W.KeyPure (.int (u - v)) s z s' | _ => False) s := by
    refine PySem.W.kla_callFunE hr.depth of rfl S.co S.gen rfl hcode ?_
    rw [hbind]
    refine wpAny_pure (wpAny_newFunctionEnv S.nocell (fun y hy => by rw [List.mem_singleton.mp hy]; exact S.par) (fun h₁ hns hsb => ⟨lim.fresh _ hsb, ?_⟩) S.kind)
    have kp : ∀ b o, s.heap.get? b = some o → h₁.get? b = some o := fun b o e => hsb.extBut b o (Nat.ne_of_lt (Heap.lt_size e)) (Heap.get?_push_of_some _ e)
    have isl : h₁.IsList a its := by
      obtain ⟨o, e, z⟩ := hl
      exact ⟨o, kp _ _ e, z⟩
    have isc : h₁.IsCell c (some (.ref a)) := by
      obtain ⟨o, e, z⟩ := hcell
      exact ⟨o, kp _ _ e, z⟩
    have ist : IsTup h₁ t vs := by
      obtain ⟨o, e, z⟩ := ht
      exact ⟨o, kp _ _ e, z⟩
    have hm : ([(x, Value.int (n : Int) tn)] : List (Str × Value)).reverse.lookup x = some (.int n tn) := by simp [List.lookup]
    refine PySem.W.kla_codeExpr ?_
    refine wpAny_BinOp (cell_run (s := { s with heap := h₁, toks := _ }) S.kind S.par S.free hns hm hc isc isl hf hi ist hs hu hd1 hd2 hcd ?_)
    refine cell_run (s := { s with heap := h₁, toks := _ }) S.kind S.par S.free hns hm hc isc isl hf hi ist hs hv hd1 hd2 hcd ?_
    exact P.sub_int ⟨h₁, _, rfl, kp, .int _ _⟩
  refine wpAny_call (codeAny_mono rc fun r s' hq => ?_)
  cases r with
  | error e => exact hq.elim
  | ok fl =>
    cases fl with
    | ret u => exact hq
    | next => exact hq.elim
    | brk => exact hq.elim
    | cont => exact hq.elim
end
theorem each_ints : ∀ {us : List Value} {ns : List Int}, IntsAre us ns → PySem.W.EachIs (fun v n => ∃ t, v = Value.int n t) us ns
  | _, _, .nil => .nil
  | _, _, .cons n t h => .cons ⟨t, rfl⟩ (each_ints h)
theorem ints_each : ∀ {us : List Value} {ns : List Int}, PySem.W.EachIs (fun v n => ∃ t, v = Value.int n t) us ns → IntsAre us ns
  | _, _, .nil => .nil
  | _, _, .cons ⟨t, e⟩ h => by
    subst e
    exact .cons _ t (ints_each h)
section
variable {X : Cx} {pins : List (Addr × Obj)} {σ : L2.St} {H : Hp} {s : Shared}
theorem lam_new {c P : Addr} {q : Str} {params : Arguments} {body : Expr} {scope : Scope} {pos : Pos} {E : Value → Shared → Prop} {Q : Value → Shared → Prop} (I : Inv X pins σ H s) (TB : TabB X.base X.mg c P) (hcode : X.env.code = .ref c) (hq : q = X.env.qual ++ "<lambda>")
    (hT : TabS H P q) (hdef : defaultsOf params X.env = ([], [])) (hfree : ∀ y ∈ scope.names, y.2 = .free → ∃ c, X.env.cells.lookup y.1 = some c)
    (h : ∀ (f c' : Addr) (pm ctv : Value) (H1 : Hp) (s' : Shared), Inv X pins σ H1 s' → ExtN H H1 → (∀ b, H1 b = none → H b = none) → TabS H1 P q →
      s'.heap.get? f = some (PySem.W.kla_obj "<lambda>" q params body scope (cloFrom X.env.cells scope.names []) pm c' ctv) → s'.heap.CodeRec (.ref c') q → Q (.ref f) s') :
    wpAny (model X.prog X.w) X.A (eval (.Lambda params body scope pos) X.env) Q E s := by
  subst hq
  obtain ⟨ps, hP, ht, ha⟩ := hT
  have rec1 : ∀ {H1 : Hp} {s' : Shared} {c' : Addr}, Inv X pins σ H1 s' → H1 c' = some (CodeO c' (X.env.qual ++ "<lambda>")) → s'.heap.CodeRec (.ref c') (X.env.qual ++ "<lambda>") := fun J e => NdefX.codeO_at J.hok e
  refine PySem.W.kla_eval hdef ?_
  cases hc : codeAmong pos ps.toList with
  | some cv =>
    obtain ⟨c', rfl, hco⟩ := ha pos cv hc
    refine PySem.W.kla_makeFunctionHit (mg := X.mg) (c := c) (P := P) (ps := ps) (closure_ok hfree) I.ok.glob (I.mod.glob.keeps I.bk) hcode (TB.code.keeps I.bk) (I.hok P _ hP) ht hc (TB.bm.keeps I.bk) fun ctv h' tk hx hsz => ?_
    have J : Inv X pins σ H { s with heap := h'.push (PySem.W.kla_obj "<lambda>" (X.env.qual ++ "<lambda>") params body scope (cloFrom X.env.cells scope.names []) ((X.mg "__name__").getD .none) c' ctv), toks := tk } := I.kept fun b o e => Heap.get?_push_of_some _ (hx b o e)
    exact h _ c' _ ctv H _ J (ExtN.refl H) (fun _ e => e) ⟨ps, hP, ht, ha⟩ (Heap.get?_push_size _ rfl) (rec1 J hco)
  | none =>
    refine PySem.W.kla_makeFunction (mg := X.mg) (c := c) (P := P) (ps := ps) (closure_ok hfree) I.ok.glob (I.mod.glob.keeps I.bk) hcode (TB.code.keeps I.bk) (I.hok P _ hP) ht hc TB.gP (TB.bm.keeps I.bk) fun c' ctv h' tk hx hge hlt hrec htb => ?_
    obtain ⟨_, oc, vs, t, e2, hoc, hd, hv⟩ := hrec
    cases e2
    have nC : H c' = none := I.hok.fresh hge
    have J := inv_table (t' := tk) (h' := h'.push (PySem.W.kla_obj "<lambda>" (X.env.qual ++ "<lambda>") params body scope (cloFrom X.env.cells scope.names []) ((X.mg "__name__").getD .none) c' ctv)) I hP
      (fun b o hb e => Heap.get?_push_of_some _ (hx b o hb e)) (Heap.get?_push_of_some _ htb) hge ⟨oc, vs, t, Heap.get?_push_of_some _ hoc, hd, hv⟩
    have hE : ExtN H (upd (upd H P (.tbl (ps ++ #[rawInt pos.line, rawInt pos.col, .ref c']))) c' (CodeO c' (X.env.qual ++ "<lambda>"))) := fun b o e n => by
      have hb : b ≠ P := fun z => by
        subst z
        rw [hP] at e
        cases e
        exact n ps rfl
      rw [upd_ne (ne_of_none e nC), upd_ne hb]
      exact e
    refine h _ c' _ ctv _ _ J hE (fun b e => NdefX.upd_none (NdefX.upd_none e)) ⟨_, by rw [upd_ne (ne_of_none hP nC), upd_same], ?_, fun p' cv hcv => ?_⟩ (Heap.get?_push_size _ rfl) (rec1 J upd_same)
    · rw [show (ps ++ #[rawInt pos.line, rawInt pos.col, .ref c']).toList = ps.toList ++ [rawInt pos.line, rawInt pos.col, .ref c'] by simp]
      exact PySem.TriplesOk_snoc _ _ _ _ ht
    · rw [show (ps ++ #[rawInt pos.line, rawInt pos.col, .ref c']).toList = ps.toList ++ [rawInt pos.line, rawInt pos.col, .ref c'] by simp] at hcv
      rcases among_app _ ht hcv with z | z
      · obtain ⟨c0, e1, e2⟩ := ha p' cv z
        exact ⟨c0, e1, hE _ _ e2 codeO_ne⟩
      · exact ⟨c', z, upd_same⟩
@[reducible] def keyBody (r x : Str) (ka kb ja jb : Nat) (p1 p2 p3 p4 p5 p6 p7 p8 p9 p10 p11 : Pos) : Expr := .BinOp (.Subscript (.Subscript (.Name r p1) (.Name x p2) p3) (.Constant (.int (ka : Int)) ja p4) p5) .Sub (.Subscript (.Subscript (.Name r p6) (.Name x p7) p8) (.Constant (.int (kb : Int)) jb p9) p10) p11
def tSortK (X : Cx) (P : Addr) (q : Str) (i ka kb : Nat) (t : TA) : TE := fun σ H Q => t σ H fun vs H1 => TabS H1 P q ∧ ∃ (l a : Addr) (ns : List Int) (rows : List V), vs = [V.ref l] ∧ σ[i]? = some (some (.ref a)) ∧ (∀ H2, ExtN H1 H2 → SqL X.K H2 l (ns.map V.int) ∧ SqL X.K H2 a rows) ∧
  (∀ n ∈ ns, ∃ (k : Nat) (tt : Addr) (xs : List V) (u v : Int), n = (k : Int) ∧ rows[k]? = some (.ref tt) ∧ (∀ H2, ExtN H1 H2 → SqT X.K H2 tt xs) ∧ xs[ka]? = some (.int u) ∧ xs[kb]? = some (.int v)) ∧
  ∀ H2, ExtN H1 H2 → (∀ b, H2 b = none → H1 b = none) → TabS H2 P q → ∀ (ms : List Int) (p : Addr), ms.Perm ns → H2 p = none → Q (.ref p) (upd H2 p (.lst (ms.map V.int)))
theorem pe_sortK {e : Expr} {t : TA} {kk i ka kb ja jb : Nat} {c P : Addr} {q r x : Str} {params : Arguments} {scope : Scope} {p lpos kpos cpos p1 p2 p3 p4 p5 p6 p7 p8 p9 p10 p11 : Pos} (hr : Room (kk + 2) X.A) (TB : TabB X.base X.mg c P) (hcode : X.env.code = .ref c) (hq : q = X.env.qual ++ "<lambda>")
    (S : KeyS x r scope) (hfree : ∀ y ∈ scope.names, y.2 = .free → X.env.scope.names.lookup y.1 = some .cell ∨ X.env.scope.names.lookup y.1 = some .free) (hdef : defaultsOf params X.env = ([], []))
    (hbind : ∀ (clo : List (Str × Addr)) (pm cv ctv v : Value), bindArgs (PySem.W.kla_fn "<lambda>" q params (keyBody r x ka kb ja jb p1 p2 p3 p4 p5 p6 p7 p8 p9 p10 p11) scope clo pm cv ctv) ⟨[v], []⟩ = pure [(x, v)])
    (hg : Gl X "sorted") (hm : X.mg "sorted" = none) (ha : PA X [e] t) (hN : X.N[i]? = some r) (hvc : X.env.scope.names.lookup r = some .cell)
    (hd1 : (r == ("__debug__" : Str)) = false) (hd2 : (x == ("__debug__" : Str)) = false) (hcd : (r == ("__classdict__" : Str)) = false)
    (he : backTo cpos (starEach [e] X.env) = (false, eval e X.env) :: backTo cpos (starEach [] X.env)) (hpl : (backTo cpos (starEach [e] X.env)).any (·.1) = false) :
    PE X (.Call (.Name "sorted" p) [e] [⟨some "key", .Lambda params (keyBody r x ka kb ja jb p1 p2 p3 p4 p5 p6 p7 p8 p9 p10 p11) scope lpos, kpos⟩] cpos) (tSortK X P q i ka kb t) := by
  refine ⟨fun pins s σ H Q I h => ?_⟩
  refine wpAny_Call_Name_kw (ld_blt I hg hm PyProof.Rows.boot_sorted ?_)
  refine PyProof.Rows.callWith_kw (thn (ha.run cpos pins s σ H _ I h) fun us s1 ⟨vs, H1, I1, r1, q1⟩ => ?_) he hpl (by rfl) (by rfl)
  obtain ⟨hT, l, a, ns, rows, rfl, hi, hsq, hcells, hQ⟩ := q1
  obtain rfl := Vals.ref1 r1
  show wpAny _ _ (evalAll ((do let v ← eval (.Lambda params (keyBody r x ka kb ja jb p1 p2 p3 p4 p5 p6 p7 p8 p9 p10 p11) scope lpos) X.env; standAt cpos; pure v) :: [])) _ _ s1
  have hcl : ∀ y ∈ scope.names, y.2 = .free → ∃ c, X.env.cells.lookup y.1 = some c := fun y hy e => (hfree y hy e).elim (fun z => I.ok.has _ (.inl z)) fun z => I.ok.has _ (.inr z)
  refine wpAny_evalAll_cons (wpAny_bind (lam_new I1 TB hcode hq hT hdef hcl fun f c' pm ctv H2 s2 I2 eN nn T2 hf hrec => wpAny_bind (wpAny_standAt (wpAny_pure (wpAny_evalAll_nil ?_)))))
  show wpAny _ _ (call (.builtin "sorted") [.ref l] [(Str.ofString "key", .ref f)]) _ _ s2
  obtain ⟨sl, sa⟩ := hsq H2 eN
  obtain ⟨its, rv, pl, hz⟩ := I2.list sl
  obtain ⟨rts, rv2, pl2, hz2⟩ := I2.list sa
  rw [List.length_map] at hz
  -- the captured name's cell
  obtain ⟨m, hn, hl⟩ := I2.loc
  obtain ⟨u0, ru, lu⟩ := hl i r _ hN hi (.inr (.inl hvc))
  obtain ⟨cc, hcc, hcell⟩ : ∃ cc, X.env.cells.lookup r = some cc ∧ s2.heap.IsCell cc (some u0) := by
    rcases lu with ⟨hk, _⟩ | ⟨_, cc, h1, h2⟩
    · rw [show X.env.scope.names.lookup r = _ from hk] at hvc
      cases hvc
    · exact ⟨cc, h1, h2⟩
  obtain rfl : u0 = Value.ref a := ru
  have hclo := NdefX.clo_has hcl (PySem.mem_of_lookup S.free) hcc
  have lim : s2.heap.NoLimit := I2.nolimit
  have key : ∃ key : Int → Int, ∀ n ∈ ns, ∃ (k : Nat) (tt : Addr) (xs : List V) (u v : Int), n = (k : Int) ∧ rows[k]? = some (.ref tt) ∧ SqT X.K H2 tt xs ∧ xs[ka]? = some (.int u) ∧ xs[kb]? = some (.int v) ∧ key n = u - v := by
    have h2 : ∀ n : Int, ∃ z : Int, n ∈ ns → ∃ (k : Nat) (tt : Addr) (xs : List V) (u v : Int), n = (k : Int) ∧ rows[k]? = some (.ref tt) ∧ SqT X.K H2 tt xs ∧ xs[ka]? = some (.int u) ∧ xs[kb]? = some (.int v) ∧ z = u - v := fun n => by
      by_cases h : n ∈ ns
      · obtain ⟨k, tt, xs, u, v, h1, h2, h3, h4, h5⟩ := hcells n h
        exact ⟨u - v, fun _ => ⟨k, tt, xs, u, v, h1, h2, h3 H2 eN, h4, h5, rfl⟩⟩
      · exact ⟨0, fun z => absurd z h⟩
    exact ⟨fun n => (h2 n).choose, fun n hn => (h2 n).choose_spec hn⟩
  obtain ⟨key, hkey⟩ := key
  refine PySem.W.sorted_key_data (b := false) (fun n : Int => .int (key n)) pl.isList (each_ints rv.ints) (PySem.W.AllAlike.of fun _ _ => by simp [PySem.W.alike]) (PySem.W.Sortable.others fun _ => ⟨by simp, by simp⟩) hz (fun n _ => ?_) (PyProof.Rows.ksk_s1 _ _) (fun _ => PyProof.Rows.ksk_l1 _ _) (fun _ => PyProof.Rows.ksk_t1 _ _) (fun v n ⟨tn, ev⟩ hn2 h tk hup => ?_) fun out ce h' tk hup _ hD hlen eo => ?_
  · have := hr.un
    show X.A.units + 2 + 0 < cLine
    omega
  · subst ev
    obtain ⟨k, tt, xs, u, v, rfl, e1, e2, e3, e4, e5⟩ := hkey n hn2
    obtain ⟨xts, rv3, pt, hz3⟩ := I2.tuple e2
    obtain ⟨w1, f1, g1⟩ := rv2.get e1
    obtain rfl : w1 = Value.ref tt := g1
    obtain ⟨w2, f2, g2⟩ := rv3.get e3
    obtain ⟨tu, rfl⟩ := (show ∃ t, w2 = Value.int u t from g2)
    obtain ⟨w3, f3, g3⟩ := rv3.get e4
    obtain ⟨tv, rfl⟩ := (show ∃ t, w3 = Value.int v t from g3)
    have hl3 := rv3.length
    have hl2 := rv2.length
    have hk : k < rows.length := (List.getElem?_eq_some_iff.mp e1).1
    have sz := line63
    have K := key_turn (prog := X.prog) (w := X.w) (A := X.A.in1.in1) (s := { s2 with heap := h, toks := tk }) (kk := kk) (n := k) (tn := tn) (its := rts.toArray) (vs := xts.toArray) (a := a) (t := tt) (c := cc) (hr.in1.in1) S (lim.keeps hup) (fun v => hbind _ _ _ _ v) (hup _ _ hf) (by
      obtain ⟨c0, oc, vs, t0, a1, a2, a3, a4⟩ := hrec
      exact ⟨c0, oc, vs, t0, a1, hup _ _ a2, a3, a4⟩) hclo (by
      obtain ⟨o, b1, b2⟩ := hcell
      exact ⟨o, hup _ _ b1, b2⟩) (by
      obtain ⟨o, b1, b2⟩ := pl2.isList
      exact ⟨o, hup _ _ b1, b2⟩) (by omega) (by simpa using f1) (by
      obtain ⟨o, b1, b2⟩ := pt
      exact ⟨o, hup _ _ b1, b2⟩) (by rw [List.size_toArray]; omega) (by simpa using f2) (by simpa using f3) hd1 hd2 hcd
    rw [e5]
    exact K
  · have io := ints_each eo
    have pm := List.mergeSort_perm ns (PySem.W.dataLe false fun n : Int => PyData.int (key n))
    exact ⟨.ref _, upd H2 (s2.heap.objs.size + 1) (.lst ((ns.mergeSort (PySem.W.dataLe false fun n : Int => PyData.int (key n))).map V.int)), I2.laid (t' := tk) hup (Nat.le_succ _) ⟨by rw [List.length_map, pm.length_eq]; exact hz, out, ce, vals_of_ints io, hD⟩, rfl, hQ H2 eN nn T2 _ _ pm (I2.hok.fresh (Nat.le_succ _))⟩
end
end SortL
namespace DL
open PySem PySem.Spec L2 NdefX LamX
variable [TP]
def sortK (o : Option (Option C)) (a b : Nat) (ns : List Int) (P : C → Prop) : Prop := match o with
  | some (some (.d (.lst rows))) => (∀ n ∈ ns, ∃ (k : Nat) (xs : List D) (u v : Int), n = (k : Int) ∧ rows[k]? = some (.tup xs) ∧ xs[a]? = some (.int u) ∧ xs[b]? = some (.int v)) ∧ ∀ ms : List Int, ms.Perm ns → P (.nl (ms.map .int))
  | _ => False
def sortKD (o : Option (Option C)) (a b : Nat) (P : C → Prop) : D → Prop
  | .lst xs => withI (intsD xs) fun ns => sortK o a b ns P
  | _ => False
def dSortKL (t : DTE) (j a b : Nat) : DTE := fun ρ Q E => t ρ (fun c => sortKD (ρ[j]?) a b Q c.dat) E
theorem sq_ext {K : PySem.W.Frag} {H H' : Hp} (e : ExtN H H') {a : Addr} {xs : List V} (h : SqL K H a xs) : SqL K H' a xs := by
  rcases h with (h | ⟨o, h⟩) | h
  · exact .inl (.inl (e _ _ h fun ps z => by cases z))
  · exact .inl (.inr ⟨o, e _ _ h fun ps z => by cases z⟩)
  · exact .inr h
theorem rd_ext {H H' : Hp} (e : ExtN H H') {a : Addr} {xs : List V} (h : Rd H a (.tup xs)) : Rd H' a (.tup xs) := by
  rcases h with h | ⟨o, h⟩
  · exact .inl (e _ _ h fun ps z => by cases z)
  · exact .inr ⟨o, e _ _ h fun ps z => by cases z⟩
section
variable {X : Cx} {W : WX} {e : Expr} {t : DTE} {kk j ka kb ja jb : Nat} {c : Addr} {r x : Str} {params : Arguments} {scope : Scope} {p lpos kpos cpos p1 p2 p3 p4 p5 p6 p7 p8 p9 p10 p11 : Pos}
theorem d_sortKL0 (hr : Room (kk + 2) X.A) (on : TP.on = true) (TB : TabB X.base X.mg c TP.P) (hcode : X.env.code = .ref c) (hq : TP.q = X.env.qual ++ "<lambda>")
    (S : SortL.KeyS x r scope) (hfree : ∀ y ∈ scope.names, y.2 = .free → X.env.scope.names.lookup y.1 = some .cell ∨ X.env.scope.names.lookup y.1 = some .free) (hdef : defaultsOf params X.env = ([], []))
    (hbind : ∀ (clo : List (Str × Addr)) (pm cv ctv v : Value), bindArgs (PySem.W.kla_fn "<lambda>" TP.q params (SortL.keyBody r x ka kb ja jb p1 p2 p3 p4 p5 p6 p7 p8 p9 p10 p11) scope clo pm cv ctv) ⟨[v], []⟩ = pure [(x, v)])
    (hg : Gl X "sorted") (hm : X.mg "sorted" = none) (ha : PA X [e] (tAB X.K W (dConsA t dNilA))) (hN : X.N[j]? = some r) (hvc : X.env.scope.names.lookup r = some .cell)
    (hd1 : (r == ("__debug__" : Str)) = false) (hd2 : (x == ("__debug__" : Str)) = false) (hcd : (r == ("__classdict__" : Str)) = false)
    (he : backTo cpos (starEach [e] X.env) = (false, eval e X.env) :: backTo cpos (starEach [] X.env)) (hpl : (backTo cpos (starEach [e] X.env)).any (·.1) = false) :
    PE X (.Call (.Name "sorted" p) [e] [⟨some "key", .Lambda params (SortL.keyBody r x ka kb ja jb p1 p2 p3 p4 p5 p6 p7 p8 p9 p10 p11) scope lpos, kpos⟩] cpos) (tD X.K W (dSortKL t j ka kb)) := by
  refine PE_conseq (SortL.pe_sortK (q := TP.q) (i := j) hr TB hcode hq S hfree hdef hbind hg hm ha hN hvc hd1 hd2 hcd he hpl) fun σ H Q ⟨en, ρ, G, QD, QE, R, h, hq, hx⟩ => ?_
  refine ⟨en, ρ, G, fun xs => (match xs with
    | [x] => sortKD (ρ[j]?) ka kb QD x
    | _ => False), QE, R, h, fun vs H1 G1 xs g1 r1 h1 => ?_, hx⟩
  have one : ∃ ys, xs = [.lst ys] ∧ withI (intsD ys) fun ns => sortK (ρ[j]?) ka kb ns QD := by
    cases xs with
    | nil => exact h1.elim
    | cons x xs =>
      cases xs with
      | cons _ _ => exact h1.elim
      | nil => cases x with
        | lst ys => exact ⟨ys, rfl, h1⟩
        | _ => exact h1.elim
  obtain ⟨ys, rfl, h1⟩ := one
  obtain ⟨v, rfl, rv⟩ := r1.one
  obtain ⟨ns, e1, h1⟩ := withI_some h1
  obtain ⟨l, lv, rfl, hl, rl⟩ := rv.lst g1.gh
  rw [intsD_eq e1] at rl
  obtain rfl := RepL.ofInts rl
  have R1 := R.grow g1
  cases hj : ρ[j]? with
  | none => rw [hj] at h1; exact h1.elim
  | some o =>
    cases o with
    | none => rw [hj] at h1; exact h1.elim
    | some cc =>
      rw [hj] at h1
      obtain ⟨rows, rfl, h1, h2⟩ : ∃ rows, cc = .d (.lst rows) ∧ (∀ n ∈ ns, ∃ (k : Nat) (xs : List D) (u v : Int), n = (k : Int) ∧ rows[k]? = some (.tup xs) ∧ xs[ka]? = some (.int u) ∧ xs[kb]? = some (.int v)) ∧ ∀ ms : List Int, ms.Perm ns → QD (.nl (ms.map .int)) := by
        cases cc with
        | d y => cases y with
          | lst rows => exact ⟨rows, rfl, h1⟩
          | _ => exact h1.elim
        | _ => exact h1.elim
      obtain ⟨rvv, s1, r2, _⟩ := R1.at_ j _ hj
      cases r2 with
      | d r2 =>
        cases r2 with
        | @lst ra rvs _ hra rrl =>
          have hra := g1.gh.seq hra
          refine ⟨R1.tq on, l, ra, ns, rvs, rfl, s1, fun H2 eN => ⟨sq_ext eN hl, sq_ext eN hra⟩, fun n hn => ?_, fun H2 eN nn T2 ms pp pm hp => ?_⟩
          · obtain ⟨k, xs, u, v, rfl, z1, z2, z3⟩ := h1 n hn
            obtain ⟨vt, y1, y2⟩ := rrl.get z1
            cases y2 with
            | @tup tt tvs _ ht tr =>
              obtain ⟨w1, a1, b1⟩ := tr.get z2
              obtain ⟨w2, a2, b2⟩ := tr.get z3
              cases b1
              cases b2
              exact ⟨k, tt, tvs, u, v, rfl, y1, fun H2 eN => .inl (rd_ext eN (rd_same g1.gh ht)), a1, a2⟩
          · have g2 := gr_ndef on R1.gl.gh eN nn (fun p hp => by
              obtain rfl := List.mem_singleton.mp hp
              exact TabN.of T2)
            have hq : VPost X.K G H QD Q := hq
            exact (hq.grow (g1.trans g2)).nl g2.gh hp (RepL.ints ms) (h2 ms pm)
def freeB (sc nsc : Scope) : Bool := nsc.names.all fun y => !decide (y.2 = .free) || (decide (sc.names.lookup y.1 = some .cell) || decide (sc.names.lookup y.1 = some .free))
theorem freeB_un {sc nsc : Scope} (h : freeB sc nsc = true) : ∀ y ∈ nsc.names, y.2 = .free → sc.names.lookup y.1 = some .cell ∨ sc.names.lookup y.1 = some .free := fun y hy e => by
  have := List.all_eq_true.mp h y hy
  rw [e] at this
  simp only [decide_true, Bool.not_true, Bool.false_or, Bool.or_eq_true, decide_eq_true_eq] at this
  exact this
theorem d_sortKL {d : He.Defn} {q : Str} {k : Nat} (ka kb : Nat) (r x : Str) (B : Bd X W k) (pk : PickT X.K X.base X.mg d q) (hm : X.mg "sorted" = none) (ha : PA X [e] (tAB X.K W (dConsA t dNilA))) (hk : 2 ≤ k := by decide)
    (hcode : X.env.code = .ref (He.codeOf X.K d) := by rfl) (hq : q = X.env.qual ++ "<lambda>" := by rfl)
    (hS : SortL.keySB x r scope = true := by decide +kernel) (hfree : freeB X.env.scope scope = true := by rfl) (hdef : defaultsOf params X.env = ([], []) := by rfl)
    (hbind : ∀ (qq : Str) (clo : List (Str × Addr)) (pm cv ctv v : Value), bindArgs (PySem.W.kla_fn "<lambda>" qq params (SortL.keyBody r x ka kb ja jb p1 p2 p3 p4 p5 p6 p7 p8 p9 p10 p11) scope clo pm cv ctv) ⟨[v], []⟩ = pure [(x, v)] := by intros; rfl)
    (hg : Gl X "sorted" := by rfl) (hN : X.N[j]? = some r := by rfl) (hvc : X.env.scope.names.lookup r = some .cell := by rfl)
    (hd1 : (r == ("__debug__" : Str)) = false := by decide) (hd2 : (x == ("__debug__" : Str)) = false := by decide) (hcd : (r == ("__classdict__" : Str)) = false := by decide)
    (he : backTo cpos (starEach [e] X.env) = (false, eval e X.env) :: backTo cpos (starEach [] X.env) := by rfl) (hpl : (backTo cpos (starEach [e] X.env)).any (·.1) = false := by rfl) :
    PE X (.Call (.Name "sorted" p) [e] [⟨some "key", .Lambda params (SortL.keyBody r x ka kb ja jb p1 p2 p3 p4 p5 p6 p7 p8 p9 p10 p11) scope lpos, kpos⟩] cpos) (tD X.K W (dSortKL t j ka kb)) :=
  d_sortKL0 (kk := k - 2) (by have := B.hr; rwa [show k = k - 2 + 2 by omega] at this) pk.on.1 pk.tb hcode (pk.on.2.trans hq) (SortL.keyS_by hS) (freeB_un hfree) hdef (fun _ _ _ _ _ => hbind _ _ _ _ _ _) hg hm ha hN hvc hd1 hd2 hcd he hpl
end
end DL
namespace DL
open PySem PySem.Spec L2
end DL
namespace DL
open PySem PySem.Spec L2
namespace Z
section
variable {vv : V} {as : List Addr} {xss : List (List D)} {x y' : D} {ws : List V} {xs ys : List D} {kvs : List (Key × D)} {a : Addr} {xk xk2 : XI} {ask : Ask} {c cn : Cn} {fl : List (Fd × D)} {i j k : Int} {z y : Str} {b d : Bool} {Q : C → Prop} {P : Bool → Prop} {PI : Int → Prop} {lo hi : Option Int} {ns : List Int} {bs : List Bool} {ss : List Str} {PL : List Int → Prop} {PB : List Bool → Prop} {PS : List Str → Prop} {PD : List D → Prop} {n : Nat} {is : List Nat} {ρ : Rho} {PR : Rho → Prop} {cs : List Cn} {f g : Fd} {alt : Cn → Option FS} {PF : FS → Prop} {PN : Nat → Prop} {kk : Key} {PK : Key → Prop}
theorem dat_d : (C.d x).dat = x := rfl
theorem dat_nl : (C.nl xs).dat = .lst xs := rfl
theorem dat_nd : (C.nd kvs).dat = .dic kvs := rfl
theorem dat_no : (C.no a c fl).dat = .obj c fl := rfl
theorem dat_np : (C.np a xs).dat = .lst xs := rfl
theorem dat_ro : (C.ro a ws xs).dat = .lst xs := rfl
theorem dat_fz : (C.fz vv x).dat = x := rfl
theorem dat_cp : (C.cp a xs).dat = .lst xs := rfl
theorem own_fz : (C.fz vv x).own = false := rfl
theorem own_cp : (C.cp a xs).own = true := rfl
theorem dat_nt : (C.nt a xs x).dat = .box (.tup [.lst xs, x]) := rfl
theorem dat_nn : (C.nn as xss).dat = .box (.lst (xss.map .lst)) := rfl
theorem own_nt : (C.nt a xs x).own = true := rfl
theorem own_nn : (C.nn as xss).own = true := rfl
theorem isN_box : D.isN (.box x) = false := rfl
theorem rev1_l : rev1 [.lst xs] PD = PD xs.reverse := propext Iff.rfl
theorem isI_i : isI (.int i) PI = PI i := propext Iff.rfl
theorem isBox_b : isBox (.box x) PX = PX x := propext Iff.rfl
theorem step_l : stepD (.lst xs) Q = ∀ is : List Nat, Q (.nl (is.filterMap (xs[·]?))) := propext Iff.rfl
theorem own_d : (C.d x).own = false := rfl
theorem own_nl : (C.nl xs).own = true := rfl
theorem own_nd : (C.nd kvs).own = true := rfl
theorem own_no : (C.no a c fl).own = true := rfl
theorem own_np : (C.np a xs).own = true := rfl
theorem own_ro : (C.ro a ws xs).own = true := rfl
theorem add_ii : dAdd (.int i) (.int j) Q = Q (.d (.int (i + j))) := propext Iff.rfl
theorem add_ss : dAdd (.str z) (.str y) Q = (z.length + y.length ≤ sizeLine ∧ Q (.d (.str (z ++ y)))) := propext Iff.rfl
theorem add_ll : dAdd (.lst xs) (.lst ys) Q = (xs.length + ys.length ≤ sizeLine ∧ Q (.nl (xs ++ ys))) := propext Iff.rfl
theorem add_tt : dAdd (.tup xs) (.tup ys) Q = (xs ≠ [] ∧ ys ≠ [] ∧ xs.length + ys.length ≤ sizeLine ∧ Q (.d (.tup (xs ++ ys)))) := propext Iff.rfl
theorem sub_ii : dSub (.int i) (.int j) Q = Q (.d (.int (i - j))) := propext Iff.rfl
theorem mul_ii : dMul (.int i) (.int j) Q = (MulOk i j ∧ Q (.d (.int (i * j)))) := propext Iff.rfl
theorem mul_si : dMul (.str z) (.int i) Q = ((1 ≤ i ∧ i ≤ 1000 ∧ z.length ≤ 1000) ∧ Q (.d (.str (repS z i.toNat)))) := propext Iff.rfl
theorem div_ii : dDiv (.int i) (.int j) Q = ((0 < j ∧ big j < 9000) ∧ Q (.d (.int (i / j)))) := propext Iff.rfl
theorem mod_ii : dMod (.int i) (.int j) Q = (0 < j ∧ Q (.d (.int (i % j)))) := propext Iff.rfl
theorem pow_ii : dPow (.int i) (.int j) Q = ((0 ≤ j ∧ j ≤ 1000000 ∧ i.natAbs < 2 ^ 64) ∧ Q (.d (.int (i ^ j.toNat)))) := propext Iff.rfl
theorem neg_i : dNeg (.int i) Q = Q (.d (.int (-i))) := propext Iff.rfl
theorem addI_ii : dAddI (.int i) (.int j) Q = Q (.d (.int (i + j))) := propext Iff.rfl
theorem addI_ss : dAddI (.str z) (.str y) Q = (z.length + y.length ≤ sizeLine ∧ Q (.d (.str (z ++ y)))) := propext Iff.rfl
theorem lt_ii : cLt (.int i) (.int j) P = P (decide (i < j)) := propext Iff.rfl
theorem lt_ss : cLt (.str z) (.str y) P = P (decide (z.cps.toList < y.cps.toList)) := propext Iff.rfl
theorem le_ii : cLe (.int i) (.int j) P = P (decide (i ≤ j)) := propext Iff.rfl
theorem gt_ii : cGt (.int i) (.int j) P = P (decide (j < i)) := propext Iff.rfl
theorem ge_ii : cGe (.int i) (.int j) P = P (decide (j ≤ i)) := propext Iff.rfl
theorem eq_ii : eqD (.int i) (.int j) P = P (decide (i = j)) := propext Iff.rfl
theorem eq_ss : eqD (.str z) (.str y) P = P (decide (z = y)) := propext Iff.rfl
theorem eq_bb : eqD (.bl b) (.bl d) P = P (decide (b = d)) := propext Iff.rfl
theorem eq_nn : eqD .non .non P = P true := propext Iff.rfl
theorem eq_ll : eqD (.lst xs) (.lst ys) P = (SeqAt.shaped (D.lst xs).py = true ∧ SeqAt.shaped (D.lst ys).py = true ∧ P (PyData.eqv (D.lst xs).py (D.lst ys).py)) := propext Iff.rfl
theorem eq_tt : eqD (.tup xs) (.tup ys) P = (SeqAt.shaped (D.tup xs).py = true ∧ SeqAt.shaped (D.tup ys).py = true ∧ P (PyData.eqv (D.tup xs).py (D.tup ys).py)) := propext Iff.rfl
theorem isB : cIsB (.bl b) (.bl d) P = P (decide (b = d)) := propext Iff.rfl
theorem notB : cNotB (.bl b) (.bl d) P = P (!decide (b = d)) := propext Iff.rfl
theorem isN_non : D.isN (.non ) = true := rfl
theorem kind_non : kindD (.non ) = some "NoneType" := rfl
theorem isN_bl : D.isN (.bl b) = false := rfl
theorem kind_bl : kindD (.bl b) = some "bool" := rfl
theorem isN_int : D.isN (.int i) = false := rfl
theorem kind_int : kindD (.int i) = some "int" := rfl
theorem isN_str : D.isN (.str z) = false := rfl
theorem kind_str : kindD (.str z) = some "str" := rfl
theorem isN_lst : D.isN (.lst xs) = false := rfl
theorem kind_lst : kindD (.lst xs) = some "list" := rfl
theorem isN_tup : D.isN (.tup xs) = false := rfl
theorem kind_tup : kindD (.tup xs) = some "tuple" := rfl
theorem isN_dic : D.isN (.dic kvs) = false := rfl
theorem kind_dic : kindD (.dic kvs) = some "dict" := rfl
theorem isN_obj : D.isN (.obj cn fl) = false := rfl
theorem isN_exn : D.isN (.exn xk cn fl) = false := rfl
theorem isBl_b : isBl P (.bl b) = P b := propext Iff.rfl
theorem isInt_i : isInt PI (.int i) = PI i := propext Iff.rfl
theorem in_l : cIn x (.lst xs) P = (flatD x = true ∧ xs.all flatD = true ∧ P (inD x xs)) := propext Iff.rfl
theorem in_t : cIn x (.tup xs) P = (flatD x = true ∧ xs.all flatD = true ∧ P (inD x xs)) := propext Iff.rfl
theorem in_di : cIn (.int i) (.dic kvs) P = P (valD kvs (.inl i)).isSome := propext Iff.rfl
theorem in_ds : cIn (.str z) (.dic kvs) P = P (valD kvs (.inr z)).isSome := propext Iff.rfl
theorem in_ss : cIn (.str z) (.str y) P = P (!(Builtin.Str.occurrences y z 0 y.length 1).isEmpty) := propext Iff.rfl
theorem ix_l : dIx (.lst xs) (.int i) Q = optQ (ixD xs i) Q := propext Iff.rfl
theorem ix_t : dIx (.tup xs) (.int i) Q = optQ (ixD xs i) Q := propext Iff.rfl
theorem ix_s : dIx (.str z) (.int i) Q = (z.length ≤ sizeLine ∧ optQ ((ixD z.cps.toList i).map fun c => .str (oneSign c)) Q) := propext Iff.rfl
theorem ix_di : dIx (.dic kvs) (.int i) Q = optQ (valD kvs (.inl i)) Q := propext Iff.rfl
theorem ix_ds : dIx (.dic kvs) (.str z) Q = optQ (valD kvs (.inr z)) Q := propext Iff.rfl
theorem optQ_s : optQ (some x) Q = Q (.d x) := propext Iff.rfl
theorem optQ_n : optQ none Q = False := propext Iff.rfl
theorem sort2_l : fSort2 [.lst xs] Q = (match intsD xs with | some ns => ∀ ms : List Int, ms.Perm ns → ms.Pairwise (· ≤ ·) → Q (.nl (ms.map D.int)) | none => match strsD xs with | some ss => ss.length < 64 ∧ ∀ ys : List Str, ys.Perm ss → PyProof.Rows.sortedS ys = true → Q (.nl (ys.map D.str)) | none => match tupsD xs with | some l => fSortT l Q | none => False) := propext Iff.rfl
theorem maxOr_l : maxOrD (.lst xs) (.int i) Q = withI (intsD xs) fun ns => Q (.d (.int (maxOr i ns))) := propext Iff.rfl
theorem isC_o : isC cs c (.obj cn fl) Q = (cn ∈ cs ∧ Q (.d (.bl (cn.sub c)))) := propext Iff.rfl
theorem isC_non : isC cs c (.non ) Q = Q (.d (.bl false)) := propext Iff.rfl
theorem isC_bl : isC cs c (.bl b) Q = Q (.d (.bl false)) := propext Iff.rfl
theorem isC_int : isC cs c (.int i) Q = Q (.d (.bl false)) := propext Iff.rfl
theorem isC_str : isC cs c (.str z) Q = Q (.d (.bl false)) := propext Iff.rfl
theorem isC_lst : isC cs c (.lst xs) Q = Q (.d (.bl false)) := propext Iff.rfl
theorem isC_tup : isC cs c (.tup xs) Q = Q (.d (.bl false)) := propext Iff.rfl
theorem isC_dic : isC cs c (.dic kvs) Q = Q (.d (.bl false)) := propext Iff.rfl
theorem plain_non : D.plain (.non ) = true := rfl
theorem atom_non : D.atom (.non ) = true := rfl
theorem plain_bl : D.plain (.bl b) = true := rfl
theorem atom_bl : D.atom (.bl b) = true := rfl
theorem plain_int : D.plain (.int i) = true := rfl
theorem atom_int : D.atom (.int i) = true := rfl
theorem plain_str : D.plain (.str z) = true := rfl
theorem atom_str : D.atom (.str z) = true := rfl
theorem plain_tup : D.plain (.tup xs) = plainL xs := rfl
theorem plain_Ln : plainL [] = true := rfl
theorem plain_Lc : plainL (x :: xs) = (x.plain && plainL xs) := rfl
theorem plain_Cd : C.plain (.d x) = x.plain := rfl
theorem plain_Cnl : C.plain (.nl xs) = plainL xs := rfl
theorem rev_l : revD (.lst xs) Q = Q (.nl xs.reverse) := propext Iff.rfl
theorem key_i : keyD (.int i) = some (.inl i) := rfl
theorem key_s : keyD (.str z) = some (.inr z) := rfl
theorem optK_s : optK (some kk) PK = PK kk := propext Iff.rfl
theorem sl_l : slD lo hi (.lst xs) Q = Q (.nl (cutD xs lo hi)) := propext Iff.rfl
theorem sl_s : slD lo hi (.str z) Q = (z.length ≤ sizeLine ∧ Q (.d (.str (cutS z lo hi)))) := propext Iff.rfl
theorem len_l : fLen [.lst xs] Q = Q (.d (.int xs.length)) := propext Iff.rfl
theorem len_t : fLen [.tup xs] Q = Q (.d (.int xs.length)) := propext Iff.rfl
theorem len_s : fLen [.str z] Q = (z.length ≤ sizeLine ∧ Q (.d (.int z.length))) := propext Iff.rfl
theorem len_d : fLen [.dic kvs] Q = Q (.d (.int kvs.length)) := propext Iff.rfl
theorem int_i : fInt [.int i] Q = Q (.d (.int i)) := propext Iff.rfl
theorem int_b : fInt [.bl b] Q = Q (.d (.int (if b then 1 else 0))) := propext Iff.rfl
theorem str_i : fStr [.int i] Q = (big i < 1920 ∧ Q (.d (.str (toString i)))) := propext Iff.rfl
theorem list_l : fList [.lst xs] Q = Q (.nl xs) := propext Iff.rfl
theorem list_t : fList [.tup xs] Q = Q (.nl xs) := propext Iff.rfl
theorem max_ii : fMax2 [.int i, .int j] Q = Q (.d (.int (max i j))) := propext Iff.rfl
theorem min_ii : fMin2 [.int i, .int j] Q = Q (.d (.int (min i j))) := propext Iff.rfl
theorem sum_l : fSum [.lst xs] Q = withI (intsD xs) fun ns => Q (.d (.int ns.sum)) := propext Iff.rfl
theorem maxl : fMaxL [.lst xs] Q = withI (intsD xs) fun ns => ns ≠ [] ∧ ∀ m, m ∈ ns → (∀ y, y ∈ ns → y ≤ m) → Q (.d (.int m)) := propext Iff.rfl
theorem minl : fMinL [.lst xs] Q = withI (intsD xs) fun ns => ns ≠ [] ∧ ∀ m, m ∈ ns → (∀ y, y ∈ ns → m ≤ y) → Q (.d (.int m)) := propext Iff.rfl
theorem all_l : fAll [.lst xs] Q = withB (blsD xs) fun ns => Q (.d (.bl (ns.all id))) := propext Iff.rfl
theorem any_l : fAny [.lst xs] Q = withB (blsD xs) fun ns => Q (.d (.bl (ns.any id))) := propext Iff.rfl
theorem sortI : fSortI [.lst xs] Q = withI (intsD xs) fun ns => ∀ ms : List Int, ms.Perm ns → ms.Pairwise (· ≤ ·) → Q (.nl (ms.map D.int)) := propext Iff.rfl
theorem divmod_ii : fDivmod [.int i, .int j] Q = ((0 < j ∧ big j < 9000) ∧ Q (.d (.tup [.int (i / j), .int (i % j)]))) := propext Iff.rfl
theorem withI_s : withI (some ns) PL = PL ns := propext Iff.rfl
theorem withB_s : withB (some bs) PB = PB bs := propext Iff.rfl
theorem withS_s : withS (some ss) PS = PS ss := propext Iff.rfl
theorem itL_l : itL (.lst xs) PD = PD xs := propext Iff.rfl
theorem itT_t : itT (.tup xs) PD = PD xs := propext Iff.rfl
theorem itS_s : itS (.str z) PD = PD (signs z) := propext Iff.rfl
theorem max3_i : fMax3 [.int i, .int j, .int k] Q = Q (.d (.int (max (max i j) k))) := propext Iff.rfl
theorem maxTu_t : fMaxTu [.tup xs] Q = withI (intsD xs) fun ns => ns ≠ [] ∧ ∀ m, m ∈ ns → (∀ y ∈ ns, y ≤ m) → Q (.d (.int m)) := propext Iff.rfl
theorem ltT_tt : cLtT (.tup xs) (.tup ys) P = withI (intsD xs) fun ns => withI (intsD ys) fun ms => P (HT.lexLt ns ms) := propext Iff.rfl
theorem rng1_i : rng1 [.int i] PD = (small62 i ∧ PD (rngD 0 i)) := propext Iff.rfl
theorem rng2_i : rng2 [.int i, .int j] PD = (small62 i ∧ small62 j ∧ PD (rngD i (j - i))) := propext Iff.rfl
theorem tg_1 : tgSet (.one n) x ρ PR = PR (ρ.set n (some (.d x))) := propext Iff.rfl
theorem tg_m : tgSet (.many is) (.tup xs) ρ PR = (xs.length = is.length ∧ PR (setAll ρ is xs)) := propext Iff.rfl
theorem setAll_c : setAll ρ (n :: is) (x :: xs) = setAll (ρ.set n (some (.d x))) is xs := rfl
theorem setAll_n : setAll ρ [] xs = ρ := rfl
theorem xat_e : xatOf xk c f (.exn xk2 cn fl) Q = (xk2 = xk ∧ cn = c ∧ optQ (fl.lookup f) Q) := propext Iff.rfl
theorem xis_e : xisOf xk cs ask (.exn xk2 cn fl) Q = (xk2 = xk ∧ cn ∈ cs ∧ Q (.d (.bl (ask.of cn)))) := propext Iff.rfl
theorem join_l : joinD (.str z) (.lst xs) Q = withS (strsD xs) fun ys => (ys.map (·.length)).sum + ys.length * z.length ≤ 16777216 ∧ Q (.d (.str (Txt.join z ys))) := propext Iff.rfl
theorem part_s : partD (.str z) (.str y) Q = (((y.length == 0) = false ∧ z.length ≤ sizeLine) ∧ Q (.d (.tup [.str (Txt.partition z y).1, .str (Txt.partition z y).2.1, .str (Txt.partition z y).2.2]))) := propext Iff.rfl
theorem split_s : splitD (.str z) (.str y) Q = (((y.length == 0) = false ∧ z.length + 2 ≤ sizeLine) ∧ Q (.nl ((Txt.split z y).map D.str))) := propext Iff.rfl
theorem starts_s : startsD (.str z) (.str y) Q = Q (.d (.bl (Txt.startswith z y))) := propext Iff.rfl
theorem upper_s : upperD (.str z) Q = (z.length ≤ 5592405 ∧ Q (.d (.str (Txt.upper z)))) := propext Iff.rfl
theorem isStr_s : isStrD (.str z) = True := propext Iff.rfl
theorem itE_l : itE (.lst xs) PD = PD (enumD 0 xs) := propext Iff.rfl
theorem fld_o : fldOf cs f (.obj cn fl) Q = (cn ∈ cs ∧ optQ (fl.lookup f) Q) := propext Iff.rfl
theorem recv_o : mRecv alt (.obj cn fl) PF = (match alt cn with | some fs => PF fs | none => False) := propext Iff.rfl
theorem st_l : storeAt (.nl xs) (.int i) x Q = optN (ixN xs.length i) fun n => Q (.nl (xs.set n x)) := propext Iff.rfl
theorem unpL_l : unpL is (.lst xs) ρ PR = (xs.length = is.length ∧ PR (setAll ρ is xs)) := propext Iff.rfl
theorem int_s : fInt [.str z] Q = (z.length ≤ 640 ∧ (match PySem.intText? z with | some n => Q (.d (.int n)) | none => False)) := propext Iff.rfl
theorem mulL_n : mulL (.nl xs) (.int i) Q = ((0 ≤ i ∧ i ≤ 100000 ∧ xs.length ≤ 100) ∧ Q (.nl (List.replicate i.toNat xs).flatten)) := propext Iff.rfl
theorem isNl_n : isNl (.nl xs) PD = PD xs := propext Iff.rfl
theorem pickQ_l : pickQ (.lst xs) PL = withI (intsD xs) PL := propext Iff.rfl
theorem st_np : storeAt (.np a xs) (.int i) x Q = optN (ixN xs.length i) fun n => Q (.np a (xs.set n x)) := propext Iff.rfl
theorem st_di : storeAt (.nd kvs) (.int i) x Q = (kvs.length < sizeLine ∧ Q (.nd (putD kvs (.inl i) x))) := propext Iff.rfl
theorem st_ds : storeAt (.nd kvs) (.str z) x Q = (kvs.length < sizeLine ∧ Q (.nd (putD kvs (.inr z) x))) := propext Iff.rfl
theorem optN_s : optN (some n) PN = PN n := propext Iff.rfl
theorem putFd_n : putFd f x [] = [(f, x)] := rfl
theorem putFd_c : putFd f x ((g, y') :: fl) = if g = f then (g, x) :: fl else (g, y') :: putFd f x fl := rfl
theorem sub_NoneType_bool : subT "NoneType" "bool" = false := by decide +kernel
theorem sub_NoneType_int : subT "NoneType" "int" = false := by decide +kernel
theorem sub_NoneType_str : subT "NoneType" "str" = false := by decide +kernel
theorem sub_NoneType_list : subT "NoneType" "list" = false := by decide +kernel
theorem sub_NoneType_tuple : subT "NoneType" "tuple" = false := by decide +kernel
theorem sub_NoneType_dict : subT "NoneType" "dict" = false := by decide +kernel
theorem sub_bool_bool : subT "bool" "bool" = true := by decide +kernel
theorem sub_bool_int : subT "bool" "int" = true := by decide +kernel
theorem sub_bool_str : subT "bool" "str" = false := by decide +kernel
theorem sub_bool_list : subT "bool" "list" = false := by decide +kernel
theorem sub_bool_tuple : subT "bool" "tuple" = false := by decide +kernel
theorem sub_bool_dict : subT "bool" "dict" = false := by decide +kernel
theorem sub_int_bool : subT "int" "bool" = false := by decide +kernel
theorem sub_int_int : subT "int" "int" = true := by decide +kernel
theorem sub_int_str : subT "int" "str" = false := by decide +kernel
theorem sub_int_list : subT "int" "list" = false := by decide +kernel
theorem sub_int_tuple : subT "int" "tuple" = false := by decide +kernel
theorem sub_int_dict : subT "int" "dict" = false := by decide +kernel
theorem sub_str_bool : subT "str" "bool" = false := by decide +kernel
theorem sub_str_int : subT "str" "int" = false := by decide +kernel
theorem sub_str_str : subT "str" "str" = true := by decide +kernel
theorem sub_str_list : subT "str" "list" = false := by decide +kernel
theorem sub_str_tuple : subT "str" "tuple" = false := by decide +kernel
theorem sub_str_dict : subT "str" "dict" = false := by decide +kernel
theorem sub_list_bool : subT "list" "bool" = false := by decide +kernel
theorem sub_list_int : subT "list" "int" = false := by decide +kernel
theorem sub_list_str : subT "list" "str" = false := by decide +kernel
theorem sub_list_list : subT "list" "list" = true := by decide +kernel
theorem sub_list_tuple : subT "list" "tuple" = false := by decide +kernel
theorem sub_list_dict : subT "list" "dict" = false := by decide +kernel
theorem sub_tuple_bool : subT "tuple" "bool" = false := by decide +kernel
theorem sub_tuple_int : subT "tuple" "int" = false := by decide +kernel
theorem sub_tuple_str : subT "tuple" "str" = false := by decide +kernel
theorem sub_tuple_list : subT "tuple" "list" = false := by decide +kernel
theorem sub_tuple_tuple : subT "tuple" "tuple" = true := by decide +kernel
theorem sub_tuple_dict : subT "tuple" "dict" = false := by decide +kernel
theorem sub_dict_bool : subT "dict" "bool" = false := by decide +kernel
theorem sub_dict_int : subT "dict" "int" = false := by decide +kernel
theorem sub_dict_str : subT "dict" "str" = false := by decide +kernel
theorem sub_dict_list : subT "dict" "list" = false := by decide +kernel
theorem sub_dict_tuple : subT "dict" "tuple" = false := by decide +kernel
theorem sub_dict_dict : subT "dict" "dict" = true := by decide +kernel
theorem toNat_lit {n : Nat} : (no_index (@OfNat.ofNat Int n _)).toNat = n := rfl
theorem natAbs_lit {n : Nat} : (no_index (@OfNat.ofNat Int n _)).natAbs = n := rfl
theorem bl_2 : (big 2 < 9000) = True := eq_true (by decide +kernel)
theorem bl_3 : (big 3 < 9000) = True := eq_true (by decide +kernel)
theorem bl_4 : (big 4 < 9000) = True := eq_true (by decide +kernel)
theorem bl_5 : (big 5 < 9000) = True := eq_true (by decide +kernel)
theorem bl_6 : (big 6 < 9000) = True := eq_true (by decide +kernel)
theorem bl_7 : (big 7 < 9000) = True := eq_true (by decide +kernel)
theorem bl_8 : (big 8 < 9000) = True := eq_true (by decide +kernel)
theorem bl_9 : (big 9 < 9000) = True := eq_true (by decide +kernel)
theorem bl_10 : (big 10 < 9000) = True := eq_true (by decide +kernel)
theorem bl_11 : (big 11 < 9000) = True := eq_true (by decide +kernel)
theorem bl_12 : (big 12 < 9000) = True := eq_true (by decide +kernel)
theorem bl_13 : (big 13 < 9000) = True := eq_true (by decide +kernel)
theorem bl_14 : (big 14 < 9000) = True := eq_true (by decide +kernel)
theorem bl_15 : (big 15 < 9000) = True := eq_true (by decide +kernel)
theorem bl_16 : (big 16 < 9000) = True := eq_true (by decide +kernel)
theorem bl_20 : (big 20 < 9000) = True := eq_true (by decide +kernel)
theorem bl_21 : (big 21 < 9000) = True := eq_true (by decide +kernel)
theorem bl_24 : (big 24 < 9000) = True := eq_true (by decide +kernel)
theorem bl_25 : (big 25 < 9000) = True := eq_true (by decide +kernel)
theorem bl_27 : (big 27 < 9000) = True := eq_true (by decide +kernel)
theorem bl_28 : (big 28 < 9000) = True := eq_true (by decide +kernel)
theorem bl_30 : (big 30 < 9000) = True := eq_true (by decide +kernel)
theorem bl_32 : (big 32 < 9000) = True := eq_true (by decide +kernel)
theorem bl_40 : (big 40 < 9000) = True := eq_true (by decide +kernel)
theorem bl_41 : (big 41 < 9000) = True := eq_true (by decide +kernel)
theorem bl_48 : (big 48 < 9000) = True := eq_true (by decide +kernel)
theorem bl_49 : (big 49 < 9000) = True := eq_true (by decide +kernel)
theorem bl_50 : (big 50 < 9000) = True := eq_true (by decide +kernel)
theorem bl_58 : (big 58 < 9000) = True := eq_true (by decide +kernel)
theorem bl_64 : (big 64 < 9000) = True := eq_true (by decide +kernel)
theorem bl_75 : (big 75 < 9000) = True := eq_true (by decide +kernel)
theorem bl_80 : (big 80 < 9000) = True := eq_true (by decide +kernel)
theorem bl_88 : (big 88 < 9000) = True := eq_true (by decide +kernel)
theorem bl_96 : (big 96 < 9000) = True := eq_true (by decide +kernel)
theorem bl_98 : (big 98 < 9000) = True := eq_true (by decide +kernel)
theorem bl_123 : (big 123 < 9000) = True := eq_true (by decide +kernel)
theorem bl_147 : (big 147 < 9000) = True := eq_true (by decide +kernel)
theorem bl_192 : (big 192 < 9000) = True := eq_true (by decide +kernel)
theorem bl_200 : (big 200 < 9000) = True := eq_true (by decide +kernel)
theorem bl_225 : (big 225 < 9000) = True := eq_true (by decide +kernel)
theorem bl_240 : (big 240 < 9000) = True := eq_true (by decide +kernel)
theorem bl_320 : (big 320 < 9000) = True := eq_true (by decide +kernel)
theorem bl_1000 : (big 1000 < 9000) = True := eq_true (by decide +kernel)
theorem bl_1274 : (big 1274 < 9000) = True := eq_true (by decide +kernel)
theorem bl_2880 : (big 2880 < 9000) = True := eq_true (by decide +kernel)
theorem bl_6720 : (big 6720 < 9000) = True := eq_true (by decide +kernel)
theorem bl_2147483647 : (big 2147483647 < 9000) = True := eq_true (by decide +kernel)
theorem mr_2 : MulOk i 2 = True := eq_true (.inl (.inr (by decide +kernel)))
theorem ml_2 : MulOk 2 i = True := eq_true (.inl (.inl (by decide +kernel)))
theorem mr_3 : MulOk i 3 = True := eq_true (.inl (.inr (by decide +kernel)))
theorem ml_3 : MulOk 3 i = True := eq_true (.inl (.inl (by decide +kernel)))
theorem mr_4 : MulOk i 4 = True := eq_true (.inl (.inr (by decide +kernel)))
theorem ml_4 : MulOk 4 i = True := eq_true (.inl (.inl (by decide +kernel)))
theorem mr_5 : MulOk i 5 = True := eq_true (.inl (.inr (by decide +kernel)))
theorem ml_5 : MulOk 5 i = True := eq_true (.inl (.inl (by decide +kernel)))
theorem mr_6 : MulOk i 6 = True := eq_true (.inl (.inr (by decide +kernel)))
theorem ml_6 : MulOk 6 i = True := eq_true (.inl (.inl (by decide +kernel)))
theorem mr_7 : MulOk i 7 = True := eq_true (.inl (.inr (by decide +kernel)))
theorem ml_7 : MulOk 7 i = True := eq_true (.inl (.inl (by decide +kernel)))
theorem mr_8 : MulOk i 8 = True := eq_true (.inl (.inr (by decide +kernel)))
theorem ml_8 : MulOk 8 i = True := eq_true (.inl (.inl (by decide +kernel)))
theorem mr_9 : MulOk i 9 = True := eq_true (.inl (.inr (by decide +kernel)))
theorem ml_9 : MulOk 9 i = True := eq_true (.inl (.inl (by decide +kernel)))
theorem mr_10 : MulOk i 10 = True := eq_true (.inl (.inr (by decide +kernel)))
theorem ml_10 : MulOk 10 i = True := eq_true (.inl (.inl (by decide +kernel)))
theorem mr_11 : MulOk i 11 = True := eq_true (.inl (.inr (by decide +kernel)))
theorem ml_11 : MulOk 11 i = True := eq_true (.inl (.inl (by decide +kernel)))
theorem mr_12 : MulOk i 12 = True := eq_true (.inl (.inr (by decide +kernel)))
theorem ml_12 : MulOk 12 i = True := eq_true (.inl (.inl (by decide +kernel)))
theorem mr_13 : MulOk i 13 = True := eq_true (.inl (.inr (by decide +kernel)))
theorem ml_13 : MulOk 13 i = True := eq_true (.inl (.inl (by decide +kernel)))
theorem mr_16 : MulOk i 16 = True := eq_true (.inl (.inr (by decide +kernel)))
theorem ml_16 : MulOk 16 i = True := eq_true (.inl (.inl (by decide +kernel)))
theorem mr_21 : MulOk i 21 = True := eq_true (.inl (.inr (by decide +kernel)))
theorem ml_21 : MulOk 21 i = True := eq_true (.inl (.inl (by decide +kernel)))
theorem mr_30 : MulOk i 30 = True := eq_true (.inl (.inr (by decide +kernel)))
theorem ml_30 : MulOk 30 i = True := eq_true (.inl (.inl (by decide +kernel)))
theorem mr_31 : MulOk i 31 = True := eq_true (.inl (.inr (by decide +kernel)))
theorem ml_31 : MulOk 31 i = True := eq_true (.inl (.inl (by decide +kernel)))
theorem mr_37 : MulOk i 37 = True := eq_true (.inl (.inr (by decide +kernel)))
theorem ml_37 : MulOk 37 i = True := eq_true (.inl (.inl (by decide +kernel)))
theorem mr_40 : MulOk i 40 = True := eq_true (.inl (.inr (by decide +kernel)))
theorem ml_40 : MulOk 40 i = True := eq_true (.inl (.inl (by decide +kernel)))
theorem mr_58 : MulOk i 58 = True := eq_true (.inl (.inr (by decide +kernel)))
theorem ml_58 : MulOk 58 i = True := eq_true (.inl (.inl (by decide +kernel)))
theorem mr_60 : MulOk i 60 = True := eq_true (.inl (.inr (by decide +kernel)))
theorem ml_60 : MulOk 60 i = True := eq_true (.inl (.inl (by decide +kernel)))
theorem mr_64 : MulOk i 64 = True := eq_true (.inl (.inr (by decide +kernel)))
theorem ml_64 : MulOk 64 i = True := eq_true (.inl (.inl (by decide +kernel)))
theorem mr_79 : MulOk i 79 = True := eq_true (.inl (.inr (by decide +kernel)))
theorem ml_79 : MulOk 79 i = True := eq_true (.inl (.inl (by decide +kernel)))
theorem mr_200 : MulOk i 200 = True := eq_true (.inl (.inr (by decide +kernel)))
theorem ml_200 : MulOk 200 i = True := eq_true (.inl (.inl (by decide +kernel)))
theorem mr_201 : MulOk i 201 = True := eq_true (.inl (.inr (by decide +kernel)))
theorem ml_201 : MulOk 201 i = True := eq_true (.inl (.inl (by decide +kernel)))
theorem mr_1009 : MulOk i 1009 = True := eq_true (.inl (.inr (by decide +kernel)))
theorem ml_1009 : MulOk 1009 i = True := eq_true (.inl (.inl (by decide +kernel)))
theorem mr_7919 : MulOk i 7919 = True := eq_true (.inl (.inr (by decide +kernel)))
theorem ml_7919 : MulOk 7919 i = True := eq_true (.inl (.inl (by decide +kernel)))
theorem mr_16807 : MulOk i 16807 = True := eq_true (.inl (.inr (by decide +kernel)))
theorem ml_16807 : MulOk 16807 i = True := eq_true (.inl (.inl (by decide +kernel)))
theorem mr_48271 : MulOk i 48271 = True := eq_true (.inl (.inr (by decide +kernel)))
theorem ml_48271 : MulOk 48271 i = True := eq_true (.inl (.inl (by decide +kernel)))
theorem mr_69621 : MulOk i 69621 = True := eq_true (.inl (.inr (by decide +kernel)))
theorem ml_69621 : MulOk 69621 i = True := eq_true (.inl (.inl (by decide +kernel)))
theorem mr_2147483647 : MulOk i 2147483647 = True := eq_true (.inl (.inr (by decide +kernel)))
theorem ml_2147483647 : MulOk 2147483647 i = True := eq_true (.inl (.inl (by decide +kernel)))
theorem lk_hit : List.lookup f ((f, x) :: fl) = some x := by rw [List.lookup_cons, beq_self_eq_true]
theorem lk_miss (h : f ≠ g) : List.lookup f ((g, x) :: fl) = List.lookup f fl := by rw [List.lookup_cons, beq_eq_false_iff_ne.mpr h]
theorem ten_pos {n : Nat} : (0 < (10 : Int) ^ n) = True := eq_true (Int.pow_pos (by decide))
end
end Z
namespace Y
theorem dIsNT_y {i : Nat} {ρ} {Q} {u2} : DL.dIsNT i ρ Q u2 = (match ρ[i]? with
  | some (some (.nt _ _ _)) => Q (.d (.bl true))
  | _ => False) := propext Iff.rfl
theorem dLenNT_y {i : Nat} {ρ} {Q} {u2} : DL.dLenNT i ρ Q u2 = (match ρ[i]? with
  | some (some (.nt _ _ _)) => Q (.d (.int 2))
  | _ => False) := propext Iff.rfl
theorem dRetNT_y {i j : Nat} {E} {ρ} : DL.dRetNT i j E ρ = (ownL ρ i fun xs => slotD ρ j fun y => ∀ a, E.rt (.nt a xs y) ρ) := propext Iff.rfl
theorem dUnpNT_y {i j k : Nat} {E} {ρ} : DL.dUnpNT i j k E ρ = (match ρ[i]? with
  | some (some (.nt _ xs y)) => E.nx (((ρ.set i none).set j (some (.nl xs))).set k (some (.d y)))
  | _ => False) := propext Iff.rfl
theorem dExt_y {i : Nat} {t : DTE} {E} {ρ} : DL.dExt i t E ρ = (ownL ρ i fun xs => t ρ (fun c => isNl c fun ys => xs.length + ys.length ≤ sizeLine ∧ E.nx (ρ.set i (some (.nl (xs ++ ys))))) fun x => E.ex x ρ) := propext Iff.rfl
theorem dRev_y {t : DTA} {ρ} {Q} {E} : DL.dRev t ρ Q E = (t ρ (fun xs => rev1 xs Q) E) := propext Iff.rfl
theorem dIdx_y {to tx : DTE} {ρ} {Q} {E} : DL.dIdx to tx ρ Q E = (to ρ (fun c => itL c.dat fun xs => tx ρ (fun d =>
  SeqAt.shaped (D.lst xs).py = true ∧ SeqAt.shaped d.dat.py = true ∧ ∃ (j : Nat) (z : D), xs[j]? = some z ∧ PyData.eqv z.py d.dat.py = true ∧ (∀ (m : Nat) (z' : D), m < j → xs[m]? = some z' → PyData.eqv z'.py d.dat.py = false) ∧ Q (.d (.int j))) E) E) := propext Iff.rfl
theorem dItN_y {i : Nat} {tk : DTE} {ρ} {Q} {E} : DL.dItN i tk ρ Q E = (ownN ρ i fun _ xss => tk ρ (fun k => isI k.dat fun j => ∃ xs, ixD xss j = some xs ∧ Q (.nl xs)) E) := propext Iff.rfl
theorem dAppN_y {i : Nat} {tk t : DTE} {E} {ρ} : DL.dAppN i tk t E ρ = (ownN ρ i fun as xss => tk ρ (fun k => isI k.dat fun j => ∃ n xs, ixN xss.length j = some n ∧ xss[n]? = some xs ∧ xs.length < sizeLine ∧ t ρ (fun c => E.nx (ρ.set i (some (.nn as (xss.set n (xs ++ [c.dat])))))) fun x => E.ex x ρ) fun x => E.ex x ρ) := propext Iff.rfl
theorem dStoreN_y {i : Nat} {tk tl tv : DTE} {E} {ρ} : DL.dStoreN i tk tl tv E ρ = (tv ρ (fun c => ownN ρ i fun as xss => tk ρ (fun k => isI k.dat fun j => ∃ n xs, ixN xss.length j = some n ∧ xss[n]? = some xs ∧
  tl ρ (fun l => isI l.dat fun m => ∃ o, ixN xs.length m = some o ∧ E.nx (ρ.set i (some (.nn as (xss.set n (xs.set o c.dat)))))) fun x => E.ex x ρ) fun x => E.ex x ρ) fun x => E.ex x ρ) := propext Iff.rfl
theorem dLcN_y {tg : Tg} {it : DI} {t : DTE} {vs : List Nat} {ρ} {Q} {E} : DL.dLcN tg it t vs ρ Q E = (it ρ (fun xs => dLcNL tg t (wipeR ρ vs) Q xs []) E) := propext Iff.rfl
theorem dUnb_y {t : DTE} {ρ} {Q} {E} : DL.dUnb t ρ Q E = (t ρ (fun c => isBox c.dat fun y => Q (.d y)) E) := propext Iff.rfl
theorem dFzN_y {i : Nat} {t : DS} {E} {ρ} : DL.dFzN i t E ρ = (match ρ[i]? with
  | some (some c) => isBox c.dat fun y => t E (ρ.set i (some (.d y)))
  | _ => False) := propext Iff.rfl
theorem dForO_y {tg : Tg} {i : Nat} {b : DS} {E} {ρ} : DL.dForO tg i b E ρ = (ownL ρ i fun xs => ∀ a, dForOL tg i a xs b E xs (ρ.set i (some (.np a xs)))) := propext Iff.rfl
theorem ownN_y {ρ : Rho} {i : Nat} {P : List Addr → List (List D) → Prop}  : DL.ownN ρ i P = (match ρ[i]? with
  | some (some (.nn as xss)) => P as xss
  | _ => False) := propext Iff.rfl
theorem dSetd_y {i : Nat} {tk tv : DTE} {E} {ρ} : DL.dSetd i tk tv E ρ = (ownK ρ i fun kvs => tk ρ (fun k => tv ρ (fun c => optK (keyD k.dat) fun q => kvs.length < sizeLine ∧ E.nx (ρ.set i (some (.nd (defD kvs q c.dat))))) fun x => E.ex x ρ) fun x => E.ex x ρ) := propext Iff.rfl
theorem dPick_y {i : Nat} {fs : FS} {js : List Nat} {tw : DTE} {E} {ρ} : DL.dPick i fs js tw E ρ = (i < ρ.length ∧ pickR fs js tw E (ρ.set i none)) := propext Iff.rfl
theorem pickR_y {fs : FS} {js : List Nat} {tw : DTE} {E} {ρ} : DL.pickR fs js tw E ρ = (tw ρ (fun c => pickQ c.dat (pickB fs js E ρ)) fun x => E.ex x ρ) := propext Iff.rfl
theorem dCallR_y {m : Nat} {f : FS} {t : DTA} {ρ} {Q} {E} : DL.dCallR m f t ρ Q E = (rdQ ρ m (t ρ (fun xs => f xs Q E) E)) := propext Iff.rfl
theorem dMakeR_y {m : Nat} {c : Cn} {f : FI} {t : DTA} {ρ} {Q} {E} : DL.dMakeR m c f t ρ Q E = (rdQ ρ m (t ρ (fun xs => f xs (fun fl => Q (.d (.obj c fl))) E) E)) := propext Iff.rfl
theorem rdQ_y {ρ : Rho} {m : Nat} {P : Prop}  : DL.rdQ ρ m P = (match ρ[m]? with
  | some (some (.nl _)) => P
  | some (some (.ro _ _ _)) => P
  | some (some (.cp _ _)) => P
  | _ => False) := propext Iff.rfl
theorem dUnpL_y {is : List Nat} {t : DTE} {E} {ρ} : DL.dUnpL is t E ρ = (t ρ (fun c => unpL is c.dat ρ E.nx) fun x => E.ex x ρ) := propext Iff.rfl
theorem dMulL_y {ta tb : DTE} {ρ} {Q} {E} : DL.dMulL ta tb ρ Q E = (ta ρ (fun x => tb ρ (fun y => mulL x y.dat Q) E) E) := propext Iff.rfl
theorem dAppX_y {to te : DTE} {E} {ρ} : DL.dAppX to te E ρ = (to ρ (fun c => isNl c fun xs => xs.length < sizeLine ∧ te ρ (fun _ => E.nx ρ) fun x => E.ex x ρ) fun x => E.ex x ρ) := propext Iff.rfl
theorem dBase_y {c : Cn} {fi : FI} {t : DTA} {E} {ρ} : DL.dBase c fi t E ρ = (selfO c ρ fun a => t ρ (fun xs => fi xs (fun fl => E.nx (ρ.set 0 (some (.no a c fl)))) fun _ => False) fun x => E.ex x ρ) := propext Iff.rfl
theorem dCallP_y {m : Nat} {f : FP} {t : DTA} {E} {ρ} : DL.dCallP m f t E ρ = (ownL ρ m fun _ => t ρ (fun xs => f xs fun ys _ => E.nx (ρ.set m (some (.nl ys)))) fun x => E.ex x ρ) := propext Iff.rfl
theorem dAppCallP_y {k m : Nat} {f : FP} {t : DTA} {E} {ρ} : DL.dAppCallP k m f t E ρ = (k ≠ m ∧ ownL ρ k fun zs => ownL ρ m fun _ => t ρ (fun xs => f xs fun ys x => zs.length < sizeLine ∧ E.nx ((ρ.set m (some (.nl ys))).set k (some (.nl (zs ++ [x]))))) fun x => E.ex x ρ) := propext Iff.rfl
theorem dAppP_y {i : Nat} {t : DTE} {E} {ρ} : DL.dAppP i t E ρ = (ownAt ρ i fun a xs => t ρ (fun c => xs.length < sizeLine ∧ E.nx (ρ.set i (some (.np a (xs ++ [c.dat]))))) fun x => E.ex x ρ) := propext Iff.rfl
theorem dPopIxP_y {j i : Nat} {k : Int} {E} {ρ} : DL.dPopIxP j i k E ρ = (ownAt ρ i fun a xs => i ≠ j ∧ match xs.getLast? with
  | some z => optQ (match z with | .tup ys => ixD ys k | _ => none) fun c => E.nx ((ρ.set i (some (.np a xs.dropLast))).set j (some (.d c.dat)))
  | none => False) := propext Iff.rfl
theorem dAugS_y {i : Nat} {tk tv : DTE} {E} {ρ} : DL.dAugS i tk tv E ρ = (ownL ρ i fun xs => tk ρ (fun k => isInt (fun k => 0 ≤ k ∧ ∃ z : Int, xs[k.toNat]? = some (.int z) ∧ tv ρ (fun c => isInt (fun y => E.nx (ρ.set i (some (.nl (xs.set k.toNat (.int (z + y))))))) c.dat) fun x => E.ex x ρ) k.dat) fun x => E.ex x ρ) := propext Iff.rfl
theorem dRem_y {i : Nat} {t : DTE} {E} {ρ} : DL.dRem i t E ρ = (ownL ρ i fun xs => t ρ (fun c => isInt (fun k => ∃ ns : List Int, xs = ns.map D.int ∧ k ∈ ns ∧ E.nx (ρ.set i (some (.nl ((ns.erase k).map D.int))))) c.dat) fun x => E.ex x ρ) := propext Iff.rfl
theorem dAppPop_y {i j : Nat} {te : DTE} {E} {ρ} : DL.dAppPop i j te E ρ = (ownL ρ i fun xs => ownL ρ j fun ys => te ρ (fun c => isInt (fun k => i ≠ j ∧ (0 ≤ k ∧ k < 2 ^ 62) ∧ optQ (ys[k.toNat]?) fun y => xs.length < sizeLine ∧ E.nx ((ρ.set j (some (.nl (ys.eraseIdx k.toNat)))).set i (some (.nl (xs ++ [y.dat]))))) c.dat) fun x => E.ex x ρ) := propext Iff.rfl
theorem dLm_y {f : List D → List D} {i : Nat} {E} {ρ} : DL.dLm f i E ρ = (ownL ρ i fun xs => E.nx (ρ.set i (some (.nl (f xs))))) := propext Iff.rfl
theorem dTm1_y {f : D → D → (C → Prop) → Prop} {to te : DTE} {ρ} {Q} {E} : DL.dTm1 f to te ρ Q E = (to ρ (fun z => isStrD z.dat ∧ te ρ (fun c => f z.dat c.dat Q) E) E) := propext Iff.rfl
theorem dTm0_y {f : D → (C → Prop) → Prop} {to : DTE} {ρ} {Q} {E} : DL.dTm0 f to ρ Q E = (to ρ (fun z => f z.dat Q) E) := propext Iff.rfl
theorem dTry1_y {c : Cn} {i : Nat} {rb : DS} {rs : XI → DS} {E} {ρ} : DL.dTry1 c i rb rs E ρ = (rb { E with ex := fun x ρ' => x.cls ∈ exAll ∧ if x.cls.sub c = true then ∀ k : XI, rs k { nx := fun ρ2 => E.nx (ρ2.set i none), rt := E.rt, bk := fun ρ2 => E.bk (ρ2.set i none), ct := fun ρ2 => E.ct (ρ2.set i none) } (ρ'.set i (some (.d (.exn k x.cls x.fs)))) else E.ex x ρ' } ρ) := propext Iff.rfl
theorem dRaiseI_y {c : Cn} {f : Fd} {t : DTA} {E} {ρ} : DL.dRaiseI c f t E ρ = (t ρ (fun xs => xs.length = 1 ∧ ∀ x, xs = [x] → E.ex ⟨c, [(f, x)]⟩ ρ) fun x => E.ex x ρ) := propext Iff.rfl
theorem dXat_y {k : XI} {c : Cn} {f : Fd} {t : DTE} {ρ} {Q} {E} : DL.dXat k c f t ρ Q E = (t ρ (fun v => xatOf k c f v.dat Q) E) := propext Iff.rfl
theorem dXis_y {k : XI} {cs : List Cn} {y : Ask} {t : DTE} {ρ} {Q} {E} : DL.dXis k cs y t ρ Q E = (t ρ (fun v => xisOf k cs y v.dat Q) E) := propext Iff.rfl
theorem dEnum_y {te : DTE} {ρ} {Q} {E} : DL.dEnum te ρ Q E = (te ρ (fun c => itE c.dat Q) E) := propext Iff.rfl
theorem dNums_y {i at_ : Nat} {cs : List Cn} {f : Fd} {ta : DTA} {tt : DTT} {tk tv : DTE} {dr : DS} {E} {ρ} : DL.dNums i at_ cs f ta tt tk tv dr E ρ = (slotI ρ i fun a cl fl => cl ∈ cs ∧ fl.length < 1000 ∧ i ≠ at_ ∧ noOwn (ρ.set i none) ∧
  ta (ρ.set i (some (.d (.obj cl (putFd f (.dic []) fl))))) (fun ys => rng1 ys fun xs => numsL E i at_ a cl f fl tt tk tv dr xs [] ρ) noEx) := propext Iff.rfl
theorem dMaxOr_y {t u : DTE} {ρ} {Q} {E} : DL.dMaxOr t u ρ Q E = (t ρ (fun c => u ρ (fun d => maxOrD c.dat d.dat Q) E) E) := propext Iff.rfl
theorem dIsC_y {cs : List Cn} {y : Cn} {t : DTE} {ρ} {Q} {E} : DL.dIsC cs y t ρ Q E = (t ρ (fun c => isC cs y c.dat Q) E) := propext Iff.rfl
theorem dCallT_y {f : FS} {t : DTA} {ds : List D} {ρ} {Q} {E} : DL.dCallT f t ds ρ Q E = (t ρ (fun xs => f (xs ++ ds) (fun c => c.plain = true ∧ Q c) (fun x => x.plain = true ∧ E x)) E) := propext Iff.rfl
theorem dMethT_y {alt : Cn → Option FS} {to : DTE} {t : DTA} {dd : List D} {ρ} {Q} {E} : DL.dMethT alt to t dd ρ Q E = (to ρ (fun o => mRecv alt o.dat fun fs => t ρ (fun xs => fs (o.dat :: (xs ++ dd)) (fun c => c.plain = true ∧ Q c) (fun x => x.plain = true ∧ E x)) E) E) := propext Iff.rfl
theorem dLRg1_y {t : DTE} {ρ} {Q} {E} : DL.dLRg1 t ρ Q E = (t ρ (fun c => isInt (fun n => lrgD 0 n Q) c.dat) E) := propext Iff.rfl
theorem dLRg2_y {t u : DTE} {ρ} {Q} {E} : DL.dLRg2 t u ρ Q E = (t ρ (fun c => isInt (fun a => u ρ (fun d => isInt (fun n => lrgD a n Q) d.dat) E) c.dat) E) := propext Iff.rfl
theorem lrgD_y {a b : Int} {Q : C → Prop}  : DL.lrgD a b Q = (small62 a ∧ small62 b ∧ (b - a).toNat ≤ 2 ^ 24 ∧ Q (.nl (rngD a (b - a)))) := propext Iff.rfl
theorem dDisp1_y {tk tv : DTE} {ρ} {Q} {E} : DL.dDisp1 tk tv ρ Q E = (tk ρ (fun k => tv ρ (fun v => optK (keyD k.dat) fun q => Q (.nd [(q, v.dat)])) E) E) := propext Iff.rfl
theorem dChT3_y {f f' f'' : DCmp} {ta tb tc td : DTE} {ρ} {Q} {E} : DL.dChT3 f f' f'' ta tb tc td ρ Q E = (ta ρ (fun x => tb ρ (fun y => f x.dat y.dat fun k => if k = true then tc ρ (fun z => f' y.dat z.dat fun k' => if k' = true then td ρ (fun u => f'' z.dat u.dat Q) E else Q false) E else Q false) E) E) := propext Iff.rfl
theorem dCh3_y {f f' f'' : DCmp} {ta tb tc td : DTE} {ρ} {Q} {E} : DL.dCh3 f f' f'' ta tb tc td ρ Q E = (dChT3 f f' f'' ta tb tc td ρ (fun k => Q (.d (.bl k))) E) := propext Iff.rfl
theorem dSeq_y {t u : DS} {E} {ρ} : DL.dSeq t u E ρ = (t { E with nx := u E } ρ) := propext Iff.rfl
theorem dNext_y  {E} {ρ} : DL.dNext E ρ = (E.nx ρ) := propext Iff.rfl
theorem dBrk_y  {E} {ρ} : DL.dBrk E ρ = (E.bk ρ) := propext Iff.rfl
theorem dCnt_y  {E} {ρ} : DL.dCnt E ρ = (E.ct ρ) := propext Iff.rfl
theorem dRet_y {t : DTE} {E} {ρ} : DL.dRet t E ρ = (t ρ (fun c => E.rt c ρ) fun x => E.ex x ρ) := propext Iff.rfl
theorem dRetL_y {i : Nat} {E} {ρ} : DL.dRetL i E ρ = (match ρ[i]? with
  | some (some c) => E.rt c ρ
  | _ => False) := propext Iff.rfl
theorem dRetN_y  {E} {ρ} : DL.dRetN E ρ = (E.rt (.d .non) ρ) := propext Iff.rfl
theorem dIf_y {c : DTT} {t u : DS} {E} {ρ} : DL.dIf c t u E ρ = (c ρ (fun b => if b = true then t E ρ else u E ρ) fun x => E.ex x ρ) := propext Iff.rfl
theorem dSet_y {i : Nat} {t : DTE} {E} {ρ} : DL.dSet i t E ρ = (t ρ (fun c => E.nx (ρ.set i (some (.d c.dat)))) fun x => E.ex x ρ) := propext Iff.rfl
theorem dSetO_y {i : Nat} {t : DTE} {E} {ρ} : DL.dSetO i t E ρ = (t ρ (fun c => E.nx (ρ.set i (some c))) fun x => E.ex x ρ) := propext Iff.rfl
theorem dDrop_y {t : DTE} {E} {ρ} : DL.dDrop t E ρ = (t ρ (fun _ => E.nx ρ) fun x => E.ex x ρ) := propext Iff.rfl
theorem dFz_y {i : Nat} {t : DS} {E} {ρ} : DL.dFz i t E ρ = (match ρ[i]? with
  | some (some c) => t E (ρ.set i (some (.d c.dat)))
  | _ => False) := propext Iff.rfl
theorem dUnp_y {is : List Nat} {t : DTE} {E} {ρ} : DL.dUnp is t E ρ = (t ρ (fun c => tgSet (.many is) c.dat ρ E.nx) fun x => E.ex x ρ) := propext Iff.rfl
theorem dAug_y {i : Nat} {f : DOp} {t : DTE} {E} {ρ} : DL.dAug i f t E ρ = (slotD ρ i fun x => t ρ (fun c => f x c.dat fun z => E.nx (ρ.set i (some (.d z.dat)))) fun x => E.ex x ρ) := propext Iff.rfl
theorem dApp_y {i : Nat} {t : DTE} {E} {ρ} : DL.dApp i t E ρ = (ownL ρ i fun xs => t ρ (fun c => xs.length < sizeLine ∧ E.nx (ρ.set i (some (.nl (xs ++ [c.dat]))))) fun x => E.ex x ρ) := propext Iff.rfl
theorem dStore_y {i : Nat} {tk tv : DTE} {E} {ρ} : DL.dStore i tk tv E ρ = (tv ρ (fun v => slotO ρ i fun c => tk ρ (fun k => storeAt c k.dat v.dat fun c' => E.nx (ρ.set i (some c'))) fun x => E.ex x ρ) fun x => E.ex x ρ) := propext Iff.rfl
theorem dFldS_y {i : Nat} {cs : List Cn} {f : Fd} {t : DTE} {E} {ρ} : DL.dFldS i cs f t E ρ = (t ρ (fun c => slotI ρ i fun a cl fl => cl ∈ cs ∧ fl.length < 1000 ∧ E.nx (ρ.set i (some (.no a cl (putFd f c.dat fl))))) fun x => E.ex x ρ) := propext Iff.rfl
theorem dRaise_y {c : Cn} {E} {ρ} : DL.dRaise c E ρ = (E.ex ⟨c, []⟩ ρ) := propext Iff.rfl
theorem dFor_y {tg : Tg} {it : DI} {b : DS} {E} {ρ} : DL.dFor tg it b E ρ = (it ρ (fun xs => dForL tg b E xs ρ) fun x => E.ex x ρ) := propext Iff.rfl
theorem dItL_y {t : DTE} {ρ} {Q} {E} : DL.dItL t ρ Q E = (t ρ (fun c => itL c.dat Q) E) := propext Iff.rfl
theorem dItT_y {t : DTE} {ρ} {Q} {E} : DL.dItT t ρ Q E = (t ρ (fun c => itT c.dat Q) E) := propext Iff.rfl
theorem dItS_y {t : DTE} {ρ} {Q} {E} : DL.dItS t ρ Q E = (t ρ (fun c => itS c.dat Q) E) := propext Iff.rfl
theorem dRng1_y {t : DTA} {ρ} {Q} {E} : DL.dRng1 t ρ Q E = (t ρ (fun xs => rng1 xs Q) E) := propext Iff.rfl
theorem dRng2_y {t : DTA} {ρ} {Q} {E} : DL.dRng2 t ρ Q E = (t ρ (fun xs => rng2 xs Q) E) := propext Iff.rfl
theorem dTst_y {f : DCmp} {ta tb : DTE} {ρ} {Q} {E} : DL.dTst f ta tb ρ Q E = (ta ρ (fun x => tb ρ (fun y => f x.dat y.dat Q) E) E) := propext Iff.rfl
theorem dChT_y {f f' : DCmp} {ta tb tc : DTE} {ρ} {Q} {E} : DL.dChT f f' ta tb tc ρ Q E = (ta ρ (fun x => tb ρ (fun y => f x.dat y.dat fun k => if k = true then tc ρ (fun z => f' y.dat z.dat Q) E else Q false) E) E) := propext Iff.rfl
theorem dCh_y {f f' : DCmp} {ta tb tc : DTE} {ρ} {Q} {E} : DL.dCh f f' ta tb tc ρ Q E = (dChT f f' ta tb tc ρ (fun k => Q (.d (.bl k))) E) := propext Iff.rfl
theorem dBool_y {t : DTE} {ρ} {Q} {E} : DL.dBool t ρ Q E = (t ρ (fun c => isBl Q c.dat) E) := propext Iff.rfl
theorem dAnd_y {t u : DTT} {ρ} {Q} {E} : DL.dAnd t u ρ Q E = (t ρ (fun b => if b = true then u ρ Q E else Q false) E) := propext Iff.rfl
theorem dOr_y {t u : DTT} {ρ} {Q} {E} : DL.dOr t u ρ Q E = (t ρ (fun b => if b = true then Q true else u ρ Q E) E) := propext Iff.rfl
theorem dNot_y {t : DTT} {ρ} {Q} {E} : DL.dNot t ρ Q E = (t ρ (fun b => Q (!b)) E) := propext Iff.rfl
theorem dAndV_y {ta tb : DTE} {ρ} {Q} {E} : DL.dAndV ta tb ρ Q E = (ta ρ (fun x => isBl (fun k => if k = true then tb ρ Q E else Q (.d (.bl false))) x.dat) E) := propext Iff.rfl
theorem dOrV_y {ta tb : DTE} {ρ} {Q} {E} : DL.dOrV ta tb ρ Q E = (ta ρ (fun x => isBl (fun k => if k = true then Q (.d (.bl true)) else tb ρ Q E) x.dat) E) := propext Iff.rfl
theorem dNotV_y {ta : DTE} {ρ} {Q} {E} : DL.dNotV ta ρ Q E = (ta ρ (fun x => isBl (fun k => Q (.d (.bl (!k)))) x.dat) E) := propext Iff.rfl
theorem dOp_y {f : DOp} {ta tb : DTE} {ρ} {Q} {E} : DL.dOp f ta tb ρ Q E = (ta ρ (fun x => tb ρ (fun y => f x.dat y.dat Q) E) E) := propext Iff.rfl
theorem dUn_y {f : DUn} {ta : DTE} {ρ} {Q} {E} : DL.dUn f ta ρ Q E = (ta ρ (fun x => f x.dat Q) E) := propext Iff.rfl
theorem dCB_y {f : DN} {t : DTA} {ρ} {Q} {E} : DL.dCB f t ρ Q E = (t ρ (fun xs => f xs Q) E) := propext Iff.rfl
theorem dCall_y {f : FS} {t : DTA} {ds : List D} {ρ} {Q} {E} : DL.dCall f t ds ρ Q E = (t ρ (fun xs => f (xs ++ ds) Q E) E) := propext Iff.rfl
theorem dMeth_y {alt : Cn → Option FS} {to : DTE} {t : DTA} {dd : List D} {ρ} {Q} {E} : DL.dMeth alt to t dd ρ Q E = (to ρ (fun o => mRecv alt o.dat fun fs => t ρ (fun xs => fs (o.dat :: (xs ++ dd)) Q E) E) E) := propext Iff.rfl
theorem dMake_y {c : Cn} {f : FI} {t : DTA} {dd : List D} {ρ} {Q} {E} : DL.dMake c f t dd ρ Q E = (t ρ (fun xs => f (xs ++ dd) (fun fl => Q (.d (.obj c fl))) E) E) := propext Iff.rfl
theorem dFld_y {cs : List Cn} {f : Fd} {t : DTE} {ρ} {Q} {E} : DL.dFld cs f t ρ Q E = (t ρ (fun o => fldOf cs f o.dat Q) E) := propext Iff.rfl
theorem dTup_y {t : DTA} {ρ} {Q} {E} : DL.dTup t ρ Q E = (t ρ (fun xs => xs.length ≤ 1000 ∧ Q (.d (.tup xs))) E) := propext Iff.rfl
theorem dLst_y {t : DTA} {ρ} {Q} {E} : DL.dLst t ρ Q E = (t ρ (fun xs => xs.length ≤ 1000 ∧ Q (.nl xs)) E) := propext Iff.rfl
theorem dNewD_y  {u0} {Q} {u2} : DL.dNewD u0 Q u2 = (Q (.nd [])) := propext Iff.rfl
theorem dConsA_y {t : DTE} {u : DTA} {ρ} {Q} {E} : DL.dConsA t u ρ Q E = (t ρ (fun c => u ρ (fun xs => Q (c.dat :: xs)) E) E) := propext Iff.rfl
theorem dNilA_y  {u0} {Q} {u2} : DL.dNilA u0 Q u2 = (Q []) := propext Iff.rfl
theorem dV_y {i : Nat} {ρ} {Q} {u2} : DL.dV i ρ Q u2 = (match ρ[i]? with
  | some (some (.d x)) => Q (.d x)
  | _ => False) := propext Iff.rfl
theorem dL_y {i : Nat} {ρ} {Q} {u2} : DL.dL i ρ Q u2 = (match ρ[i]? with
  | some (some c) => Q c
  | _ => False) := propext Iff.rfl
theorem dC_y {x : D} {u0} {Q} {u2} : DL.dC x u0 Q u2 = (Q (.d x)) := propext Iff.rfl
theorem dSl_y {t : DTE} {lo hi : DO} {ρ} {Q} {E} : DL.dSl t lo hi ρ Q E = (t ρ (fun c => lo ρ (fun l => hi ρ (fun h => slD l h c.dat Q) E) E) E) := propext Iff.rfl
theorem dNo_y  {u0} {Q} {u2} : DL.dNo u0 Q u2 = (Q none) := propext Iff.rfl
theorem dSome_y {t : DTE} {ρ} {Q} {E} : DL.dSome t ρ Q E = (t ρ (fun c => isInt (fun i => Q (some i)) c.dat) E) := propext Iff.rfl
theorem dIs_y {T : String} {t : DTE} {ρ} {Q} {E} : DL.dIs T t ρ Q E = (t ρ (fun c => match kindD c.dat with
  | some k => Q (.d (.bl (subT k T)))
  | none => False) E) := propext Iff.rfl
theorem dLc_y {tg : Tg} {it : DI} {c : DTT} {t : DTE} {vs : List Nat} {ρ} {Q} {E} : DL.dLc tg it c t vs ρ Q E = (it ρ (fun xs => dLcL tg c t (wipeR ρ vs) Q xs []) E) := propext Iff.rfl
theorem dYes_y  {u0} {Q} {u2} : DL.dYes u0 Q u2 = (Q true) := propext Iff.rfl
theorem cmpV_y {f : DCmp} {x} {y} {Q} : DL.cmpV f x y Q = (f x y fun b => Q (.d (.bl b))) := propext Iff.rfl
theorem cEq_y  {x} {y} {Q} : DL.cEq x y Q = (eqD x y Q) := propext Iff.rfl
theorem cNe_y  {x} {y} {Q} : DL.cNe x y Q = (eqD x y fun b => Q (!b)) := propext Iff.rfl
theorem cIsN_y  {x} {y} {Q} : DL.cIsN x y Q = (y.isN = true ∧ Q x.isN) := propext Iff.rfl
theorem cNotN_y  {x} {y} {Q} : DL.cNotN x y Q = (y.isN = true ∧ Q (!x.isN)) := propext Iff.rfl
theorem cNotIn_y  {x} {y} {Q} : DL.cNotIn x y Q = (cIn x y fun b => Q (!b)) := propext Iff.rfl
theorem slotD_y {ρ : Rho} {i : Nat} {P : D → Prop}  : DL.slotD ρ i P = (match ρ[i]? with
  | some (some (.d x)) => P x
  | _ => False) := propext Iff.rfl
theorem slotO_y {ρ : Rho} {i : Nat} {P : C → Prop}  : DL.slotO ρ i P = (match ρ[i]? with
  | some (some c) => c.own = true ∧ P c
  | _ => False) := propext Iff.rfl
theorem slotI_y {ρ : Rho} {i : Nat} {P : Addr → Cn → List (Fd × D) → Prop}  : DL.slotI ρ i P = (match ρ[i]? with
  | some (some (.no a c fl)) => P a c fl
  | _ => False) := propext Iff.rfl
theorem ownL_y {ρ : Rho} {i : Nat} {P : List D → Prop}  : DL.ownL ρ i P = (match ρ[i]? with
  | some (some (.nl xs)) => P xs
  | _ => False) := propext Iff.rfl
theorem ownK_y {ρ : Rho} {i : Nat} {P : List (Key × D) → Prop}  : DL.ownK ρ i P = (match ρ[i]? with
  | some (some (.nd kvs)) => P kvs
  | _ => False) := propext Iff.rfl
theorem ownAt_y {ρ : Rho} {i : Nat} {P : Addr → List D → Prop}  : DL.ownAt ρ i P = (match ρ[i]? with
  | some (some (.np a xs)) => P a xs
  | _ => False) := propext Iff.rfl
theorem selfO_y {c : Cn} {ρ : Rho} {P : Addr → Prop}  : DL.selfO c ρ P = (match ρ[(0 : Nat)]? with
  | some (some (.no a c' [])) => c' = c ∧ P a
  | _ => False) := propext Iff.rfl
end Y
end DL
namespace DL
open PySem PySem.Spec L2
theorem big_lt {i : Int} {n : Nat} (h : i.natAbs < 2 ^ n) (h0 : 0 < n) : big i < n := PySem.Flt.log2_lt_of h0 h
theorem mul_sum {i j : Int} (h : big i + big j < 134217000) : MulOk i j := .inr h
theorem mul_left {i j : Int} (h : i.natAbs < 2 ^ 64) : MulOk i j := .inl (.inl (big_lt h (by decide)))
theorem mul_right {i j : Int} (h : j.natAbs < 2 ^ 64) : MulOk i j := .inl (.inr (big_lt h (by decide)))
end DL
namespace DL
local instance tp_dq : TP := tpNo
open PySem PySem.Spec L2
def cellI (ns : List Int) (k : Nat) : Int := ns.getD k 0
def isWhole : D → Option Bool
  | .int _ => some true
  | .obj _ _ => none
  | .exn _ _ _ => none
  | .box _ => none
  | _ => some false
theorem for_all {tg : Tg} {b : DS} {E : DEnds} (I : Nat → Rho → Prop) (all : List D)
    (hs : ∀ (k : Nat) (x : D) (ρ : Rho) (N : Rho → Prop), all[k]? = some x → I k ρ → (∀ ρ', I (k + 1) ρ' → N ρ') → tgSet tg x ρ fun ρ' => b { E with nx := N, ct := N, bk := E.nx } ρ')
    (hn : ∀ ρ, I all.length ρ → E.nx ρ) {ρ : Rho} (h0 : I 0 ρ) : dForL tg b E all ρ := by
  have key : ∀ (m k : Nat) (ρ : Rho), m = all.length - k → k ≤ all.length → I k ρ → dForL tg b E (all.drop k) ρ := by
    intro m
    induction m with
    | zero =>
      intro k ρ hm hk h
      have e : k = all.length := by omega
      subst e
      rw [List.drop_length]
      exact hn ρ h
    | succ m ih =>
      intro k ρ hm hk h
      have hlt : k < all.length := by omega
      rw [List.drop_eq_getElem_cons hlt]
      exact hs k _ ρ _ (List.getElem?_eq_getElem hlt) h fun ρ' h' => ih (k + 1) ρ' (by omega) hlt h'
  have := key all.length 0 ρ rfl (Nat.zero_le _) h0
  rwa [List.drop_zero] at this
theorem rngD_at {a n : Int} {k : Nat} {x : D} (h : (rngD a n)[k]? = some x) : x = .int (a + k) ∧ k < n.toNat := by
  have hk : k < n.toNat := by
    have := (List.getElem?_eq_some_iff.mp h).1
    rwa [rngD_len] at this
  unfold rngD at h
  rw [List.getElem?_map, List.getElem?_range hk] at h
  exact ⟨by cases h; rfl, hk⟩
theorem for_rng {tg : Tg} {b : DS} {E : DEnds} (I : Nat → Rho → Prop) (n : Nat)
    (hs : ∀ (k : Nat) (ρ : Rho) (N : Rho → Prop), k < n → I k ρ → (∀ ρ', I (k + 1) ρ' → N ρ') → tgSet tg (.int k) ρ fun ρ' => b { E with nx := N, ct := N, bk := E.nx } ρ')
    (hn : ∀ ρ, I n ρ → E.nx ρ) {ρ : Rho} (h0 : I 0 ρ) : dForL tg b E (rngD 0 n) ρ := by
  refine for_all I _ (fun k x ρ N hx hi hN => ?_) (fun ρ h => hn ρ (by rw [rngD_len, Int.toNat_natCast] at h; exact h)) h0
  obtain ⟨rfl, hk⟩ := rngD_at hx
  rw [Int.zero_add]
  exact hs k ρ N (by simpa using hk) hi hN
theorem while_rule {c : DTT} {b : DS} {E : DEnds} (I : Rho → Prop) (m : Rho → Nat)
    (hs : ∀ (ρ : Rho) (N : Rho → Prop), I ρ → (∀ ρ', I ρ' → m ρ' < m ρ → N ρ') → c ρ (fun k => if k = true then b { E with nx := N, ct := N, bk := E.nx } ρ else E.nx ρ) fun x => E.ex x ρ)
    {ρ : Rho} (h0 : I ρ) : dWhile c b E ρ := by
  have key : ∀ (n : Nat) (ρ : Rho), m ρ < n → I ρ → dWhileN c b E n ρ := by
    intro n
    induction n with
    | zero => intro ρ h; omega
    | succ n ih => exact fun ρ h hi => hs ρ _ hi fun ρ' h1 h2 => ih ρ' (by omega) h1
  exact ⟨m ρ + 1, key _ ρ (Nat.lt_succ_self _) h0⟩
theorem lc_rule {tg : Tg} {c : DTT} {t : DTE} {ρ : Rho} {Q : C → Prop} (f : D → Option D) (all : List D)
    (hs : ∀ (x : D), x ∈ all → ∀ N : Option D → Prop, N (f x) → tgSet tg x ρ fun ρ' => c ρ' (fun b => if b = true then t ρ' (fun z => N (some z.dat)) noEx else N none) noEx)
    (hl : all.length ≤ sizeLine) (hq : Q (.nl (all.filterMap f))) : dLcL tg c t ρ Q all [] := by
  have key : ∀ (xs ys : List D), (∀ x ∈ xs, x ∈ all) → ys.length + xs.length ≤ sizeLine → Q (.nl (ys ++ xs.filterMap f)) → dLcL tg c t ρ Q xs ys := by
    intro xs
    induction xs with
    | nil => intro ys _ _ h; rw [List.filterMap_nil, List.append_nil] at h; exact h
    | cons x xs ih =>
      intro ys hm hl h
      rw [List.length_cons] at hl
      refine hs x (hm x List.mem_cons_self) (fun o => match o with
        | some z => ys.length < sizeLine ∧ dLcL tg c t ρ Q xs (ys ++ [z])
        | none => dLcL tg c t ρ Q xs ys) ?_
      rw [List.filterMap_cons] at h
      have hm' : ∀ x ∈ xs, x ∈ all := fun y hy => hm y (List.mem_cons_of_mem _ hy)
      cases hf : f x with
      | none => rw [hf] at h; exact ih ys hm' (by omega) h
      | some z =>
        rw [hf] at h
        exact ⟨by omega, ih (ys ++ [z]) hm' (by rw [List.length_append, List.length_singleton]; omega) (by rw [List.append_assoc]; exact h)⟩
  exact key all [] (fun _ h => h) (by simpa using hl) hq
theorem lc_map {tg : Tg} {c : DTT} {t : DTE} {ρ : Rho} {Q : C → Prop} (f : D → D) (all : List D)
    (hs : ∀ (x : D), x ∈ all → ∀ N : Option D → Prop, N (some (f x)) → tgSet tg x ρ fun ρ' => c ρ' (fun b => if b = true then t ρ' (fun z => N (some z.dat)) noEx else N none) noEx)
    (hl : all.length ≤ sizeLine) (hq : Q (.nl (all.map f))) : dLcL tg c t ρ Q all [] :=
  lc_rule (fun x => some (f x)) all hs hl (by rw [List.filterMap_eq_map']; exact hq)
theorem ixD3_0 {a b c : D} : ixD [a, b, c] 0 = some a := rfl
theorem ixD3_1 {a b c : D} : ixD [a, b, c] 1 = some b := rfl
theorem ixD3_2 {a b c : D} : ixD [a, b, c] 2 = some c := rfl
theorem map_snoc {xs : List Int} {y : Int} : xs.map D.int ++ [D.int y] = (xs ++ [y]).map D.int := by rw [List.map_append]; rfl
theorem ixD_lt {xs : List D} {i : Int} (h0 : 0 ≤ i) (h1 : i < xs.length) : ∃ x, ixD xs i = some x ∧ x ∈ xs := by
  unfold ixD
  rw [if_pos h0]
  have h : i.toNat < xs.length := by omega
  exact ⟨xs[i.toNat], List.getElem?_eq_getElem h, List.getElem_mem h⟩
theorem ixD_nat {ys : List D} {k : Nat} : ixD ys (k : Int) = ys[k]? := by
  unfold ixD
  rw [if_pos (by omega), Int.toNat_natCast]
theorem cut_take {ys : List D} {k : Nat} (h : k ≤ ys.length) : cutD ys none (some (k : Int)) = ys.take k := by
  unfold cutD
  have e : HT.sIx ys.length 0 none = 0 := rfl
  rw [e]
  have e2 : HT.sIx ys.length ys.length (some (k : Int)) = k := by
    unfold HT.sIx
    simp only []
    rw [if_neg (by omega), Int.toNat_natCast]
    omega
  rw [e2, List.drop_zero, Nat.sub_zero]
def Fd.all : List Fd := [.name, .gap, .length, .due, .late, .sections, .works, .numbers, .duty, .lines, .row, .place, .turn, .num, .stuck]
theorem noFd {m : Str} (h : (Fd.all.all fun f => !decide (f.str = m)) = true) : ∀ f : Fd, f.str ≠ m := fun f e => by
  have hf : f ∈ Fd.all := by cases f <;> decide
  have := List.all_eq_true.mp h f hf
  rw [decide_eq_true e] at this
  cases this
def letters : List Nat := ("abcdefghijklmnopqrstuvwxyz" : Str).cps.toList
def D.small : D → Bool
  | .obj _ _ => false
  | .exn _ _ _ => false
  | .box _ => false
  | .str z => decide (z.length ≤ sizeLine)
  | _ => true
def D.small1 : D → Bool
  | .tup xs => xs.all D.small
  | x => x.small
def D.small2 : D → Bool
  | .lst xs => xs.all D.small1
  | x => x.small1
theorem small_whole {x : D} (h : x.small = true) : ∃ b, isWhole x = some b := by cases x <;> first | exact ⟨_, rfl⟩ | cases h
def nameOk : D → Bool
  | .str z => decide (1 ≤ z.length) && (decide (z.length ≤ 8) && z.cps.toList.all fun c => decide (c ∈ letters))
  | _ => false
def fromOn (x : D) (low : Int) : Bool := match x with
  | .int i => decide (low ≤ i)
  | _ => false
def spanOk (l : Int) : D → D → Bool
  | .int s, .int e => decide (0 ≤ s) && (decide (s < e) && decide (e < l))
  | _, _ => false
def holdOk (l : Int) : D → Bool
  | .tup [a, b, c] => nameOk a && spanOk l b c
  | _ => false
def leD : D → D → Bool
  | .int i, .int j => decide (i ≤ j)
  | _, _ => false
structure Hd where
  th : Str
  st : Int
  en : Int
  deriving DecidableEq
def Hd.d (h : Hd) : D := .tup [.str h.th, .int h.st, .int h.en]
def inside (p q : Hd) : Bool := decide (q.st ≤ p.st) && decide (p.en ≤ q.en)
def togOk (p q : Hd) : Bool := (decide (p.en ≤ q.st) || decide (q.en ≤ p.st)) || (!decide (p.th = q.th) && (inside p q || inside q p))
def hdOf : D → Hd
  | .tup [.str a, .int s, .int e] => ⟨a, s, e⟩
  | _ => ⟨"", 0, 0⟩
theorem holdOk_hd {l : Int} {x : D} (h : holdOk l x = true) : x = (hdOf x).d := by
  unfold holdOk at h
  split at h
  · rename_i a b c
    cases a <;> simp [nameOk] at h
    cases b <;> simp [spanOk] at h
    cases c <;> simp [spanOk] at h
    rfl
  · cases h
def fitL (l : Int) : List Hd → List D → Bool
  | _, [] => true
  | pre, x :: xs => holdOk l x && (pre.all (fun p => togOk p (hdOf x)) && fitL l (pre ++ [hdOf x]) xs)
def fitOk (x : D) (l : Int) : Bool := match x with
  | .lst xs => decide (xs.length ≤ 6) && fitL l [] xs
  | _ => false
def workFs (n g l u a h : D) : List (Fd × D) := [(.name, n), (.gap, g), (.length, l), (.due, u), (.late, a), (.sections, h)]
structure Wk where
  name : Str
  gap : Int
  length : Int
  due : Int
  late : Int
  holds : List Hd
def Wk.d (w : Wk) : D := .obj .Work (workFs (.str w.name) (.int w.gap) (.int w.length) (.int w.due) (.int w.late) (.lst (w.holds.map Hd.d)))
def Wk.sane (w : Wk) : Prop := 0 < w.gap ∧ big w.gap < 9000
def divUp (t b : Int) : Int := if 0 < t % b then t / b + 1 else t / b
theorem divUp_spec {t b : Int} (hb : 0 < b) : (divUp t b - 1) * b < t ∧ t ≤ divUp t b * b := by
  have h := Int.mul_ediv_add_emod t b
  have h1 := Int.emod_nonneg t (show b ≠ 0 by omega)
  have h2 := Int.emod_lt_of_pos t hb
  unfold divUp
  rw [Int.mul_comm] at h
  by_cases hc : 0 < t % b
  · rw [if_pos hc, show (t / b + 1 - 1) * b = t / b * b by rw [Int.add_sub_cancel], Int.add_mul]
    omega
  · rw [if_neg hc, Int.sub_mul]
    omega
theorem divUp_abs {t b : Int} (hb : 0 < b) : (divUp t b).natAbs ≤ t.natAbs + 1 := by
  have h := Int.natAbs_ediv_le_natAbs t b
  unfold divUp
  split <;> omega
def crowdOf (ws : List Wk) : Int := (ws.map fun w => divUp (maxOr 0 (ws.map Wk.due) + w.late) w.gap).sum
def numsOf : Nat → List Wk → List (Key × D)
  | _, [] => []
  | k, w :: ws => (.inr w.name, .int k) :: numsOf (k + 1) ws
def dutyFs (ws : List Wk) : List (Fd × D) := [(.works, .lst (ws.map Wk.d)), (.numbers, .dic (numsOf 0 ws))]
def dutyD (ws : List Wk) : D := .obj .Duty (dutyFs ws)
theorem numsOf_app : ∀ (k : Nat) (ws : List Wk) (w : Wk), numsOf k (ws ++ [w]) = numsOf k ws ++ [(.inr w.name, .int ((k + ws.length : Nat) : Int))]
  | k, [], w => by simp [numsOf]
  | k, v :: ws, w => by
    rw [List.cons_append, numsOf, numsOf_app (k + 1) ws w, numsOf, List.length_cons, List.cons_append, show k + 1 + ws.length = k + (ws.length + 1) by omega]
theorem valD_nums : ∀ (k : Nat) (ws : List Wk) (x : Str), (valD (numsOf k ws) (.inr x)).isSome = decide (x ∈ ws.map Wk.name)
  | _, [], _ => rfl
  | k, w :: ws, x => by
    have ih := valD_nums (k + 1) ws x
    rw [numsOf, List.map_cons]
    unfold valD at ih ⊢
    rw [List.find?_cons]
    by_cases h : w.name = x
    · simp [h]
    · have e : decide ((Sum.inr w.name : Key) = .inr x) = false := decide_eq_false fun z => h (by cases z; rfl)
      simp only [e]
      rw [ih]
      have h' : ¬ x = w.name := fun z => h z.symm
      simp [h']
theorem putD_new {k : Nat} {ws : List Wk} {x : Str} {d : D} (h : x ∉ ws.map Wk.name) : putD (numsOf k ws) (.inr x) d = numsOf k ws ++ [(.inr x, d)] := by
  unfold putD
  rw [if_neg]
  intro z
  have h2 := valD_nums k ws x
  rw [decide_eq_false h] at h2
  unfold valD at h2
  rw [Option.isSome_map] at h2
  obtain ⟨p, hp, hq⟩ := List.any_eq_true.mp z
  cases hf : (numsOf k ws).find? fun kv => decide (kv.1 = Sum.inr x) with
  | none => exact absurd hq (by simpa using List.find?_eq_none.mp hf p hp)
  | some p => rw [hf] at h2; cases h2
end DL
namespace DL
local instance tp_dr : TP := tpNo
open PySem PySem.Spec L2
def drawn (m : Nat) (ms : List Int) : Prop := ms.length = m ∧ ∀ x ∈ ms, 0 ≤ x ∧ x < 10 ^ 45
def holdsGood (l : Int) (words : List Str) (hs : List Hd) : Prop := hs.length ≤ 3 ∧ fitL l [] (hs.map Hd.d) = true ∧ ∀ h ∈ hs, h.th ∈ words.take 3
structure Pl where
  gap : Int
  length : Int
  due : Int
  late : Int
  holds : List Hd
def Pl.d (p : Pl) : D := .tup [.int p.gap, .int p.length, .int p.due, .int p.late, .lst (p.holds.map Hd.d)]
def ceilOf (ws : List Wk) (x : Str) : Option Nat := ws.findIdx? fun w => w.holds.any fun h => decide (h.th = x)
def natD : Option Nat → D
  | some k => .int k
  | none => .non
theorem divUp_le {t b m : Int} (hb : 0 < b) (h : t ≤ m * b) : divUp t b ≤ m := by
  have h1 := (divUp_spec (t := t) hb).1
  have h2 : (divUp t b - 1) * b < m * b := by omega
  have := Int.lt_of_mul_lt_mul_right h2 (by omega)
  omega
theorem sum_le {f : Wk → Int} {m : Int} : ∀ ws : List Wk, (∀ w ∈ ws, f w ≤ m) → (ws.map f).sum ≤ m * ws.length
  | [], _ => by simp
  | w :: ws, h => by
    have h1 := h w List.mem_cons_self
    have h2 := sum_le ws fun v hv => h v (List.mem_cons_of_mem _ hv)
    rw [List.map_cons, List.sum_cons, List.length_cons, Int.natCast_add, Int.mul_add]
    simp
    omega
theorem lc_any {tg : Tg} {c : DTT} {t : DTE} {ρ : Rho} {Q : C → Prop} (P : D → Prop) (all : List D)
    (hs : ∀ (x : D), x ∈ all → ∀ N : Option D → Prop, (∀ y, P y → N (some y)) → tgSet tg x ρ fun ρ' => c ρ' (fun b => if b = true then t ρ' (fun z => N (some z.dat)) noEx else N none) noEx)
    (hl : all.length ≤ sizeLine) (hq : ∀ ys : List D, ys.length = all.length → (∀ y ∈ ys, P y) → Q (.nl ys)) : dLcL tg c t ρ Q all [] := by
  have key : ∀ (xs ys : List D), (∀ x ∈ xs, x ∈ all) → ys.length + xs.length = all.length → (∀ y ∈ ys, P y) → dLcL tg c t ρ Q xs ys := by
    intro xs
    induction xs with
    | nil => intro ys _ h hp; exact hq ys (by simpa using h) hp
    | cons x xs ih =>
      intro ys hm hl2 hp
      rw [List.length_cons] at hl2
      have hm' : ∀ x ∈ xs, x ∈ all := fun y hy => hm y (List.mem_cons_of_mem _ hy)
      refine hs x (hm x List.mem_cons_self) (fun o => match o with
        | some z => ys.length < sizeLine ∧ dLcL tg c t ρ Q xs (ys ++ [z])
        | none => dLcL tg c t ρ Q xs ys) fun z hz => ⟨by omega, ih (ys ++ [z]) hm' (by rw [List.length_append, List.length_singleton]; omega) fun y hy => ?_⟩
      rcases List.mem_append.mp hy with q | q
      · exact hp y q
      · rw [List.mem_singleton.mp q]; exact hz
  exact key all [] (fun _ h => h) (by simp) (fun _ h => by cases h)
theorem py_ints (ns : List Int) : (D.lst (ns.map D.int)).py = .list (ns.map PyData.int) := by
  show PyData.list (pyAll (ns.map D.int)) = _
  rw [pyAll_map, List.map_map]
  rfl
theorem shaped_ints (ns : List Int) : SeqAt.shaped (D.lst (ns.map D.int)).py = true := by
  rw [py_ints]
  have h1 : ∀ ns : List Int, PyData.canLayAll0 (ns.map PyData.int) = true := by
    intro ns
    induction ns with
    | nil => rfl
    | cons n ns ih =>
      show (PyData.canLay0 (.int n) && PyData.canLayAll0 (ns.map PyData.int)) = true
      rw [ih]
      rfl
  have h2 := PyProof.Rows.depthAll_ints ns
  show (PyData.canLayAll0 (ns.map PyData.int) && decide ((PyData.list (ns.map PyData.int)).depth ≤ 64)) = true
  rw [h1, Bool.true_and]
  refine decide_eq_true ?_
  show PyData.depthAll (ns.map PyData.int) + 1 ≤ 64
  rw [h2]
  decide
theorem eqv_nil (ns : List Int) : PyData.eqv (D.lst (ns.map D.int)).py (D.lst []).py = ns.isEmpty := by
  cases ns <;> rfl
end DL
namespace DL
local instance tp_ds : TP := tpNo
open PySem PySem.Spec L2
abbrev strOk (x : Str) : Bool := PyData.strOk x
theorem ite_d {p : Prop} {i : Decidable p} {A B : Prop} (h1 : p → A) (h2 : ¬ p → B) : if (@decide p i) = true then A else B := by
  by_cases h : p
  · rw [if_pos (@decide_eq_true p i h)]; exact h1 h
  · rw [if_neg (fun z => h (@of_decide_eq_true p i z))]; exact h2 h
def nice : Nat → D → Bool
  | _, .non => true
  | _, .int _ => true
  | _, .str x => strOk x
  | n + 1, .lst xs => xs.all (nice n)
  | n + 1, .tup xs => xs.all (nice n)
  | _, _ => false
theorem nice_bl {n : Nat} {b : Bool} : nice n (.bl b) = false := by cases n <;> rfl
theorem nice_dic {n : Nat} {b} : nice n (.dic b) = false := by cases n <;> rfl
theorem nice_obj {n : Nat} {b c} : nice n (.obj b c) = false := by cases n <;> rfl
theorem eqv_iff : ∀ {n m : Nat} {x y : D}, nice n x = true → nice m y = true → (PyData.eqv x.py y.py = true ↔ x = y) := by
  have lst : ∀ (n m : Nat), (∀ x y : D, nice n x = true → nice m y = true → (PyData.eqv x.py y.py = true ↔ x = y)) → ∀ xs ys : List D, (∀ x ∈ xs, nice n x = true) → (∀ x ∈ ys, nice m x = true) → (PyData.eqvAll (pyAll xs) (pyAll ys) = true ↔ xs = ys) := by
    intro n m ih xs
    induction xs with
    | nil =>
      intro ys _ _
      cases ys with
      | nil => exact ⟨fun _ => rfl, fun _ => rfl⟩
      | cons y ys => exact ⟨(fun h => nomatch h), (fun h => nomatch h)⟩
    | cons x xs ihx =>
      intro ys hx hy
      cases ys with
      | nil => exact ⟨(fun h => nomatch h), (fun h => nomatch h)⟩
      | cons y ys =>
        have a := ih x y (hx x List.mem_cons_self) (hy y List.mem_cons_self)
        have b := ihx ys (fun z hz => hx z (List.mem_cons_of_mem _ hz)) (fun z hz => hy z (List.mem_cons_of_mem _ hz))
        show (PyData.eqv x.py y.py && PyData.eqvAll (pyAll xs) (pyAll ys)) = true ↔ _
        rw [Bool.and_eq_true, a, b]
        exact ⟨fun ⟨p, q⟩ => by rw [p, q], fun h => by cases h; exact ⟨rfl, rfl⟩⟩
  intro n
  induction n with
  | zero =>
    intro m x y hx hy
    cases x <;> cases y <;> first
      | (rw [nice_bl] at hx; cases hx; done)
      | (rw [nice_bl] at hy; cases hy; done)
      | (rw [nice_dic] at hx; cases hx; done)
      | (rw [nice_dic] at hy; cases hy; done)
      | (rw [nice_obj] at hx; cases hx; done)
      | (rw [nice_obj] at hy; cases hy; done)
      | exact ⟨fun _ => rfl, fun _ => rfl⟩
      | exact absurd hx Bool.false_ne_true
      | (exact absurd hy Bool.false_ne_true)
      | exact ⟨(fun h => congrArg _ (beq_iff_eq.mp h)), (fun h => by cases h; exact beq_self_eq_true _)⟩
      | exact ⟨(fun h => nomatch h), (fun h => nomatch h)⟩
  | succ n ih =>
    intro m x y hx hy
    have lc : ∀ xs ys : List D, nice (n + 1) (.lst xs) = true → nice m (.lst ys) = true → (PyData.eqv (D.lst xs).py (D.lst ys).py = true ↔ D.lst xs = .lst ys) := fun xs ys hx hy => by
      cases m with
      | zero => exact absurd hy Bool.false_ne_true
      | succ m =>
        have := lst n m (fun x y => ih) xs ys (List.all_eq_true.mp hx) (List.all_eq_true.mp hy)
        refine ⟨fun h => congrArg _ (this.mp h), fun h => this.mpr ?_⟩
        cases h
        rfl
    have tc : ∀ xs ys : List D, nice (n + 1) (.tup xs) = true → nice m (.tup ys) = true → (PyData.eqv (D.tup xs).py (D.tup ys).py = true ↔ D.tup xs = .tup ys) := fun xs ys hx hy => by
      cases m with
      | zero => exact absurd hy Bool.false_ne_true
      | succ m =>
        have := lst n m (fun x y => ih) xs ys (List.all_eq_true.mp hx) (List.all_eq_true.mp hy)
        refine ⟨fun h => congrArg _ (this.mp h), fun h => this.mpr ?_⟩
        cases h
        rfl
    cases x <;> cases y <;> first
      | exact lc _ _ hx hy
      | exact tc _ _ hx hy
      | (rw [nice_bl] at hx; cases hx; done)
      | (rw [nice_bl] at hy; cases hy; done)
      | (rw [nice_dic] at hx; cases hx; done)
      | (rw [nice_dic] at hy; cases hy; done)
      | (rw [nice_obj] at hx; cases hx; done)
      | (rw [nice_obj] at hy; cases hy; done)
      | exact ⟨fun _ => rfl, fun _ => rfl⟩
      | exact absurd hx Bool.false_ne_true
      | (exact absurd hy Bool.false_ne_true)
      | exact ⟨(fun h => congrArg _ (beq_iff_eq.mp h)), (fun h => by cases h; exact beq_self_eq_true _)⟩
      | exact ⟨(fun h => nomatch h), (fun h => nomatch h)⟩
theorem eqv_self {n : Nat} {x : D} (hx : nice n x = true) : PyData.eqv x.py x.py = true := (eqv_iff hx hx).mpr rfl
theorem nice_ints (ns : List Int) : nice 1 (.lst (ns.map D.int)) = true := List.all_eq_true.mpr fun x hx => by obtain ⟨_, _, rfl⟩ := List.mem_map.mp hx; rfl
theorem lc_t {α : Type} {enc : α → D} {tg : Tg} {c : DTT} {t : DTE} {ρ : Rho} {Q : C → Prop} {l : List α} (f : α → Option D)
    (hs : ∀ a ∈ l, ∀ N : Option D → Prop, N (f a) → tgSet tg (enc a) ρ fun ρ' => c ρ' (fun b => if b = true then t ρ' (fun z => N (some z.dat)) noEx else N none) noEx)
    (hl : l.length ≤ sizeLine) (hq : Q (.nl (l.filterMap f))) : dLcL tg c t ρ Q (l.map enc) [] := by
  have key : ∀ (xs : List α) (ys : List D), (∀ x ∈ xs, x ∈ l) → ys.length + xs.length ≤ sizeLine → Q (.nl (ys ++ xs.filterMap f)) → dLcL tg c t ρ Q (xs.map enc) ys := by
    intro xs
    induction xs with
    | nil => intro ys _ _ h; rw [List.filterMap_nil, List.append_nil] at h; exact h
    | cons x xs ih =>
      intro ys hm hl h
      rw [List.length_cons] at hl
      refine hs x (hm x List.mem_cons_self) (fun o => match o with
        | some z => ys.length < sizeLine ∧ dLcL tg c t ρ Q (xs.map enc) (ys ++ [z])
        | none => dLcL tg c t ρ Q (xs.map enc) ys) ?_
      rw [List.filterMap_cons] at h
      have hm' : ∀ x ∈ xs, x ∈ l := fun y hy => hm y (List.mem_cons_of_mem _ hy)
      cases hf : f x with
      | none => rw [hf] at h; exact ih ys hm' (by omega) h
      | some z =>
        rw [hf] at h
        exact ⟨by omega, ih (ys ++ [z]) hm' (by rw [List.length_append, List.length_singleton]; omega) (by rw [List.append_assoc]; exact h)⟩
  exact key l [] (fun _ h => h) (by simpa using hl) hq
theorem lc_tm {α : Type} {enc : α → D} {tg : Tg} {c : DTT} {t : DTE} {ρ : Rho} {Q : C → Prop} {l : List α} (f : α → D)
    (hs : ∀ a ∈ l, ∀ N : Option D → Prop, N (some (f a)) → tgSet tg (enc a) ρ fun ρ' => c ρ' (fun b => if b = true then t ρ' (fun z => N (some z.dat)) noEx else N none) noEx)
    (hl : l.length ≤ sizeLine) (hq : Q (.nl (l.map f))) : dLcL tg c t ρ Q (l.map enc) [] :=
  lc_t (fun a => some (f a)) hs hl (by rw [List.filterMap_eq_map']; exact hq)
theorem rngD_map (n : Nat) : rngD 0 (n : Int) = (List.range n).map fun k : Nat => D.int k := by
  unfold rngD
  rw [Int.toNat_natCast]
  exact List.map_congr_left fun i _ => by rw [Int.zero_add]
theorem lc_g {α β : Type} {enc : α → D} (dec : β → D) (P : β → Prop) {tg : Tg} {c : DTT} {t : DTE} {ρ : Rho} {Q : C → Prop} {l : List α}
    (hs : ∀ a ∈ l, ∀ N : Option D → Prop, (∀ y, P y → N (some (dec y))) → tgSet tg (enc a) ρ fun ρ' => c ρ' (fun b => if b = true then t ρ' (fun z => N (some z.dat)) noEx else N none) noEx)
    (hl : l.length ≤ sizeLine) (hq : ∀ ys : List β, ys.length = l.length → (∀ y ∈ ys, P y) → Q (.nl (ys.map dec))) : dLcL tg c t ρ Q (l.map enc) [] := by
  refine lc_any (fun y => ∃ b, P b ∧ y = dec b) _ (fun x hx N hN => ?_) (by rw [List.length_map]; exact hl) fun ys h1 h2 => ?_
  · obtain ⟨a, ha, rfl⟩ := List.mem_map.mp hx
    exact hs a ha N fun y hy => hN _ ⟨y, hy, rfl⟩
  · have key : ∀ ys : List D, (∀ y ∈ ys, ∃ b, P b ∧ y = dec b) → ∃ zs : List β, ys = zs.map dec ∧ ∀ z ∈ zs, P z := by
      intro ys
      induction ys with
      | nil => exact fun _ => ⟨[], rfl, fun _ h => by cases h⟩
      | cons y ys ih =>
        intro h
        obtain ⟨b, hb, rfl⟩ := h y List.mem_cons_self
        obtain ⟨zs, rfl, hz⟩ := ih fun z hz => h z (List.mem_cons_of_mem _ hz)
        exact ⟨b :: zs, rfl, fun z hz2 => by
          rcases List.mem_cons.mp hz2 with rfl | h2
          · exact hb
          · exact hz z h2⟩
    obtain ⟨zs, rfl, hz⟩ := key ys h2
    rw [List.length_map, List.length_map] at h1
    exact hq zs h1 hz
theorem for_t {α : Type} {enc : α → D} {tg : Tg} {b : DS} {E : DEnds} {l : List α} (I : Nat → Rho → Prop)
    (hs : ∀ (k : Nat) (a : α) (ρ : Rho) (N : Rho → Prop), l[k]? = some a → I k ρ → (∀ ρ', I (k + 1) ρ' → N ρ') → tgSet tg (enc a) ρ fun ρ' => b { E with nx := N, ct := N, bk := E.nx } ρ')
    (hn : ∀ ρ, I l.length ρ → E.nx ρ) {ρ : Rho} (h0 : I 0 ρ) : dForL tg b E (l.map enc) ρ := by
  refine for_all I _ (fun k x ρ N hx hi hN => ?_) (fun ρ h => hn ρ (by rwa [List.length_map] at h)) h0
  rw [List.getElem?_map] at hx
  cases ha : l[k]? with
  | none => rw [ha] at hx; cases hx
  | some a =>
    rw [ha] at hx
    cases hx
    exact hs k a ρ N ha hi hN
theorem mem_of_at {α : Type} {l : List α} {k : Nat} {a : α} (h : l[k]? = some a) : a ∈ l := List.mem_of_getElem? h
theorem at_lt {α : Type} {l : List α} {k : Nat} (h : k < l.length) : ∃ a, l[k]? = some a := ⟨l[k], List.getElem?_eq_getElem h⟩
theorem ix_t {α : Type} {enc : α → D} {l : List α} {k : Nat} : ixD (l.map enc) (k : Int) = (l[k]?).map enc := by rw [ixD_nat, List.getElem?_map]
theorem ix_i {α : Type} {enc : α → D} {l : List α} {i : Int} (h0 : 0 ≤ i) (h1 : i < l.length) : ∃ a, ixD (l.map enc) i = some (enc a) ∧ a ∈ l ∧ l[i.toNat]? = some a := by
  obtain ⟨a, ha⟩ := at_lt (l := l) (k := i.toNat) (by omega)
  refine ⟨a, ?_, mem_of_at ha, ha⟩
  unfold ixD
  rw [if_pos h0, List.getElem?_map, ha]
  rfl
theorem sIx_nat {n d k : Nat} : HT.sIx n d (some (k : Int)) = min k n := by
  unfold HT.sIx
  simp only []
  rw [if_neg (by omega), Int.toNat_natCast]
theorem sIx_none {n d : Nat} : HT.sIx n d none = d := rfl
theorem cut_nat {xs : List D} {a b : Nat} : cutD xs (some (a : Int)) (some (b : Int)) = (xs.drop a).take (b - a) := by
  unfold cutD
  rw [sIx_nat, sIx_nat]
  by_cases h : a ≤ xs.length
  · have e : min a xs.length = a := Nat.min_eq_left h
    rw [e]
    by_cases hb : b ≤ xs.length
    · rw [show min b xs.length = b from Nat.min_eq_left hb]
    · rw [show min b xs.length = xs.length from Nat.min_eq_right (by omega), List.take_of_length_le (by rw [List.length_drop]; omega), List.take_of_length_le (by rw [List.length_drop]; omega)]
  · have e : min a xs.length = xs.length := Nat.min_eq_right (by omega)
    rw [e, List.drop_length, List.drop_of_length_le (show xs.length ≤ a by omega), List.take_nil, List.take_nil]
theorem cut_lo {xs : List D} {a : Nat} : cutD xs (some (a : Int)) none = xs.drop a := by
  unfold cutD
  rw [sIx_nat, sIx_none]
  by_cases h : a ≤ xs.length
  · rw [Nat.min_eq_left h, List.take_of_length_le (by rw [List.length_drop]; omega)]
  · have e : min a xs.length = xs.length := Nat.min_eq_right (by omega)
    rw [e, List.drop_length, List.drop_of_length_le (show xs.length ≤ a by omega), List.take_nil]
theorem cut_hi {xs : List D} {b : Nat} : cutD xs none (some (b : Int)) = xs.take b := by
  unfold cutD
  rw [sIx_nat, sIx_none, List.drop_zero, Nat.sub_zero]
  by_cases h : b ≤ xs.length
  · rw [Nat.min_eq_left h]
  · have e : min b xs.length = xs.length := Nat.min_eq_right (by omega)
    rw [e, List.take_of_length_le (Nat.le_refl _), List.take_of_length_le (by omega)]
theorem cut_lo_lit {xs : List D} {n : Nat} : cutD xs (some (no_index (@OfNat.ofNat Int n _))) none = xs.drop n := cut_lo
theorem cut_hi_lit {xs : List D} {n : Nat} : cutD xs none (some (no_index (@OfNat.ofNat Int n _))) = xs.take n := cut_hi
theorem cut_lh_lit {xs : List D} {n m : Nat} : cutD xs (some (no_index (@OfNat.ofNat Int n _))) (some (no_index (@OfNat.ofNat Int m _))) = (xs.drop n).take (m - n) := cut_nat
theorem Z.ix_lit {xs : List D} {n : Nat} : ixD xs (no_index (@OfNat.ofNat Int n _)) = xs[n]? := ixD_nat
theorem Hd.d_eq (q : Hd) : q.d = .tup [.str q.th, .int q.st, .int q.en] := rfl
theorem bls_tm {α : Type} {l : List α} {f : α → Bool} : blsD (l.map fun a => .bl (f a)) = some (l.map f) := by
  induction l with
  | nil => rfl
  | cons x xs ih => rw [List.map_cons, blsD, ih]; rfl
theorem ints_tm {α : Type} {l : List α} {f : α → Int} : intsD (l.map fun a => .int (f a)) = some (l.map f) := by
  induction l with
  | nil => rfl
  | cons x xs ih => rw [List.map_cons, intsD, ih]; rfl
theorem all_t {α : Type} {l : List α} : (l.map fun _ => true).all id = true := List.all_eq_true.mpr fun x hx => by obtain ⟨_, _, rfl⟩ := List.mem_map.mp hx; rfl
theorem flat_str {x : Str} : flatD (.str x) = true := rfl
theorem flat_int {x : Int} : flatD (.int x) = true := rfl
theorem flat_non : flatD .non = true := rfl
theorem flat_bl {b : Bool} : flatD (.bl b) = true := rfl
theorem flat_strs2 {ns : List Str} : (ns.map D.str).all flatD = true := by
  rw [List.all_map, List.all_eq_true]
  intro x _
  rfl
theorem flat_ints2 {ns : List Int} : (ns.map D.int).all flatD = true := by
  rw [List.all_map, List.all_eq_true]
  intro x _
  rfl
theorem inD_strs2 {x : Str} {hs : List Str} : inD (.str x) (hs.map D.str) = decide (x ∈ hs) := by
  unfold inD
  rw [List.any_map]
  induction hs with
  | nil => rfl
  | cons y ys ih =>
    rw [List.any_cons, ih]
    show (y == x || decide (x ∈ ys)) = _
    by_cases h : y = x
    · subst h; simp
    · have h' : ¬ x = y := fun z => h z.symm
      simp [h, h']
theorem inD_ints2 {x : Int} {hs : List Int} : inD (.int x) (hs.map D.int) = decide (x ∈ hs) := by
  unfold inD
  rw [List.any_map]
  induction hs with
  | nil => rfl
  | cons y ys ih =>
    rw [List.any_cons, ih]
    show (y == x || decide (x ∈ ys)) = _
    by_cases h : y = x
    · subst h; simp
    · have h' : ¬ x = y := fun z => h z.symm
      simp [h, h']
theorem range_at {n k i : Nat} (h : (List.range n)[k]? = some i) : i = k ∧ k < n := by
  obtain ⟨h1, h2⟩ := List.getElem?_eq_some_iff.mp h
  rw [List.getElem_range] at h2
  rw [List.length_range] at h1
  exact ⟨h2.symm, h1⟩
theorem and_i {A B : Prop} (a : A) (b : B) : A ∧ B := ⟨a, b⟩
def sortS (xs : List Str) : List Str := xs.mergeSort fun a b => !decide (b.cps.toList < a.cps.toList)
def sortI (xs : List Int) : List Int := xs.mergeSort fun a b => decide (a ≤ b)
structure Pz where
  gap : Int
  length : Int
  due : Int
  late : Int
  holds : List Hd
  more : Int
def Pz.wk (n : Str) (p : Pz) : Wk := ⟨n, p.gap, p.length, p.due, p.late, p.holds⟩
structure Pz.ok (p : Pz) : Prop where
  gap : 1 ≤ p.gap
  gapb : p.gap < 10 ^ 60
  len : 1 ≤ p.length
  lenb : p.length < 10 ^ 60
  due : 1 ≤ p.due
  dueb : p.due ≤ p.gap
  late : 0 ≤ p.late
  lateb : p.late < 10 ^ 61
  hl : p.holds.length ≤ 6
  fit : fitL p.length [] (p.holds.map Hd.d) = true
structure Wk.ok (w : Wk) : Prop where
  name : nameOk (.str w.name) = true
  gap : 1 ≤ w.gap
  gapb : w.gap < 10 ^ 60
  len : 1 ≤ w.length
  lenb : w.length < 10 ^ 60
  due : 1 ≤ w.due
  dueb : w.due ≤ w.gap
  late : 0 ≤ w.late
  lateb : w.late < 10 ^ 61
  hl : w.holds.length ≤ 6
  fit : fitL w.length [] (w.holds.map Hd.d) = true
theorem Pz.ok.wk {p : Pz} (h : p.ok) {n : Str} (hn : nameOk (.str n) = true) : (p.wk n).ok := ⟨hn, h.gap, h.gapb, h.len, h.lenb, h.due, h.dueb, h.late, h.lateb, h.hl, h.fit⟩
theorem fitL_mem {l : Int} : ∀ {hs : List Hd} {pre : List Hd}, fitL l pre (hs.map Hd.d) = true → ∀ h ∈ hs, holdOk l h.d = true
  | [], _, _, h, hh => by cases hh
  | q :: hs, pre, hf, h, hh => by
    rw [List.map_cons, fitL, Bool.and_eq_true, Bool.and_eq_true] at hf
    rcases List.mem_cons.mp hh with rfl | hh
    · exact hf.1
    · exact fitL_mem hf.2.2 h hh
theorem holdOk_un {l : Int} {h : Hd} (z : holdOk l h.d = true) : nameOk (.str h.th) = true ∧ 0 ≤ h.st ∧ h.st < h.en ∧ h.en < l := by
  have z : (nameOk (.str h.th) && (decide (0 ≤ h.st) && (decide (h.st < h.en) && decide (h.en < l)))) = true := z
  simpa using z
theorem Wk.ok.hold {w : Wk} (h : w.ok) {q : Hd} (hq : q ∈ w.holds) : nameOk (.str q.th) = true ∧ 0 ≤ q.st ∧ q.st < q.en ∧ q.en < w.length := holdOk_un (fitL_mem h.fit q hq)
theorem Pz.ok.hold {p : Pz} (h : p.ok) {q : Hd} (hq : q ∈ p.holds) : nameOk (.str q.th) = true ∧ 0 ≤ q.st ∧ q.st < q.en ∧ q.en < p.length := holdOk_un (fitL_mem h.fit q hq)
theorem name_small {x : Str} (h : nameOk (.str x) = true) : (D.str x).small = true := by
  have h : (decide (1 ≤ x.length) && (decide (x.length ≤ 8) && x.cps.toList.all fun c => decide (c ∈ letters))) = true := h
  simp only [Bool.and_eq_true, decide_eq_true_eq] at h
  exact decide_eq_true (by rw [sizeLine_eq]; omega)
theorem hds_small2 {hs : List Hd} (h : ∀ q ∈ hs, nameOk (.str q.th) = true) : (D.lst (hs.map Hd.d)).small2 = true := by
  show (hs.map Hd.d).all D.small1 = true
  rw [List.all_map, List.all_eq_true]
  intro q hq
  show ((D.str q.th).small && (true && (true && true))) = true
  rw [name_small (h q hq)]
  rfl
def wks (nm : Nat → Str) (ps : List Pz) : List Wk := ps.mapIdx fun k p => p.wk (nm k)
theorem wks_len (nm : Nat → Str) (ps : List Pz) : (wks nm ps).length = ps.length := List.length_mapIdx
theorem take_snoc {α : Type} {l : List α} {k : Nat} {a : α} (h : l[k]? = some a) : l.take (k + 1) = l.take k ++ [a] := by rw [List.take_add_one, h]; rfl
theorem crowd_le {ws : List Wk} (m : Int) (h : ∀ v ∈ ws, ∀ w ∈ ws, v.due + w.late ≤ m * w.gap) (h1 : ∀ w ∈ ws, 1 ≤ w.gap ∧ 1 ≤ w.due) : crowdOf ws ≤ m * ws.length := by
  unfold crowdOf
  rcases @maxOr_mem _ 0 (ws.map Wk.due) with ⟨e, _⟩ | e
  · rw [List.map_eq_nil_iff.mp e]
    simp
  · obtain ⟨v, hv, e2⟩ := List.mem_map.mp e
    rw [← e2]
    exact sum_le ws fun w hw => divUp_le (by have := (h1 w hw).1; omega) (h v hv w hw)
theorem divUp_pos {t b : Int} (hb : 0 < b) (ht : 0 ≤ t) : 0 ≤ divUp t b := by
  have h := (divUp_spec (t := t) hb).2
  rcases Int.lt_or_le (divUp t b) 0 with z | z
  · have : divUp t b * b < 0 := Int.mul_neg_of_neg_of_pos z hb
    omega
  · exact z
theorem drawn_get {m : Nat} {ms : List Int} (h : drawn m ms) {k : Nat} (hk : k < m) : ∃ x, ms[k]? = some x ∧ 0 ≤ x ∧ x < 10 ^ 45 := by
  obtain ⟨x, hx⟩ := at_lt (l := ms) (k := k) (by rw [h.1]; exact hk)
  exact ⟨x, hx, h.2 x (mem_of_at hx)⟩
theorem drawn_drop {m : Nat} {ms : List Int} (h : drawn m ms) (k : Nat) : drawn (m - k) (ms.drop k) := ⟨by rw [List.length_drop, h.1], fun x hx => h.2 x (List.mem_of_mem_drop hx)⟩
theorem emod_b (x : Int) {m : Int} (h : 0 < m) : 0 ≤ x % m ∧ x % m < m := ⟨Int.emod_nonneg x (by omega), Int.emod_lt_of_pos x h⟩
theorem ediv_b {x m : Int} (h : 0 ≤ x) (hm : 0 < m) : 0 ≤ x / m ∧ x / m ≤ x := ⟨Int.ediv_nonneg h (by omega), Int.ediv_le_self m h⟩
theorem big_of {x : Int} (h0 : 0 ≤ x) (h : x < 10 ^ 200) : big x < 9000 := Nat.lt_trans (big_lt (n := 700) (Nat.lt_of_lt_of_le (show x.natAbs < 10 ^ 200 by omega) (by decide +kernel)) (by decide)) (by decide)
theorem big_of2 {x : Int} (h0 : -(10 ^ 200) < x) (h : x < 10 ^ 200) : big x < 700 := big_lt (n := 700) (Nat.lt_of_lt_of_le (show x.natAbs < 10 ^ 200 by omega) (by decide +kernel)) (by decide)
theorem mul_of {x y : Int} (h0 : -(10 ^ 200) < x) (h : x < 10 ^ 200) (h1 : -(10 ^ 200) < y) (h2 : y < 10 ^ 200) : MulOk x y := mul_sum (by have := big_of2 h0 h; have := big_of2 h1 h2; omega)
theorem unit_ok (f : Int) {P : Int → Prop} (h : ∀ u : Int, 1 ≤ u → u ≤ 10 ^ 40 → P u) : ∃ m : Int, ixD [D.int 3, D.int (10 ^ 15)] (f % 2) = some (.int m) ∧ 0 < m ∧ P (1 + f / 4 % m) := by
  obtain ⟨x, hx, hm⟩ := @ixD_lt [.int 3, .int (10 ^ 15)] (f % 2) (by omega) (by simp; omega)
  obtain ⟨m, rfl, h1, h2⟩ : ∃ m : Int, x = .int m ∧ 0 < m ∧ m ≤ 10 ^ 15 := by
    simp only [List.mem_cons, List.not_mem_nil, or_false] at hm
    rcases hm with rfl | rfl
    · exact ⟨_, rfl, by decide, by decide⟩
    · exact ⟨_, rfl, by decide, by decide⟩
  refine ⟨m, hx, h1, h _ ?_ ?_⟩
  · have := emod_b (f / 4) h1; omega
  · have := emod_b (f / 4) h1; omega
theorem gap_by {u x y : Int} (hu : 1 ≤ u) (hx : 0 ≤ x) (hy : 0 ≤ y) : u ≤ u * (1 + x % 8) + y % 5 ∧ u * (1 + x % 8) + y % 5 ≤ 8 * u + 4 := by
  have f1 : 0 ≤ x % 8 ∧ x % 8 ≤ 7 := by omega
  have f2 : u * (1 + x % 8) ≤ u * 8 := Int.mul_le_mul_of_nonneg_left (by omega) (by omega)
  have f3 : u * 1 ≤ u * (1 + x % 8) := Int.mul_le_mul_of_nonneg_left (by omega) (by omega)
  omega
def Pz.t5 (p : Pz) : D := .tup [.int p.gap, .int p.length, .int p.due, .int p.late, .lst (p.holds.map Hd.d)]
def Wk.tri (w : Wk) : Int × Int × Int := (w.gap, w.late, w.length)
def Pz.tri (p : Pz) : Int × Int × Int := (p.gap, p.late, p.length)
def hsGood (l : Int) (hs : List Hd) : Prop := hs.length ≤ 3 ∧ fitL l [] (hs.map Hd.d) = true
theorem Pz.t5_eq (p : Pz) : p.t5 = .tup [.int p.gap, .int p.length, .int p.due, .int p.late, .lst (p.holds.map Hd.d)] := rfl
structure Qd where
  gap : Int
  late : Int
  due : Int
  length : Int
structure Qd.ok (q : Qd) : Prop where
  gap : 1 ≤ q.gap
  gapb : q.gap < 10 ^ 60
  len : 1 ≤ q.length
  lenb : q.length < 10 ^ 60
  due : 1 ≤ q.due
  dueb : q.due ≤ q.gap
  late : 0 ≤ q.late
  lateb : q.late < 10 ^ 61
theorem sum_b {α : Type} {f : α → Int} {m : Int} : ∀ l : List α, (∀ a ∈ l, 0 ≤ f a ∧ f a ≤ m) → 0 ≤ (l.map f).sum ∧ (l.map f).sum ≤ m * l.length
  | [], _ => by simp
  | a :: l, h => by
    have h1 := h a List.mem_cons_self
    have h2 := sum_b l fun b hb => h b (List.mem_cons_of_mem _ hb)
    rw [List.map_cons, List.sum_cons, List.length_cons, Int.natCast_add, Int.mul_add]
    simp
    omega
theorem divUp_alt {t g : Int} (hg : 0 < g) : (t + g - 1) / g = divUp t g := by
  have h1 := divUp_spec (t := t) hg
  generalize divUp t g = m at h1 ⊢
  have h2 := Int.mul_ediv_add_emod (t + g - 1) g
  have h3 := emod_b (t + g - 1) hg
  generalize (t + g - 1) / g = n at h2 ⊢
  generalize (t + g - 1) % g = r at h2 h3
  have e1 : (m - 1) * g < n * g := by rw [Int.mul_comm n g]; omega
  have e2 : (n - 1) * g < m * g := by rw [Int.sub_mul, Int.mul_comm n g]; omega
  have f1 := Int.lt_of_mul_lt_mul_right e1 (by omega)
  have f2 := Int.lt_of_mul_lt_mul_right e2 (by omega)
  omega
theorem divUp_mono {s t g : Int} (hg : 0 < g) (h : s ≤ t) : divUp s g ≤ divUp t g := divUp_le hg (by have := (divUp_spec (t := t) hg).2; omega)
def optI : Option Int → D
  | some a => .int a
  | none => .non
def AnsOk (L : Int → Int) (top : Int) : Option Int → Prop
  | some a => 1 ≤ a ∧ a ≤ top ∧ L a = a ∧ ∀ x, 1 ≤ x → x < a → x < L x
  | none => ∀ x, 1 ≤ x → x ≤ top → x < L x
theorem sum_mono {α : Type} {f g : α → Int} : ∀ l : List α, (∀ a ∈ l, f a ≤ g a) → (l.map f).sum ≤ (l.map g).sum
  | [], _ => Int.le_refl _
  | a :: l, h => by
    have h1 := h a List.mem_cons_self
    have h2 := sum_mono l fun b hb => h b (List.mem_cons_of_mem _ hb)
    rw [List.map_cons, List.map_cons, List.sum_cons, List.sum_cons]
    omega
end DL
namespace DL
open PySem PySem.Spec L2
local instance tp_law : TP := tpNo
local macro_rules | `(tactic| walk_at "d") => `(tactic| simp only [Y.dIsNT_y, Y.dLenNT_y, Y.dRetNT_y, Y.dUnpNT_y, Y.dExt_y, Y.dRev_y, Y.dIdx_y, Y.dItN_y, Y.dAppN_y, Y.dStoreN_y, Y.dLcN_y, Y.dUnb_y, Y.dFzN_y, Y.dForO_y, Y.ownN_y, Y.dSetd_y, Y.dPick_y, Y.pickR_y, Y.dCallR_y, Y.dMakeR_y, Y.rdQ_y, fEndsR, Y.dUnpL_y, Y.dMulL_y, Y.dAppX_y, Y.dBase_y, Y.dCallP_y, Y.dAppCallP_y, Y.dAppP_y, Y.dPopIxP_y, Y.dAugS_y, Y.dRem_y, Y.dAppPop_y, Y.dLm_y, Y.dTm1_y, Y.dTm0_y, Y.dTry1_y, Y.dRaiseI_y, Y.dXat_y, Y.dXis_y, Y.dEnum_y, Y.dNums_y, Y.dMaxOr_y, Y.dIsC_y, Y.dCallT_y, Y.dMethT_y, Y.dLRg1_y, Y.dLRg2_y, Y.lrgD_y, Y.dDisp1_y, Y.dChT3_y, Y.dCh3_y, Y.dSeq_y, Y.dNext_y, Y.dBrk_y, Y.dCnt_y, Y.dRet_y, Y.dRetL_y, Y.dRetN_y, Y.dIf_y, Y.dSet_y, Y.dSetO_y, Y.dDrop_y, Y.dFz_y, Y.dUnp_y, Y.dAug_y, Y.dApp_y, Y.dStore_y, Y.dFldS_y, Y.dRaise_y, Y.dFor_y, Y.dItL_y, Y.dItT_y, Y.dItS_y, Y.dRng1_y, Y.dRng2_y, Y.dTst_y, Y.dChT_y, Y.dCh_y, Y.dBool_y, Y.dAnd_y, Y.dOr_y, Y.dNot_y, Y.dAndV_y, Y.dOrV_y, Y.dNotV_y, Y.dOp_y, Y.dUn_y, Y.dCB_y, Y.dCall_y, Y.dMeth_y, altL, Y.dMake_y, Y.dFld_y, Y.dTup_y, Y.dLst_y, Y.dNewD_y, Y.dConsA_y, Y.dNilA_y, Y.dV_y, Y.dL_y, Y.dC_y, Y.dSl_y, Y.dNo_y, Y.dSome_y, Y.dIs_y, Y.dLc_y, Y.dYes_y, wipeR, Y.cmpV_y, Y.cEq_y, Y.cNe_y, Y.cIsN_y, Y.cNotN_y, Y.cNotIn_y, Y.slotD_y, Y.slotO_y, Y.slotI_y, Y.ownL_y, Y.ownK_y, Y.ownAt_y, Y.selfO_y, fEnds, fEndsP, rho0P, rho0,
  Z.dat_d, Z.dat_nl, Z.dat_nd, Z.dat_no, Z.dat_np, Z.dat_ro, Z.dat_fz, Z.dat_cp, Z.own_fz, Z.own_cp, Z.dat_nt, Z.dat_nn, Z.own_nt, Z.own_nn, Z.isN_box, Z.rev1_l, Z.isI_i, Z.isBox_b, Z.step_l, Z.own_d, Z.own_nl, Z.own_nd, Z.own_no, Z.own_np, Z.own_ro, Z.add_ii, Z.add_ss, Z.add_ll, Z.add_tt, Z.sub_ii, Z.mul_ii, Z.mul_si, Z.div_ii, Z.mod_ii, Z.pow_ii, Z.neg_i, Z.addI_ii, Z.addI_ss, Z.lt_ii, Z.lt_ss, Z.le_ii, Z.gt_ii, Z.ge_ii, Z.eq_ii, Z.eq_ss, Z.eq_bb, Z.eq_nn, Z.eq_ll, Z.eq_tt, Z.isB, Z.notB, Z.isN_non, Z.kind_non, Z.isN_bl, Z.kind_bl, Z.isN_int, Z.kind_int, Z.isN_str, Z.kind_str, Z.isN_lst, Z.kind_lst, Z.isN_tup, Z.kind_tup, Z.isN_dic, Z.kind_dic, Z.isN_obj, Z.isN_exn, Z.isBl_b, Z.isInt_i, Z.in_l, Z.in_t, Z.in_di, Z.in_ds, Z.in_ss, Z.ix_l, Z.ix_t, Z.ix_s, Z.ix_di, Z.ix_ds, Z.optQ_s, Z.optQ_n, Z.sort2_l, Z.maxOr_l, Z.isC_o, Z.isC_non, Z.isC_bl, Z.isC_int, Z.isC_str, Z.isC_lst, Z.isC_tup, Z.isC_dic, Z.plain_non, Z.atom_non, Z.plain_bl, Z.atom_bl, Z.plain_int, Z.atom_int, Z.plain_str, Z.atom_str, Z.plain_tup, Z.plain_Ln, Z.plain_Lc, Z.plain_Cd, Z.plain_Cnl, Z.rev_l, Z.key_i, Z.key_s, Z.optK_s, Z.sl_l, Z.sl_s, Z.len_l, Z.len_t, Z.len_s, Z.len_d, Z.int_i, Z.int_b, Z.str_i, Z.list_l, Z.list_t, Z.max_ii, Z.min_ii, Z.sum_l, Z.maxl, Z.minl, Z.all_l, Z.any_l, Z.sortI, Z.divmod_ii, Z.withI_s, Z.withB_s, Z.withS_s, Z.itL_l, Z.itT_t, Z.itS_s, Z.max3_i, Z.maxTu_t, Z.ltT_tt, Z.rng1_i, Z.rng2_i, Z.tg_1, Z.tg_m, Z.setAll_c, Z.setAll_n, Z.xat_e, Z.xis_e, Z.join_l, Z.part_s, Z.split_s, Z.starts_s, Z.upper_s, Z.isStr_s, Z.itE_l, Z.fld_o, Z.recv_o, Z.st_l, Z.unpL_l, Z.int_s, Z.mulL_n, Z.isNl_n, Z.pickQ_l, Z.st_np, Z.st_di, Z.st_ds, Z.optN_s, Z.putFd_n, Z.putFd_c, Z.sub_NoneType_bool, Z.sub_NoneType_int, Z.sub_NoneType_str, Z.sub_NoneType_list, Z.sub_NoneType_tuple, Z.sub_NoneType_dict, Z.sub_bool_bool, Z.sub_bool_int, Z.sub_bool_str, Z.sub_bool_list, Z.sub_bool_tuple, Z.sub_bool_dict, Z.sub_int_bool, Z.sub_int_int, Z.sub_int_str, Z.sub_int_list, Z.sub_int_tuple, Z.sub_int_dict, Z.sub_str_bool, Z.sub_str_int, Z.sub_str_str, Z.sub_str_list, Z.sub_str_tuple, Z.sub_str_dict, Z.sub_list_bool, Z.sub_list_int, Z.sub_list_str, Z.sub_list_list, Z.sub_list_tuple, Z.sub_list_dict, Z.sub_tuple_bool, Z.sub_tuple_int, Z.sub_tuple_str, Z.sub_tuple_list, Z.sub_tuple_tuple, Z.sub_tuple_dict, Z.sub_dict_bool, Z.sub_dict_int, Z.sub_dict_str, Z.sub_dict_list, Z.sub_dict_tuple, Z.sub_dict_dict, Z.toNat_lit, Z.natAbs_lit, Z.bl_2, Z.bl_3, Z.bl_4, Z.bl_5, Z.bl_6, Z.bl_7, Z.bl_8, Z.bl_9, Z.bl_10, Z.bl_11, Z.bl_12, Z.bl_13, Z.bl_14, Z.bl_15, Z.bl_16, Z.bl_20, Z.bl_21, Z.bl_24, Z.bl_25, Z.bl_27, Z.bl_28, Z.bl_30, Z.bl_32, Z.bl_40, Z.bl_41, Z.bl_48, Z.bl_49, Z.bl_50, Z.bl_58, Z.bl_64, Z.bl_75, Z.bl_80, Z.bl_88, Z.bl_96, Z.bl_98, Z.bl_123, Z.bl_147, Z.bl_192, Z.bl_200, Z.bl_225, Z.bl_240, Z.bl_320, Z.bl_1000, Z.bl_1274, Z.bl_2880, Z.bl_6720, Z.bl_2147483647, Z.mr_2, Z.ml_2, Z.mr_3, Z.ml_3, Z.mr_4, Z.ml_4, Z.mr_5, Z.ml_5, Z.mr_6, Z.ml_6, Z.mr_7, Z.ml_7, Z.mr_8, Z.ml_8, Z.mr_9, Z.ml_9, Z.mr_10, Z.ml_10, Z.mr_11, Z.ml_11, Z.mr_12, Z.ml_12, Z.mr_13, Z.ml_13, Z.mr_16, Z.ml_16, Z.mr_21, Z.ml_21, Z.mr_30, Z.ml_30, Z.mr_31, Z.ml_31, Z.mr_37, Z.ml_37, Z.mr_40, Z.ml_40, Z.mr_58, Z.ml_58, Z.mr_60, Z.ml_60, Z.mr_64, Z.ml_64, Z.mr_79, Z.ml_79, Z.mr_200, Z.ml_200, Z.mr_201, Z.ml_201, Z.mr_1009, Z.ml_1009, Z.mr_7919, Z.ml_7919, Z.mr_16807, Z.ml_16807, Z.mr_48271, Z.ml_48271, Z.mr_69621, Z.ml_69621, Z.mr_2147483647, Z.ml_2147483647, Z.lk_hit, Z.lk_miss, Z.ten_pos,
  ne_eq, not_false_eq_true, Bool.false_eq_true, eq_self, reduceCtorEq, List.mem_cons, List.not_mem_nil, or_false, or_true, true_or, false_or, List.map_cons, List.map_nil, List.length_cons, List.length_nil, List.replicate_succ, List.replicate_zero, List.cons_append, List.nil_append, List.append_nil, List.getElem?_cons_zero, List.getElem?_cons_succ, List.getElem?_nil, List.set_cons_zero, List.set_cons_succ, Nat.reduceAdd, Nat.reduceSub, Nat.zero_add, Nat.add_zero, if_true, if_false, Bool.not_true, Bool.not_false, reduceIte, true_and, and_true, Option.map_some, Option.map_none, Int.toNat_zero, Int.toNat_one, Int.reduceLE, Int.reduceLT, Nat.reduceLT, Nat.reduceLeDiff, Nat.reducePow, Int.reduceNeg, decide_true, decide_false, Bool.and_self, String.reduceEq])
local macro_rules | `(tactic| walk_at "e") => `(tactic| simp only [Y.dIsNT_y, Y.dLenNT_y, Y.dRetNT_y, Y.dUnpNT_y, Y.dExt_y, Y.dRev_y, Y.dIdx_y, Y.dItN_y, Y.dAppN_y, Y.dStoreN_y, Y.dLcN_y, Y.dUnb_y, Y.dFzN_y, Y.dForO_y, Y.ownN_y, Y.dSetd_y, Y.dPick_y, Y.pickR_y, Y.dCallR_y, Y.dMakeR_y, Y.rdQ_y, fEndsR, Y.dUnpL_y, Y.dMulL_y, Y.dAppX_y, Y.dBase_y, Y.dCallP_y, Y.dAppCallP_y, Y.dAppP_y, Y.dPopIxP_y, Y.dAugS_y, Y.dRem_y, Y.dAppPop_y, Y.dLm_y, Y.dTm1_y, Y.dTm0_y, Y.dTry1_y, Y.dRaiseI_y, Y.dXat_y, Y.dXis_y, Y.dEnum_y, Y.dNums_y, Y.dMaxOr_y, Y.dIsC_y, Y.dCallT_y, Y.dMethT_y, Y.dLRg1_y, Y.dLRg2_y, Y.lrgD_y, Y.dDisp1_y, Y.dChT3_y, Y.dCh3_y, Y.dSeq_y, Y.dNext_y, Y.dBrk_y, Y.dCnt_y, Y.dRet_y, Y.dRetL_y, Y.dRetN_y, Y.dIf_y, Y.dSet_y, Y.dSetO_y, Y.dDrop_y, Y.dFz_y, Y.dUnp_y, Y.dAug_y, Y.dApp_y, Y.dStore_y, Y.dFldS_y, Y.dRaise_y, Y.dFor_y, Y.dItL_y, Y.dItT_y, Y.dItS_y, Y.dRng1_y, Y.dRng2_y, Y.dTst_y, Y.dChT_y, Y.dCh_y, Y.dBool_y, Y.dAnd_y, Y.dOr_y, Y.dNot_y, Y.dAndV_y, Y.dOrV_y, Y.dNotV_y, Y.dOp_y, Y.dUn_y, Y.dCB_y, Y.dCall_y, Y.dMeth_y, altL, Y.dMake_y, Y.dFld_y, Y.dTup_y, Y.dLst_y, Y.dNewD_y, Y.dConsA_y, Y.dNilA_y, Y.dV_y, Y.dL_y, Y.dC_y, Y.dSl_y, Y.dNo_y, Y.dSome_y, Y.dIs_y, Y.dLc_y, Y.dYes_y, wipeR, Y.cmpV_y, Y.cEq_y, Y.cNe_y, Y.cIsN_y, Y.cNotN_y, Y.cNotIn_y, Y.slotD_y, Y.slotO_y, Y.slotI_y, Y.ownL_y, Y.ownK_y, Y.ownAt_y, Y.selfO_y, fEnds, fEndsP, rho0P, rho0,
  Z.dat_d, Z.dat_nl, Z.dat_nd, Z.dat_no, Z.dat_np, Z.dat_ro, Z.dat_fz, Z.dat_cp, Z.own_fz, Z.own_cp, Z.dat_nt, Z.dat_nn, Z.own_nt, Z.own_nn, Z.isN_box, Z.rev1_l, Z.isI_i, Z.isBox_b, Z.step_l, Z.own_d, Z.own_nl, Z.own_nd, Z.own_no, Z.own_np, Z.own_ro, Z.add_ii, Z.add_ss, Z.add_ll, Z.add_tt, Z.sub_ii, Z.mul_ii, Z.mul_si, Z.div_ii, Z.mod_ii, Z.pow_ii, Z.neg_i, Z.addI_ii, Z.addI_ss, Z.lt_ii, Z.lt_ss, Z.le_ii, Z.gt_ii, Z.ge_ii, Z.eq_ii, Z.eq_ss, Z.eq_bb, Z.eq_nn, Z.eq_ll, Z.eq_tt, Z.isB, Z.notB, Z.isN_non, Z.kind_non, Z.isN_bl, Z.kind_bl, Z.isN_int, Z.kind_int, Z.isN_str, Z.kind_str, Z.isN_lst, Z.kind_lst, Z.isN_tup, Z.kind_tup, Z.isN_dic, Z.kind_dic, Z.isN_obj, Z.isN_exn, Z.isBl_b, Z.isInt_i, Z.in_l, Z.in_t, Z.in_di, Z.in_ds, Z.in_ss, Z.ix_l, Z.ix_t, Z.ix_s, Z.ix_di, Z.ix_ds, Z.optQ_s, Z.optQ_n, Z.sort2_l, Z.maxOr_l, Z.isC_o, Z.isC_non, Z.isC_bl, Z.isC_int, Z.isC_str, Z.isC_lst, Z.isC_tup, Z.isC_dic, Z.plain_non, Z.atom_non, Z.plain_bl, Z.atom_bl, Z.plain_int, Z.atom_int, Z.plain_str, Z.atom_str, Z.plain_tup, Z.plain_Ln, Z.plain_Lc, Z.plain_Cd, Z.plain_Cnl, Z.rev_l, Z.key_i, Z.key_s, Z.optK_s, Z.sl_l, Z.sl_s, Z.len_l, Z.len_t, Z.len_s, Z.len_d, Z.int_i, Z.int_b, Z.str_i, Z.list_l, Z.list_t, Z.max_ii, Z.min_ii, Z.sum_l, Z.maxl, Z.minl, Z.all_l, Z.any_l, Z.sortI, Z.divmod_ii, Z.withI_s, Z.withB_s, Z.withS_s, Z.itL_l, Z.itT_t, Z.itS_s, Z.max3_i, Z.maxTu_t, Z.ltT_tt, Z.rng1_i, Z.rng2_i, Z.tg_1, Z.tg_m, Z.setAll_c, Z.setAll_n, Z.xat_e, Z.xis_e, Z.join_l, Z.part_s, Z.split_s, Z.starts_s, Z.upper_s, Z.isStr_s, Z.itE_l, Z.fld_o, Z.recv_o, Z.st_l, Z.unpL_l, Z.int_s, Z.mulL_n, Z.isNl_n, Z.pickQ_l, Z.st_np, Z.st_di, Z.st_ds, Z.optN_s, Z.putFd_n, Z.putFd_c, Z.sub_NoneType_bool, Z.sub_NoneType_int, Z.sub_NoneType_str, Z.sub_NoneType_list, Z.sub_NoneType_tuple, Z.sub_NoneType_dict, Z.sub_bool_bool, Z.sub_bool_int, Z.sub_bool_str, Z.sub_bool_list, Z.sub_bool_tuple, Z.sub_bool_dict, Z.sub_int_bool, Z.sub_int_int, Z.sub_int_str, Z.sub_int_list, Z.sub_int_tuple, Z.sub_int_dict, Z.sub_str_bool, Z.sub_str_int, Z.sub_str_str, Z.sub_str_list, Z.sub_str_tuple, Z.sub_str_dict, Z.sub_list_bool, Z.sub_list_int, Z.sub_list_str, Z.sub_list_list, Z.sub_list_tuple, Z.sub_list_dict, Z.sub_tuple_bool, Z.sub_tuple_int, Z.sub_tuple_str, Z.sub_tuple_list, Z.sub_tuple_tuple, Z.sub_tuple_dict, Z.sub_dict_bool, Z.sub_dict_int, Z.sub_dict_str, Z.sub_dict_list, Z.sub_dict_tuple, Z.sub_dict_dict, Z.toNat_lit, Z.natAbs_lit, Z.bl_2, Z.bl_3, Z.bl_4, Z.bl_5, Z.bl_6, Z.bl_7, Z.bl_8, Z.bl_9, Z.bl_10, Z.bl_11, Z.bl_12, Z.bl_13, Z.bl_14, Z.bl_15, Z.bl_16, Z.bl_20, Z.bl_21, Z.bl_24, Z.bl_25, Z.bl_27, Z.bl_28, Z.bl_30, Z.bl_32, Z.bl_40, Z.bl_41, Z.bl_48, Z.bl_49, Z.bl_50, Z.bl_58, Z.bl_64, Z.bl_75, Z.bl_80, Z.bl_88, Z.bl_96, Z.bl_98, Z.bl_123, Z.bl_147, Z.bl_192, Z.bl_200, Z.bl_225, Z.bl_240, Z.bl_320, Z.bl_1000, Z.bl_1274, Z.bl_2880, Z.bl_6720, Z.bl_2147483647, Z.mr_2, Z.ml_2, Z.mr_3, Z.ml_3, Z.mr_4, Z.ml_4, Z.mr_5, Z.ml_5, Z.mr_6, Z.ml_6, Z.mr_7, Z.ml_7, Z.mr_8, Z.ml_8, Z.mr_9, Z.ml_9, Z.mr_10, Z.ml_10, Z.mr_11, Z.ml_11, Z.mr_12, Z.ml_12, Z.mr_13, Z.ml_13, Z.mr_16, Z.ml_16, Z.mr_21, Z.ml_21, Z.mr_30, Z.ml_30, Z.mr_31, Z.ml_31, Z.mr_37, Z.ml_37, Z.mr_40, Z.ml_40, Z.mr_58, Z.ml_58, Z.mr_60, Z.ml_60, Z.mr_64, Z.ml_64, Z.mr_79, Z.ml_79, Z.mr_200, Z.ml_200, Z.mr_201, Z.ml_201, Z.mr_1009, Z.ml_1009, Z.mr_7919, Z.ml_7919, Z.mr_16807, Z.ml_16807, Z.mr_48271, Z.ml_48271, Z.mr_69621, Z.ml_69621, Z.mr_2147483647, Z.ml_2147483647, Z.lk_hit, Z.lk_miss, Z.ten_pos,
  ne_eq, not_false_eq_true, Bool.false_eq_true, eq_self, reduceCtorEq, List.mem_cons, List.not_mem_nil, or_false, or_true, true_or, false_or, List.map_cons, List.map_nil, List.length_cons, List.length_nil, List.replicate_succ, List.replicate_zero, List.cons_append, List.nil_append, List.append_nil, List.getElem?_cons_zero, List.getElem?_cons_succ, List.getElem?_nil, List.set_cons_zero, List.set_cons_succ, Nat.reduceAdd, Nat.reduceSub, Nat.zero_add, Nat.add_zero, if_true, if_false, Bool.not_true, Bool.not_false, reduceIte, true_and, and_true, Option.map_some, Option.map_none, Int.toNat_zero, Int.toNat_one, Int.reduceLE, Int.reduceLT, Nat.reduceLT, Nat.reduceLeDiff, Nat.reducePow, Int.reduceNeg, decide_true, decide_false, Bool.and_self, String.reduceEq, Z.ix_lit, ixD_nat, List.getElem?_map, cut_lo_lit, cut_hi_lit, cut_lh_lit, List.length_map, ← List.map_reverse, ← List.map_drop, ← List.map_take, ← List.map_append, bls_tm, ints_tm, all_t, intsD_map, strsD_map, flat_str, flat_int, flat_non, flat_bl, flat_strs2, flat_ints2, inD_strs2, inD_ints2])
local macro_rules | `(tactic| walk_at "s") => `(tactic| ((with_reducible apply and_i); focus first | omega | decide | exact ⟨by omega, by omega⟩ | exact mul_left (by omega) | exact mul_right (by omega) | (simp only [sizeLine_eq, List.length_map, List.length_append, List.length_cons, List.length_nil, List.length_range, List.length_take, List.length_drop, List.length_reverse, List.length_map, wks_len]; omega) | with_reducible rfl))
def z3v : DS := (dRetL 2)
def z3w : DS := dSeq (dIf (dTst cGt (dL 3) (dC (.int 0))) (dAug 2 dAddI (dC (.int 1))) dNext) z3v
def z3j : DS := dSeq (dUnp [2, 3] (dCB fDivmod (dConsA (dL 0) (dConsA (dL 1) dNilA)))) z3w
local macro_rules | `(tactic| walk_at "M_rounds_up") => `(tactic| repeat (first | walk_at "e" | walk_at "s" | (with_reducible show z3v _ _; simp only [z3v]) | (with_reducible show z3w _ _; simp only [z3w]) | (with_reducible show z3j _ _; simp only [z3j])))
def zg : FS := fun xs Q _ => ∃ t b : Int, xs = [.int t, .int b] ∧ 0 < b ∧ big b < 9000 ∧ Q (.d (.int (divUp t b)))
theorem zdz : ∀ xs QD QE, zg xs QD QE → xs.length = 2 := fun xs _ _ ⟨_, _, h, _⟩ => by rw [h]; rfl
theorem zgv : ∀ xs QD QE, zg xs QD QE → z3j (fEnds QD QE) (rho0 4 xs) := by
  rintro xs QD QE ⟨t, b, rfl, h0, h1, h⟩
  simp only [z3j]
  walk_at "d"
  refine ⟨⟨h0, h1⟩, ?_⟩
  simp only [z3w, z3v]
  walk_at "d"
  unfold divUp at h
  by_cases hc : 0 < t % b
  · simpa [hc] using h
  · simpa [hc] using h
def z90 : DS := (dRet (dC (.int 0)))
def zfm : DS := dSeq (dIf (dTst cLt (dL 1) (dCB fLen (dConsA (dL 0) dNilA))) (dRet (dOp dIx (dL 0) (dL 1))) dNext) z90
local macro_rules | `(tactic| walk_at "L_cell_at") => `(tactic| repeat (first | walk_at "e" | walk_at "s" | (with_reducible show z90 _ _; simp only [z90]) | (with_reducible show zfm _ _; simp only [zfm])))
def z5p : FS := fun xs Q _ => ∃ (ns : List Int) (k : Nat), xs = [.lst (ns.map .int), .int k] ∧ Q (.d (.int (cellI ns k)))
def z4o : DS := (dIf (dTst cNotIn (dL 1) (dC (.str "abcdefghijklmnopqrstuvwxyz"))) (dRet (dC (.bl false))) dNext)
def z56 : DS := (dRet (dC (.bl true)))
def z57 : DS := dSeq (dFor (.one 1) (dItS (dV 0)) z4o) z56
def z52 : DS := dSeq (dIf (dOr (dNot (dBool (dIs "str" (dL 0)))) (dNot (dChT cLe cLe (dC (.int 1)) (dCB fLen (dConsA (dL 0) dNilA)) (dC (.int 8))))) (dRet (dC (.bl false))) dNext) z57
local macro_rules | `(tactic| walk_at "M_is_name") => `(tactic| repeat (first | walk_at "e" | walk_at "s" | (with_reducible show z4o _ _; simp only [z4o]) | (with_reducible show z56 _ _; simp only [z56]) | (with_reducible show z57 _ _; simp only [z57]) | (with_reducible show z52 _ _; simp only [z52])))
def zn : FS := fun xs Q _ => ∃ x, xs = [x] ∧ x.small = true ∧ Q (.d (.bl (nameOk x)))
theorem zfu : ∀ xs QD QE, zn xs QD QE → xs.length = 1 := fun xs _ _ ⟨_, h, _⟩ => by rw [h]; rfl
theorem zj2 : ∀ xs QD QE, zn xs QD QE → z52 (fEnds QD QE) (rho0 2 xs) := by
  rintro xs QD QE ⟨x, rfl, hx, h⟩
  simp only [z52]
  cases x with
  | str z =>
    walk_at "d"
    refine ⟨of_decide_eq_true hx, ?_⟩
    have h : QD (.d (.bl (decide (1 ≤ z.length) && (decide (z.length ≤ 8) && z.cps.toList.all fun c => decide (c ∈ letters))))) := h
    by_cases h1 : 1 ≤ z.length
    · rw [decide_eq_true h1, Bool.true_and] at h
      have e1 : decide ((1 : Int) ≤ (z.length : Int)) = true := decide_eq_true (by omega)
      rw [e1]
      walk_at "d"
      by_cases h2 : z.length ≤ 8
      · rw [decide_eq_true h2, Bool.true_and] at h
        have e2 : decide ((z.length : Int) ≤ 8) = true := decide_eq_true (by omega)
        rw [e2]
        walk_at "d"
        simp only [z57]
        walk_at "d"
        refine for_all (fun k ρ => (∃ o, ρ = [some (.d (.str z)), o]) ∧ ∀ c ∈ z.cps.toList.take k, c ∈ letters) _ (fun k y ρ N hy ⟨⟨o, ho⟩, hi⟩ hN => ?_) (fun ρ ⟨⟨o, ho⟩, hi⟩ => ?_) ⟨⟨_, rfl⟩, fun c hc => by simp at hc⟩
        · subst ho
          simp only [z4o]
          walk_at "d"
          unfold signs at hy
          rw [List.getElem?_map] at hy
          cases hc : z.cps.toList[k]? with
          | none => rw [hc] at hy; cases hy
          | some c =>
            rw [hc] at hy
            cases hy
            walk_at "d"
            rw [StrLaws.found_one]
            by_cases hl : c ∈ letters
            · rw [decide_eq_true (show c ∈ ("abcdefghijklmnopqrstuvwxyz" : Str).cps.toList from hl)]
              walk_at "d"
              refine hN _ ⟨⟨_, rfl⟩, fun d hd => ?_⟩
              rw [List.take_add_one, hc] at hd
              rcases List.mem_append.mp hd with q | q
              · exact hi d q
              · cases List.mem_singleton.mp q
                exact hl
            · rw [decide_eq_false (show ¬ c ∈ ("abcdefghijklmnopqrstuvwxyz" : Str).cps.toList from hl)]
              walk_at "d"
              have e : (z.cps.toList.all fun c => decide (c ∈ letters)) = false := by
                rw [List.all_eq_false]
                exact ⟨c, List.mem_of_getElem? hc, by simpa using hl⟩
              rw [e] at h
              exact h
        · subst ho
          simp only [z56]
          walk_at "d"
          have e : (z.cps.toList.all fun c => decide (c ∈ letters)) = true := by
            rw [List.all_eq_true]
            intro c hc
            refine decide_eq_true (hi c ?_)
            unfold signs
            rw [List.length_map, List.take_length]
            exact hc
          rw [e] at h
          exact h
      · rw [decide_eq_false h2, Bool.false_and] at h
        have e2 : decide ((z.length : Int) ≤ 8) = false := decide_eq_false (by omega)
        rw [e2]
        walk_at "d"
        exact h
    · rw [decide_eq_false h1, Bool.false_and] at h
      have e1 : decide ((1 : Int) ≤ (z.length : Int)) = false := decide_eq_false (by omega)
      rw [e1]
      walk_at "d"
      exact h
  | obj _ _ => cases hx
  | exn _ _ _ => cases hx
  | box _ => cases hx
  | _ => walk_at "d"; exact h
def z4c : DS := (dRet (dAndV (dIs "int" (dL 0)) (dNotV (dIs "bool" (dL 0)))))
local macro_rules | `(tactic| walk_at "M_is_whole") => `(tactic| repeat (first | walk_at "e" | walk_at "s" | (with_reducible show z4c _ _; simp only [z4c])))
def z9 : FS := fun xs Q _ => ∃ x b, xs = [x] ∧ isWhole x = some b ∧ Q (.d (.bl b))
theorem zf4 : ∀ xs QD QE, z9 xs QD QE → xs.length = 1 := fun xs _ _ ⟨_, _, h, _⟩ => by rw [h]; rfl
theorem zi7 : ∀ xs QD QE, z9 xs QD QE → z4c (fEnds QD QE) (rho0 1 xs) := by
  rintro xs QD QE ⟨x, b, rfl, hx, h⟩
  simp only [z4c]
  cases x <;> cases hx <;> (walk_at "d"; simpa using h)
def z58 : DS := (dRet (dCh3 cLe cLt cLt (dC (.int 0)) (dOp dIx (dL 0) (dC (.int 1))) (dOp dIx (dL 0) (dC (.int 2))) (dL 1)))
def z3k : DS := dSeq (dIf (dOr (dNot (dBool (dCall zn (dConsA (dOp dIx (dL 0) (dC (.int 0))) dNilA) []))) (dOr (dNot (dBool (dCall z9 (dConsA (dOp dIx (dL 0) (dC (.int 1))) dNilA) []))) (dNot (dBool (dCall z9 (dConsA (dOp dIx (dL 0) (dC (.int 2))) dNilA) []))))) (dRet (dC (.bl false))) dNext) z58
def z53 : DS := dSeq (dIf (dOr (dNot (dBool (dIs "tuple" (dL 0)))) (dTst cNe (dCB fLen (dConsA (dL 0) dNilA)) (dC (.int 3)))) (dRet (dC (.bl false))) dNext) z3k
local macro_rules | `(tactic| walk_at "M_is_hold") => `(tactic| repeat (first | walk_at "e" | walk_at "s" | (with_reducible show z58 _ _; simp only [z58]) | (with_reducible show z3k _ _; simp only [z3k]) | (with_reducible show z53 _ _; simp only [z53])))
def z1y : FS := fun xs Q _ => ∃ x l, xs = [x, .int l] ∧ x.small1 = true ∧ Q (.d (.bl (holdOk l x)))
theorem zfv : ∀ xs QD QE, z1y xs QD QE → xs.length = 2 := fun xs _ _ ⟨_, _, h, _⟩ => by rw [h]; rfl
theorem is_hold_tup {QD : C → Prop} {QE : EX} {l : Int} {a b c : D} (hx : (D.tup [a, b, c]).small1 = true) (h : QD (.d (.bl (holdOk l (.tup [a, b, c]))))) : z3k (fEnds QD QE) [some (.d (.tup [a, b, c])), some (.d (.int l))] := by
  simp only [z3k]
  walk_at "d"
  simp only [ixD3_0, ixD3_1, ixD3_2]
  walk_at "d"
  replace hx : (a.small && (b.small && (c.small && true))) = true := hx
  simp only [Bool.and_eq_true] at hx
  refine ⟨a, rfl, hx.1, ?_⟩
  replace h : QD (.d (.bl (nameOk a && spanOk l b c))) := h
  cases ha : nameOk a
  · rw [ha] at h; walk_at "d"; exact h
  · rw [ha, Bool.true_and] at h
    walk_at "d"
    obtain ⟨k, hk⟩ := small_whole hx.2.1
    refine ⟨b, k, rfl, hk, ?_⟩
    cases b <;> cases hk <;> (try (walk_at "d"; exact h))
    rename_i s
    walk_at "d"
    obtain ⟨k, hk⟩ := small_whole hx.2.2.1
    refine ⟨c, k, rfl, hk, ?_⟩
    cases c <;> cases hk <;> try (walk_at "d"; exact h)
    rename_i e
    walk_at "d"
    simp only [z58]
    walk_at "d"
    simp only [ixD3_0, ixD3_1, ixD3_2]
    walk_at "d"
    unfold spanOk at h
    by_cases h1 : 0 ≤ s <;> simp only [h1, decide_true, decide_false, Bool.true_and, Bool.false_and] at h ⊢ <;> walk_at "d"
    · by_cases h2 : s < e <;> simp only [h2, decide_true, decide_false, Bool.true_and, Bool.false_and] at h ⊢ <;> walk_at "d" <;> exact h
    · exact h
theorem zj3 : ∀ xs QD QE, z1y xs QD QE → z53 (fEnds QD QE) (rho0 2 xs) := by
  rintro xs QD QE ⟨x, l, rfl, hx, h⟩
  simp only [z53]
  cases x with
  | tup ys =>
    walk_at "d"
    by_cases hl : ys.length = 3
    · match ys, hl with
      | [a, b, c], _ =>
        walk_at "d"
        exact is_hold_tup hx h
    · have e : decide ((ys.length : Int) = 3) = false := decide_eq_false (by omega)
      rw [e]
      walk_at "d"
      have e2 : holdOk l (.tup ys) = false := by
        unfold holdOk
        split
        · rename_i h3; cases h3; exact absurd rfl hl
        · rfl
      rw [e2] at h
      exact h
  | obj _ _ => cases hx
  | exn _ _ _ => cases hx
  | box _ => cases hx
  | _ => walk_at "d"; exact h
def z5q : DS := (dRet (dAndV (dOp (cmpV cLe) (dOp dIx (dL 1) (dC (.int 1))) (dOp dIx (dL 0) (dC (.int 1)))) (dOp (cmpV cLe) (dOp dIx (dL 0) (dC (.int 2))) (dOp dIx (dL 1) (dC (.int 2))))))
local macro_rules | `(tactic| walk_at "M_within") => `(tactic| repeat (first | walk_at "e" | walk_at "s" | (with_reducible show z5q _ _; simp only [z5q])))
def z1w : FS := fun xs Q _ => ∃ p q : Hd, xs = [p.d, q.d] ∧ Q (.d (.bl (inside p q)))
theorem zga : ∀ xs QD QE, z1w xs QD QE → xs.length = 2 := fun xs _ _ ⟨_, _, h, _⟩ => by rw [h]; rfl
theorem zkl : ∀ xs QD QE, z1w xs QD QE → z5q (fEnds QD QE) (rho0 2 xs) := by
  rintro xs QD QE ⟨⟨a, s, e⟩, ⟨b, t, u⟩, rfl, h⟩
  simp only [z5q, Hd.d]
  walk_at "d"
  simp only [ixD3_0, ixD3_1, ixD3_2]
  walk_at "d"
  unfold inside at h
  by_cases h1 : t ≤ s <;> simp only [h1, decide_true, decide_false, Bool.true_and, Bool.false_and] at h ⊢ <;> walk_at "d" <;> exact h
def z4p : DS := (dRet (dOrV (dCall z1w (dConsA (dV 0) (dConsA (dV 1) dNilA)) []) (dCall z1w (dConsA (dV 1) (dConsA (dV 0) dNilA)) [])))
def z2v : DS := dSeq (dIf (dTst cEq (dOp dIx (dL 0) (dC (.int 0))) (dOp dIx (dL 1) (dC (.int 0)))) (dRet (dC (.bl false))) dNext) z4p
def z4d : DS := dSeq (dIf (dOr (dTst cLe (dOp dIx (dL 0) (dC (.int 2))) (dOp dIx (dL 1) (dC (.int 1)))) (dTst cLe (dOp dIx (dL 1) (dC (.int 2))) (dOp dIx (dL 0) (dC (.int 1))))) (dRet (dC (.bl true))) dNext) z2v
local macro_rules | `(tactic| walk_at "M_together") => `(tactic| repeat (first | walk_at "e" | walk_at "s" | (with_reducible show z4p _ _; simp only [z4p]) | (with_reducible show z2v _ _; simp only [z2v]) | (with_reducible show z4d _ _; simp only [z4d])))
def z1i : FS := fun xs Q _ => ∃ p q : Hd, xs = [p.d, q.d] ∧ Q (.d (.bl (togOk p q)))
theorem zf5 : ∀ xs QD QE, z1i xs QD QE → xs.length = 2 := fun xs _ _ ⟨_, _, h, _⟩ => by rw [h]; rfl
theorem zi8 : ∀ xs QD QE, z1i xs QD QE → z4d (fEnds QD QE) (rho0 2 xs) := by
  rintro xs QD QE ⟨⟨a, s, e⟩, ⟨b, t, u⟩, rfl, h⟩
  simp only [z4d, Hd.d]
  walk_at "d"
  simp only [ixD3_0, ixD3_1, ixD3_2]
  walk_at "d"
  unfold togOk at h
  have key : (∀ Q', (!decide (a = b) && (inside ⟨a, s, e⟩ ⟨b, t, u⟩ || inside ⟨b, t, u⟩ ⟨a, s, e⟩)) = Q' → QD (.d (.bl Q'))) → z2v (fEnds QD QE) [some (.d (.tup [.str a, .int s, .int e])), some (.d (.tup [.str b, .int t, .int u]))] := fun hk => by
    simp only [z2v]
    walk_at "d"
    simp only [ixD3_0, ixD3_1, ixD3_2]
    walk_at "d"
    by_cases hab : a = b
    · simp only [hab, decide_true]
      walk_at "d"
      exact hk _ (by simp [hab])
    · simp only [hab, decide_false]
      walk_at "d"
      simp only [z4p]
      walk_at "d"
      refine ⟨⟨a, s, e⟩, ⟨b, t, u⟩, rfl, ?_⟩
      cases hi : inside ⟨a, s, e⟩ ⟨b, t, u⟩
      · walk_at "d"
        refine ⟨⟨b, t, u⟩, ⟨a, s, e⟩, rfl, ?_⟩
        exact hk _ (by simp [hab, hi])
      · walk_at "d"
        exact hk _ (by simp [hab, hi])
  by_cases h1 : e ≤ t
  · simp only [h1, decide_true]
    walk_at "d"
    simpa [h1] using h
  · simp only [h1, decide_false]
    walk_at "d"
    by_cases h2 : u ≤ s
    · simp only [h2, decide_true]
      walk_at "d"
      simpa [h1, h2] using h
    · simp only [h2, decide_false]
      walk_at "d"
      refine key fun Q' hq => ?_
      subst hq
      simpa [h1, h2] using h
def z2a : DS := (dIf (dNot (dBool (dCall z1i (dConsA (dV 3) (dConsA (dOp dIx (dL 0) (dL 2)) dNilA)) []))) (dRet (dC (.bl false))) dNext)
def z2d : DS := (dFor (.one 3) (dItL (dSl (dL 0) dNo (dSome (dL 2)))) z2a)
def z30 : DS := dSeq (dIf (dNot (dBool (dCall z1y (dConsA (dOp dIx (dL 0) (dL 2)) (dConsA (dV 1) dNilA)) []))) (dRet (dC (.bl false))) dNext) z2d
def z3x : DS := (dRet (dC (.bl true)))
def z3y : DS := dSeq (dFor (.one 2) (dRng1 (dConsA (dCB fLen (dConsA (dL 0) dNilA)) dNilA)) z30) z3x
def z3l : DS := dSeq (dIf (dOr (dNot (dBool (dIs "list" (dL 0)))) (dTst cGt (dCB fLen (dConsA (dL 0) dNilA)) (dC (.int 6)))) (dRet (dC (.bl false))) dNext) z3y
local macro_rules | `(tactic| walk_at "M_holds_fit") => `(tactic| repeat (first | walk_at "e" | walk_at "s" | (with_reducible show z2a _ _; simp only [z2a]) | (with_reducible show z2d _ _; simp only [z2d]) | (with_reducible show z30 _ _; simp only [z30]) | (with_reducible show z3x _ _; simp only [z3x]) | (with_reducible show z3y _ _; simp only [z3y]) | (with_reducible show z3l _ _; simp only [z3l])))
def z19 : FS := fun xs Q _ => ∃ x l, xs = [x, .int l] ∧ x.small2 = true ∧ Q (.d (.bl (fitOk x l)))
theorem ze0 : ∀ xs QD QE, z19 xs QD QE → xs.length = 2 := fun xs _ _ ⟨_, _, h, _⟩ => by rw [h]; rfl
theorem fitL_cut {l : Int} : ∀ (ys : List D) (k : Nat) (pre : List Hd) (x : D), ys[k]? = some x → (∀ y ∈ ys.take k, holdOk l y = true) → fitL l pre ys = true → holdOk l x = true ∧ (∀ p ∈ pre, togOk p (hdOf x) = true) ∧ ∀ y ∈ ys.take k, togOk (hdOf y) (hdOf x) = true
  | [], k, pre, x, h, _, _ => by simp at h
  | y :: ys, 0, pre, x, h, _, hf => by
    simp at h
    subst h
    unfold fitL at hf
    simp only [Bool.and_eq_true, List.all_eq_true] at hf
    exact ⟨hf.1, hf.2.1, fun z hz => by simp at hz⟩
  | y :: ys, k + 1, pre, x, h, hh, hf => by
    unfold fitL at hf
    simp only [Bool.and_eq_true, List.all_eq_true] at hf
    obtain ⟨h1, h2, h3⟩ := fitL_cut ys k (pre ++ [hdOf y]) x (by simpa using h) (fun z hz => hh z (by rw [List.take_succ_cons]; exact List.mem_cons_of_mem _ hz)) hf.2.2
    refine ⟨h1, fun p hp => h2 p (List.mem_append_left _ hp), fun z hz => ?_⟩
    rw [List.take_succ_cons] at hz
    rcases List.mem_cons.mp hz with rfl | hz
    · exact h2 _ (List.mem_append_right _ (List.mem_singleton.mpr rfl))
    · exact h3 z hz
theorem fitL_of {l : Int} : ∀ (ys : List D) (pre : List Hd), (∀ k x, ys[k]? = some x → holdOk l x = true ∧ (∀ p ∈ pre, togOk p (hdOf x) = true) ∧ ∀ y ∈ ys.take k, togOk (hdOf y) (hdOf x) = true) → fitL l pre ys = true
  | [], _, _ => rfl
  | y :: ys, pre, h => by
    unfold fitL
    obtain ⟨h1, h2, _⟩ := h 0 y rfl
    simp only [Bool.and_eq_true, List.all_eq_true]
    refine ⟨h1, h2, fitL_of ys _ fun k x hk => ?_⟩
    obtain ⟨g1, g2, g3⟩ := h (k + 1) x (by simpa using hk)
    rw [List.take_succ_cons] at g3
    refine ⟨g1, fun p hp => ?_, fun z hz => g3 z (List.mem_cons_of_mem _ hz)⟩
    rcases List.mem_append.mp hp with q | q
    · exact g2 p q
    · cases List.mem_singleton.mp q
      exact g3 y List.mem_cons_self
def fitTo (l : Int) (ys : List D) (k : Nat) : Prop := ∀ j x, j < k → ys[j]? = some x → holdOk l x = true ∧ ∀ y ∈ ys.take j, togOk (hdOf y) (hdOf x) = true
theorem fit_inner {E : DEnds} {ys : List D} {l : Int} {k : Nat} {x : D} {o : Option C} (hk : ys[k]? = some x) (hx : holdOk l x = true) (hp : ∀ y ∈ ys.take k, holdOk l y = true) (hg : (∀ y ∈ ys.take k, togOk (hdOf y) (hdOf x) = true) → ∀ o, E.nx [some (.d (.lst ys)), some (.d (.int l)), some (.d (.int k)), o])
    (hb : ¬ (∀ y ∈ ys.take k, togOk (hdOf y) (hdOf x) = true) → ∀ o, E.rt (.d (.bl false)) [some (.d (.lst ys)), some (.d (.int l)), some (.d (.int k)), o]) : dForL (.one 3) z2a E (ys.take k) [some (.d (.lst ys)), some (.d (.int l)), some (.d (.int k)), o] := by
  refine for_all (fun j ρ => (∃ o, ρ = [some (.d (.lst ys)), some (.d (.int l)), some (.d (.int k)), o]) ∧ ∀ y ∈ (ys.take k).take j, togOk (hdOf y) (hdOf x) = true) _ (fun j y ρ N hy ⟨⟨o, ho⟩, hi⟩ hN => ?_) (fun ρ ⟨⟨o, ho⟩, hi⟩ => ?_) ⟨⟨_, rfl⟩, fun c hc => by simp at hc⟩
  · subst ho
    walk_at "d"
    simp only [z2a]
    walk_at "d"
    rw [ixD_nat, hk]
    walk_at "d"
    have hy2 : y ∈ ys.take k := List.mem_of_getElem? hy
    refine ⟨hdOf y, hdOf x, by rw [← holdOk_hd (hp y hy2), ← holdOk_hd hx], ?_⟩
    cases ht : togOk (hdOf y) (hdOf x)
    · walk_at "d"
      exact hb (fun z => by rw [z y hy2] at ht; cases ht) _
    · walk_at "d"
      refine hN _ ⟨⟨_, rfl⟩, fun d hd => ?_⟩
      rw [List.take_add_one, hy] at hd
      rcases List.mem_append.mp hd with q | q
      · exact hi d q
      · cases List.mem_singleton.mp q
        exact ht
  · subst ho
    rw [List.take_length] at hi
    exact hg hi o
theorem zgw : ∀ xs QD QE, z19 xs QD QE → z3l (fEnds QD QE) (rho0 4 xs) := by
  rintro xs QD QE ⟨x, l, rfl, hx, h⟩
  simp only [z3l]
  cases x with
  | lst ys =>
    walk_at "d"
    have h : QD (.d (.bl (decide (ys.length ≤ 6) && fitL l [] ys))) := h
    by_cases hl : ys.length ≤ 6
    · rw [decide_eq_true hl, Bool.true_and] at h
      have e : decide ((6 : Int) < (ys.length : Int)) = false := decide_eq_false (by omega)
      rw [e]
      walk_at "d"
      simp only [z3y]
      walk_at "d"
      refine ⟨⟨by omega, by omega⟩, ?_⟩
      have hsm : ∀ (k : Nat) (y : D), ys[k]? = some y → y.small1 = true := fun k y hy => List.all_eq_true.mp (show ys.all D.small1 = true from hx) y (List.mem_of_getElem? hy)
      have good : fitTo l ys ys.length → fitL l [] ys = true := fun z => fitL_of ys [] fun k x hk => ⟨(z k x (List.getElem?_eq_some_iff.mp hk).1 hk).1, fun p hp => by simp at hp, (z k x (List.getElem?_eq_some_iff.mp hk).1 hk).2⟩
      refine for_rng (fun k ρ => (∃ o o2, ρ = [some (.d (.lst ys)), some (.d (.int l)), o, o2]) ∧ fitTo l ys k) _ (fun k ρ N hk ⟨⟨o, o2, ho⟩, hi⟩ hN => ?_) (fun ρ ⟨⟨o, o2, ho⟩, hi⟩ => ?_) ⟨⟨_, _, rfl⟩, fun j x hj => by omega⟩
      · subst ho
        walk_at "d"
        obtain ⟨x, hxk⟩ : ∃ x, ys[k]? = some x := ⟨ys[k], List.getElem?_eq_getElem hk⟩
        have hpre : ∀ y ∈ ys.take k, holdOk l y = true := fun y hy => by
          obtain ⟨j, hj⟩ := List.getElem?_of_mem hy
          rw [List.getElem?_take] at hj
          split at hj
          · exact (hi j y ‹_› hj).1
          · cases hj
        simp only [z30]
        walk_at "d"
        rw [ixD_nat, hxk]
        walk_at "d"
        refine ⟨x, l, rfl, hsm k x hxk, ?_⟩
        cases hh : holdOk l x
        · walk_at "d"
          cases hf : fitL l [] ys
          · rw [hf] at h; exact h
          · rw [(fitL_cut ys k [] x hxk hpre hf).1] at hh; cases hh
        · walk_at "d"
          simp only [z2d]
          walk_at "d"
          rw [cut_take (by omega)]
          refine fit_inner hxk hh hpre (fun hg o => ?_) (fun hb o => ?_)
          · refine hN _ ⟨⟨_, _, rfl⟩, fun j y hj hy => ?_⟩
            by_cases hjk : j < k
            · exact hi j y hjk hy
            · have : j = k := by omega
              subst this
              rw [hxk] at hy
              cases hy
              exact ⟨hh, hg⟩
          · cases hf : fitL l [] ys
            · rw [hf] at h; exact h
            · exact absurd (fitL_cut ys k [] x hxk hpre hf).2.2 hb
      · subst ho
        simp only [z3x]
        walk_at "d"
        rw [good hi] at h
        exact h
    · rw [decide_eq_false hl, Bool.false_and] at h
      have e : decide ((6 : Int) < (ys.length : Int)) = true := decide_eq_true (by omega)
      rw [e]
      walk_at "d"
      exact h
  | obj _ _ => cases hx
  | exn _ _ _ => cases hx
  | box _ => cases hx
  | _ => walk_at "d"; exact h
def z54 : DS := (dRet (dAndV (dCall z9 (dConsA (dV 0) dNilA) []) (dOp (cmpV cGe) (dL 0) (dL 1))))
local macro_rules | `(tactic| walk_at "M_from_on") => `(tactic| repeat (first | walk_at "e" | walk_at "s" | (with_reducible show z54 _ _; simp only [z54])))
def zp : FS := fun xs Q _ => ∃ x low, xs = [x, .int low] ∧ x.small = true ∧ Q (.d (.bl (fromOn x low)))
theorem zfw : ∀ xs QD QE, zp xs QD QE → xs.length = 2 := fun xs _ _ ⟨_, _, h, _⟩ => by rw [h]; rfl
theorem zj4 : ∀ xs QD QE, zp xs QD QE → z54 (fEnds QD QE) (rho0 2 xs) := by
  rintro xs QD QE ⟨x, low, rfl, hx, h⟩
  simp only [z54]
  walk_at "d"
  obtain ⟨b, hb⟩ := small_whole hx
  refine ⟨x, b, rfl, hb, ?_⟩
  cases x <;> cases hb <;> (walk_at "d"; exact h)
def z31 : DS := (dFldS 0 [.Work] .sections (dCB fList (dConsA (dL 6) dNilA)))
def z3z : DS := dSeq (dFldS 0 [.Work] .late (dV 5)) z31
def z40 : DS := dSeq (dFldS 0 [.Work] .due (dV 4)) z3z
def z41 : DS := dSeq (dFldS 0 [.Work] .length (dV 3)) z40
def z42 : DS := dSeq (dFldS 0 [.Work] .gap (dV 2)) z41
def z2e : DS := dSeq (dFldS 0 [.Work] .name (dV 1)) z42
def z43 : DS := dSeq (dIf (dNot (dBool (dCall z19 (dConsA (dV 6) (dConsA (dV 3) dNilA)) []))) (dRaise .BadWork) dNext) z2e
def z44 : DS := dSeq (dIf (dOr (dNot (dBool (dCall zp (dConsA (dV 4) (dConsA (dC (.int 1)) dNilA)) []))) (dOr (dTst cGt (dL 4) (dL 2)) (dNot (dBool (dCall zp (dConsA (dV 5) (dConsA (dC (.int 0)) dNilA)) []))))) (dRaise .BadWork) dNext) z43
def z2f : DS := dSeq (dIf (dOr (dNot (dBool (dCall zn (dConsA (dV 1) dNilA) []))) (dOr (dNot (dBool (dCall zp (dConsA (dV 2) (dConsA (dC (.int 1)) dNilA)) []))) (dNot (dBool (dCall zp (dConsA (dV 3) (dConsA (dC (.int 1)) dNilA)) []))))) (dRaise .BadWork) dNext) z44
def z2g : DS := dSeq (dIf (dTst cIsN (dL 6) (dC .non)) (dSet 6 (dLst dNilA)) dNext) z2f
def z3m : DS := dSeq (dIf (dTst cIsN (dL 4) (dC .non)) (dSet 4 (dV 2)) dNext) z2g
local macro_rules | `(tactic| walk_at "M_Work_init") => `(tactic| repeat (first | walk_at "e" | walk_at "s" | (with_reducible show z31 _ _; simp only [z31]) | (with_reducible show z3z _ _; simp only [z3z]) | (with_reducible show z40 _ _; simp only [z40]) | (with_reducible show z41 _ _; simp only [z41]) | (with_reducible show z42 _ _; simp only [z42]) | (with_reducible show z2e _ _; simp only [z2e]) | (with_reducible show z43 _ _; simp only [z43]) | (with_reducible show z44 _ _; simp only [z44]) | (with_reducible show z2f _ _; simp only [z2f]) | (with_reducible show z2g _ _; simp only [z2g]) | (with_reducible show z3m _ _; simp only [z3m])))
def orD (x y : D) : D := if x.isN then y else x
def workOk (n g l u a h : D) : Bool := (nameOk n && (fromOn g 1 && fromOn l 1)) && ((fromOn u 1 && (leD u g && fromOn a 0)) && (match l with
  | .int l => fitOk h l
  | _ => false))
theorem fromOn_int {x : D} {low : Int} (h : fromOn x low = true) : ∃ i, x = .int i ∧ low ≤ i := by
  cases x <;> first | exact ⟨_, rfl, of_decide_eq_true h⟩ | cases h
def ze : FI := fun xs Q E => ∃ n g l u a h, xs = [n, g, l, u, a, h] ∧ (n.small = true ∧ g.small = true ∧ l.small = true ∧ u.small = true ∧ a.small = true ∧ h.small2 = true) ∧
  if workOk n g l (orD u g) a (orD h (.lst [])) = true then Q (workFs n g l (orD u g) a (orD h (.lst []))) else E ⟨.BadWork, []⟩
theorem ze1 : ∀ xs QF QE, ze xs QF QE → xs.length = 6 := fun xs _ _ ⟨_, _, _, _, _, _, h, _⟩ => by rw [h]; rfl
theorem work_fields {a : Addr} {QF : List (Fd × D) → Prop} {QE : EX} {n g l u t : D} {hs : List D} (h : QF (workFs n g l u t (.lst hs))) :
    z2e { nx := fun ρ => ∃ fl, ρ[0]? = some (some (.no a .Work fl)) ∧ QF fl, rt := fun _ _ => False, ex := fun x _ => QE x } [some (.no a .Work []), some (.d n), some (.d g), some (.d l), some (.d u), some (.d t), some (.d (.lst hs))] := by
  simp only [z2e, z42, z41, z40, z3z, z31]
  walk_at "d"
  exact ⟨_, rfl, h⟩
theorem zgx : ∀ a xs QF QE, ze xs QF QE → z3m { nx := fun ρ => ∃ fl, ρ[0]? = some (some (.no a .Work fl)) ∧ QF fl, rt := fun _ _ => False, ex := fun x _ => QE x } (some (.no a .Work []) :: rho0 6 xs) := by
  rintro ad xs QF QE ⟨n, g, l, u0, a, h0, rfl, ⟨s1, s2, s3, s40, s5, s60⟩, hq0⟩
  have k2 : ∀ u h : D, u.small = true → h.small2 = true → (if workOk n g l u a h = true then QF (workFs n g l u a h) else QE ⟨.BadWork, []⟩) →
      z2f { nx := fun ρ => ∃ fl, ρ[0]? = some (some (.no ad .Work fl)) ∧ QF fl, rt := fun _ _ => False, ex := fun x _ => QE x } [some (.no ad .Work []), some (.d n), some (.d g), some (.d l), some (.d u), some (.d a), some (.d h)] := by
    intro u h s4 s6 hq
    unfold workOk at hq
    simp only [z2f]
    walk_at "d"
    refine ⟨n, rfl, s1, ?_⟩
    cases e1 : nameOk n
    · simp only [e1, Bool.false_and] at hq; walk_at "d"; exact hq
    rw [e1, Bool.true_and] at hq
    walk_at "d"
    refine ⟨g, 1, rfl, s2, ?_⟩
    cases e2 : fromOn g 1
    · simp only [e2, Bool.false_and] at hq; walk_at "d"; exact hq
    rw [e2, Bool.true_and] at hq
    walk_at "d"
    refine ⟨l, 1, rfl, s3, ?_⟩
    cases e3 : fromOn l 1
    · simp only [e3, Bool.false_and] at hq; walk_at "d"; exact hq
    rw [e3, Bool.true_and] at hq
    walk_at "d"
    simp only [z44]
    walk_at "d"
    refine ⟨u, 1, rfl, s4, ?_⟩
    cases e4 : fromOn u 1
    · simp only [e4, Bool.false_and] at hq; walk_at "d"; exact hq
    rw [e4, Bool.true_and] at hq
    walk_at "d"
    obtain ⟨gi, rfl, _⟩ := fromOn_int e2
    obtain ⟨ui, rfl, _⟩ := fromOn_int e4
    obtain ⟨li, rfl, _⟩ := fromOn_int e3
    walk_at "d"
    replace hq : if (decide (ui ≤ gi) && fromOn a 0 && fitOk h li) = true then QF (workFs n (.int gi) (.int li) (.int ui) a h) else QE ⟨.BadWork, []⟩ := hq
    by_cases h5 : gi < ui
    · have e5 : decide (ui ≤ gi) = false := decide_eq_false (by omega)
      simp only [e5, Bool.false_and] at hq
      simp only [h5, decide_true]
      walk_at "d"
      exact hq
    have e5 : decide (ui ≤ gi) = true := decide_eq_true (by omega)
    rw [e5, Bool.true_and] at hq
    simp only [h5, decide_false]
    walk_at "d"
    refine ⟨a, 0, rfl, s5, ?_⟩
    cases e6 : fromOn a 0
    · simp only [e6, Bool.false_and] at hq; walk_at "d"; exact hq
    rw [e6, Bool.true_and] at hq
    walk_at "d"
    simp only [z43]
    walk_at "d"
    refine ⟨h, li, rfl, s6, ?_⟩
    cases e7 : fitOk h li
    · simp only [e7] at hq; walk_at "d"; exact hq
    rw [e7, if_pos rfl] at hq
    walk_at "d"
    cases h <;> try (cases e7)
    exact work_fields hq
  have k1 : ∀ u : D, u.small = true → (if workOk n g l u a (orD h0 (.lst [])) = true then QF (workFs n g l u a (orD h0 (.lst []))) else QE ⟨.BadWork, []⟩) →
      z2g { nx := fun ρ => ∃ fl, ρ[0]? = some (some (.no ad .Work fl)) ∧ QF fl, rt := fun _ _ => False, ex := fun x _ => QE x } [some (.no ad .Work []), some (.d n), some (.d g), some (.d l), some (.d u), some (.d a), some (.d h0)] := by
    intro u s4 hq
    simp only [z2g]
    walk_at "d"
    by_cases hn : h0.isN = true
    · rw [orD, if_pos hn] at hq
      simp only [hn, if_true]
      exact k2 u (.lst []) s4 rfl hq
    · rw [orD, if_neg hn] at hq
      simp only [hn, if_false]
      exact k2 u h0 s4 s60 hq
  simp only [z3m]
  walk_at "d"
  by_cases hn : u0.isN = true
  · rw [orD, if_pos hn] at hq0
    simp only [hn, if_true]
    exact k1 g s2 hq0
  · rw [orD, if_neg hn] at hq0
    simp only [hn, if_false]
    exact k1 u0 s40 hq0
theorem work_ok {w : Wk} (h : w.ok) : workOk (.str w.name) (.int w.gap) (.int w.length) (.int w.due) (.int w.late) (.lst (w.holds.map Hd.d)) = true := by
  have e2 : fitOk (.lst (w.holds.map Hd.d)) w.length = true := by
    show (decide ((w.holds.map Hd.d).length ≤ 6) && fitL w.length [] (w.holds.map Hd.d)) = true
    rw [h.fit, List.length_map, decide_eq_true h.hl]
    rfl
  unfold workOk
  rw [h.name]
  simp only []
  rw [e2]
  have h1 := h.gap
  have h2 := h.len
  have h3 := h.due
  have h4 := h.dueb
  have h5 := h.late
  simp [fromOn, leD, h1, h2, h3, h4, h5]
theorem make_work {w : Wk} (h : w.ok) {QF : List (Fd × D) → Prop} {QE : EX} (q : QF (workFs (.str w.name) (.int w.gap) (.int w.length) (.int w.due) (.int w.late) (.lst (w.holds.map Hd.d)))) :
    ze [.str w.name, .int w.gap, .int w.length, .int w.due, .int w.late, .lst (w.holds.map Hd.d)] QF QE := by
  refine ⟨_, _, _, _, _, _, rfl, ⟨name_small h.name, rfl, rfl, rfl, rfl, hds_small2 fun q hq => (h.hold hq).1⟩, ?_⟩
  show if workOk (.str w.name) (.int w.gap) (.int w.length) (.int w.due) (.int w.late) (.lst (w.holds.map Hd.d)) = true then _ else _
  rw [if_pos (work_ok h)]
  exact q
def z3n : DS := (dRet (dCB fList (dConsA (dFld [.Work] .sections (dL 0)) dNilA)))
local macro_rules | `(tactic| walk_at "M_Work_held") => `(tactic| repeat (first | walk_at "e" | walk_at "s" | (with_reducible show z3n _ _; simp only [z3n])))
def za : FS := fun xs Q _ => ∃ w : Wk, xs = [w.d] ∧ Q (.nl (w.holds.map Hd.d))
theorem ze2 : ∀ xs QD QE, za xs QD QE → xs.length = 1 := fun xs _ _ ⟨_, h, _⟩ => by rw [h]; rfl
theorem zgy : ∀ xs QD QE, za xs QD QE → z3n (fEnds QD QE) (rho0 1 xs) := by
  rintro xs QD QE ⟨w, rfl, h⟩
  simp only [z3n, Wk.d, workFs]
  walk_at "d"
  exact h
def z3o : DS := (dRet (dCB fLen (dConsA (dFld [.Duty] .works (dL 0)) dNilA)))
local macro_rules | `(tactic| walk_at "M_Duty_size") => `(tactic| repeat (first | walk_at "e" | walk_at "s" | (with_reducible show z3o _ _; simp only [z3o])))
def z8 : FS := fun xs Q _ => ∃ ws : List Wk, xs = [dutyD ws] ∧ Q (.d (.int ws.length))
theorem ze3 : ∀ xs QD QE, z8 xs QD QE → xs.length = 1 := fun xs _ _ ⟨_, h, _⟩ => by rw [h]; rfl
theorem zgz : ∀ xs QD QE, z8 xs QD QE → z3o (fEnds QD QE) (rho0 1 xs) := by
  rintro xs QD QE ⟨ws, rfl, h⟩
  simp only [z3o, dutyD, dutyFs]
  walk_at "d"
  rw [List.length_map]
  exact h
def z2u : DS := (dAug 2 dAddI (dCall zg (dConsA (dOp dAdd (dL 1) (dFld [.Work] .late (dL 3))) (dConsA (dFld [.Work] .gap (dL 3)) dNilA)) []))
def z32 : DS := (dRetL 2)
def z33 : DS := dSeq (dFor (.one 3) (dItL (dFld [.Duty] .works (dL 0))) z2u) z32
def z34 : DS := dSeq (dSet 2 (dC (.int 0))) z33
def z2w : DS := dSeq (dSet 1 (dMaxOr (dLc (.one 3) (dItL (dFld [.Duty] .works (dL 0))) dYes (dFld [.Work] .due (dL 3)) [3]) (dC (.int 0)))) z34
local macro_rules | `(tactic| walk_at "M_Duty_crowd") => `(tactic| repeat (first | walk_at "e" | walk_at "s" | (with_reducible show z2u _ _; simp only [z2u]) | (with_reducible show z32 _ _; simp only [z32]) | (with_reducible show z33 _ _; simp only [z33]) | (with_reducible show z34 _ _; simp only [z34]) | (with_reducible show z2w _ _; simp only [z2w])))
def zt : FS := fun xs Q _ => ∃ (fs : List (Fd × D)) (ws : List Wk), xs = [.obj .Duty fs] ∧ fs.lookup .works = some (.lst (ws.map Wk.d)) ∧ ws.length ≤ 1000 ∧ (∀ w ∈ ws, w.sane) ∧ Q (.d (.int (crowdOf ws)))
theorem zdh : ∀ xs QD QE, zt xs QD QE → xs.length = 1 := fun xs _ _ ⟨_, _, h, _⟩ => by rw [h]; rfl
theorem zgb : ∀ xs QD QE, zt xs QD QE → z2w (fEnds QD QE) (rho0 4 xs) := by
  rintro xs QD QE ⟨fs, ws, rfl, hw, hl, hs, h⟩
  simp only [z2w]
  walk_at "d"
  rw [hw]
  walk_at "d"
  refine lc_map (fun x => match x with
    | .obj .Work fl => (fl.lookup .due).getD .non
    | _ => .non) _ (fun x hx N hN => ?_) (by rw [List.length_map, sizeLine_eq]; omega) ?_
  · obtain ⟨w, _, rfl⟩ := List.mem_map.mp hx
    unfold Wk.d workFs at hN ⊢
    walk_at "d"
    exact hN
  · rw [List.map_map, show ((fun x => match x with
      | .obj .Work fl => (fl.lookup .due).getD .non
      | _ => .non) ∘ Wk.d) = D.int ∘ Wk.due from rfl, ← List.map_map]
    walk_at "d"
    rw [intsD_map]
    walk_at "d"
    simp only [z34]
    walk_at "d"
    simp only [z33]
    walk_at "d"
    rw [hw]
    walk_at "d"
    generalize hg : maxOr 0 (ws.map Wk.due) = g
    refine for_all (fun k ρ => ∃ o, ρ = [some (.d (.obj .Duty fs)), some (.d (.int g)), some (.d (.int ((ws.take k).map fun w => divUp (g + w.late) w.gap).sum)), o]) _ (fun k x ρ N hx ⟨o, ho⟩ hN => ?_) (fun ρ ⟨o, ho⟩ => ?_) ⟨none, by simp⟩
    · subst ho
      rw [List.getElem?_map] at hx
      cases hc : ws[k]? with
      | none => rw [hc] at hx; cases hx
      | some w =>
        rw [hc] at hx
        cases hx
        simp only [z2u]
        unfold Wk.d workFs
        walk_at "d"
        obtain ⟨s1, s2⟩ := hs w (List.mem_of_getElem? hc)
        refine ⟨_, _, rfl, s1, s2, ?_⟩
        walk_at "d"
        have e : ((ws.take k).map fun w => divUp (g + w.late) w.gap).sum + divUp (g + w.late) w.gap = ((ws.take (k + 1)).map fun w => divUp (g + w.late) w.gap).sum := by
          rw [List.take_add_one, hc]
          simp
        rw [e]
        exact hN _ ⟨_, rfl⟩
    · subst ho
      rw [List.length_map, List.take_length]
      simp only [z32]
      walk_at "d"
      unfold crowdOf at h
      rw [hg] at h
      exact h
def z3p : DS := (dRet (dOp dIx (dFld [.Duty] .works (dL 0)) (dL 1)))
local macro_rules | `(tactic| walk_at "M_Duty_work") => `(tactic| repeat (first | walk_at "e" | walk_at "s" | (with_reducible show z3p _ _; simp only [z3p])))
def z7 : FS := fun xs Q _ => ∃ (ws : List Wk) (k : Nat) (w : Wk), xs = [dutyD ws, .int k] ∧ ws[k]? = some w ∧ Q (.d w.d)
theorem ze4 : ∀ xs QD QE, z7 xs QD QE → xs.length = 2 := fun xs _ _ ⟨_, _, _, h, _⟩ => by rw [h]; rfl
theorem zh0 : ∀ xs QD QE, z7 xs QD QE → z3p (fEnds QD QE) (rho0 2 xs) := by
  rintro xs QD QE ⟨ws, k, w, rfl, hk, h⟩
  simp only [z3p, dutyD, dutyFs]
  walk_at "d"
  rw [ixD_nat, List.getElem?_map, hk]
  exact h
def z2h : DS := (dIf (dOr (dTst cGt (dCB fLen (dConsA (dL 1) dNilA)) (dC (.int 12))) (dTst cGt (dMethT (altL [(.Duty, zt)]) (dL 0) dNilA []) (dC (.int 80)))) (dRaise .TooMany) dNext)
def z45 : DS := dSeq (dNums 0 2 [.Duty] .numbers (dConsA (dCB fLen (dConsA (dL 1) dNilA)) dNilA) (dOr (dNot (dBool (dIsC [.Work, .Duty] .Work (dOp dIx (dL 1) (dL 2))))) (dTst cIn (dFld [.Work] .name (dOp dIx (dL 1) (dL 2))) (dFld [.Duty] .numbers (dL 0)))) (dFld [.Work] .name (dOp dIx (dL 1) (dL 2))) (dL 2) (dRaise .BadDuty)) z2h
def z46 : DS := dSeq (dFldS 0 [.Duty] .works (dCB fList (dConsA (dL 1) dNilA))) z45
def z3q : DS := dSeq (dIf (dNot (dBool (dIs "list" (dL 1)))) (dRaise .BadDuty) dNext) z46
local macro_rules | `(tactic| walk_at "M_Duty_init") => `(tactic| repeat (first | walk_at "e" | walk_at "s" | (with_reducible show z2h _ _; simp only [z2h]) | (with_reducible show z45 _ _; simp only [z45]) | (with_reducible show z46 _ _; simp only [z46]) | (with_reducible show z3q _ _; simp only [z3q])))
def toWk : D → Option Wk
  | .obj .Work [(.name, .str n), (.gap, .int g), (.length, .int l), (.due, .int u), (.late, .int a), (.sections, .lst hs)] => some ⟨n, g, l, u, a, hs.map hdOf⟩
  | _ => none
theorem toWk_d (w : Wk) : toWk w.d = some w := by
  have e : (w.holds.map Hd.d).map hdOf = w.holds := by
    rw [List.map_map]
    exact List.map_id' _
  show some (Wk.mk w.name w.gap w.length w.due w.late ((w.holds.map Hd.d).map hdOf)) = some w
  rw [e]
def scanW : List Str → List D → Option (List Wk)
  | _, [] => some []
  | seen, x :: xs => match toWk x with
    | none => none
    | some w => if w.name ∈ seen then none else (scanW (seen ++ [w.name]) xs).map (w :: ·)
def wkOr (x : D) : Prop := (∃ w : Wk, x = w.d ∧ w.sane) ∨ ∃ k, kindD x = some k
def zb : FI := fun xs Q E => ∃ x, xs = [x] ∧ match x with
  | .lst ys => ys.length ≤ 1000 ∧ (∀ y ∈ ys, wkOr y) ∧ (match scanW [] ys with
    | none => E ⟨.BadDuty, []⟩
    | some ws => if 12 < ws.length ∨ 80 < crowdOf ws then E ⟨.TooMany, []⟩ else Q (dutyFs ws))
  | x => (∃ k, kindD x = some k) ∧ E ⟨.BadDuty, []⟩
theorem ze5 : ∀ xs QF QE, zb xs QF QE → xs.length = 1 := fun xs _ _ ⟨_, h, _⟩ => by rw [h]; rfl
theorem kind_noWk {x : D} {k : String} (h : kindD x = some k) : toWk x = none := by cases x <;> first | rfl | cases h
theorem kind_isC {x : D} {k : String} {cs : List Cn} {y : Cn} {Q : C → Prop} (h : kindD x = some k) : isC cs y x Q = Q (.d (.bl false)) := by cases x <;> first | rfl | cases h
theorem numsOf_len : ∀ (k : Nat) (ws : List Wk), (numsOf k ws).length = ws.length
  | _, [] => rfl
  | k, w :: ws => by rw [numsOf, List.length_cons, List.length_cons, numsOf_len (k + 1) ws]
theorem duty_loop {E : DEnds} {a : Addr} {ys : List D} (hl : ys.length ≤ 1000) (hwk : ∀ y ∈ ys, wkOr y) : ∀ (m k : Nat) (ws : List Wk) (o : Option C), m = ys.length - k → k ≤ ys.length → ws.length = k →
    (match scanW (ws.map Wk.name) (ys.drop k) with
      | none => ∀ ρ, E.ex ⟨.BadDuty, []⟩ ρ
      | some vs => ∀ o, E.nx [some (.no a .Duty [(.works, .lst ys), (.numbers, .dic (numsOf 0 (ws ++ vs)))]), some (.d (.lst ys)), o]) →
    numsL E 0 2 a .Duty .numbers [(.works, .lst ys)] (dOr (dNot (dBool (dIsC [.Work, .Duty] .Work (dOp dIx (dL 1) (dL 2))))) (dTst cIn (dFld [.Work] .name (dOp dIx (dL 1) (dL 2))) (dFld [.Duty] .numbers (dL 0)))) (dFld [.Work] .name (dOp dIx (dL 1) (dL 2))) (dL 2) (dRaise .BadDuty)
      ((rngD 0 ys.length).drop k) (numsOf 0 ws) [some (.no a .Duty [(.works, .lst ys)]), some (.d (.lst ys)), o] := by
  intro m
  induction m with
  | zero =>
    intro k ws o hm hk hw h
    have e : k = (rngD 0 ys.length).length := by rw [rngD_len, Int.toNat_natCast]; omega
    have e2 : k = ys.length := by omega
    rw [e, List.drop_length]
    rw [e2, List.drop_length, scanW] at h
    simp only [numsL]
    walk_at "d"
    simp only [List.append_nil] at h
    exact h o
  | succ m ih =>
    intro k ws o hm hk hw h
    have hlt : k < ys.length := by omega
    have hlt2 : k < (rngD 0 ys.length).length := by rw [rngD_len, Int.toNat_natCast]; exact hlt
    rw [List.drop_eq_getElem_cons hlt2, show (rngD 0 ys.length)[k] = .int k by
      have := (rngD_at (List.getElem?_eq_getElem hlt2)).1
      rw [this, Int.zero_add]]
    rw [List.drop_eq_getElem_cons hlt, scanW] at h
    have hx : ys[k]? = some ys[k] := List.getElem?_eq_getElem hlt
    have hy := hwk _ (List.getElem_mem hlt)
    generalize ys[k] = x at h hx hy
    simp only [numsL]
    walk_at "d"
    rw [ixD_nat, hx]
    walk_at "d"
    rcases hy with ⟨w, rfl, _⟩ | ⟨kd, hkd⟩
    · rw [toWk_d] at h
      unfold Wk.d workFs
      walk_at "d"
      rw [show Cn.sub .Work .Work = true from rfl]
      walk_at "d"
      rw [valD_nums]
      by_cases hmem : w.name ∈ ws.map Wk.name
      · rw [decide_eq_true hmem]
        simp only [hmem, if_true] at h
        walk_at "d"
        exact h _
      · rw [decide_eq_false hmem]
        simp only [hmem, if_false] at h
        walk_at "d"
        rw [putD_new hmem]
        have e := numsOf_app 0 ws w
        rw [hw, Nat.zero_add] at e
        rw [← e]
        refine ⟨by rw [numsOf_len, hw, sizeLine_eq]; omega, ?_⟩
        refine ih (k + 1) (ws ++ [w]) _ (by omega) hlt (by rw [List.length_append, hw]; rfl) ?_
        rw [List.map_append, List.map_cons, List.map_nil]
        cases hsc : scanW (ws.map Wk.name ++ [w.name]) (ys.drop (k + 1)) with
        | none => rw [hsc] at h; exact h
        | some vs => rw [hsc] at h; simpa using h
    · rw [kind_noWk hkd] at h
      rw [kind_isC hkd]
      walk_at "d"
      exact h _
theorem scanW_map : ∀ {ys : List D} {seen : List Str} {ws : List Wk}, (∀ y ∈ ys, wkOr y) → scanW seen ys = some ws → ys = ws.map Wk.d ∧ ∀ w ∈ ws, w.sane
  | [], _, ws, _, h => by cases h; exact ⟨rfl, fun w hw => by cases hw⟩
  | y :: ys, seen, ws, hy, h => by
    rw [scanW] at h
    rcases hy y List.mem_cons_self with ⟨w, rfl, hw⟩ | ⟨k, hk⟩
    · rw [toWk_d] at h
      by_cases hm : w.name ∈ seen
      · simp [hm] at h
      · simp only [hm, if_false] at h
        cases hs : scanW (seen ++ [w.name]) ys with
        | none => rw [hs] at h; cases h
        | some vs =>
          rw [hs] at h
          cases h
          obtain ⟨e1, e2⟩ := scanW_map (fun z hz => hy z (List.mem_cons_of_mem _ hz)) hs
          exact ⟨by rw [e1]; rfl, fun v hv => by
            rcases List.mem_cons.mp hv with rfl | hv
            · exact hw
            · exact e2 v hv⟩
    · rw [kind_noWk hk] at h
      cases h
theorem zh1 : ∀ a xs QF QE, zb xs QF QE → z3q { nx := fun ρ => ∃ fl, ρ[0]? = some (some (.no a .Duty fl)) ∧ QF fl, rt := fun _ _ => False, ex := fun x _ => QE x } (some (.no a .Duty []) :: rho0 2 xs) := by
  rintro a xs QF QE ⟨x, rfl, h⟩
  simp only [z3q]
  cases x with
  | lst ys =>
    obtain ⟨hl, hwk, h⟩ := h
    walk_at "d"
    simp only [z46]
    walk_at "d"
    simp only [z45]
    walk_at "d"
    refine ⟨fun j c hj => ?_, ⟨by omega, by omega⟩, ?_⟩
    · match j, hj with
      | 0, hj => cases hj
      | 1, hj => cases hj; rfl
      | 2, hj => cases hj
    · have := duty_loop (E := { nx := z2h { nx := fun ρ => ∃ fl, ρ[0]? = some (some (.no a .Duty fl)) ∧ QF fl, rt := fun _ _ => False, ex := fun x _ => QE x }, rt := fun _ _ => False, ex := fun x _ => QE x }) (a := a) hl hwk ys.length 0 [] none (by omega) (Nat.zero_le _) rfl ?_
      · rw [List.drop_zero] at this
        exact this
      · rw [List.drop_zero, List.map_nil]
        cases hsc : scanW [] ys with
        | none => rw [hsc] at h; exact fun _ => h
        | some ws =>
          rw [hsc] at h
          replace h : if 12 < ws.length ∨ 80 < crowdOf ws then QE ⟨.TooMany, []⟩ else QF (dutyFs ws) := h
          intro o
          obtain ⟨e, hs⟩ := scanW_map hwk hsc
          subst e
          rw [List.length_map] at hl
          simp only [List.nil_append, z2h]
          walk_at "d"
          rw [List.length_map]
          by_cases h1 : 12 < ws.length
          · rw [decide_eq_true (show (12 : Int) < (ws.length : Int) by omega)]
            rw [if_pos (.inl h1)] at h
            walk_at "d"
            exact h
          · rw [decide_eq_false (show ¬ (12 : Int) < (ws.length : Int) by omega)]
            walk_at "d"
            refine ⟨_, ws, rfl, rfl, hl, hs, ?_⟩
            walk_at "d"
            by_cases h2 : 80 < crowdOf ws
            · rw [if_pos (.inr h2)] at h
              rw [decide_eq_true h2]
              walk_at "d"
              exact h
            · rw [if_neg (by omega)] at h
              rw [decide_eq_false h2]
              walk_at "d"
              exact ⟨_, rfl, h⟩
  | obj _ _ => obtain ⟨⟨k, hk⟩, _⟩ := h; cases hk
  | exn _ _ _ => obtain ⟨⟨k, hk⟩, _⟩ := h; cases hk
  | box _ => obtain ⟨⟨k, hk⟩, _⟩ := h; cases hk
  | _ => walk_at "d"; exact h.2
theorem scanW_ok : ∀ (ws : List Wk) (seen : List Str), (∀ w ∈ ws, w.name ∉ seen) → (ws.map Wk.name).Nodup → scanW seen (ws.map Wk.d) = some ws
  | [], _, _, _ => rfl
  | w :: ws, seen, h1, h2 => by
    rw [List.map_cons, List.nodup_cons] at h2
    rw [List.map_cons, scanW, toWk_d]
    simp only [h1 w List.mem_cons_self, if_false]
    rw [scanW_ok ws _ (fun v hv hm => ?_) h2.2]
    · rfl
    · rcases List.mem_append.mp hm with q | q
      · exact h1 v (List.mem_cons_of_mem _ hv) q
      · exact h2.1 (List.mem_map.mpr ⟨v, hv, List.mem_singleton.mp q⟩)
structure DutyOk (ws : List Wk) : Prop where
  ok : ∀ w ∈ ws, w.ok
  nd : (ws.map Wk.name).Nodup
  len : ws.length ≤ 12
  crowd : crowdOf ws ≤ 80
theorem Wk.ok.sane {w : Wk} (h : w.ok) : w.sane := ⟨h.gap, big_of (by have := h.gap; omega) (by have := h.gapb; omega)⟩
theorem make_duty {ws : List Wk} (h : DutyOk ws) {QF : List (Fd × D) → Prop} {QE : EX} (q : QF (dutyFs ws)) : zb [.lst (ws.map Wk.d)] QF QE := by
  refine ⟨_, rfl, by rw [List.length_map]; have := h.len; omega, fun y hy => ?_, ?_⟩
  · obtain ⟨w, hw, rfl⟩ := List.mem_map.mp hy
    exact .inl ⟨w, rfl, (h.ok w hw).sane⟩
  · rw [scanW_ok ws [] (fun _ _ z => by cases z) h.nd]
    show if 12 < ws.length ∨ 80 < crowdOf ws then _ else _
    have h1 := h.len
    have h2 := h.crowd
    rw [if_neg (by omega)]
    exact q
def zi3 : DS := (dRet (dOp dAdd (dOp dIx (dL 0) (dC (.int 1))) (dOp dIx (dL 0) (dC (.int 2)))))
local macro_rules | `(tactic| walk_at "M_ready") => `(tactic| repeat (first | walk_at "e" | walk_at "s" | (with_reducible show zi3 _ _; simp only [zi3])))
structure Cm where
  at_ : Nat
  come : Int
  late : Int
  length : Int
def Cm.d (c : Cm) : D := .tup [.int c.at_, .int c.come, .int c.late, .int c.length]
def zcb : FS := fun xs Q _ => ∃ c : Cm, xs = [c.d] ∧ Q (.d (.int (c.come + c.late)))
def zgc : DS := (dRet (dOp dAdd (dOp dIx (dL 1) (dC (.int 1))) (dFld [.Work] .due (dMeth (altL [(.Duty, z7)]) (dV 0) (dConsA (dOp dIx (dL 1) (dC (.int 0))) dNilA) []))))
local macro_rules | `(tactic| walk_at "M_due_at") => `(tactic| repeat (first | walk_at "e" | walk_at "s" | (with_reducible show zgc _ _; simp only [zgc])))
def zfn : FS := fun xs Q _ => ∃ (ws : List Wk) (c : Cm) (w : Wk), xs = [dutyD ws, c.d] ∧ ws[c.at_]? = some w ∧ Q (.d (.int (c.come + w.due)))
def zbl : DS := (dIf (dTst cEq (dL 5) (dOp dMod (dOp dDiv (dL 0) (dC (.int 8))) (dL 3))) (dSet 4 (dOp dAdd (dL 4) (dOp dIx (dL 2) (dOp dMod (dOp dAdd (dOp dDiv (dL 0) (dC (.int 64))) (dL 1)) (dC (.int 26)))))) (dSet 4 (dOp dAdd (dL 4) (dOp dIx (dL 2) (dOp dMod (dOp dDiv (dL 0) (dOp dAdd (dC (.int 64)) (dOp dMul (dC (.int 37)) (dL 5)))) (dC (.int 26)))))))
def zcc : DS := (dRetL 4)
def zcd : DS := dSeq (dFor (.one 5) (dRng1 (dConsA (dL 3) dNilA)) zbl) zcc
def zce : DS := dSeq (dSet 4 (dC (.str ""))) zcd
def zcf : DS := dSeq (dSet 3 (dOp dAdd (dC (.int 1)) (dOp dMod (dL 0) (dC (.int 8))))) zce
def zj5 : DS := dSeq (dSet 2 (dC (.str "abcdefghijklmnopqrstuvwxyz"))) zcf
local macro_rules | `(tactic| walk_at "L_word") => `(tactic| repeat (first | walk_at "e" | walk_at "s" | (with_reducible show zbl _ _; simp only [zbl]) | (with_reducible show zcc _ _; simp only [zcc]) | (with_reducible show zcd _ _; simp only [zcd]) | (with_reducible show zce _ _; simp only [zce]) | (with_reducible show zcf _ _; simp only [zcf]) | (with_reducible show zj5 _ _; simp only [zj5])))
def z47 : DS := (dSet 3 (dOp dDiv (dL 3) (dOp dPow (dC (.int 10)) (dC (.int 45)))))
def z59 : DS := dSeq (dApp 2 (dOp dMod (dL 3) (dOp dPow (dC (.int 10)) (dC (.int 45))))) z47
def z48 : DS := (dApp 2 (dV 5))
def z5a : DS := dSeq (dSet 5 (dOp dMod (dOp dAdd (dOp dAdd (dOp dMul (dL 5) (dL 5)) (dOp dMul (dC (.int 48271)) (dL 5))) (dL 4)) (dOp dAdd (dOp dPow (dC (.int 10)) (dC (.int 18))) (dC (.int 9))))) z48
def z5r : DS := (dRet (dSl (dL 2) (dSome (dC (.int 2))) dNo))
def z5s : DS := dSeq (dFor (.one 4) (dRng1 (dConsA (dOp dAdd (dL 1) (dC (.int 2))) dNilA)) z5a) z5r
def z5t : DS := dSeq (dSet 5 (dOp dAdd (dOp dMod (dL 0) (dOp dAdd (dOp dPow (dC (.int 10)) (dC (.int 18))) (dC (.int 9)))) (dC (.int 48271)))) z5s
def z5u : DS := dSeq (dIf (dTst cGe (dL 0) (dOp dPow (dC (.int 10)) (dC (.int 30)))) (dSeq (dSet 3 (dOp dSub (dL 0) (dOp dPow (dC (.int 10)) (dC (.int 30))))) (dSeq (dFor (.one 4) (dRng1 (dConsA (dL 1) dNilA)) z59) (dRetL 2))) dNext) z5t
def z5v : DS := dSeq (dSetO 2 (dLst dNilA)) z5u
local macro_rules | `(tactic| walk_at "L_stream") => `(tactic| repeat (first | walk_at "e" | walk_at "s" | (with_reducible show z47 _ _; simp only [z47]) | (with_reducible show z59 _ _; simp only [z59]) | (with_reducible show z48 _ _; simp only [z48]) | (with_reducible show z5a _ _; simp only [z5a]) | (with_reducible show z5r _ _; simp only [z5r]) | (with_reducible show z5s _ _; simp only [z5s]) | (with_reducible show z5t _ _; simp only [z5t]) | (with_reducible show z5u _ _; simp only [z5u]) | (with_reducible show z5v _ _; simp only [z5v])))
def zo : FS := fun xs Q _ => ∃ (c : Int) (m : Nat), xs = [.int c, .int m] ∧ m ≤ 100 ∧ ∀ ms : List Int, drawn m ms → Q (.nl (ms.map .int))
theorem zgd : ∀ xs QD QE, zo xs QD QE → xs.length = 2 := fun xs _ _ ⟨_, _, h, _⟩ => by rw [h]; rfl
theorem cut_from {xs : List D} {k : Nat} (h : k ≤ xs.length) : cutD xs (some (k : Int)) none = xs.drop k := by
  unfold cutD
  have e : HT.sIx xs.length xs.length none = xs.length := rfl
  rw [e]
  have e2 : HT.sIx xs.length 0 (some (k : Int)) = k := by
    unfold HT.sIx
    simp only []
    rw [if_neg (by omega), Int.toNat_natCast]
    omega
  rw [e2]
  exact List.take_of_length_le (by rw [List.length_drop]; exact Nat.le_refl _)
theorem zkm : ∀ xs QD QE, zo xs QD QE → z5v (fEnds QD QE) (rho0 6 xs) := by
  rintro xs QD QE ⟨c, m, rfl, hm, h⟩
  simp only [z5v]
  walk_at "d"
  simp only [z5u]
  walk_at "d"
  have b45 : big (10 ^ 45) < 9000 := Nat.lt_trans (big_lt (n := 200) (by decide +kernel) (by decide)) (by decide)
  by_cases hc : (10 : Int) ^ 30 ≤ c
  · simp only [hc, decide_true]
    walk_at "d"
    refine ⟨⟨by omega, by omega⟩, ?_⟩
    refine for_rng (fun j ρ => ∃ (ms : List Int) (r : Int) (o o5 : Option C), ρ = [some (.d (.int c)), some (.d (.int m)), some (.nl (ms.map .int)), some (.d (.int r)), o, o5] ∧ drawn j ms) _ (fun j ρ N hj ⟨ms, r, o, o5, ho, hd⟩ hN => ?_) (fun ρ ⟨ms, r, o, o5, ho, hd⟩ => ?_) ⟨[], _, _, _, rfl, rfl, fun x hx => by cases hx⟩
    · subst ho
      walk_at "d"
      simp only [z59]
      walk_at "d"
      refine ⟨by rw [List.length_map, hd.1, sizeLine_eq]; omega, ?_⟩
      simp only [z47]
      walk_at "d"
      refine ⟨b45, ?_⟩
      rw [map_snoc]
      refine hN _ ⟨_, _, _, _, rfl, by rw [List.length_append, hd.1]; rfl, fun x hx => ?_⟩
      rcases List.mem_append.mp hx with q | q
      · exact hd.2 x q
      · rw [List.mem_singleton.mp q]
        omega
    · subst ho
      walk_at "d"
      exact h ms hd
  · simp only [hc, decide_false]
    walk_at "d"
    simp only [z5t]
    walk_at "d"
    refine ⟨by decide, ?_⟩
    simp only [z5s]
    walk_at "d"
    refine ⟨⟨by omega, by omega⟩, ?_⟩
    have e2 : (m : Int) + 2 = ((m + 2 : Nat) : Int) := by omega
    rw [e2]
    refine for_rng (fun j ρ => ∃ (ms : List Int) (r : Int) (o3 o : Option C), ρ = [some (.d (.int c)), some (.d (.int m)), some (.nl (ms.map .int)), o3, o, some (.d (.int r))] ∧ (0 ≤ r ∧ r < 10 ^ 18 + 48290) ∧ drawn j ms) _ (fun j ρ N hj ⟨ms, r, o3, o, ho, hr, hd⟩ hN => ?_) (fun ρ ⟨ms, r, o3, o, ho, hr, hd⟩ => ?_) ⟨[], _, _, _, rfl, by omega, rfl, fun x hx => by cases hx⟩
    · subst ho
      walk_at "d"
      simp only [z5a]
      walk_at "d"
      refine ⟨mul_left (by omega), by decide, ?_⟩
      have hx : 0 ≤ (r * r + 48271 * r + (j : Int)) % (10 ^ 18 + 9) ∧ (r * r + 48271 * r + (j : Int)) % (10 ^ 18 + 9) < 10 ^ 18 + 9 := ⟨Int.emod_nonneg _ (by decide), Int.emod_lt_of_pos _ (by decide)⟩
      generalize (r * r + 48271 * r + (j : Int)) % (10 ^ 18 + 9) = y at hx ⊢
      simp only [z48]
      walk_at "d"
      refine ⟨by rw [List.length_map, hd.1, sizeLine_eq]; omega, ?_⟩
      rw [map_snoc]
      refine hN _ ⟨_, _, _, _, rfl, by omega, by rw [List.length_append, hd.1]; rfl, fun x hx => ?_⟩
      rcases List.mem_append.mp hx with q | q
      · exact hd.2 x q
      · rw [List.mem_singleton.mp q]
        omega
    · subst ho
      simp only [z5r]
      walk_at "d"
      have e : cutD (ms.map D.int) (some 2) none = (ms.map D.int).drop 2 := cut_from (k := 2) (by rw [List.length_map, hd.1]; omega)
      rw [e, ← List.map_drop]
      exact h _ ⟨by rw [List.length_drop, hd.1]; omega, fun x hx => hd.2 x (List.mem_of_mem_drop hx)⟩
def zac : DS := (dRet (dAndV (dOp (cmpV cLe) (dOp dIx (dL 1) (dC (.int 1))) (dOp dIx (dL 0) (dC (.int 1)))) (dOp (cmpV cLe) (dOp dIx (dL 0) (dC (.int 2))) (dOp dIx (dL 1) (dC (.int 2))))))
def zad : DS := dSeq (dIf (dAnd (dTst cLe (dOp dIx (dL 0) (dC (.int 1))) (dOp dIx (dL 1) (dC (.int 1)))) (dTst cLe (dOp dIx (dL 1) (dC (.int 2))) (dOp dIx (dL 0) (dC (.int 2))))) (dRet (dC (.bl true))) dNext) zac
def zae : DS := dSeq (dIf (dOr (dBool (dL 2)) (dTst cEq (dOp dIx (dL 0) (dC (.int 0))) (dOp dIx (dL 1) (dC (.int 0))))) (dRetL 2) dNext) zad
def zge : DS := dSeq (dSet 2 (dOrV (dOp (cmpV cLe) (dOp dIx (dL 0) (dC (.int 2))) (dOp dIx (dL 1) (dC (.int 1)))) (dOp (cmpV cLe) (dOp dIx (dL 1) (dC (.int 2))) (dOp dIx (dL 0) (dC (.int 1)))))) zae
local macro_rules | `(tactic| walk_at "L_beside") => `(tactic| repeat (first | walk_at "e" | walk_at "s" | (with_reducible show zac _ _; simp only [zac]) | (with_reducible show zad _ _; simp only [zad]) | (with_reducible show zae _ _; simp only [zae]) | (with_reducible show zge _ _; simp only [zge])))
def zkn : FS := fun xs Q _ => ∃ p q : Hd, xs = [p.d, q.d] ∧ Q (.d (.bl (togOk p q)))
def z5w : DS := (dIf (dAnd (dTst cGt (dL 1) (dC (.int 1))) (dTst cNe (dOp dMod (dOp dIx (dL 0) (dOp dMul (dC (.int 3)) (dL 4))) (dC (.int 4))) (dC (.int 0)))) (dSeq (dSet 5 (dOp dMod (dOp dDiv (dOp dIx (dL 0) (dOp dMul (dC (.int 3)) (dL 4))) (dC (.int 4))) (dOp dSub (dL 1) (dC (.int 1))))) (dSeq (dSet 6 (dOp dAdd (dOp dAdd (dL 5) (dC (.int 1))) (dOp dMod (dOp dIx (dL 0) (dOp dAdd (dOp dMul (dC (.int 3)) (dL 4)) (dC (.int 1)))) (dOp dSub (dOp dSub (dL 1) (dC (.int 1))) (dL 5))))) (dSeq (dSet 7 (dTup (dConsA (dOp dIx (dL 2) (dOp dMod (dOp dIx (dL 0) (dOp dAdd (dOp dMul (dC (.int 3)) (dL 4)) (dC (.int 2)))) (dC (.int 3)))) (dConsA (dV 5) (dConsA (dV 6) dNilA))))) (dIf (dBool (dCB fAll (dConsA (dLc (.one 8) (dItL (dL 3)) dYes (dCall zkn (dConsA (dV 7) (dConsA (dV 8) dNilA)) []) [8]) dNilA))) (dApp 3 (dV 7)) dNext)))) dNext)
def z73 : DS := (dRetL 3)
def z74 : DS := dSeq (dFor (.one 4) (dRng1 (dConsA (dC (.int 3)) dNilA)) z5w) z73
def ze6 : DS := dSeq (dSetO 3 (dLst dNilA)) z74
local macro_rules | `(tactic| walk_at "L_holds_v1") => `(tactic| repeat (first | walk_at "e" | walk_at "s" | (with_reducible show z5w _ _; simp only [z5w]) | (with_reducible show z73 _ _; simp only [z73]) | (with_reducible show z74 _ _; simp only [z74]) | (with_reducible show ze6 _ _; simp only [ze6])))
def zda : FS := fun xs Q _ => ∃ (ms : List Int) (l : Int) (words : List Str) (m : Nat), xs = [.lst (ms.map .int), .int l, .lst (words.map .str)] ∧ (9 ≤ m ∧ drawn m ms) ∧ 1 ≤ l ∧ 3 ≤ words.length ∧ (∀ x ∈ words, nameOk (.str x) = true) ∧ ∀ hs : List Hd, holdsGood l words hs → Q (.nl (hs.map Hd.d))
def z2x : DS := (dIf (dTst cEq (dOp dIx (dL 3) (dC (.int 0))) (dL 1)) (dRetL 2) dNext)
def z4q : DS := (dFor (.one 3) (dItL (dMeth (altL [(.Work, za)]) (dMeth (altL [(.Duty, z7)]) (dV 0) (dConsA (dV 2) dNilA) []) dNilA [])) z2x)
def z5b : DS := (dRet (dC .non))
def z55 : DS := dSeq (dFor (.one 2) (dRng1 (dConsA (dMeth (altL [(.Duty, z8)]) (dV 0) dNilA []) dNilA)) z4q) z5b
local macro_rules | `(tactic| walk_at "M_ceiling") => `(tactic| repeat (first | walk_at "e" | walk_at "s" | (with_reducible show z2x _ _; simp only [z2x]) | (with_reducible show z4q _ _; simp only [z4q]) | (with_reducible show z5b _ _; simp only [z5b]) | (with_reducible show z55 _ _; simp only [z55])))
def z1f : FS := fun xs Q _ => ∃ (ws : List Wk) (x : Str), xs = [dutyD ws, .str x] ∧ ws.length ≤ 1000 ∧ Q (.d (natD (ceilOf ws x)))
theorem zfx : ∀ xs QD QE, z1f xs QD QE → xs.length = 2 := fun xs _ _ ⟨_, _, h, _⟩ => by rw [h]; rfl
theorem ceil_inner {E : DEnds} {d : D} {x : Str} {k : Nat} {hs : List Hd} {o : Option C} (hy : hs.any (fun h => decide (h.th = x)) = true → ∀ ρ, E.rt (.d (.int k)) ρ) (hn : hs.any (fun h => decide (h.th = x)) = false → ∀ o, E.nx [some (.d d), some (.d (.str x)), some (.d (.int k)), o]) :
    dForL (.one 3) z2x E (hs.map Hd.d) [some (.d d), some (.d (.str x)), some (.d (.int k)), o] := by
  refine for_all (fun j ρ => (∃ o, ρ = [some (.d d), some (.d (.str x)), some (.d (.int k)), o]) ∧ ∀ h ∈ hs.take j, h.th ≠ x) _ (fun j y ρ N hyj ⟨⟨o, ho⟩, hi⟩ hN => ?_) (fun ρ ⟨⟨o, ho⟩, hi⟩ => ?_) ⟨⟨_, rfl⟩, fun c hc => by simp at hc⟩
  · subst ho
    rw [List.getElem?_map] at hyj
    cases hc : hs[j]? with
    | none => rw [hc] at hyj; cases hyj
    | some h =>
      rw [hc] at hyj
      cases hyj
      simp only [z2x, Hd.d]
      walk_at "d"
      rw [ixD3_0]
      walk_at "d"
      by_cases he : h.th = x
      · rw [decide_eq_true he]
        walk_at "d"
        exact hy (List.any_eq_true.mpr ⟨h, List.mem_of_getElem? hc, decide_eq_true he⟩) _
      · rw [decide_eq_false he]
        walk_at "d"
        refine hN _ ⟨⟨_, rfl⟩, fun d hd => ?_⟩
        rw [List.take_add_one, hc] at hd
        rcases List.mem_append.mp hd with q | q
        · exact hi d q
        · cases List.mem_singleton.mp q
          exact he
  · subst ho
    rw [List.length_map, List.take_length] at hi
    refine hn ?_ o
    rw [List.any_eq_false]
    intro h hh
    simpa using hi h hh
theorem zj6 : ∀ xs QD QE, z1f xs QD QE → z55 (fEnds QD QE) (rho0 4 xs) := by
  rintro xs QD QE ⟨ws, x, rfl, hl, h⟩
  simp only [z55]
  walk_at "d"
  unfold dutyD
  walk_at "d"
  refine ⟨ws, rfl, ?_⟩
  walk_at "d"
  refine ⟨⟨by omega, by omega⟩, ?_⟩
  refine for_rng (fun k ρ => (∃ o o2, ρ = [some (.d (dutyD ws)), some (.d (.str x)), o, o2]) ∧ ∀ w ∈ ws.take k, (w.holds.any fun h => decide (h.th = x)) = false) _ (fun k ρ N hk ⟨⟨o, o2, ho⟩, hi⟩ hN => ?_) (fun ρ ⟨⟨o, o2, ho⟩, hi⟩ => ?_) ⟨⟨_, _, rfl⟩, fun c hc => by simp at hc⟩
  · subst ho
    obtain ⟨w, hw⟩ : ∃ w, ws[k]? = some w := ⟨ws[k], List.getElem?_eq_getElem hk⟩
    walk_at "d"
    simp only [z4q]
    walk_at "d"
    unfold dutyD
    walk_at "d"
    refine ⟨ws, k, w, rfl, hw, ?_⟩
    unfold Wk.d
    walk_at "d"
    refine ⟨w, rfl, ?_⟩
    walk_at "d"
    refine ceil_inner (fun hy ρ => ?_) (fun hn o => ?_)
    · have e : ceilOf ws x = some k := by
        unfold ceilOf
        rw [List.findIdx?_eq_some_iff_getElem]
        refine ⟨hk, ?_, fun j hj => ?_⟩
        · rw [List.getElem?_eq_getElem hk] at hw
          cases hw
          exact hy
        · have := hi ws[j] (by rw [List.mem_take_iff_getElem]; exact ⟨j, by omega, rfl⟩)
          simpa using this
      rw [e] at h
      exact h
    · refine hN _ ⟨⟨_, _, rfl⟩, fun v hv => ?_⟩
      rw [List.take_add_one, hw] at hv
      rcases List.mem_append.mp hv with q | q
      · exact hi v q
      · cases List.mem_singleton.mp q
        exact hn
  · subst ho
    rw [List.take_length] at hi
    simp only [z5b]
    walk_at "d"
    have e : ceilOf ws x = none := by
      unfold ceilOf
      rw [List.findIdx?_eq_none_iff]
      intro w hw
      simpa using hi w hw
    rw [e] at h
    exact h
def z75 : DS := (dRet (dTup (dConsA (dV 4) (dConsA (dV 5) (dConsA (dOp dAdd (dC (.int 1)) (dOp dMod (dOp dIx (dL 3) (dC (.int 4))) (dL 4))) (dConsA (dV 6) (dConsA (dOp dMod (dOp dIx (dL 3) (dC (.int 14))) (dL 5)) dNilA)))))))
def z76 : DS := dSeq (dSet 6 (dCall zda (dConsA (dSl (dL 3) (dSome (dC (.int 5))) dNo) (dConsA (dV 5) (dConsA (dV 2) dNilA))) [])) z75
def z77 : DS := dSeq (dSet 5 (dOp dAdd (dC (.int 1)) (dOp dMod (dOp dIx (dL 3) (dC (.int 2))) (dOp dMul (dC (.int 2)) (dL 4))))) z76
def z78 : DS := dSeq (dSet 4 (dOp dAdd (dOp dMul (dL 1) (dOp dAdd (dC (.int 1)) (dOp dMod (dOp dIx (dL 3) (dC (.int 0))) (dC (.int 8))))) (dOp dMod (dOp dIx (dL 3) (dC (.int 1))) (dC (.int 5))))) z77
def ze7 : DS := dSeq (dSet 3 (dCall zo (dConsA (dV 0) (dConsA (dC (.int 15)) dNilA)) [])) z78
local macro_rules | `(tactic| walk_at "L_plain_v1") => `(tactic| repeat (first | walk_at "e" | walk_at "s" | (with_reducible show z75 _ _; simp only [z75]) | (with_reducible show z76 _ _; simp only [z76]) | (with_reducible show z77 _ _; simp only [z77]) | (with_reducible show z78 _ _; simp only [z78]) | (with_reducible show ze7 _ _; simp only [ze7])))
structure Pd where
  gap : Int
  length : Int
  due : Int
  holds : List Hd
  done : Int
def Pd.d (p : Pd) : D := .tup [.int p.gap, .int p.length, .int p.due, .lst (p.holds.map Hd.d), .int p.done]
def z91 : DS := (dRet (dCB fSort2 (dConsA (dL 3) dNilA)))
def zfo : DS := dSeq (dSet 3 (dLc (.one 4) (dItL (dMeth (altL [(.Work, za)]) (dMeth (altL [(.Duty, z7)]) (dV 0) (dConsA (dV 1) dNilA) []) dNilA [])) (dChT cLt cLt (dOp dIx (dL 4) (dC (.int 1))) (dL 2) (dOp dIx (dL 4) (dC (.int 2)))) (dOp dIx (dL 4) (dC (.int 0))) [4])) z91
local macro_rules | `(tactic| walk_at "M_holding") => `(tactic| repeat (first | walk_at "e" | walk_at "s" | (with_reducible show z91 _ _; simp only [z91]) | (with_reducible show zfo _ _; simp only [zfo])))
def heldOf (hs : List Hd) (done : Int) : List Str := (hs.filter fun h => decide (h.st < done) && decide (done < h.en)).map Hd.th
def z5x : FS := fun xs Q _ => ∃ (ws : List Wk) (k : Nat) (w : Wk) (done : Int), xs = [dutyD ws, .int k, .int done] ∧ ws[k]? = some w ∧ w.holds.length < 64 ∧ Q (.nl ((sortS (heldOf w.holds done)).map .str))
def zbm : DS := (dSet 3 (dCB fMin2 (dConsA (dL 3) (dConsA (dCall z1f (dConsA (dV 0) (dConsA (dV 4) dNilA)) []) dNilA))))
def zcg : DS := (dRetL 3)
def zch : DS := dSeq (dFor (.one 4) (dItL (dCall z5x (dConsA (dV 0) (dConsA (dV 1) (dConsA (dV 2) dNilA))) [])) zbm) zcg
def zj7 : DS := dSeq (dSet 3 (dV 1)) zch
local macro_rules | `(tactic| walk_at "M_rank") => `(tactic| repeat (first | walk_at "e" | walk_at "s" | (with_reducible show zbm _ _; simp only [zbm]) | (with_reducible show zcg _ _; simp only [zcg]) | (with_reducible show zch _ _; simp only [zch]) | (with_reducible show zj7 _ _; simp only [zj7])))
def rankOf (ws : List Wk) (k : Nat) (xs : List Str) : Nat := (xs.map fun x => (ceilOf ws x).getD k).foldl min k
def zi4 : FS := fun xs Q _ => ∃ (ws : List Wk) (k : Nat) (w : Wk) (done : Int), xs = [dutyD ws, .int k, .int done] ∧ ws[k]? = some w ∧ w.holds.length < 64 ∧ ws.length ≤ 1000 ∧ Q (.d (.int (rankOf ws k (heldOf w.holds done))))
def zci : DS := (dRet (dTup (dConsA (dV 4) (dConsA (dV 5) dNilA))))
def zcj : DS := dSeq (dIf (dOr (dNot (dBool (dIs "int" (dL 5)))) (dOr (dBool (dIs "bool" (dL 5))) (dTst cNe (dCall z5x (dConsA (dV 0) (dConsA (dV 1) (dConsA (dV 2) dNilA))) []) (dL 4)))) (dRet (dC .non)) dNext) zci
def zck : DS := dSeq (dSet 5 (dCall zi4 (dConsA (dV 0) (dConsA (dV 1) (dConsA (dV 2) dNilA))) [])) zcj
def zcl : DS := dSeq (dApp 3 (dC (.str "zz"))) zck
def zcm : DS := dSeq (dSet 4 (dCB fList (dConsA (dL 3) dNilA))) zcl
def zcn : DS := dSeq (dIf (dOr (dNot (dBool (dIs "list" (dL 3)))) (dNot (dBool (dCB fAll (dConsA (dLc (.one 6) (dItL (dL 3)) dYes (dIs "str" (dL 6)) [6]) dNilA))))) (dRet (dC .non)) dNext) zcm
def zj8 : DS := dSeq (dSetO 3 (dCall z5x (dConsA (dV 0) (dConsA (dV 1) (dConsA (dV 2) dNilA))) [])) zcn
local macro_rules | `(tactic| walk_at "L_told") => `(tactic| repeat (first | walk_at "e" | walk_at "s" | (with_reducible show zci _ _; simp only [zci]) | (with_reducible show zcj _ _; simp only [zcj]) | (with_reducible show zck _ _; simp only [zck]) | (with_reducible show zcl _ _; simp only [zcl]) | (with_reducible show zcm _ _; simp only [zcm]) | (with_reducible show zcn _ _; simp only [zcn]) | (with_reducible show zj8 _ _; simp only [zj8])))
def z92 : DS := (dIf (dAnd (dTst cEq (dL 4) (dL 1)) (dTst cNe (dLc (.one 9) (dItL (dOp dIx (dOp dIx (dL 0) (dL 5)) (dC (.int 3)))) (dTst cIn (dOp dIx (dL 9) (dC (.int 0))) (dL 3)) (dV 9) [9]) (dLst dNilA))) (dSet 4 (dV 5)) dNext)
def zaf : DS := (dRet (dTup (dConsA (dV 3) (dConsA (dV 4) dNilA))))
def zag : DS := dSeq (dFor (.one 5) (dRng1 (dConsA (dL 1) dNilA)) z92) zaf
def zah : DS := dSeq (dSet 4 (dV 1)) zag
def zgf : DS := dSeq (dSet 3 (dCB fSort2 (dConsA (dLc (.many [6, 7, 8]) (dItL (dOp dIx (dOp dIx (dL 0) (dL 1)) (dC (.int 3)))) (dAnd (dTst cLt (dL 7) (dL 2)) (dTst cLt (dL 2) (dL 8))) (dV 6) [6, 7, 8]) dNilA))) zah
local macro_rules | `(tactic| walk_at "L_due_v1") => `(tactic| repeat (first | walk_at "e" | walk_at "s" | (with_reducible show z92 _ _; simp only [z92]) | (with_reducible show zaf _ _; simp only [zaf]) | (with_reducible show zag _ _; simp only [zag]) | (with_reducible show zah _ _; simp only [zah]) | (with_reducible show zgf _ _; simp only [zgf])))
def z79 : DS := (dRet (dTup (dConsA (dV 4) (dConsA (dV 5) (dConsA (dOp dAdd (dC (.int 1)) (dOp dMod (dOp dIx (dL 3) (dC (.int 4))) (dL 4))) (dConsA (dCall zda (dConsA (dSl (dL 3) (dSome (dC (.int 5))) dNo) (dConsA (dV 5) (dConsA (dV 2) dNilA))) []) dNilA))))))
def z7a : DS := dSeq (dSet 5 (dOp dAdd (dC (.int 1)) (dOp dMod (dOp dIx (dL 3) (dC (.int 2))) (dOp dMul (dC (.int 2)) (dL 4))))) z79
def z7b : DS := dSeq (dSet 4 (dOp dAdd (dOp dMul (dL 1) (dOp dAdd (dC (.int 1)) (dOp dMod (dOp dIx (dL 3) (dC (.int 0))) (dC (.int 8))))) (dOp dMod (dOp dIx (dL 3) (dC (.int 1))) (dC (.int 5))))) z7a
def ze8 : DS := dSeq (dSet 3 (dCall zo (dConsA (dV 0) (dConsA (dC (.int 14)) dNilA)) [])) z7b
local macro_rules | `(tactic| walk_at "L_plain_v2") => `(tactic| repeat (first | walk_at "e" | walk_at "s" | (with_reducible show z79 _ _; simp only [z79]) | (with_reducible show z7a _ _; simp only [z7a]) | (with_reducible show z7b _ _; simp only [z7b]) | (with_reducible show ze8 _ _; simp only [ze8])))
def z5y : DS := (dSet 3 (dOp dAdd (dL 3) (dLc (.one 6) (dItL (dOp dIx (dL 4) (dC (.int 3)))) dYes (dOp dIx (dL 6) (dC (.int 0))) [6])))
def z5z : DS := (dSet 5 (dOp dAdd (dL 5) (dLc (.many [7, 8, 9]) (dItL (dOp dIx (dL 4) (dC (.int 3)))) (dTst cIn (dL 7) (dL 3)) (dOp dSub (dOp dSub (dL 9) (dL 8)) (dC (.int 1))) [7, 8, 9])))
def z7c : DS := (dRet (dAndV (dOp (cmpV cIn) (dL 0) (dL 5)) (dCB fAll (dConsA (dLc (.one 10) (dItL (dV 5)) dYes (dOp (cmpV cLe) (dL 10) (dL 0)) [10]) dNilA))))
def z7d : DS := dSeq (dFor (.one 4) (dItL (dSl (dL 1) (dSome (dOp dAdd (dL 2) (dC (.int 1)))) dNo)) z5z) z7c
def z7e : DS := dSeq (dSet 5 (dLst (dConsA (dC (.int 0)) dNilA))) z7d
def z7f : DS := dSeq (dFor (.one 4) (dItL (dSl (dL 1) dNo (dSome (dOp dAdd (dL 2) (dC (.int 1)))))) z5y) z7e
def z7g : DS := dSeq (dSet 3 (dLst dNilA)) z7f
def ze9 : DS := dSeq (dIf (dOr (dNot (dBool (dIs "int" (dL 0)))) (dBool (dIs "bool" (dL 0)))) (dRet (dC (.bl false))) dNext) z7g
local macro_rules | `(tactic| walk_at "L_right_v2") => `(tactic| repeat (first | walk_at "e" | walk_at "s" | (with_reducible show z5y _ _; simp only [z5y]) | (with_reducible show z5z _ _; simp only [z5z]) | (with_reducible show z7c _ _; simp only [z7c]) | (with_reducible show z7d _ _; simp only [z7d]) | (with_reducible show z7e _ _; simp only [z7e]) | (with_reducible show z7f _ _; simp only [z7f]) | (with_reducible show z7g _ _; simp only [z7g]) | (with_reducible show ze9 _ _; simp only [ze9])))
def strongs (hss : List (List Hd)) (k : Nat) : List Str := (hss.take (k + 1)).flatten.map Hd.th
def blocks (hss : List (List Hd)) (k : Nat) : List Int := (hss.drop (k + 1)).flatten.filterMap fun q => if q.th ∈ strongs hss k then some (q.en - q.st - 1) else none
def holdUp (hss : List (List Hd)) (k : Nat) : Int := (blocks hss k).foldl max 0
theorem flat_take {α : Type} {l : List (List α)} {k : Nat} {x : List α} (h : l[k]? = some x) : (l.take (k + 1)).flatten = (l.take k).flatten ++ x := by
  rw [take_snoc h, List.flatten_append, List.flatten_singleton]
def z7h : DS := (dIf (dTst cLe (dCall z1f (dConsA (dV 0) (dConsA (dV 4) dNilA)) []) (dL 1)) (dSet 2 (dCB fMax2 (dConsA (dL 2) (dConsA (dOp dSub (dOp dSub (dL 6) (dL 5)) (dC (.int 1))) dNilA)))) dNext)
def z7i : DS := (dFor (.many [4, 5, 6]) (dItL (dMeth (altL [(.Work, za)]) (dMeth (altL [(.Duty, z7)]) (dV 0) (dConsA (dV 3) dNilA) []) dNilA [])) z7h)
def z93 : DS := (dRetL 2)
def z94 : DS := dSeq (dFor (.one 3) (dRng2 (dConsA (dOp dAdd (dL 1) (dC (.int 1))) (dConsA (dMeth (altL [(.Duty, z8)]) (dV 0) dNilA []) dNilA))) z7i) z93
def z8s : DS := dSeq (dSet 2 (dC (.int 0))) z94
local macro_rules | `(tactic| walk_at "M_hold_up") => `(tactic| repeat (first | walk_at "e" | walk_at "s" | (with_reducible show z7h _ _; simp only [z7h]) | (with_reducible show z7i _ _; simp only [z7i]) | (with_reducible show z93 _ _; simp only [z93]) | (with_reducible show z94 _ _; simp only [z94]) | (with_reducible show z8s _ _; simp only [z8s])))
theorem ceil_strong {ws : List Wk} {x : Str} {k c : Nat} (hk : k < ws.length) (h : ceilOf ws x = some c) : (c ≤ k) ↔ x ∈ strongs (ws.map Wk.holds) k := by
  unfold ceilOf at h
  rw [List.findIdx?_eq_some_iff_getElem] at h
  obtain ⟨h1, h2, h3⟩ := h
  unfold strongs
  constructor
  · intro hc
    obtain ⟨q, hq, e⟩ := List.any_eq_true.mp h2
    refine List.mem_map.mpr ⟨q, List.mem_flatten.mpr ⟨ws[c].holds, ?_, hq⟩, of_decide_eq_true e⟩
    rw [List.mem_take_iff_getElem]
    exact ⟨c, by rw [List.length_map]; omega, by rw [List.getElem_map]⟩
  · intro hx
    obtain ⟨q, hq, rfl⟩ := List.mem_map.mp hx
    obtain ⟨l, hl, hq⟩ := List.mem_flatten.mp hq
    rw [List.mem_take_iff_getElem] at hl
    obtain ⟨i, hi, rfl⟩ := hl
    rw [List.getElem_map] at hq
    rcases Nat.lt_or_ge i c with z | z
    · have := h3 i z
      have h4 : (ws[i].holds.any fun h => decide (h.th = q.th)) = true := List.any_eq_true.mpr ⟨q, hq, decide_eq_true rfl⟩
      rw [h4] at this
      exact absurd rfl this
    · omega
theorem ceil_some {ws : List Wk} {w : Wk} {q : Hd} (hw : w ∈ ws) (hq : q ∈ w.holds) : ∃ c, ceilOf ws q.th = some c := by
  unfold ceilOf
  cases hf : ws.findIdx? fun w => w.holds.any fun h => decide (h.th = q.th) with
  | some c => exact ⟨c, rfl⟩
  | none =>
    have := List.findIdx?_eq_none_iff.mp hf w hw
    rw [List.any_eq_false] at this
    exact absurd (decide_eq_true rfl) (this q hq)
def z1z : FS := fun xs Q _ => ∃ (ws : List Wk) (k : Nat), xs = [dutyD ws, .int k] ∧ k < ws.length ∧ ws.length ≤ 1000 ∧ Q (.d (.int (holdUp (ws.map Wk.holds) k)))
theorem zfy : ∀ xs QD QE, z1z xs QD QE → xs.length = 2 := fun xs _ _ ⟨_, _, h, _⟩ => by rw [h]; rfl
theorem zj9 : ∀ xs QD QE, z1z xs QD QE → z8s (fEnds QD QE) (rho0 7 xs) := by
  rintro xs QD QE ⟨ws, k, rfl, hk, hl, h⟩
  walk_at "M_hold_up"
  unfold dutyD
  walk_at "M_hold_up"
  refine ⟨ws, rfl, ?_⟩
  walk_at "M_hold_up"
  have er : rngD ((k : Int) + 1) ((ws.length : Int) - ((k : Int) + 1)) = (List.range (ws.length - (k + 1))).map fun j : Nat => D.int ((k + 1 + j : Nat) : Int) := by
    unfold rngD
    rw [show ((ws.length : Int) - ((k : Int) + 1)).toNat = ws.length - (k + 1) by omega]
    refine List.map_congr_left fun i _ => ?_
    rw [show (k : Int) + 1 + (i : Int) = ((k + 1 + i : Nat) : Int) by omega]
  rw [er]
  refine for_t (fun j ρ => ∃ (m : Int) (o3 o4 o5 o6 : Option C), ρ = [some (.d (dutyD ws)), some (.d (.int k)), some (.d (.int m)), o3, o4, o5, o6] ∧ m = (((((ws.map Wk.holds).drop (k + 1)).take j).flatten.filterMap fun q => if q.th ∈ strongs (ws.map Wk.holds) k then some (q.en - q.st - 1) else none)).foldl max 0) (fun j i ρ N hj ⟨m, o3, o4, o5, o6, ho, hm⟩ hN => ?_) (fun ρ ⟨m, o3, o4, o5, o6, ho, hm⟩ => ?_) ⟨0, _, _, _, _, rfl, rfl⟩
  · subst ho
    obtain ⟨rfl, hj1⟩ := range_at hj
    obtain ⟨w, hw⟩ := at_lt (l := ws) (k := k + 1 + i) (by omega)
    have hw2 : ((ws.map Wk.holds).drop (k + 1))[i]? = some w.holds := by rw [List.getElem?_drop, List.getElem?_map, hw]; rfl
    walk_at "M_hold_up"
    refine ⟨ws, k + 1 + i, w, rfl, hw, ?_⟩
    unfold Wk.d
    walk_at "M_hold_up"
    refine ⟨w, rfl, ?_⟩
    walk_at "M_hold_up"
    refine for_t (fun j ρ => ∃ (m2 : Int) (o4 o5 o6 : Option C), ρ = [some (.d (dutyD ws)), some (.d (.int k)), some (.d (.int m2)), some (.d (.int ((k + 1 + i : Nat) : Int))), o4, o5, o6] ∧ m2 = (((w.holds.take j).filterMap fun q => if q.th ∈ strongs (ws.map Wk.holds) k then some (q.en - q.st - 1) else none)).foldl max m) (fun j q ρ N2 hj2 ⟨m2, o4, o5, o6, ho, hm2⟩ hN2 => ?_) (fun ρ ⟨m2, o4, o5, o6, ho, hm2⟩ => ?_) ⟨m, _, _, _, rfl, rfl⟩
    · subst ho
      obtain ⟨c, hc⟩ := ceil_some (mem_of_at hw) (mem_of_at hj2)
      rw [Hd.d_eq]
      walk_at "M_hold_up"
      refine ⟨ws, q.th, rfl, hl, ?_⟩
      rw [hc]
      unfold natD
      walk_at "M_hold_up"
      have hcs := ceil_strong hk hc
      refine ite_d (fun h1 => ?_) (fun h1 => ?_)
      · walk_at "M_hold_up"
        refine hN2 _ ⟨_, _, _, _, rfl, ?_⟩
        rw [take_snoc hj2, List.filterMap_append, List.foldl_append, ← hm2]
        have : q.th ∈ strongs (ws.map Wk.holds) k := hcs.mp (by omega)
        simp [this]
      · walk_at "M_hold_up"
        refine hN2 _ ⟨_, _, _, _, rfl, ?_⟩
        rw [take_snoc hj2, List.filterMap_append, List.foldl_append, ← hm2]
        have : ¬ q.th ∈ strongs (ws.map Wk.holds) k := fun z => h1 (by have := hcs.mpr z; omega)
        simp [this]
    · subst ho
      refine hN _ ⟨_, _, _, _, _, rfl, ?_⟩
      rw [flat_take hw2, List.filterMap_append, List.foldl_append, ← hm, hm2, List.take_length]
  · subst ho
    walk_at "M_hold_up"
    rw [List.length_range, List.take_of_length_le (by rw [List.length_drop, List.length_map]; exact Nat.le_refl _)] at hm
    rw [hm]
    exact h
def z35 : DS := (dRet (dCall zg (dConsA (dOp dAdd (dL 1) (dFld [.Work] .late (dL 0))) (dConsA (dFld [.Work] .gap (dL 0)) dNilA)) []))
def z2y : DS := dSeq (dIf (dTst cLt (dL 1) (dC (.int 1))) (dRet (dC (.int 0))) dNext) z35
local macro_rules | `(tactic| walk_at "M_comings_in") => `(tactic| repeat (first | walk_at "e" | walk_at "s" | (with_reducible show z35 _ _; simp only [z35]) | (with_reducible show z2y _ _; simp only [z2y])))
def comIn (gap late span : Int) : Int := if span < 1 then 0 else divUp (span + late) gap
def zu : FS := fun xs Q _ => ∃ (fs : List (Fd × D)) (g a s : Int), xs = [.obj .Work fs, .int s] ∧ fs.lookup .gap = some (.int g) ∧ fs.lookup .late = some (.int a) ∧ 0 < g ∧ big g < 9000 ∧ Q (.d (.int (comIn g a s)))
theorem zdi : ∀ xs QD QE, zu xs QD QE → xs.length = 2 := fun xs _ _ ⟨_, _, _, _, h, _⟩ => by rw [h]; rfl
theorem zgg : ∀ xs QD QE, zu xs QD QE → z2y (fEnds QD QE) (rho0 2 xs) := by
  rintro xs QD QE ⟨fs, g, a, s, rfl, hg, ha, h0, h1, h⟩
  simp only [z2y]
  walk_at "d"
  unfold comIn at h
  by_cases hs : s < 1
  · simpa [hs] using h
  · simp only [hs, decide_false, if_false] at h ⊢
    walk_at "d"
    simp only [z35]
    walk_at "d"
    rw [ha, hg]
    walk_at "d"
    exact ⟨_, _, rfl, h0, h1, h⟩
theorem comIn_mono {g a s t : Int} (hg : 0 < g) (ha : 0 ≤ a) (h : s ≤ t) : comIn g a s ≤ comIn g a t := by
  unfold comIn
  by_cases h1 : s < 1
  · rw [if_pos h1]
    split
    · exact Int.le_refl _
    · exact divUp_pos hg (by omega)
  · rw [if_neg h1, if_neg (by omega)]
    exact divUp_mono hg (by omega)
theorem comIn_nn {g a s : Int} (hg : 0 < g) (ha : 0 ≤ a) : 0 ≤ comIn g a s := by
  unfold comIn
  split
  · exact Int.le_refl _
  · exact divUp_pos hg (by omega)
def z7j : DS := (dRetL 3)
def z7k : DS := dSeq (dIf (dAnd (dTst cGt (dL 1) (dC (.int 1))) (dTst cNe (dOp dMod (dOp dIx (dL 0) (dC (.int 0))) (dC (.int 3))) (dC (.int 0)))) (dSeq (dSet 4 (dOp dMod (dOp dIx (dL 0) (dC (.int 1))) (dOp dSub (dL 1) (dC (.int 1))))) (dSeq (dSet 5 (dOp dAdd (dOp dAdd (dL 4) (dC (.int 1))) (dOp dMod (dOp dIx (dL 0) (dC (.int 2))) (dOp dSub (dOp dSub (dL 1) (dC (.int 1))) (dL 4))))) (dSeq (dApp 3 (dTup (dConsA (dOp dIx (dL 2) (dOp dMod (dOp dDiv (dOp dIx (dL 0) (dC (.int 0))) (dC (.int 3))) (dC (.int 2)))) (dConsA (dV 4) (dConsA (dV 5) dNilA))))) (dIf (dAnd (dTst cEq (dOp dMod (dOp dIx (dL 0) (dC (.int 3))) (dC (.int 2))) (dC (.int 0))) (dTst cLt (dL 5) (dOp dSub (dL 1) (dC (.int 1))))) (dApp 3 (dTup (dConsA (dOp dIx (dL 2) (dOp dMod (dOp dDiv (dOp dIx (dL 0) (dC (.int 3))) (dC (.int 2))) (dC (.int 2)))) (dConsA (dV 5) (dConsA (dOp dAdd (dOp dAdd (dL 5) (dC (.int 1))) (dOp dMod (dOp dIx (dL 0) (dC (.int 4))) (dOp dSub (dOp dSub (dL 1) (dC (.int 1))) (dL 5)))) dNilA))))) dNext)))) dNext) z7j
def zea : DS := dSeq (dSetO 3 (dLst dNilA)) z7k
local macro_rules | `(tactic| walk_at "L_holds_v2") => `(tactic| repeat (first | walk_at "e" | walk_at "s" | (with_reducible show z7j _ _; simp only [z7j]) | (with_reducible show z7k _ _; simp only [z7k]) | (with_reducible show zea _ _; simp only [zea])))
theorem hs_two {l s e s2 e2 : Int} {x y : Str} (hx : nameOk (.str x) = true) (hy : nameOk (.str y) = true) (h0 : 0 ≤ s) (h1 : s < e) (h2 : e < l) (h3 : e ≤ s2) (h4 : s2 < e2) (h5 : e2 < l) : hsGood l [⟨x, s, e⟩, ⟨y, s2, e2⟩] := by
  refine ⟨by simp, ?_⟩
  have a : holdOk l (Hd.d ⟨x, s, e⟩) = true := by
    show (nameOk (.str x) && (decide (0 ≤ s) && (decide (s < e) && decide (e < l)))) = true
    simp [hx, h0, h1, h2]
  have b : holdOk l (Hd.d ⟨y, s2, e2⟩) = true := by
    show (nameOk (.str y) && (decide (0 ≤ s2) && (decide (s2 < e2) && decide (e2 < l)))) = true
    simp [hy, h4, h5]
    omega
  show (holdOk l (Hd.d ⟨x, s, e⟩) && (true && (holdOk l (Hd.d ⟨y, s2, e2⟩) && ((togOk ⟨x, s, e⟩ ⟨y, s2, e2⟩ && true) && true)))) = true
  rw [a, b]
  unfold togOk
  simp [h3]
theorem hs_one {l s e : Int} {x : Str} (hx : nameOk (.str x) = true) (h0 : 0 ≤ s) (h1 : s < e) (h2 : e < l) : hsGood l [⟨x, s, e⟩] := by
  refine ⟨by simp, ?_⟩
  have a : holdOk l (Hd.d ⟨x, s, e⟩) = true := by
    show (nameOk (.str x) && (decide (0 ≤ s) && (decide (s < e) && decide (e < l)))) = true
    simp [hx, h0, h1, h2]
  show (holdOk l (Hd.d ⟨x, s, e⟩) && (true && true)) = true
  rw [a]
  rfl
theorem hs_nil {l : Int} : hsGood l [] := ⟨by simp, rfl⟩
def z95 : DS := (dAug 3 dAddI (dOp dMul (dCall zu (dConsA (dV 5) (dConsA (dV 2) dNilA)) []) (dFld [.Work] .length (dL 5))))
def zbn : DS := dSeq (dSet 5 (dMeth (altL [(.Duty, z7)]) (dV 0) (dConsA (dV 4) dNilA) [])) z95
def zco : DS := (dRetL 3)
def zcp : DS := dSeq (dFor (.one 4) (dRng1 (dConsA (dL 1) dNilA)) zbn) zco
def zcq : DS := dSeq (dSet 3 (dOp dAdd (dCall z1z (dConsA (dV 0) (dConsA (dV 1) dNilA)) []) (dFld [.Work] .length (dMeth (altL [(.Duty, z7)]) (dV 0) (dConsA (dV 1) dNilA) [])))) zcp
local macro_rules | `(tactic| walk_at "M_load") => `(tactic| repeat (first | walk_at "e" | walk_at "s" | (with_reducible show z95 _ _; simp only [z95]) | (with_reducible show zbn _ _; simp only [zbn]) | (with_reducible show zco _ _; simp only [zco]) | (with_reducible show zcp _ _; simp only [zcp]) | (with_reducible show zcq _ _; simp only [zcq])))
def loadG (hss : List (List Hd)) (ls : List Int) (ts : List (Int × Int × Int)) (k : Nat) (s : Int) : Int := holdUp hss k + ls.getD k 0 + ((ts.take k).map fun t => comIn t.1 t.2.1 s * t.2.2).sum
def loadOf (ws : List Wk) (k : Nat) (s : Int) : Int := loadG (ws.map Wk.holds) (ws.map Wk.length) (ws.map Wk.tri) k s
theorem comIn_b {g a s : Int} (hg : 0 < g) (ha : 0 ≤ a) (ha2 : a < 10 ^ 61) (h0 : -(10 ^ 150) < s) (h1 : s < 10 ^ 150) : 0 ≤ comIn g a s ∧ comIn g a s < 10 ^ 160 := by
  unfold comIn
  split
  · exact ⟨Int.le_refl _, by decide⟩
  · have h2 := divUp_pos (t := s + a) hg (by omega)
    have h3 := divUp_abs (t := s + a) hg
    omega
def z28 : FS := fun xs Q _ => ∃ (ws : List Wk) (k : Nat) (s : Int), xs = [dutyD ws, .int k, .int s] ∧ k < ws.length ∧ ws.length ≤ 1000 ∧ (∀ w ∈ ws, w.ok) ∧ (-(10 ^ 150) < s ∧ s < 10 ^ 150) ∧ Q (.d (.int (loadOf ws k s)))
theorem zi9 : ∀ xs QD QE, z28 xs QD QE → xs.length = 3 := fun xs _ _ ⟨_, _, _, h, _⟩ => by rw [h]; rfl
theorem zl3 : ∀ xs QD QE, z28 xs QD QE → zcq (fEnds QD QE) (rho0 6 xs) := by
  rintro xs QD QE ⟨ws, k, s, rfl, hk, hl, hok, ⟨hs1, hs2⟩, h⟩
  obtain ⟨w, hw⟩ := at_lt hk
  walk_at "M_load"
  refine ⟨ws, k, rfl, hk, hl, ?_⟩
  unfold dutyD
  walk_at "M_load"
  refine ⟨ws, k, w, rfl, hw, ?_⟩
  unfold Wk.d workFs
  walk_at "M_load"
  refine for_rng (fun j ρ => ∃ (m : Int) (o4 o5 : Option C), ρ = [some (.d (dutyD ws)), some (.d (.int k)), some (.d (.int s)), some (.d (.int m)), o4, o5] ∧ m = holdUp (ws.map Wk.holds) k + w.length + (((ws.map Wk.tri).take j).map fun t => comIn t.1 t.2.1 s * t.2.2).sum) k (fun j ρ N hj ⟨m, o4, o5, ho, hm⟩ hN => ?_) (fun ρ ⟨m, o4, o5, ho, hm⟩ => ?_) ⟨_, _, _, rfl, by simp⟩
  · subst ho
    obtain ⟨v, hv⟩ := at_lt (l := ws) (k := j) (by omega)
    have hvo := hok v (mem_of_at hv)
    have hb := comIn_b (s := s) (show 0 < v.gap by have := hvo.gap; omega) hvo.late hvo.lateb hs1 hs2
    have hl1 := hvo.len
    have hl2 := hvo.lenb
    walk_at "M_load"
    refine ⟨ws, j, v, rfl, hv, ?_⟩
    unfold Wk.d workFs
    walk_at "M_load"
    refine ⟨_, v.gap, v.late, s, rfl, rfl, rfl, by have := hvo.gap; omega, hvo.sane.2, ?_⟩
    walk_at "M_load"
    refine ⟨mul_of (by omega) (by omega) (by omega) (by omega), ?_⟩
    refine hN _ ⟨_, _, _, rfl, ?_⟩
    have ht : (ws.map Wk.tri)[j]? = some v.tri := by rw [List.getElem?_map, hv]; rfl
    rw [take_snoc ht, List.map_append, List.sum_append, hm]
    simp [Wk.tri]
    omega
  · subst ho
    walk_at "M_load"
    have e : loadOf ws k s = m := by
      unfold loadOf loadG
      rw [hm, List.getD_eq_getElem?_getD, List.getElem?_map, hw]
      rfl
    rw [← e]
    exact h
def z7l : DS := (dIf (dTst cIn (dL 4) (dLc (.one 8) (dItL (dOp dIx (dL 7) (dC (.int 4)))) dYes (dOp dIx (dL 8) (dC (.int 0))) [8])) (dSet 2 (dCB fMax2 (dConsA (dL 2) (dConsA (dOp dSub (dOp dSub (dL 6) (dL 5)) (dC (.int 1))) dNilA)))) dNext)
def z7m : DS := (dFor (.one 7) (dItL (dSl (dL 0) dNo (dSome (dOp dAdd (dL 1) (dC (.int 1)))))) z7l)
def z7n : DS := (dFor (.many [4, 5, 6]) (dItL (dOp dIx (dL 3) (dC (.int 4)))) z7m)
def z96 : DS := (dRetL 2)
def z97 : DS := dSeq (dFor (.one 3) (dItL (dSl (dL 0) (dSome (dOp dAdd (dL 1) (dC (.int 1)))) dNo)) z7n) z96
def z8t : DS := dSeq (dSet 2 (dC (.int 0))) z97
local macro_rules | `(tactic| walk_at "L_held_up") => `(tactic| repeat (first | walk_at "e" | walk_at "s" | (with_reducible show z7l _ _; simp only [z7l]) | (with_reducible show z7m _ _; simp only [z7m]) | (with_reducible show z7n _ _; simp only [z7n]) | (with_reducible show z96 _ _; simp only [z96]) | (with_reducible show z97 _ _; simp only [z97]) | (with_reducible show z8t _ _; simp only [z8t])))
theorem strongs_mem {hss : List (List Hd)} {k : Nat} {x : Str} : x ∈ strongs hss k ↔ ∃ hs ∈ hss.take (k + 1), ∃ q ∈ hs, q.th = x := by
  unfold strongs
  constructor
  · intro h
    obtain ⟨q, hq, rfl⟩ := List.mem_map.mp h
    obtain ⟨hs, h1, h2⟩ := List.mem_flatten.mp hq
    exact ⟨hs, h1, q, h2, rfl⟩
  · rintro ⟨hs, h1, q, h2, rfl⟩
    exact List.mem_map.mpr ⟨q, List.mem_flatten.mpr ⟨hs, h1, h2⟩, rfl⟩
def z1g : FS := fun xs Q _ => ∃ (ps : List Pz) (k : Nat), xs = [.lst (ps.map Pz.t5), .int k] ∧ (∀ p ∈ ps, p.holds.length ≤ 100) ∧ Q (.d (.int (holdUp (ps.map Pz.holds) k)))
theorem zfz : ∀ xs QD QE, z1g xs QD QE → xs.length = 2 := fun xs _ _ ⟨_, _, h, _⟩ => by rw [h]; rfl
theorem zja : ∀ xs QD QE, z1g xs QD QE → z8t (fEnds QD QE) (rho0 9 xs) := by
  rintro xs QD QE ⟨ps, k, rfl, hh, h⟩
  walk_at "L_held_up"
  have c1 : cutD (ps.map Pz.t5) none (some ((k : Int) + 1)) = (ps.take (k + 1)).map Pz.t5 := by
    rw [show (k : Int) + 1 = ((k + 1 : Nat) : Int) by omega, cut_hi, List.map_take]
  have c2 : cutD (ps.map Pz.t5) (some ((k : Int) + 1)) none = (ps.drop (k + 1)).map Pz.t5 := by
    rw [show (k : Int) + 1 = ((k + 1 : Nat) : Int) by omega, cut_lo, List.map_drop]
  rw [c2]
  generalize hE : ps.map Pz.holds = hss at h
  refine for_t (fun j ρ => ∃ (m : Int) (o3 o4 o5 o6 o7 : Option C), ρ = [some (.d (.lst (ps.map Pz.t5))), some (.d (.int k)), some (.d (.int m)), o3, o4, o5, o6, o7, none] ∧ m = (((hss.drop (k + 1)).take j).flatten.filterMap fun q => if q.th ∈ strongs hss k then some (q.en - q.st - 1) else none).foldl max 0) (fun j p ρ N hj ⟨m, o3, o4, o5, o6, o7, ho, hm⟩ hN => ?_) (fun ρ ⟨m, o3, o4, o5, o6, o7, ho, hm⟩ => ?_) ⟨0, _, _, _, _, _, rfl, rfl⟩
  · subst ho
    have hj2 : (hss.drop (k + 1))[j]? = some p.holds := by
      rw [← hE, ← List.map_drop, List.getElem?_map, hj]; rfl
    rw [Pz.t5_eq]
    walk_at "L_held_up"
    refine for_t (fun i ρ => ∃ (m2 : Int) (o4 o5 o6 o7 : Option C), ρ = [some (.d (.lst (ps.map Pz.t5))), some (.d (.int k)), some (.d (.int m2)), some (.d (.tup [.int p.gap, .int p.length, .int p.due, .int p.late, .lst (p.holds.map Hd.d)])), o4, o5, o6, o7, none] ∧ m2 = ((p.holds.take i).filterMap fun q => if q.th ∈ strongs hss k then some (q.en - q.st - 1) else none).foldl max m) (fun i q ρ N2 hi ⟨m2, o4, o5, o6, o7, ho, hm2⟩ hN2 => ?_) (fun ρ ⟨m2, o4, o5, o6, o7, ho, hm2⟩ => ?_) ⟨m, _, _, _, _, rfl, rfl⟩
    · subst ho
      rw [Hd.d_eq]
      walk_at "L_held_up"
      rw [c1]
      refine for_t (fun l ρ => ∃ (o7 : Option C), ρ = [some (.d (.lst (ps.map Pz.t5))), some (.d (.int k)), some (.d (.int (if (∃ hs ∈ (hss.take (k + 1)).take l, ∃ q2 ∈ hs, q2.th = q.th) then max m2 (q.en - q.st - 1) else m2))), some (.d (.tup [.int p.gap, .int p.length, .int p.due, .int p.late, .lst (p.holds.map Hd.d)])), some (.d (.str q.th)), some (.d (.int q.st)), some (.d (.int q.en)), o7, none]) (fun l p2 ρ N3 hl ⟨o7, ho⟩ hN3 => ?_) (fun ρ ⟨o7, ho⟩ => ?_) ⟨_, by rw [if_neg (by simp)]⟩
      · subst ho
        have hl2 : (hss.take (k + 1))[l]? = some p2.holds := by
          rw [← hE, ← List.map_take, List.getElem?_map, hl]; rfl
        have hp2 := hh p2 (List.mem_of_mem_take (mem_of_at hl))
        rw [Pz.t5_eq]
        walk_at "L_held_up"
        refine lc_tm (fun q => .str q.th) (fun q2 _ N4 hN4 => ?_) (by rw [sizeLine_eq]; omega) ?_
        · rw [Hd.d_eq]
          walk_at "L_held_up"
          exact hN4
        rw [show (p2.holds.map fun q => D.str q.th) = (p2.holds.map Hd.th).map .str by rw [List.map_map]; rfl]
        walk_at "L_held_up"
        have hx : (∃ hs ∈ (hss.take (k + 1)).take (l + 1), ∃ q2 ∈ hs, q2.th = q.th) ↔ (∃ hs ∈ (hss.take (k + 1)).take l, ∃ q2 ∈ hs, q2.th = q.th) ∨ q.th ∈ p2.holds.map Hd.th := by
          rw [take_snoc hl2]
          constructor
          · rintro ⟨hs, h1, q2, h2, h3⟩
            rcases List.mem_append.mp h1 with z | z
            · exact .inl ⟨hs, z, q2, h2, h3⟩
            · rw [List.mem_singleton.mp z] at h2
              exact .inr (List.mem_map.mpr ⟨q2, h2, h3⟩)
          · rintro (⟨hs, h1, q2, h2, h3⟩ | z)
            · exact ⟨hs, List.mem_append_left _ h1, q2, h2, h3⟩
            · obtain ⟨q2, h2, h3⟩ := List.mem_map.mp z
              exact ⟨p2.holds, List.mem_append_right _ List.mem_cons_self, q2, h2, h3⟩
        refine ite_d (fun h1 => ?_) (fun h1 => ?_)
        · walk_at "L_held_up"
          have e : max (if (∃ hs ∈ (hss.take (k + 1)).take l, ∃ q2 ∈ hs, q2.th = q.th) then max m2 (q.en - q.st - 1) else m2) (q.en - q.st - 1) = if (∃ hs ∈ (hss.take (k + 1)).take (l + 1), ∃ q2 ∈ hs, q2.th = q.th) then max m2 (q.en - q.st - 1) else m2 := by
            rw [if_pos (hx.mpr (.inr h1))]
            split <;> omega
          rw [e]
          exact hN3 _ ⟨_, rfl⟩
        · walk_at "L_held_up"
          have e : (if (∃ hs ∈ (hss.take (k + 1)).take l, ∃ q2 ∈ hs, q2.th = q.th) then max m2 (q.en - q.st - 1) else m2) = if (∃ hs ∈ (hss.take (k + 1)).take (l + 1), ∃ q2 ∈ hs, q2.th = q.th) then max m2 (q.en - q.st - 1) else m2 := by
            by_cases z : ∃ hs ∈ (hss.take (k + 1)).take l, ∃ q2 ∈ hs, q2.th = q.th
            · rw [if_pos z, if_pos (hx.mpr (.inl z))]
            · rw [if_neg z, if_neg (fun w => (hx.mp w).elim z h1)]
          rw [e]
          exact hN3 _ ⟨_, rfl⟩
      · subst ho
        refine hN2 _ ⟨(if (∃ hs ∈ (hss.take (k + 1)).take (ps.take (k + 1)).length, ∃ q2 ∈ hs, q2.th = q.th) then max m2 (q.en - q.st - 1) else m2), _, _, _, _, rfl, ?_⟩
        rw [take_snoc hi, List.filterMap_append, List.foldl_append, ← hm2]
        have e : (∃ hs ∈ (hss.take (k + 1)).take (ps.take (k + 1)).length, ∃ q2 ∈ hs, q2.th = q.th) ↔ q.th ∈ strongs hss k := by
          rw [strongs_mem, List.take_of_length_le (by rw [← hE, List.length_take, List.length_take, List.length_map]; omega)]
        by_cases z : q.th ∈ strongs hss k
        · rw [if_pos (e.mpr z)]; simp [z]
        · rw [if_neg (fun w => z (e.mp w))]; simp [z]
    · subst ho
      refine hN _ ⟨_, _, _, _, _, _, rfl, ?_⟩
      rw [flat_take hj2, List.filterMap_append, List.foldl_append, ← hm, hm2, List.take_length]
  · subst ho
    walk_at "L_held_up"
    rw [List.length_drop, List.take_of_length_le (by rw [List.length_drop, ← hE, List.length_map]; exact Nat.le_refl _)] at hm
    rw [hm]
    exact h
def z5d : DS := (dFz 8 (dApp 1 (dMake .Work ze (dConsA (dOp dMul (dC (.str "w")) (dOp dAdd (dC (.int 1)) (dL 2))) (dConsA (dV 3) (dConsA (dV 4) (dConsA (dV 5) (dConsA (dV 6) (dConsA (dV 8) dNilA)))))) [])))
def z5e : DS := dSeq (dIf (dAnd (dTst cEq (dOp dMod (dL 7) (dC (.int 3))) (dC (.int 0))) (dTst cGt (dL 4) (dC (.int 1)))) (dApp 8 (dTup (dConsA (dC (.str "ink")) (dConsA (dOp dMod (dOp dDiv (dL 7) (dC (.int 3))) (dOp dSub (dL 4) (dC (.int 1)))) (dConsA (dOp dSub (dL 4) (dC (.int 1))) dNilA))))) dNext) z5d
def z5f : DS := dSeq (dSetO 8 (dLst dNilA)) z5e
def z7o : DS := dSeq (dUnp [3, 4, 5, 6, 7] (dOp dIx (dL 0) (dL 2))) z5f
def z98 : DS := (dFz 1 (dRet (dMake .Duty zb (dConsA (dV 1) dNilA) [])))
def z99 : DS := dSeq (dFor (.one 2) (dRng1 (dConsA (dCB fLen (dConsA (dL 0) dNilA)) dNilA)) z7o) z98
def zfp : DS := dSeq (dSetO 1 (dLst dNilA)) z99
local macro_rules | `(tactic| walk_at "L_made_v1") => `(tactic| repeat (first | walk_at "e" | walk_at "s" | (with_reducible show z5d _ _; simp only [z5d]) | (with_reducible show z5e _ _; simp only [z5e]) | (with_reducible show z5f _ _; simp only [z5f]) | (with_reducible show z7o _ _; simp only [z7o]) | (with_reducible show z98 _ _; simp only [z98]) | (with_reducible show z99 _ _; simp only [z99]) | (with_reducible show zfp _ _; simp only [zfp])))
theorem names_nodup {ws : List Wk} {nm : Nat → Str} {n : Nat} (h : ws.map Wk.name = (List.range n).map nm) (hi : ∀ i j, i < n → j < n → nm i = nm j → i = j) : (ws.map Wk.name).Nodup := by
  rw [h]
  unfold List.Nodup
  rw [List.pairwise_map]
  refine List.Pairwise.imp_of_mem ?_ List.pairwise_lt_range
  intro a b ha hb hab e
  have := hi a b (List.mem_range.mp ha) (List.mem_range.mp hb) e
  omega
def z7p : DS := (dRetL 2)
def z7q : DS := dSeq (dIf (dAnd (dTst cGt (dL 1) (dC (.int 1))) (dTst cEq (dOp dMod (dOp dIx (dL 0) (dC (.int 0))) (dC (.int 4))) (dC (.int 0)))) (dSeq (dSet 3 (dOp dMod (dOp dIx (dL 0) (dC (.int 1))) (dOp dSub (dL 1) (dC (.int 1))))) (dSeq (dSet 4 (dOp dAdd (dOp dAdd (dL 3) (dC (.int 1))) (dOp dMod (dOp dIx (dL 0) (dC (.int 2))) (dOp dSub (dOp dSub (dL 1) (dC (.int 1))) (dL 3))))) (dSeq (dApp 2 (dTup (dConsA (dOp dIx (dLst (dConsA (dC (.str "ink")) (dConsA (dC (.str "oven")) dNilA))) (dOp dMod (dOp dDiv (dOp dIx (dL 0) (dC (.int 0))) (dC (.int 4))) (dC (.int 2)))) (dConsA (dV 3) (dConsA (dV 4) dNilA))))) (dIf (dAnd (dTst cEq (dOp dMod (dOp dIx (dL 0) (dC (.int 3))) (dC (.int 2))) (dC (.int 0))) (dTst cLt (dL 4) (dOp dSub (dL 1) (dC (.int 1))))) (dApp 2 (dTup (dConsA (dOp dIx (dLst (dConsA (dC (.str "ink")) (dConsA (dC (.str "oven")) dNilA))) (dOp dMod (dOp dDiv (dOp dIx (dL 0) (dC (.int 3))) (dC (.int 2))) (dC (.int 2)))) (dConsA (dV 4) (dConsA (dOp dAdd (dOp dAdd (dL 4) (dC (.int 1))) (dOp dMod (dOp dIx (dL 0) (dC (.int 4))) (dOp dSub (dOp dSub (dL 1) (dC (.int 1))) (dL 4)))) dNilA))))) dNext)))) dNext) z7p
def z60 : DS := dSeq (dSetO 2 (dLst dNilA)) z7q
local macro_rules | `(tactic| walk_at "L_holds_v3") => `(tactic| repeat (first | walk_at "e" | walk_at "s" | (with_reducible show z7p _ _; simp only [z7p]) | (with_reducible show z7q _ _; simp only [z7q]) | (with_reducible show z60 _ _; simp only [z60])))
def z1j : FS := fun xs Q _ => ∃ (ms : List Int) (l : Int) (m : Nat), xs = [.lst (ms.map .int), .int l] ∧ (5 ≤ m ∧ drawn m ms) ∧ 1 ≤ l ∧ ∀ hs : List Hd, hsGood l hs → Q (.nl (hs.map Hd.d))
theorem zf6 : ∀ xs QD QE, z1j xs QD QE → xs.length = 2 := fun xs _ _ ⟨_, _, _, h, _⟩ => by rw [h]; rfl
theorem zia : ∀ xs QD QE, z1j xs QD QE → z60 (fEnds QD QE) (rho0 5 xs) := by
  rintro xs QD QE ⟨ms, l, m, rfl, ⟨hm5, hd⟩, hl, h⟩
  obtain ⟨x0, e0, a0, _⟩ := drawn_get hd (k := 0) (by omega)
  obtain ⟨x1, e1, a1, _⟩ := drawn_get hd (k := 1) (by omega)
  obtain ⟨x2, e2, a2, _⟩ := drawn_get hd (k := 2) (by omega)
  obtain ⟨x3, e3, a3, _⟩ := drawn_get hd (k := 3) (by omega)
  obtain ⟨x4, e4, a4, _⟩ := drawn_get hd (k := 4) (by omega)
  have hwn : ∀ x ∈ (["ink", "oven"] : List Str), nameOk (.str x) = true := by decide +kernel
  walk_at "L_holds_v3"
  refine ite_d (fun h1 => ?_) (fun h1 => ?_)
  · walk_at "L_holds_v3"
    rw [e0]
    walk_at "L_holds_v3"
    refine ite_d (fun h2 => ?_) (fun h2 => ?_)
    rotate_left
    · walk_at "L_holds_v3"
      exact h [] hs_nil
    walk_at "L_holds_v3"
    rw [e1]
    walk_at "L_holds_v3"
    have b1 := emod_b x1 (show 0 < l - 1 by omega)
    generalize x1 % (l - 1) = s at b1 ⊢
    rw [e2]
    walk_at "L_holds_v3"
    have b2 := emod_b x2 (show 0 < l - 1 - s by omega)
    generalize x2 % (l - 1 - s) = y at b2 ⊢
    obtain ⟨w, hw1, hw2, _⟩ := ix_i (enc := D.str) (l := (["ink", "oven"] : List Str)) (i := x0 / 4 % 2) (by omega) (by simp; omega)
    simp only [List.map_cons, List.map_nil] at hw1
    rw [hw1]
    walk_at "L_holds_v3"
    rw [e3]
    walk_at "L_holds_v3"
    have g1 := hs_one (hwn w hw2) b1.1 (show s < s + 1 + y by omega) (show s + 1 + y < l by omega)
    refine ite_d (fun h3 => ?_) (fun h3 => ?_)
    · walk_at "L_holds_v3"
      refine ite_d (fun h4 => ?_) (fun h4 => ?_)
      · walk_at "L_holds_v3"
        obtain ⟨v, hv1, hv2, _⟩ := ix_i (enc := D.str) (l := (["ink", "oven"] : List Str)) (i := x3 / 2 % 2) (by omega) (by simp; omega)
        simp only [List.map_cons, List.map_nil] at hv1
        rw [hv1]
        walk_at "L_holds_v3"
        rw [e4]
        walk_at "L_holds_v3"
        have b4 := emod_b x4 (show 0 < l - 1 - (s + 1 + y) by omega)
        exact h [⟨w, s, s + 1 + y⟩, ⟨v, s + 1 + y, s + 1 + y + 1 + x4 % (l - 1 - (s + 1 + y))⟩] (hs_two (hwn w hw2) (hwn v hv2) b1.1 (by omega) (by omega) (by omega) (by omega) (by omega))
      · walk_at "L_holds_v3"
        exact h _ g1
    · walk_at "L_holds_v3"
      exact h _ g1
  · walk_at "L_holds_v3"
    exact h [] hs_nil
def z9a : DS := (dRet (dOp (cmpV cLe) (dOp dAdd (dL 2) (dFld [.Work] .late (dL 3))) (dFld [.Work] .due (dL 3))))
def z8u : DS := dSeq (dSet 3 (dMeth (altL [(.Duty, z7)]) (dV 0) (dConsA (dV 1) dNilA) [])) z9a
local macro_rules | `(tactic| walk_at "M_in_time") => `(tactic| repeat (first | walk_at "e" | walk_at "s" | (with_reducible show z9a _ _; simp only [z9a]) | (with_reducible show z8u _ _; simp only [z8u])))
def z20 : FS := fun xs Q _ => ∃ (ws : List Wk) (k : Nat) (w : Wk) (l : Int), xs = [dutyD ws, .int k, .int l] ∧ ws[k]? = some w ∧ Q (.d (.bl (decide (l + w.late ≤ w.due))))
theorem zg0 : ∀ xs QD QE, z20 xs QD QE → xs.length = 3 := fun xs _ _ ⟨_, _, _, _, h, _⟩ => by rw [h]; rfl
theorem zjb : ∀ xs QD QE, z20 xs QD QE → z8u (fEnds QD QE) (rho0 4 xs) := by
  rintro xs QD QE ⟨ws, k, w, l, rfl, hw, h⟩
  walk_at "M_in_time"
  unfold dutyD
  walk_at "M_in_time"
  refine ⟨ws, k, w, rfl, hw, ?_⟩
  unfold Wk.d workFs
  walk_at "M_in_time"
  exact h
def z61 : DS := (dSet 2 (dV 3))
def z62 : DS := dSeq (dIf (dTst cLe (dL 3) (dL 2)) (dRetL 2) dNext) z61
def z9b : DS := dSeq (dSet 3 (dCall z28 (dConsA (dV 0) (dConsA (dV 1) (dConsA (dV 2) dNilA))) [])) z62
def zai : DS := (dRet (dC .non))
def zaj : DS := dSeq (dWhile (dBool (dCall z20 (dConsA (dV 0) (dConsA (dV 1) (dConsA (dV 2) dNilA))) [])) z9b) zai
def zaa : DS := dSeq (dSet 2 (dCall z28 (dConsA (dV 0) (dConsA (dV 1) (dConsA (dC (.int 1)) dNilA))) [])) zaj
local macro_rules | `(tactic| walk_at "M_answer") => `(tactic| repeat (first | walk_at "e" | walk_at "s" | (with_reducible show z61 _ _; simp only [z61]) | (with_reducible show z62 _ _; simp only [z62]) | (with_reducible show z9b _ _; simp only [z9b]) | (with_reducible show zai _ _; simp only [zai]) | (with_reducible show zaj _ _; simp only [zaj]) | (with_reducible show zaa _ _; simp only [zaa])))
theorem holdUp_nn (hss : List (List Hd)) (k : Nat) : 0 ≤ holdUp hss k := (foldl_max_ge _ 0).1
theorem holdUp_b {ws : List Wk} (h : ∀ w ∈ ws, w.ok) (k : Nat) : holdUp (ws.map Wk.holds) k < 10 ^ 60 := by
  unfold holdUp
  rcases foldl_max_mem (blocks (ws.map Wk.holds) k) 0 with z | z
  · rw [z]; decide
  · generalize (blocks (ws.map Wk.holds) k).foldl max 0 = m at z
    unfold blocks at z
    obtain ⟨q, hq, e⟩ := List.mem_filterMap.mp z
    obtain ⟨hs, h1, h2⟩ := List.mem_flatten.mp hq
    obtain ⟨w, hw, rfl⟩ := List.mem_map.mp (List.mem_of_mem_drop h1)
    have hwo := h w hw
    have hh := hwo.hold h2
    have := hwo.lenb
    split at e
    · cases e; omega
    · cases e
theorem load_mono {ws : List Wk} {k : Nat} {s t : Int} (h : ∀ w ∈ ws, w.ok) (hst : s ≤ t) : loadOf ws k s ≤ loadOf ws k t := by
  unfold loadOf loadG
  have := sum_mono (f := fun t : Int × Int × Int => comIn t.1 t.2.1 s * t.2.2) (g := fun u : Int × Int × Int => comIn u.1 u.2.1 t * u.2.2) ((ws.map Wk.tri).take k) fun a ha => by
    obtain ⟨w, hw, rfl⟩ := List.mem_map.mp (List.mem_of_mem_take ha)
    have hwo := h w hw
    exact Int.mul_le_mul_of_nonneg_right (comIn_mono (by have := hwo.gap; show 0 < w.gap; omega) hwo.late hst) (by have := hwo.len; show 0 ≤ w.length; omega)
  omega
theorem load_b {ws : List Wk} {k : Nat} {w : Wk} {s : Int} (h : ∀ w ∈ ws, w.ok) (hl : ws.length ≤ 1000) (hw : ws[k]? = some w) (h0 : -(10 ^ 70) < s) (h1 : s < 10 ^ 70) : 1 ≤ loadOf ws k s ∧ loadOf ws k s < 10 ^ 150 := by
  have hwo := h w (mem_of_at hw)
  have a1 := hwo.len
  have a2 := hwo.lenb
  have b1 := holdUp_nn (ws.map Wk.holds) k
  have b2 := holdUp_b h k
  have hs := sum_b (f := fun t : Int × Int × Int => comIn t.1 t.2.1 s * t.2.2) (m := (10 ^ 70 + 10 ^ 61 + 1) * 10 ^ 60) ((ws.map Wk.tri).take k) fun a ha => by
    obtain ⟨v, hv, rfl⟩ := List.mem_map.mp (List.mem_of_mem_take ha)
    have hvo := h v hv
    have hg := hvo.gap
    have hl1 := hvo.len
    have hl2 := hvo.lenb
    have hl3 := hvo.late
    have hl4 := hvo.lateb
    have hc : 0 ≤ comIn v.gap v.late s ∧ comIn v.gap v.late s ≤ 10 ^ 70 + 10 ^ 61 + 1 := by
      refine ⟨comIn_nn (by omega) hl3, ?_⟩
      unfold comIn
      split
      · decide
      · have := divUp_abs (t := s + v.late) (b := v.gap) (by omega)
        omega
    exact ⟨Int.mul_nonneg hc.1 (by show 0 ≤ v.length; omega), Int.mul_le_mul hc.2 (by show v.length ≤ _; omega) (by show 0 ≤ v.length; omega) (by omega)⟩
  rw [List.length_take, List.length_map] at hs
  unfold loadOf loadG
  rw [List.getD_eq_getElem?_getD, List.getElem?_map, hw]
  simp only [Option.map_some, Option.getD_some]
  omega
def z26 : FS := fun xs Q _ => ∃ (ws : List Wk) (k : Nat) (w : Wk), xs = [dutyD ws, .int k] ∧ ws[k]? = some w ∧ ws.length ≤ 1000 ∧ (∀ w ∈ ws, w.ok) ∧ ∀ o, AnsOk (loadOf ws k) (w.due - w.late) o → Q (.d (optI o))
theorem zgh : ∀ xs QD QE, z26 xs QD QE → xs.length = 2 := fun xs _ _ ⟨_, _, _, h, _⟩ => by rw [h]; rfl
theorem zko : ∀ xs QD QE, z26 xs QD QE → zaa (fEnds QD QE) (rho0 4 xs) := by
  rintro xs QD QE ⟨ws, k, w, rfl, hw, hl, hok, h⟩
  have hk : k < ws.length := (List.getElem?_eq_some_iff.mp hw).1
  have hwo := hok w (mem_of_at hw)
  have d1 := hwo.dueb
  have d2 := hwo.gapb
  have d3 := hwo.late
  have hm := fun s t => load_mono (ws := ws) (k := k) (s := s) (t := t) hok
  have hb := fun s => load_b (s := s) hok hl hw
  walk_at "M_answer"
  refine ⟨ws, k, 1, rfl, hk, hl, hok, ⟨by omega, by omega⟩, ?_⟩
  walk_at "M_answer"
  refine while_rule (fun ρ => ∃ (l : Int) (o3 : Option C), ρ = [some (.d (dutyD ws)), some (.d (.int k)), some (.d (.int l)), o3] ∧ 1 ≤ l ∧ ∀ x, 1 ≤ x → x < l → x < loadOf ws k x) (fun ρ => match ρ with | [_, _, some (.d (.int l)), _] => (10 ^ 60 - l).toNat | _ => 0) (fun ρ N ⟨l, o3, ho, h1, h2⟩ hN => ?_) ⟨_, _, rfl, (hb 1 (by omega) (by omega)).1, fun x hx hx2 => Int.lt_of_lt_of_le hx2 (hm 1 x hx)⟩
  subst ho
  walk_at "M_answer"
  refine ⟨ws, k, w, l, rfl, hw, ?_⟩
  walk_at "M_answer"
  refine ite_d (fun h3 => ?_) (fun h3 => ?_)
  · walk_at "M_answer"
    refine ⟨ws, k, l, rfl, hk, hl, hok, ⟨by omega, by omega⟩, ?_⟩
    walk_at "M_answer"
    have hbl := hb l (by omega) (by omega)
    refine ite_d (fun h4 => ?_) (fun h4 => ?_)
    · walk_at "M_answer"
      refine h (some l) ⟨h1, by omega, ?_, h2⟩
      rcases Int.lt_or_le (loadOf ws k l) l with z | z
      · have a1 := h2 _ hbl.1 z
        have a2 := hm _ _ (Int.le_of_lt z)
        omega
      · omega
    · walk_at "M_answer"
      refine hN _ ⟨_, _, rfl, by omega, fun x hx1 hx2 => ?_⟩ ?_
      · rcases Int.lt_or_le x l with z | z
        · exact h2 x hx1 z
        · exact Int.lt_of_lt_of_le hx2 (hm l x z)
      · show (10 ^ 60 - loadOf ws k l).toNat < (10 ^ 60 - l).toNat
        omega
  · walk_at "M_answer"
    exact h none fun x hx1 hx2 => h2 x hx1 (by omega)
def z9c : DS := (dFz 9 (dRet (dMake .Work ze (dConsA (dV 1) (dConsA (dV 5) (dConsA (dV 6) (dConsA (dV 7) (dConsA (dV 8) (dConsA (dV 9) dNilA)))))) [])))
def z9d : DS := dSeq (dIf (dAnd (dTst cEq (dOp dMod (dOp dIx (dL 4) (dC (.int 7))) (dC (.int 3))) (dC (.int 0))) (dTst cGt (dL 6) (dC (.int 1)))) (dSeq (dSet 10 (dOp dMod (dOp dDiv (dOp dIx (dL 4) (dC (.int 7))) (dC (.int 3))) (dOp dSub (dL 6) (dC (.int 1))))) (dSeq (dSet 11 (dOp dAdd (dOp dAdd (dL 10) (dC (.int 1))) (dOp dMod (dOp dIx (dL 4) (dC (.int 6))) (dOp dSub (dOp dSub (dL 6) (dC (.int 1))) (dL 10))))) (dApp 9 (dTup (dConsA (dOp dIx (dLst (dConsA (dC (.str "ink")) (dConsA (dC (.str "oven")) dNilA))) (dOp dMod (dOp dDiv (dOp dIx (dL 4) (dC (.int 3))) (dC (.int 2))) (dC (.int 2)))) (dConsA (dV 10) (dConsA (dV 11) dNilA))))))) dNext) z9c
def z9e : DS := dSeq (dSetO 9 (dLst dNilA)) z9d
def z9f : DS := dSeq (dSet 8 (dOp dMul (dOp dDiv (dOp dMod (dOp dIx (dL 4) (dC (.int 5))) (dC (.int 3))) (dC (.int 2))) (dOp dMod (dOp dIx (dL 4) (dC (.int 6))) (dOp dAdd (dOp dDiv (dL 5) (dC (.int 4))) (dC (.int 1)))))) z9e
def z9g : DS := dSeq (dSet 7 (dOp dSub (dL 5) (dOp dMul (dOp dMod (dOp dIx (dL 4) (dC (.int 3))) (dC (.int 2))) (dOp dMod (dOp dIx (dL 4) (dC (.int 4))) (dOp dAdd (dOp dDiv (dL 5) (dC (.int 2))) (dC (.int 1))))))) z9f
def z9h : DS := dSeq (dSet 6 (dOp dAdd (dC (.int 1)) (dOp dMod (dOp dIx (dL 4) (dC (.int 2))) (dOp dAdd (dOp dDiv (dL 5) (dL 3)) (dC (.int 1)))))) z9g
def z9i : DS := dSeq (dSet 5 (dOp dAdd (dOp dMul (dL 2) (dOp dAdd (dC (.int 1)) (dOp dMod (dOp dIx (dL 4) (dC (.int 0))) (dC (.int 8))))) (dOp dMod (dOp dIx (dL 4) (dC (.int 1))) (dC (.int 5))))) z9h
def zfq : DS := dSeq (dSet 4 (dCall zo (dConsA (dV 0) (dConsA (dC (.int 8)) dNilA)) [])) z9i
local macro_rules | `(tactic| walk_at "L_work_v1") => `(tactic| repeat (first | walk_at "e" | walk_at "s" | (with_reducible show z9c _ _; simp only [z9c]) | (with_reducible show z9d _ _; simp only [z9d]) | (with_reducible show z9e _ _; simp only [z9e]) | (with_reducible show z9f _ _; simp only [z9f]) | (with_reducible show z9g _ _; simp only [z9g]) | (with_reducible show z9h _ _; simp only [z9h]) | (with_reducible show z9i _ _; simp only [z9i]) | (with_reducible show zfq _ _; simp only [zfq])))
def z5g : DS := (dApp 3 (dMake .Work ze (dConsA (dOp dAdd (dC (.str "work")) (dOp dIx (dC (.str "stuvw")) (dL 4))) (dConsA (dV 5) (dConsA (dV 6) (dConsA (dV 7) (dConsA (dV 8) (dConsA (dCB fList (dConsA (dL 9) dNilA)) dNilA)))))) []))
def z5h : DS := dSeq (dIf (dTst cEq (dL 4) (dL 1)) (dSet 6 (dOp dAdd (dL 6) (dL 2))) dNext) z5g
def z7r : DS := dSeq (dUnp [5, 6, 7, 8, 9] (dOp dIx (dL 0) (dL 4))) z5h
def z9j : DS := (dFz 3 (dRet (dMake .Duty zb (dConsA (dV 3) dNilA) [])))
def z9k : DS := dSeq (dFor (.one 4) (dRng1 (dConsA (dCB fLen (dConsA (dL 0) dNilA)) dNilA)) z7r) z9j
def zfr : DS := dSeq (dSetO 3 (dLst dNilA)) z9k
local macro_rules | `(tactic| walk_at "L_duty_v1") => `(tactic| repeat (first | walk_at "e" | walk_at "s" | (with_reducible show z5g _ _; simp only [z5g]) | (with_reducible show z5h _ _; simp only [z5h]) | (with_reducible show z7r _ _; simp only [z7r]) | (with_reducible show z9j _ _; simp only [z9j]) | (with_reducible show z9k _ _; simp only [z9k]) | (with_reducible show zfr _ _; simp only [zfr])))
def Wk.more (w : Wk) (x : Int) : Wk := { w with length := w.length + x }
def grow (ws : List Wk) (a : Nat) (x : Int) : List Wk := ws.mapIdx fun j w => if j = a then w.more x else w
def feas (ws : List Wk) (k : Nat) (far : Int) : Prop := ∃ l, 1 ≤ l ∧ l ≤ far ∧ loadOf ws k l ≤ l
theorem bad_feas {ws : List Wk} {k : Nat} {far : Int} : AnsOk (loadOf ws k) far none ↔ ¬ feas ws k far := by
  constructor
  · rintro h ⟨l, h1, h2, h3⟩
    have := h l h1 h2
    omega
  · intro h x h1 h2
    rcases Int.lt_or_le x (loadOf ws k x) with z | z
    · exact z
    · exact absurd ⟨x, h1, h2, z⟩ h
def zeb : DS := (dRet (dAndV (dCall z9 (dConsA (dV 0) dNilA) []) (dCh cLe cLe (dL 1) (dL 0) (dL 2))))
local macro_rules | `(tactic| walk_at "M_in_range") => `(tactic| repeat (first | walk_at "e" | walk_at "s" | (with_reducible show zeb _ _; simp only [zeb])))
def inR (x : D) (lo hi : Int) : Bool := match x with
  | .int i => decide (lo ≤ i) && decide (i ≤ hi)
  | _ => false
def z9l : FS := fun xs Q _ => ∃ (x : D) (lo hi : Int) (b : Bool), xs = [x, .int lo, .int hi] ∧ isWhole x = some b ∧ Q (.d (.bl (inR x lo hi)))
def z4e : DS := (dRet (dAndV (dCall z9l (dConsA (dOp dIx (dL 1) (dC (.int 2))) (dConsA (dC (.int 0)) (dConsA (dFld [.Work] .late (dL 2)) dNilA))) []) (dCall z9l (dConsA (dOp dIx (dL 1) (dC (.int 3))) (dConsA (dC (.int 1)) (dConsA (dFld [.Work] .length (dL 2)) dNilA))) [])))
def z4f : DS := dSeq (dIf (dOr (dNot (dBool (dCall z9 (dConsA (dOp dIx (dL 1) (dC (.int 1))) dNilA) []))) (dTst cLt (dOp dIx (dL 1) (dC (.int 1))) (dC (.int 0)))) (dRet (dC (.bl false))) dNext) z4e
def z4g : DS := dSeq (dSet 2 (dMeth (altL [(.Duty, z7)]) (dV 0) (dConsA (dOp dIx (dL 1) (dC (.int 0))) dNilA) [])) z4f
def z4h : DS := dSeq (dIf (dNot (dBool (dCall z9l (dConsA (dOp dIx (dL 1) (dC (.int 0))) (dConsA (dC (.int 0)) (dConsA (dOp dSub (dMeth (altL [(.Duty, z8)]) (dV 0) dNilA []) (dC (.int 1))) dNilA))) []))) (dRet (dC (.bl false))) dNext) z4g
def zak : DS := dSeq (dIf (dOr (dNot (dBool (dIs "tuple" (dL 1)))) (dTst cNe (dCB fLen (dConsA (dL 1) dNilA)) (dC (.int 4)))) (dRet (dC (.bl false))) dNext) z4h
local macro_rules | `(tactic| walk_at "M_right_coming") => `(tactic| repeat (first | walk_at "e" | walk_at "s" | (with_reducible show z4e _ _; simp only [z4e]) | (with_reducible show z4f _ _; simp only [z4f]) | (with_reducible show z4g _ _; simp only [z4g]) | (with_reducible show z4h _ _; simp only [z4h]) | (with_reducible show zak _ _; simp only [zak])))
def tame : D → Prop
  | .tup xs => xs.length ≤ 1000 ∧ ∀ y ∈ xs, isWhole y ≠ none
  | .obj _ _ => False
  | .exn _ _ _ => False
  | .box _ => False
  | _ => True
def wholeOn (x : D) (lo : Int) : Bool := match x with
  | .int i => decide (lo ≤ i)
  | _ => false
def rightC (ws : List Wk) : D → Bool
  | .tup [.int i, b, c, d] => decide (0 ≤ i) && (match ws[i.toNat]? with
    | some w => wholeOn b 0 && (inR c 0 w.late && inR d 1 w.length)
    | none => false)
  | _ => false
def zf7 : FS := fun xs Q _ => ∃ (ws : List Wk) (x : D), xs = [dutyD ws, x] ∧ tame x ∧ Q (.d (.bl (rightC ws x)))
def z36 : DS := (dStore 2 (dV 5) (dOp dIx (dL 4) (dC (.int 1))))
def z37 : DS := dSeq (dIf (dAnd (dTst cIn (dL 5) (dL 2)) (dTst cGt (dOp dAdd (dOp dIx (dL 2) (dL 5)) (dFld [.Work] .gap (dMeth (altL [(.Duty, z7)]) (dV 0) (dConsA (dV 5) dNilA) []))) (dOp dIx (dL 4) (dC (.int 1))))) (dRetL 3) dNext) z36
def z38 : DS := dSeq (dSet 5 (dOp dIx (dL 4) (dC (.int 0)))) z37
def z39 : DS := dSeq (dIf (dNot (dBool (dCall zf7 (dConsA (dV 0) (dConsA (dV 4) dNilA)) []))) (dRetL 3) dNext) z38
def z4i : DS := dSeq (dSet 4 (dOp dIx (dL 1) (dL 3))) z39
def z4r : DS := (dRet (dC .non))
def z4s : DS := dSeq (dFor (.one 3) (dRng1 (dConsA (dCB fLen (dConsA (dL 1) dNilA)) dNilA)) z4i) z4r
def zbg : DS := dSeq (dSetO 2 dNewD) z4s
local macro_rules | `(tactic| walk_at "M_first_wrong") => `(tactic| repeat (first | walk_at "e" | walk_at "s" | (with_reducible show z36 _ _; simp only [z36]) | (with_reducible show z37 _ _; simp only [z37]) | (with_reducible show z38 _ _; simp only [z38]) | (with_reducible show z39 _ _; simp only [z39]) | (with_reducible show z4i _ _; simp only [z4i]) | (with_reducible show z4r _ _; simp only [z4r]) | (with_reducible show z4s _ _; simp only [z4s]) | (with_reducible show zbg _ _; simp only [zbg])))
theorem valD_put (kvs : List (Key × D)) (k k' : Key) (x : D) : valD (putD kvs k x) k' = if k' = k then some x else valD kvs k' := by
  unfold valD putD
  by_cases ha : (kvs.any fun kv => decide (kv.1 = k)) = true
  · rw [if_pos ha, List.find?_map]
    have e : ((fun kv : Key × D => decide (kv.1 = k')) ∘ fun kv => if kv.1 = k then (kv.1, x) else kv) = fun kv => decide (kv.1 = k') := by
      funext kv
      show decide ((if kv.1 = k then (kv.1, x) else kv).1 = k') = _
      split <;> rfl
    rw [e]
    cases hf : kvs.find? (fun kv => decide (kv.1 = k')) with
    | none =>
      by_cases h : k' = k
      · subst h
        obtain ⟨kv, h1, h2⟩ := List.any_eq_true.mp ha
        have := List.find?_eq_none.mp hf kv h1
        exact absurd h2 this
      · rw [if_neg h]; rfl
    | some kv =>
      have hk : kv.1 = k' := by
        have := List.find?_some hf
        exact of_decide_eq_true this
      show some (if kv.1 = k then (kv.1, x) else kv).2 = _
      rw [hk]
      by_cases h : k' = k
      · rw [if_pos h, if_pos h]
      · rw [if_neg h, if_neg h]; rfl
  · rw [if_neg ha, List.find?_append]
    cases hf : kvs.find? (fun kv => decide (kv.1 = k')) with
    | none =>
      by_cases h : k' = k
      · subst h; simp
      · have h2 : ¬ k = k' := fun z => h z.symm
        simp [h, h2]
    | some kv =>
      have hk : kv.1 = k' := by
        have := List.find?_some hf
        exact of_decide_eq_true this
      have hn : ¬ k' = k := fun z => ha (List.any_eq_true.mpr ⟨kv, List.mem_of_find?_eq_some hf, decide_eq_true (hk.trans z)⟩)
      rw [if_neg hn]
      rfl
theorem putD_len (kvs : List (Key × D)) (k : Key) (x : D) : (putD kvs k x).length ≤ kvs.length + 1 := by
  unfold putD
  split
  · rw [List.length_map]; omega
  · simp
def fwGo (ws : List Wk) : (Nat → Option Int) → Nat → List D → Option Nat
  | _, _, [] => none
  | f, n, x :: xs => if rightC ws x = true then (match x with
    | .tup [.int i, .int t, _, _] => (match ws[i.toNat]?, f i.toNat with
      | some w, some p => if t < p + w.gap then some n else fwGo ws (fun j => if j = i.toNat then some t else f j) (n + 1) xs
      | _, _ => fwGo ws (fun j => if j = i.toNat then some t else f j) (n + 1) xs)
    | _ => some n) else some n
def firstWrong (ws : List Wk) (row : List D) : Option Nat := fwGo ws (fun _ => none) 0 row
def placeD : Option Nat → D
  | some n => .int n
  | none => .non
def zg1 : FS := fun xs Q _ => ∃ (ws : List Wk) (row : List D), xs = [dutyD ws, .lst row] ∧ row.length ≤ 100000 ∧ (∀ x ∈ row, tame x) ∧ Q (.d (placeD (firstWrong ws row)))
def z9m : DS := (dRet (dC .non))
def z9n : DS := dSeq (dIf (dTst cNotN (dL 2) (dC .non)) (dRaiseI .BadRow .place (dConsA (dV 2) dNilA)) dNext) z9m
def z9o : DS := dSeq (dSet 2 (dCall zg1 (dConsA (dV 0) (dConsA (dV 1) dNilA)) [])) z9n
def zfs : DS := dSeq (dIf (dTst cGt (dCB fLen (dConsA (dL 1) dNilA)) (dC (.int 200))) (dRaise .TooMany) dNext) z9o
local macro_rules | `(tactic| walk_at "M_checked") => `(tactic| repeat (first | walk_at "e" | walk_at "s" | (with_reducible show z9m _ _; simp only [z9m]) | (with_reducible show z9n _ _; simp only [z9n]) | (with_reducible show z9o _ _; simp only [z9o]) | (with_reducible show zfs _ _; simp only [zfs])))
def RefE (ws : List Wk) (row : List D) (E : EX) : Prop := row.length ≤ 100000 ∧ (∀ x ∈ row, tame x) ∧ ((200 < row.length ∧ E ⟨.TooMany, []⟩) ∨ (row.length ≤ 200 ∧ ∃ n, firstWrong ws row = some n ∧ E ⟨.BadRow, [(.place, .int n)]⟩))
theorem RefE.many {ws : List Wk} {row : List D} {E : EX} (h : RefE ws row E) (z : 200 < row.length) : E ⟨.TooMany, []⟩ := by
  rcases h.2.2 with ⟨_, e⟩ | ⟨z2, _⟩
  · exact e
  · omega
def zec : FS := fun xs Q E => ∃ (ws : List Wk) (row : List D), xs = [dutyD ws, .lst row] ∧ row.length ≤ 100000 ∧ (∀ x ∈ row, tame x) ∧ (200 < row.length → E ⟨.TooMany, []⟩) ∧
  (row.length ≤ 200 → (∀ n, firstWrong ws row = some n → E ⟨.BadRow, [(.place, .int n)]⟩) ∧ (firstWrong ws row = none → Q (.d .non)))
def z9p : DS := (dRet (dOp dAdd (dOp dAdd (dSl (dL 4) dNo (dSome (dL 5))) (dOp dIx (dL 2) (dOp dMod (dOp dAdd (dOp dDiv (dL 0) (dC (.int 64))) (dL 1)) (dC (.int 26))))) (dSl (dL 4) (dSome (dOp dAdd (dL 5) (dC (.int 1)))) dNo)))
def z9q : DS := dSeq (dSet 5 (dOp dMod (dOp dDiv (dL 0) (dC (.int 8))) (dL 3))) z9p
def z9r : DS := dSeq (dSet 4 (dTm1 joinD (dC (.str "")) (dLc (.one 6) (dRng1 (dConsA (dL 3) dNilA)) dYes (dOp dIx (dL 2) (dOp dMod (dOp dDiv (dL 0) (dOp dAdd (dC (.int 11)) (dOp dMul (dL 6) (dL 6)))) (dC (.int 26)))) [6]))) z9q
def z9s : DS := dSeq (dSet 3 (dOp dAdd (dC (.int 1)) (dOp dMod (dL 0) (dC (.int 8))))) z9r
def zft : DS := dSeq (dSet 2 (dC (.str "abcdefghijklmnopqrstuvwxyz"))) z9s
local macro_rules | `(tactic| walk_at "L_word_v1") => `(tactic| repeat (first | walk_at "e" | walk_at "s" | (with_reducible show z9p _ _; simp only [z9p]) | (with_reducible show z9q _ _; simp only [z9q]) | (with_reducible show z9r _ _; simp only [z9r]) | (with_reducible show z9s _ _; simp only [z9s]) | (with_reducible show zft _ _; simp only [zft])))
def word2 (c : Int) (k : Nat) : List Nat :=
  let b := (List.range (1 + c % 8).toNat).map fun (j : Nat) => letters.getD (c / (11 + (j : Int) * j) % 26).toNat 0
  let a := (c / 8 % (1 + c % 8)).toNat
  b.take a ++ letters.getD ((c / 64 + k) % 26).toNat 0 :: b.drop (a + 1)
def wordOf2 (c : Int) (k : Nat) : Str := ⟨(word2 c k).toArray⟩
def zed : FS := fun xs Q _ => ∃ (c : Int) (k : Nat), xs = [.int c, .int k] ∧ Q (.d (.str (wordOf2 c k)))
def z7s : DS := (dRet (dLc (.one 7) (dItL (dOp dIx (dL 6) (dOp dMod (dOp dIx (dL 0) (dC (.int 6))) (dC (.int 6))))) (dTst cLt (dOp dIx (dL 7) (dC (.int 1))) (dOp dIx (dL 7) (dC (.int 2)))) (dV 7) [7]))
def z7t : DS := dSeq (dSet 6 (dOp dAdd (dL 6) (dLst (dConsA (dLst (dConsA (dTup (dConsA (dV 4) (dConsA (dOp dIx (dL 3) (dC (.int 0))) (dConsA (dOp dIx (dL 3) (dC (.int 1))) dNilA)))) (dConsA (dTup (dConsA (dV 5) (dConsA (dOp dIx (dL 3) (dC (.int 2))) (dConsA (dOp dIx (dL 3) (dC (.int 3))) dNilA)))) dNilA))) (dConsA (dLst (dConsA (dTup (dConsA (dV 4) (dConsA (dOp dIx (dL 3) (dC (.int 2))) (dConsA (dOp dIx (dL 3) (dC (.int 3))) dNilA)))) (dConsA (dTup (dConsA (dV 4) (dConsA (dOp dIx (dL 3) (dC (.int 0))) (dConsA (dOp dIx (dL 3) (dC (.int 1))) dNilA)))) dNilA))) dNilA))))) z7s
def z7u : DS := dSeq (dSet 6 (dLst (dConsA (dLst dNilA) (dConsA (dLst (dConsA (dTup (dConsA (dV 4) (dConsA (dOp dIx (dL 3) (dC (.int 0))) (dConsA (dOp dIx (dL 3) (dC (.int 3))) dNilA)))) dNilA)) (dConsA (dLst (dConsA (dTup (dConsA (dV 4) (dConsA (dOp dIx (dL 3) (dC (.int 0))) (dConsA (dOp dIx (dL 3) (dC (.int 3))) dNilA)))) (dConsA (dTup (dConsA (dV 5) (dConsA (dOp dIx (dL 3) (dC (.int 1))) (dConsA (dOp dIx (dL 3) (dC (.int 2))) dNilA)))) dNilA))) (dConsA (dLst (dConsA (dTup (dConsA (dV 5) (dConsA (dOp dIx (dL 3) (dC (.int 1))) (dConsA (dOp dIx (dL 3) (dC (.int 2))) dNilA)))) (dConsA (dTup (dConsA (dV 4) (dConsA (dOp dIx (dL 3) (dC (.int 0))) (dConsA (dOp dIx (dL 3) (dC (.int 3))) dNilA)))) dNilA))) dNilA)))))) z7t
def z7v : DS := dSeq (dSet 5 (dOp dIx (dL 2) (dOp dMod (dOp dAdd (dOp dAdd (dOp dIx (dL 0) (dC (.int 4))) (dC (.int 1))) (dOp dMod (dOp dIx (dL 0) (dC (.int 5))) (dC (.int 2)))) (dC (.int 3))))) z7u
def z7w : DS := dSeq (dSet 4 (dOp dIx (dL 2) (dOp dMod (dOp dIx (dL 0) (dC (.int 4))) (dC (.int 3))))) z7v
def zee : DS := dSeq (dSet 3 (dCB fSort2 (dConsA (dLc (.one 8) (dItL (dSl (dL 0) dNo (dSome (dC (.int 4))))) dYes (dOp dMod (dL 8) (dL 1)) [8]) dNilA))) z7w
local macro_rules | `(tactic| walk_at "L_holds_v4") => `(tactic| repeat (first | walk_at "e" | walk_at "s" | (with_reducible show z7s _ _; simp only [z7s]) | (with_reducible show z7t _ _; simp only [z7t]) | (with_reducible show z7u _ _; simp only [z7u]) | (with_reducible show z7v _ _; simp only [z7v]) | (with_reducible show z7w _ _; simp only [z7w]) | (with_reducible show zee _ _; simp only [zee])))
def Hd.pos (h : Hd) : Bool := decide (h.st < h.en)
def zib : FS := fun xs Q _ => ∃ (ms : List Int) (l : Int) (w : Nat → Str) (m : Nat), xs = [.lst (ms.map .int), .int l, .lst [.str (w 0), .str (w 1), .str (w 2)]] ∧ (7 ≤ m ∧ drawn m ms) ∧ (1 ≤ l ∧ l < 10 ^ 60) ∧ (∀ k, nameOk (.str (w k)) = true) ∧ (∀ i j, i < 3 → j < 3 → w i = w j → i = j) ∧ ∀ hs : List Hd, hsGood l hs → Q (.nl (hs.map Hd.d))
def z7x : DS := (dRet (dTup (dConsA (dV 4) (dConsA (dV 7) (dConsA (dV 5) (dConsA (dV 6) (dConsA (dV 8) dNilA)))))))
def z7y : DS := dSeq (dIf (dTst cNe (dL 2) (dLst dNilA)) (dSet 8 (dCall zib (dConsA (dSl (dL 3) (dSome (dC (.int 8))) dNo) (dConsA (dV 7) (dConsA (dV 2) dNilA))) [])) dNext) z7x
def z7z : DS := dSeq (dSet 8 (dLst dNilA)) z7y
def z80 : DS := dSeq (dSet 7 (dOp dAdd (dC (.int 1)) (dOp dMod (dOp dIx (dL 3) (dC (.int 6))) (dCB fMax2 (dConsA (dC (.int 1)) (dConsA (dOp dDiv (dL 4) (dOp dIx (dLst (dConsA (dC (.int 1)) (dConsA (dC (.int 2)) (dConsA (dC (.int 4)) (dConsA (dC (.int 9)) dNilA))))) (dOp dMod (dOp dIx (dL 3) (dC (.int 7))) (dC (.int 4))))) dNilA)))))) z7z
def z81 : DS := dSeq (dSet 6 (dOp dIx (dLst (dConsA (dC (.int 0)) (dConsA (dC (.int 0)) (dConsA (dOp dMod (dOp dIx (dL 3) (dC (.int 4))) (dOp dAdd (dC (.int 1)) (dOp dDiv (dL 4) (dC (.int 3))))) (dConsA (dOp dMod (dOp dIx (dL 3) (dC (.int 4))) (dOp dAdd (dC (.int 1)) (dOp dDiv (dOp dMul (dC (.int 3)) (dL 4)) (dC (.int 2))))) dNilA))))) (dOp dMod (dOp dIx (dL 3) (dC (.int 5))) (dC (.int 4))))) z80
def z82 : DS := dSeq (dSet 5 (dOp dSub (dL 4) (dOp dIx (dLst (dConsA (dC (.int 0)) (dConsA (dOp dMod (dOp dIx (dL 3) (dC (.int 2))) (dL 4)) dNilA))) (dOp dMod (dOp dIx (dL 3) (dC (.int 3))) (dC (.int 2)))))) z81
def z83 : DS := dSeq (dSet 4 (dOp dAdd (dOp dMul (dL 1) (dOp dAdd (dC (.int 1)) (dOp dMod (dOp dIx (dL 3) (dC (.int 0))) (dC (.int 7))))) (dOp dMod (dOp dIx (dL 3) (dC (.int 1))) (dOp dAdd (dC (.int 1)) (dOp dDiv (dL 1) (dC (.int 2))))))) z82
def zef : DS := dSeq (dSet 3 (dCall zo (dConsA (dV 0) (dConsA (dC (.int 15)) dNilA)) [])) z83
local macro_rules | `(tactic| walk_at "L_plain_v8") => `(tactic| repeat (first | walk_at "e" | walk_at "s" | (with_reducible show z7x _ _; simp only [z7x]) | (with_reducible show z7y _ _; simp only [z7y]) | (with_reducible show z7z _ _; simp only [z7z]) | (with_reducible show z80 _ _; simp only [z80]) | (with_reducible show z81 _ _; simp only [z81]) | (with_reducible show z82 _ _; simp only [z82]) | (with_reducible show z83 _ _; simp only [z83]) | (with_reducible show zef _ _; simp only [zef])))
structure Pz.by8 (p : Pz) (u : Int) : Prop where
  ok : p.ok
  lo : u ≤ p.gap
  hi : p.gap ≤ 8 * u
  lq : 2 * p.late ≤ 3 * p.gap
  ln : p.length ≤ p.gap
def wordsD : Option (Nat → Str) → D
  | none => .lst []
  | some w => .lst [.str (w 0), .str (w 1), .str (w 2)]
def WordsOk (o : Option (Nat → Str)) : Prop := ∀ w, o = some w → (∀ k, nameOk (.str (w k)) = true) ∧ ∀ i j, i < 3 → j < 3 → w i = w j → i = j
def zic : FS := fun xs Q _ => ∃ (c u : Int) (o : Option (Nat → Str)), xs = [.int c, .int u, wordsD o] ∧ 1 ≤ u ∧ u ≤ 10 ^ 40 ∧ WordsOk o ∧ ∀ p : Pz, p.by8 u → (o = none → p.holds = []) → Q (.d p.t5)
def z9t : DS := (dApp 6 (dOp dAdd (dTup (dConsA (dCall zed (dConsA (dOp dDiv (dL 4) (dC (.int 7))) (dConsA (dV 7) dNilA)) []) dNilA)) (dL 8)))
def zbo : DS := dSeq (dSet 8 (dCall zic (dConsA (dOp dAdd (dCall z5p (dConsA (dV 0) (dConsA (dOp dAdd (dC (.int 2)) (dL 7)) dNilA)) []) (dOp dMul (dC (.int 7)) (dL 7))) (dConsA (dV 3) (dConsA (dV 5) dNilA))) [])) z9t
def zcr : DS := (dRetL 6)
def zcs : DS := dSeq (dFor (.one 7) (dRng1 (dConsA (dOp dMod (dL 4) (dC (.int 6))) dNilA)) zbo) zcr
def zct : DS := dSeq (dSetO 6 (dLst dNilA)) zcs
def zcu : DS := dSeq (dIf (dBool (dL 1)) (dSet 5 (dLc (.one 7) (dRng1 (dConsA (dC (.int 3)) dNilA)) dYes (dCall zed (dConsA (dOp dDiv (dL 4) (dC (.int 5))) (dConsA (dV 7) dNilA)) []) [7])) dNext) zct
def zcv : DS := dSeq (dSet 5 (dLst dNilA)) zcu
def zcw : DS := dSeq (dSet 4 (dCall z5p (dConsA (dV 0) (dConsA (dC (.int 1)) dNilA)) [])) zcv
def zcx : DS := dSeq (dSet 3 (dOp dAdd (dC (.int 1)) (dOp dMod (dOp dDiv (dL 2) (dC (.int 4))) (dOp dIx (dLst (dConsA (dC (.int 4)) (dConsA (dOp dPow (dC (.int 10)) (dC (.int 15))) (dConsA (dOp dPow (dC (.int 10)) (dC (.int 15))) (dConsA (dOp dPow (dC (.int 10)) (dC (.int 40))) dNilA))))) (dOp dMod (dL 2) (dC (.int 4))))))) zcw
def zjc : DS := dSeq (dSet 2 (dCall z5p (dConsA (dV 0) (dConsA (dC (.int 0)) dNilA)) [])) zcx
local macro_rules | `(tactic| walk_at "L_some") => `(tactic| repeat (first | walk_at "e" | walk_at "s" | (with_reducible show z9t _ _; simp only [z9t]) | (with_reducible show zbo _ _; simp only [zbo]) | (with_reducible show zcr _ _; simp only [zcr]) | (with_reducible show zcs _ _; simp only [zcs]) | (with_reducible show zct _ _; simp only [zct]) | (with_reducible show zcu _ _; simp only [zcu]) | (with_reducible show zcv _ _; simp only [zcv]) | (with_reducible show zcw _ _; simp only [zcw]) | (with_reducible show zcx _ _; simp only [zcx]) | (with_reducible show zjc _ _; simp only [zjc])))
def z63 : DS := (dApp 2 (dTup (dConsA (dV 7) (dConsA (dV 15) (dConsA (dV 14) (dConsA (dOp dIx (dLst (dConsA (dV 10) (dConsA (dV 10) (dConsA (dOp dAdd (dC (.int 1)) (dOp dMod (dOp dIx (dL 6) (dC (.int 5))) (dL 10))) dNilA)))) (dOp dMod (dOp dDiv (dOp dIx (dL 6) (dC (.int 4))) (dC (.int 6))) (dC (.int 3)))) dNilA))))))
def z64 : DS := dSeq (dStore 3 (dV 7) (dV 15)) z63
def z65 : DS := dSeq (dIf (dTst cIn (dL 7) (dL 3)) (dSet 15 (dOp dAdd (dOp dAdd (dOp dIx (dL 3) (dL 7)) (dL 9)) (dOp dIx (dLst (dConsA (dC (.int 0)) (dConsA (dOp dMod (dOp dIx (dL 6) (dC (.int 3))) (dOp dAdd (dC (.int 1)) (dL 9))) dNilA))) (dOp dMod (dOp dIx (dL 6) (dC (.int 4))) (dC (.int 2)))))) dNext) z64
def z66 : DS := dSeq (dSet 15 (dOp dAdd (dOp dSub (dL 4) (dL 14)) (dOp dIx (dLst (dConsA (dC (.int 0)) (dConsA (dOp dMod (dOp dIx (dL 6) (dC (.int 3))) (dL 9)) (dConsA (dOp dSub (dC (.int 0)) (dOp dMod (dOp dIx (dL 6) (dC (.int 3))) (dL 9))) dNilA)))) (dOp dMod (dOp dIx (dL 6) (dC (.int 4))) (dC (.int 3)))))) z65
def z67 : DS := dSeq (dSet 14 (dOp dIx (dLst (dConsA (dV 12) (dConsA (dC (.int 0)) (dConsA (dOp dMod (dOp dIx (dL 6) (dC (.int 1))) (dOp dAdd (dL 12) (dC (.int 1)))) dNilA)))) (dOp dMod (dOp dIx (dL 6) (dC (.int 2))) (dC (.int 3))))) z66
def z68 : DS := dSeq (dUnp [8, 9, 10, 11, 12, 13] (dOp dIx (dL 1) (dL 7))) z67
def z69 : DS := dSeq (dSet 7 (dOp dMod (dOp dIx (dL 6) (dC (.int 0))) (dCB fLen (dConsA (dL 1) dNilA)))) z68
def z9u : DS := dSeq (dSet 6 (dCall zo (dConsA (dV 5) (dConsA (dC (.int 6)) dNilA)) [])) z69
def zal : DS := (dRetL 2)
def zam : DS := dSeq (dFor (.one 5) (dItL (dV 0)) z9u) zal
def zan : DS := dSeq (dSet 4 (dOp dMul (dC (.int 3)) (dCB fMaxL (dConsA (dLc (.one 16) (dItL (dV 1)) dYes (dOp dIx (dL 16) (dC (.int 1))) [16]) dNilA)))) zam
def zao : DS := dSeq (dIf (dTst cEq (dL 1) (dLst dNilA)) (dRetL 2) dNext) zan
def zap : DS := dSeq (dSetO 3 dNewD) zao
def zgi : DS := dSeq (dSetO 2 (dLst dNilA)) zap
local macro_rules | `(tactic| walk_at "L_row_v1") => `(tactic| repeat (first | walk_at "e" | walk_at "s" | (with_reducible show z63 _ _; simp only [z63]) | (with_reducible show z64 _ _; simp only [z64]) | (with_reducible show z65 _ _; simp only [z65]) | (with_reducible show z66 _ _; simp only [z66]) | (with_reducible show z67 _ _; simp only [z67]) | (with_reducible show z68 _ _; simp only [z68]) | (with_reducible show z69 _ _; simp only [z69]) | (with_reducible show z9u _ _; simp only [z9u]) | (with_reducible show zal _ _; simp only [zal]) | (with_reducible show zam _ _; simp only [zam]) | (with_reducible show zan _ _; simp only [zan]) | (with_reducible show zao _ _; simp only [zao]) | (with_reducible show zap _ _; simp only [zap]) | (with_reducible show zgi _ _; simp only [zgi])))
structure RowOk (ws : List Wk) (row : List Cm) : Prop where
  each : ∀ c ∈ row, ∃ w, ws[c.at_]? = some w ∧ 0 ≤ c.come ∧ c.come < 10 ^ 50 ∧ 0 ≤ c.late ∧ c.late ≤ w.late ∧ 1 ≤ c.length ∧ c.length ≤ w.length
  gaps : row.Pairwise fun c d => c.at_ = d.at_ → ∀ w, ws[c.at_]? = some w → c.come + w.gap ≤ d.come
theorem row_snoc {ws : List Wk} {row : List Cm} {c : Cm} {w : Wk} (h : RowOk ws row) (hw : ws[c.at_]? = some w) (q0 : 0 ≤ c.come) (q1 : c.come < 10 ^ 50) (q2 : 0 ≤ c.late) (q3 : c.late ≤ w.late) (q4 : 1 ≤ c.length) (q5 : c.length ≤ w.length)
    (hg : ∀ d ∈ row, d.at_ = c.at_ → d.come + w.gap ≤ c.come) : RowOk ws (row ++ [c]) := by
  refine ⟨fun d hd => ?_, List.pairwise_append.mpr ⟨h.gaps, List.pairwise_singleton _ _, fun d hd e he ha v hv => ?_⟩⟩
  · rcases List.mem_append.mp hd with z | z
    · exact h.each d z
    · rw [List.mem_singleton.mp z]
      exact ⟨w, hw, q0, q1, q2, q3, q4, q5⟩
  · rw [List.mem_singleton.mp he] at ha ⊢
    rw [ha, hw] at hv
    cases hv
    exact hg d hd ha
structure RowAt (ws : List Wk) (B : Int) (k : Nat) (row : List Cm) (kvs : List (Key × D)) (f : Nat → Option Int) : Prop where
  leg : RowOk ws row
  rl : row.length = k
  kl : kvs.length ≤ k
  val : ∀ j : Nat, valD kvs (.inl (j : Int)) = (f j).map D.int
  some_ : ∀ j t, f j = some t → 0 ≤ t ∧ t ≤ B * (k + 1) ∧ ∀ c ∈ row, c.at_ = j → c.come ≤ t
  none_ : ∀ j, f j = none → ∀ c ∈ row, c.at_ ≠ j
def NextOk (B : Int) (f : Nat → Option Int) (a : Nat) (g cm : Int) : Prop := (f a = none ∧ cm ≤ B) ∨ ∃ t, f a = some t ∧ t + g ≤ cm ∧ cm ≤ t + B
theorem RowAt.put {ws : List Wk} {B : Int} {k : Nat} {row : List Cm} {kvs : List (Key × D)} {f : Nat → Option Int} (R : RowAt ws B k row kvs f) {c : Cm} {w : Wk} (hw : ws[c.at_]? = some w) (hg0 : 0 ≤ w.gap) (hB : 0 ≤ B) (hBk : B * (k + 2) < 10 ^ 50)
    (q0 : 0 ≤ c.come) (q2 : 0 ≤ c.late) (q3 : c.late ≤ w.late) (q4 : 1 ≤ c.length) (q5 : c.length ≤ w.length)
    (hc : NextOk B f c.at_ w.gap c.come) :
    RowAt ws B (k + 1) (row ++ [c]) (putD kvs (.inl (c.at_ : Int)) (.int c.come)) (fun j => if j = c.at_ then some c.come else f j) := by
  have hk : 0 ≤ B * (k : Int) := Int.mul_nonneg hB (by omega)
  have e1 : B * ((k : Int) + 1) = B * k + B := by rw [Int.mul_add, Int.mul_one]
  have e2 : B * ((k : Int) + 2) = B * k + 2 * B := by rw [Int.mul_add]; omega
  have e3 : B * (((k + 1 : Nat) : Int) + 1) = B * k + 2 * B := by rw [show ((k + 1 : Nat) : Int) + 1 = (k : Int) + 2 by omega]; exact e2
  have hb : c.come ≤ B * (k + 2) := by
    rcases hc with ⟨_, z⟩ | ⟨t, ht, _, z⟩
    · omega
    · have := (R.some_ _ _ ht).2.1
      omega
  refine ⟨row_snoc R.leg hw q0 (by omega) q2 q3 q4 q5 fun d hd ha => ?_, by rw [List.length_append, R.rl]; rfl, ?_, fun j => ?_, fun j t hj => ?_, fun j hj d hd => ?_⟩
  · rcases hc with ⟨z, _⟩ | ⟨t, ht, z, _⟩
    · exact absurd ha (R.none_ _ z d hd)
    · have := (R.some_ _ _ ht).2.2 d hd ha
      omega
  · have := putD_len kvs (.inl (c.at_ : Int)) (.int c.come)
    have := R.kl
    omega
  · rw [valD_put, R.val j]
    by_cases hj : j = c.at_
    · rw [if_pos hj, if_pos (by rw [hj])]
      rfl
    · rw [if_neg hj, if_neg (fun z => hj (by have := Sum.inl.inj z; omega))]
  · by_cases hjc : j = c.at_
    · have hj : some c.come = some t := by rw [← hj, if_pos hjc]
      cases hj
      refine ⟨q0, by rw [e3, ← e2]; exact hb, fun d hd ha => ?_⟩
      rcases List.mem_append.mp hd with z | z
      · rcases hc with ⟨y, _⟩ | ⟨t, ht, y, _⟩
        · exact absurd (ha.trans hjc) (R.none_ _ y d z)
        · have h1 := (R.some_ _ _ ht).2.2 d z (ha.trans hjc)
          omega
      · rw [List.mem_singleton.mp z]
        exact Int.le_refl _
    · have hj : f j = some t := by rw [← hj, if_neg hjc]
      obtain ⟨z0, z1, z2⟩ := R.some_ _ _ hj
      refine ⟨z0, by rw [e3]; omega, fun d hd ha => ?_⟩
      rcases List.mem_append.mp hd with z | z
      · exact z2 d z ha
      · rw [List.mem_singleton.mp z] at ha
        exact absurd ha.symm hjc
  · by_cases hjc : j = c.at_
    · rw [if_pos hjc] at hj
      cases hj
    · rw [if_neg hjc] at hj
      rcases List.mem_append.mp hd with z | z
      · exact R.none_ _ hj d z
      · rw [List.mem_singleton.mp z]
        exact fun e => hjc e.symm
def z4t : DS := (dIf (dTst cGt (dL 4) (dOp dSub (dL 5) (dL 3))) (dRet (dTup (dConsA (dV 3) (dConsA (dV 5) dNilA)))) dNext)
def z4u : DS := dSeq (dAug 4 dAddI (dL 7)) z4t
def z6a : DS := dSeq (dIf (dTst cLt (dL 6) (dL 3)) dCnt dNext) z4u
def z4v : DS := (dFor (.many [5, 6, 7]) (dItL (dV 2)) z6a)
def z6b : DS := dSeq (dSet 4 (dC (.int 0))) z4v
def z84 : DS := (dRet (dC .non))
def z85 : DS := dSeq (dFor (.one 3) (dItL (dCB fSort2 (dConsA (dLc (.one 8) (dItL (dV 1)) dYes (dCall zcb (dConsA (dV 8) dNilA) []) [8]) dNilA))) z6b) z84
def z86 : DS := dSeq (dSet 2 (dCB fSort2 (dConsA (dLc (.one 8) (dItL (dV 1)) dYes (dTup (dConsA (dCall zfn (dConsA (dV 0) (dConsA (dV 8) dNilA)) []) (dConsA (dCall zcb (dConsA (dV 8) dNilA) []) (dConsA (dOp dIx (dL 8) (dC (.int 3))) dNilA)))) [8]) dNilA))) z85
def zeg : DS := dSeq (dDrop (dCall zec (dConsA (dV 0) (dConsA (dV 1) dNilA)) [])) z86
local macro_rules | `(tactic| walk_at "M_too_full") => `(tactic| repeat (first | walk_at "e" | walk_at "s" | (with_reducible show z4t _ _; simp only [z4t]) | (with_reducible show z4u _ _; simp only [z4u]) | (with_reducible show z6a _ _; simp only [z6a]) | (with_reducible show z4v _ _; simp only [z4v]) | (with_reducible show z6b _ _; simp only [z6b]) | (with_reducible show z84 _ _; simp only [z84]) | (with_reducible show z85 _ _; simp only [z85]) | (with_reducible show z86 _ _; simp only [z86]) | (with_reducible show zeg _ _; simp only [zeg])))
def dueOf (ws : List Wk) (c : Cm) : Int := match ws[c.at_]? with
  | some w => c.come + w.due
  | none => 0
def Cm.rdy (c : Cm) : Int := c.come + c.late
def zc5 : DS := (dFldS 0 [.Order, .ByRank, .ByDue, .ByComing] .duty (dV 1))
local macro_rules | `(tactic| walk_at "M_Order_init") => `(tactic| repeat (first | walk_at "e" | walk_at "s" | (with_reducible show zc5 _ _; simp only [zc5])))
def orderFs (ws : List Wk) : List (Fd × D) := [(.duty, dutyD ws)]
def orderD (c : Cn) (ws : List Wk) : D := .obj c (orderFs ws)
def z6c : FI := fun xs Q _ => ∃ ws : List Wk, xs = [dutyD ws] ∧ Q (orderFs ws)
def z3r : DS := (dIf (dTst cNe (dMeth (altL [(.Work, za)]) (dMeth (altL [(.Duty, z7)]) (dV 0) (dConsA (dV 1) dNilA) []) dNilA []) (dLst dNilA)) (dRaise .HoldsThings) dNext)
def zaq : DS := (dFor (.one 1) (dRng1 (dConsA (dMeth (altL [(.Duty, z8)]) (dV 0) dNilA []) dNilA)) z3r)
local macro_rules | `(tactic| walk_at "M_refuse_holds") => `(tactic| repeat (first | walk_at "e" | walk_at "s" | (with_reducible show z3r _ _; simp only [z3r]) | (with_reducible show zaq _ _; simp only [zaq])))
def za5 : FS := fun xs Q E => ∃ ws : List Wk, xs = [dutyD ws] ∧ ws.length ≤ 1000 ∧ (∀ w ∈ ws, w.ok) ∧ ((∀ w ∈ ws, w.holds = []) → Q (.d .non)) ∧ ((∃ w ∈ ws, w.holds ≠ []) → E ⟨.HoldsThings, []⟩)
def z5i : DS := (dDrop (dCall za5 (dConsA (dV 1) dNilA) []))
def zc6 : DS := dSeq (dBase .ByDue z6c (dConsA (dV 1) dNilA)) z5i
local macro_rules | `(tactic| walk_at "M_ByDue_init") => `(tactic| repeat (first | walk_at "e" | walk_at "s" | (with_reducible show z5i _ _; simp only [z5i]) | (with_reducible show zc6 _ _; simp only [zc6])))
def zgj : FI := fun xs Q E => ∃ ws : List Wk, xs = [dutyD ws] ∧ ws.length ≤ 1000 ∧ (∀ w ∈ ws, w.ok) ∧ ((∀ w ∈ ws, w.holds = []) → Q (orderFs ws)) ∧ ((∃ w ∈ ws, w.holds ≠ []) → E ⟨.HoldsThings, []⟩)
def z3s : DS := (dDrop (dCall za5 (dConsA (dV 1) dNilA) []))
def za6 : DS := dSeq (dBase .ByComing z6c (dConsA (dV 1) dNilA)) z3s
local macro_rules | `(tactic| walk_at "M_ByComing_init") => `(tactic| repeat (first | walk_at "e" | walk_at "s" | (with_reducible show z3s _ _; simp only [z3s]) | (with_reducible show za6 _ _; simp only [za6])))
def zeh : FI := fun xs Q E => ∃ ws : List Wk, xs = [dutyD ws] ∧ ws.length ≤ 1000 ∧ (∀ w ∈ ws, w.ok) ∧ ((∀ w ∈ ws, w.holds = []) → Q (orderFs ws)) ∧ ((∃ w ∈ ws, w.holds ≠ []) → E ⟨.HoldsThings, []⟩)
def zbp : DS := (dRet (dMake .ByRank z6c (dConsA (dV 2) dNilA) []))
def zbq : DS := dSeq (dIf (dTst cEq (dL 0) (dC (.int 2))) (dRet (dMake .ByComing zeh (dConsA (dV 2) dNilA) [])) dNext) zbp
def zbr : DS := dSeq (dIf (dTst cEq (dL 0) (dC (.int 1))) (dRet (dMake .ByDue zgj (dConsA (dV 2) dNilA) [])) dNext) zbq
def zi5 : DS := dSeq (dSet 2 (dMake .Duty zb (dConsA (dLc (.one 3) (dItL (dV 1)) dYes (dMake .Work ze (dConsA (dOp dIx (dL 3) (dC (.int 0))) (dConsA (dOp dIx (dL 3) (dC (.int 1))) (dConsA (dOp dIx (dL 3) (dC (.int 2))) (dConsA (dOp dIx (dL 3) (dC (.int 3))) (dConsA (dOp dIx (dL 3) (dC (.int 4))) (dConsA (dCB fList (dConsA (dOp dIx (dL 3) (dC (.int 5))) dNilA)) dNilA)))))) []) [3]) dNilA) [])) zbr
local macro_rules | `(tactic| walk_at "L_order") => `(tactic| repeat (first | walk_at "e" | walk_at "s" | (with_reducible show zbp _ _; simp only [zbp]) | (with_reducible show zbq _ _; simp only [zbq]) | (with_reducible show zbr _ _; simp only [zbr]) | (with_reducible show zi5 _ _; simp only [zi5])))
def ordCn (k : Int) : Cn := if k = 1 then .ByDue else if k = 2 then .ByComing else .ByRank
def za7 : DS := (dRet (dC (.int 0)))
local macro_rules | `(tactic| walk_at "M_Order_rank_of") => `(tactic| repeat (first | walk_at "e" | walk_at "s" | (with_reducible show za7 _ _; simp only [za7])))
def zei : FS := fun xs Q _ => ∃ a b c : D, xs = [a, b, c] ∧ Q (.d (.int 0))
def z8y : DS := (dRet (dCall zi4 (dConsA (dFld [.Order, .ByRank, .ByDue, .ByComing] .duty (dL 0)) (dConsA (dOp dIx (dL 1) (dC (.int 0))) (dConsA (dV 2) dNilA))) []))
local macro_rules | `(tactic| walk_at "M_ByRank_rank_of") => `(tactic| repeat (first | walk_at "e" | walk_at "s" | (with_reducible show z8y _ _; simp only [z8y])))
def zdj : FS := fun xs Q _ => ∃ (ws : List Wk) (c : Cm) (w : Wk) (done : Int), xs = [orderD .ByRank ws, c.d, .int done] ∧ ws[c.at_]? = some w ∧ w.holds.length < 64 ∧ ws.length ≤ 1000 ∧ Q (.d (.int (rankOf ws c.at_ (heldOf w.holds done))))
def za8 : DS := (dRet (dCall zfn (dConsA (dFld [.Order, .ByRank, .ByDue, .ByComing] .duty (dL 0)) (dConsA (dV 1) dNilA)) []))
local macro_rules | `(tactic| walk_at "M_ByDue_rank_of") => `(tactic| repeat (first | walk_at "e" | walk_at "s" | (with_reducible show za8 _ _; simp only [za8])))
def zej : FS := fun xs Q _ => ∃ (ws : List Wk) (c : Cm) (w : Wk) (done : D), xs = [orderD .ByDue ws, c.d, done] ∧ ws[c.at_]? = some w ∧ Q (.d (.int (dueOf ws c)))
def z6d : DS := (dRet (dOp dIx (dL 1) (dC (.int 1))))
local macro_rules | `(tactic| walk_at "M_ByComing_rank_of") => `(tactic| repeat (first | walk_at "e" | walk_at "s" | (with_reducible show z6d _ _; simp only [z6d])))
def zc7 : FS := fun xs Q _ => ∃ (o : D) (c : Cm) (done : D), xs = [o, c.d, done] ∧ Q (.d (.int c.come))
def zbh : DS := (dRet (dC (.bl false)))
local macro_rules | `(tactic| walk_at "M_Order_holds") => `(tactic| repeat (first | walk_at "e" | walk_at "s" | (with_reducible show zbh _ _; simp only [zbh])))
def z5j : FS := fun xs Q _ => ∃ a b c : D, xs = [a, b, c] ∧ Q (.d (.bl false))
def zar : DS := (dRet (dOp (cmpV cNe) (dCall z5x (dConsA (dFld [.Order, .ByRank, .ByDue, .ByComing] .duty (dL 0)) (dConsA (dOp dIx (dL 1) (dC (.int 0))) (dConsA (dV 2) dNilA))) []) (dLst dNilA)))
local macro_rules | `(tactic| walk_at "M_ByRank_holds") => `(tactic| repeat (first | walk_at "e" | walk_at "s" | (with_reducible show zar _ _; simp only [zar])))
def zf8 : FS := fun xs Q _ => ∃ (ws : List Wk) (c : Cm) (w : Wk) (done : Int), xs = [orderD .ByRank ws, c.d, .int done] ∧ ws[c.at_]? = some w ∧ w.ok ∧ Q (.d (.bl (!(heldOf w.holds done).isEmpty)))
def z9v : DS := (dIf (dAnd (dTst cEq (dL 4) (dOp dIx (dL 2) (dC (.int 0)))) (dTst cNe (dLc (.one 10) (dItL (dOp dIx (dOp dIx (dL 1) (dL 6)) (dC (.int 5)))) (dTst cIn (dOp dIx (dL 10) (dC (.int 0))) (dL 5)) (dV 10) [10]) (dLst dNilA))) (dSet 4 (dV 6)) dNext)
def zas : DS := (dRet (dTup (dConsA (dV 4) (dConsA (dOp (cmpV cNe) (dL 5) (dLst dNilA)) dNilA))))
def zat : DS := dSeq (dFor (.one 6) (dRng1 (dConsA (dOp dIx (dL 2) (dC (.int 0))) dNilA)) z9v) zas
def zau : DS := dSeq (dSet 5 (dLc (.many [7, 8, 9]) (dItL (dOp dIx (dOp dIx (dL 1) (dOp dIx (dL 2) (dC (.int 0)))) (dC (.int 5)))) (dAnd (dTst cLt (dL 8) (dL 3)) (dTst cLt (dL 3) (dL 9))) (dV 7) [7, 8, 9])) zat
def zav : DS := dSeq (dSet 4 (dOp dIx (dL 2) (dC (.int 0)))) zau
def zaw : DS := dSeq (dIf (dTst cEq (dL 0) (dC (.int 2))) (dRet (dTup (dConsA (dOp dIx (dL 2) (dC (.int 1))) (dConsA (dC (.bl false)) dNilA)))) dNext) zav
def zgk : DS := dSeq (dIf (dTst cEq (dL 0) (dC (.int 1))) (dRet (dTup (dConsA (dOp dAdd (dOp dIx (dL 2) (dC (.int 1))) (dOp dIx (dOp dIx (dL 1) (dOp dIx (dL 2) (dC (.int 0)))) (dC (.int 3)))) (dConsA (dC (.bl false)) dNilA)))) dNext) zaw
local macro_rules | `(tactic| walk_at "L_due_v3") => `(tactic| repeat (first | walk_at "e" | walk_at "s" | (with_reducible show z9v _ _; simp only [z9v]) | (with_reducible show zas _ _; simp only [zas]) | (with_reducible show zat _ _; simp only [zat]) | (with_reducible show zau _ _; simp only [zau]) | (with_reducible show zav _ _; simp only [zav]) | (with_reducible show zaw _ _; simp only [zaw]) | (with_reducible show zgk _ _; simp only [zgk])))
def holdsW (ws : List Wk) (i : Nat) : List Hd := ((ws[i]?).map Wk.holds).getD []
def rankV (ws : List Wk) (k : Int) (c : Cm) (done : Int) : Int := if k = 1 then dueOf ws c else if k = 2 then c.come else rankOf ws c.at_ (heldOf (holdsW ws c.at_) done)
def holdV (ws : List Wk) (k : Int) (c : Cm) (done : Int) : Bool := if k = 1 then false else if k = 2 then false else !(heldOf (holdsW ws c.at_) done).isEmpty
def z87 : DS := (dSet 7 (dOp dAdd (dL 7) (dOp dIx (dL 2) (dOp dMod (dL 9) (dC (.int 26))))))
def zax : DS := dSeq (dSet 9 (dOp dAdd (dOp dAdd (dOp dDiv (dL 0) (dC (.int 6720))) (dOp dMul (dL 8) (dOp dAdd (dC (.int 1)) (dOp dMod (dL 0) (dC (.int 25)))))) (dOp dMul (dL 6) (dCB fInt (dConsA (dOp (cmpV cEq) (dL 8) (dL 4)) dNilA))))) z87
def z88 : DS := (dApp 5 (dV 7))
def z89 : DS := dSeq (dFor (.one 8) (dRng1 (dConsA (dL 3) dNilA)) zax) z88
def zay : DS := dSeq (dSet 7 (dC (.str ""))) z89
def zbs : DS := (dRetL 5)
def zbt : DS := dSeq (dFor (.one 6) (dRng1 (dConsA (dL 1) dNilA)) zay) zbs
def zbu : DS := dSeq (dSetO 5 (dLst dNilA)) zbt
def zbv : DS := dSeq (dSet 4 (dOp dMod (dOp dMod (dOp dDiv (dL 0) (dC (.int 8))) (dC (.int 840))) (dL 3))) zbu
def zbw : DS := dSeq (dSet 3 (dOp dAdd (dC (.int 1)) (dOp dMod (dL 0) (dC (.int 8))))) zbv
def zi6 : DS := dSeq (dSet 2 (dC (.str "abcdefghijklmnopqrstuvwxyz"))) zbw
local macro_rules | `(tactic| walk_at "L_names") => `(tactic| repeat (first | walk_at "e" | walk_at "s" | (with_reducible show z87 _ _; simp only [z87]) | (with_reducible show zax _ _; simp only [zax]) | (with_reducible show z88 _ _; simp only [z88]) | (with_reducible show z89 _ _; simp only [z89]) | (with_reducible show zay _ _; simp only [zay]) | (with_reducible show zbs _ _; simp only [zbs]) | (with_reducible show zbt _ _; simp only [zbt]) | (with_reducible show zbu _ _; simp only [zbu]) | (with_reducible show zbv _ _; simp only [zbv]) | (with_reducible show zbw _ _; simp only [zbw]) | (with_reducible show zi6 _ _; simp only [zi6])))
abbrev txI (i : Int) : Str := Str.ofString (toString i)
def isNumS (z : Str) : Bool := decide (1 ≤ z.length) && (decide (z.length ≤ 60) && ((TL.tl z).all (fun c => decide (48 ≤ c) && decide (c ≤ 57)) && (decide (z = "0") || !Txt.startswith z "0")))
def z8a : DS := (dRet (dTm1 splitD (dL 0) (dC (.str " "))))
def zek : DS := dSeq (dIf (dNot (dBool (dIs "str" (dL 0)))) (dRaise .NoText) dNext) z8a
local macro_rules | `(tactic| walk_at "M_words_of") => `(tactic| repeat (first | walk_at "e" | walk_at "s" | (with_reducible show z8a _ _; simp only [z8a]) | (with_reducible show zek _ _; simp only [zek])))
def zid : FS := fun xs Q E => ∃ x : D, xs = [x] ∧ (match x with
  | .str z => z.length ≤ 100000 ∧ Q (.nl ((Txt.split z " ").map .str))
  | .int _ | .bl _ | .non | .lst _ | .tup _ => E ⟨.NoText, []⟩
  | _ => False)
def z5k : DS := (dIf (dTst cNotIn (dL 1) (dC (.str "0123456789"))) (dRet (dC (.bl false))) dNext)
def z6e : DS := (dRet (dOrV (dOp (cmpV cEq) (dL 0) (dC (.str "0"))) (dNotV (dTm1 startsD (dL 0) (dC (.str "0"))))))
def z6f : DS := dSeq (dFor (.one 1) (dItS (dV 0)) z5k) z6e
def zdb : DS := dSeq (dIf (dNot (dChT cLe cLe (dC (.int 1)) (dCB fLen (dConsA (dL 0) dNilA)) (dC (.int 60)))) (dRet (dC (.bl false))) dNext) z6f
local macro_rules | `(tactic| walk_at "M_is_number") => `(tactic| repeat (first | walk_at "e" | walk_at "s" | (with_reducible show z5k _ _; simp only [z5k]) | (with_reducible show z6e _ _; simp only [z6e]) | (with_reducible show z6f _ _; simp only [z6f]) | (with_reducible show zdb _ _; simp only [zdb])))
def zh2 : FS := fun xs Q _ => ∃ z : Str, xs = [.str z] ∧ z.length ≤ 100000 ∧ Q (.d (.bl (isNumS z)))
def z6g : DS := (dRet (dCB fInt (dConsA (dL 0) dNilA)))
def zdc : DS := dSeq (dIf (dNot (dBool (dCall zh2 (dConsA (dV 0) dNilA) []))) (dRaise .NoText) dNext) z6g
local macro_rules | `(tactic| walk_at "M_number_in") => `(tactic| repeat (first | walk_at "e" | walk_at "s" | (with_reducible show z6g _ _; simp only [z6g]) | (with_reducible show zdc _ _; simp only [zdc])))
def z8b : FS := fun xs Q E => ∃ z : Str, xs = [.str z] ∧ z.length ≤ 100000 ∧ (isNumS z = true → ∃ n : Int, PySem.intText? z = some n ∧ Q (.d (.int n))) ∧ (isNumS z = false → E ⟨.NoText, []⟩)
def zdd : DS := (dRet (dOp dAdd (dOp dAdd (dOp dAdd (dOp dAdd (dOp dIx (dL 0) (dC (.int 0))) (dC (.str ":"))) (dCB fStr (dConsA (dOp dIx (dL 0) (dC (.int 1))) dNilA))) (dC (.str "-"))) (dCB fStr (dConsA (dOp dIx (dL 0) (dC (.int 2))) dNilA))))
local macro_rules | `(tactic| walk_at "M_show_hold") => `(tactic| repeat (first | walk_at "e" | walk_at "s" | (with_reducible show zdd _ _; simp only [zdd])))
def holdTx (h : Hd) : Str := h.th ++ ":" ++ txI h.st ++ "-" ++ txI h.en
structure HdTx (h : Hd) : Prop where
  th : nameOk (.str h.th) = true
  st : 0 ≤ h.st ∧ h.st < 10 ^ 60
  en : 0 ≤ h.en ∧ h.en < 10 ^ 60
def zh3 : FS := fun xs Q _ => ∃ h : Hd, xs = [h.d] ∧ HdTx h ∧ Q (.d (.str (holdTx h)))
def z5l : DS := (dApp 1 (dCB fStr (dConsA (dL 2) dNilA)))
def z6h : DS := (dRet (dTm1 joinD (dC (.str " ")) (dOp dAdd (dL 1) (dLc (.one 3) (dItL (dMeth (altL [(.Work, za)]) (dV 0) dNilA [])) dYes (dCall zh3 (dConsA (dV 3) dNilA) []) [3]))))
def z6i : DS := dSeq (dFor (.one 2) (dItL (dLst (dConsA (dFld [.Work] .gap (dL 0)) (dConsA (dFld [.Work] .length (dL 0)) (dConsA (dFld [.Work] .due (dL 0)) (dConsA (dFld [.Work] .late (dL 0)) dNilA)))))) z5l) z6h
def zde : DS := dSeq (dSetO 1 (dLst (dConsA (dFld [.Work] .name (dL 0)) dNilA))) z6i
local macro_rules | `(tactic| walk_at "M_show_work") => `(tactic| repeat (first | walk_at "e" | walk_at "s" | (with_reducible show z5l _ _; simp only [z5l]) | (with_reducible show z6h _ _; simp only [z6h]) | (with_reducible show z6i _ _; simp only [z6i]) | (with_reducible show zde _ _; simp only [zde])))
structure WkTx (w : Wk) : Prop where
  ok : w.ok
  lateb : w.late < 10 ^ 60
theorem WkTx.hold {w : Wk} (h : WkTx w) {q : Hd} (hq : q ∈ w.holds) : HdTx q := by
  obtain ⟨h1, h2, h3, h4⟩ := h.ok.hold hq
  have := h.ok.lenb
  exact ⟨h1, ⟨by omega, by omega⟩, ⟨by omega, by omega⟩⟩
def z6j : DS := (dRet (dTup (dConsA (dV 1) (dConsA (dCall z8b (dConsA (dV 4) dNilA) []) (dConsA (dCall z8b (dConsA (dV 6) dNilA) []) dNilA)))))
def z6k : DS := dSeq (dUnp [4, 5, 6] (dTm1 partD (dL 3) (dC (.str "-")))) z6j
def zdf : DS := dSeq (dUnp [1, 2, 3] (dTm1 partD (dL 0) (dC (.str ":")))) z6k
local macro_rules | `(tactic| walk_at "M_read_hold") => `(tactic| repeat (first | walk_at "e" | walk_at "s" | (with_reducible show z6j _ _; simp only [z6j]) | (with_reducible show z6k _ _; simp only [z6k]) | (with_reducible show zdf _ _; simp only [zdf])))
def zh4 : FS := fun xs Q _ => ∃ h : Hd, xs = [.str (holdTx h)] ∧ HdTx h ∧ Q (.d h.d)
def z6l : DS := (dRet (dMake .Work ze (dConsA (dOp dIx (dL 1) (dC (.int 0))) (dConsA (dV 2) (dConsA (dV 3) (dConsA (dV 4) (dConsA (dV 5) (dConsA (dV 6) dNilA)))))) []))
def z6m : DS := dSeq (dSet 6 (dLc (.one 7) (dItL (dSl (dL 1) (dSome (dC (.int 5))) dNo)) dYes (dCall zh4 (dConsA (dV 7) dNilA) []) [7])) z6l
def z6n : DS := dSeq (dUnpL [2, 3, 4, 5] (dLc (.one 7) (dItL (dSl (dL 1) (dSome (dC (.int 1))) (dSome (dC (.int 5))))) dYes (dCall z8b (dConsA (dV 7) dNilA) []) [7])) z6m
def z6o : DS := dSeq (dIf (dTst cLt (dCB fLen (dConsA (dL 1) dNilA)) (dC (.int 5))) (dRaise .NoText) dNext) z6n
def zdg : DS := dSeq (dSet 1 (dCall zid (dConsA (dV 0) dNilA) [])) z6o
local macro_rules | `(tactic| walk_at "M_read_work") => `(tactic| repeat (first | walk_at "e" | walk_at "s" | (with_reducible show z6l _ _; simp only [z6l]) | (with_reducible show z6m _ _; simp only [z6m]) | (with_reducible show z6n _ _; simp only [z6n]) | (with_reducible show z6o _ _; simp only [z6o]) | (with_reducible show zdg _ _; simp only [zdg])))
def z3a : DS := (dRet (dOp dIx (dFld [.Duty] .numbers (dL 0)) (dL 1)))
def z8z : DS := dSeq (dIf (dOr (dNot (dBool (dIs "str" (dL 1)))) (dTst cNotIn (dL 1) (dFld [.Duty] .numbers (dL 0)))) (dRaise .NoName) dNext) z3a
local macro_rules | `(tactic| walk_at "M_Duty_number_of") => `(tactic| repeat (first | walk_at "e" | walk_at "s" | (with_reducible show z3a _ _; simp only [z3a]) | (with_reducible show z8z _ _; simp only [z8z])))
structure P3 where
  gap : Int
  length : Int
  late : Int
def P3.d (p : P3) : D := .tup [.int p.gap, .int p.length, .int p.late]
structure P3.ok (p : P3) : Prop where
  gap : 1 ≤ p.gap ∧ p.gap < 10 ^ 42
  len : 1 ≤ p.length ∧ p.length ≤ p.gap
  late : 0 ≤ p.late ∧ p.late < 2 * 10 ^ 42
def z8c : DS := (dRet (dLst (dConsA (dOp dIx (dC (.str "abcde")) (dL 1)) (dConsA (dV 4) (dConsA (dOp dAdd (dC (.int 1)) (dOp dMod (dOp dMul (dOp dDiv (dL 3) (dC (.int 7))) (dC (.int 16807))) (dL 4))) (dConsA (dV 5) (dConsA (dV 6) dNilA)))))))
def z8d : DS := dSeq (dSet 6 (dOp dIx (dLst (dConsA (dC (.int 0)) (dConsA (dOp dMod (dOp dMul (dOp dDiv (dL 3) (dC (.int 5))) (dC (.int 69621))) (dOp dMul (dC (.int 2)) (dL 4))) dNilA))) (dOp dMod (dOp dDiv (dL 3) (dC (.int 3))) (dC (.int 2))))) z8c
def z8e : DS := dSeq (dSet 5 (dOp dAdd (dC (.int 1)) (dOp dMod (dOp dMul (dOp dDiv (dL 3) (dC (.int 3))) (dC (.int 48271))) (dL 4)))) z8d
def z8f : DS := dSeq (dSet 4 (dOp dAdd (dOp dMul (dL 2) (dOp dAdd (dC (.int 1)) (dOp dMod (dL 3) (dC (.int 8))))) (dOp dMod (dOp dDiv (dL 3) (dC (.int 8))) (dL 2)))) z8e
def zel : DS := dSeq (dSet 3 (dCall z5p (dConsA (dV 0) (dConsA (dOp dAdd (dC (.int 3)) (dL 1)) dNilA)) [])) z8f
local macro_rules | `(tactic| walk_at "L_parts_v1") => `(tactic| repeat (first | walk_at "e" | walk_at "s" | (with_reducible show z8c _ _; simp only [z8c]) | (with_reducible show z8d _ _; simp only [z8d]) | (with_reducible show z8e _ _; simp only [z8e]) | (with_reducible show z8f _ _; simp only [z8f]) | (with_reducible show zel _ _; simp only [zel])))
def z2l : DS := (dRet (dTup (dConsA (dMeth (altL [(.Order, zei), (.ByRank, zdj), (.ByDue, zej), (.ByComing, zc7)]) (dV 2) (dConsA (dV 4) (dConsA (dOp dIx (dL 3) (dL 0)) dNilA)) []) (dConsA (dV 5) (dConsA (dV 0) dNilA)))))
def z2m : DS := dSeq (dIf (dBool (dMeth (altL [(.Order, z5j), (.ByRank, zf8), (.ByDue, z5j), (.ByComing, z5j)]) (dV 2) (dConsA (dV 4) (dConsA (dOp dIx (dL 3) (dL 0)) dNilA)) [])) (dSet 5 (dC (.int 0))) dNext) z2l
def z2n : DS := dSeq (dSet 5 (dC (.int 1))) z2m
def z6p : DS := dSeq (dSet 4 (dOp dIx (dL 1) (dL 0))) z2n
local macro_rules | `(tactic| walk_at "M_Order_pick_ahead") => `(tactic| repeat (first | walk_at "e" | walk_at "s" | (with_reducible show z2l _ _; simp only [z2l]) | (with_reducible show z2m _ _; simp only [z2m]) | (with_reducible show z2n _ _; simp only [z2n]) | (with_reducible show z6p _ _; simp only [z6p])))
def keyW (ws : List Wk) (k : Int) (row : List Cm) (dones : List Int) (p : Int) : List Int := match row[p.toNat]?, dones[p.toNat]? with
  | some c, some dn => [rankV ws k c dn, if holdV ws k c dn = true then 0 else 1, p]
  | _, _ => []
structure PlOk (ws : List Wk) (row : List Cm) (dones : List Int) (p : Nat) : Prop where
  ex : ∃ (c : Cm) (w : Wk) (dn : Int), row[p]? = some c ∧ ws[c.at_]? = some w ∧ dones[p]? = some dn
def zc8 : FS := fun xs Q _ => ∃ (ws : List Wk) (k : Int) (row : List Cm) (dones : List Int) (p : Nat), xs = [.int p, .lst (row.map Cm.d), orderD (ordCn k) ws, .lst (dones.map .int)] ∧ PlOk ws row dones p ∧ (∀ w ∈ ws, w.ok) ∧ ws.length ≤ 1000 ∧ Q (.d (.tup ((keyW ws k row dones p).map .int)))
def zc9 : DS := dPick 4 zc8 [1, 0, 3] (dL 2)
local macro_rules | `(tactic| walk_at "M_Order_pick") => `(tactic| repeat (first | walk_at "e" | walk_at "s" | (with_reducible show zc9 _ _; simp only [zc9])))
structure Best (ws : List Wk) (k : Int) (row : List Cm) (dones : List Int) (waiting : List Nat) (p : Nat) : Prop where
  mem : p ∈ waiting
  least : ∀ q ∈ waiting, HT.lexLt (keyW ws k row dones q) (keyW ws k row dones p) = false
def pickW (ws : List Wk) (k : Int) (row : List Cm) (dones : List Int) (waiting : List Nat) : Nat := (waiting.find? fun p : Nat => waiting.all fun q : Nat => !HT.lexLt (keyW ws k row dones q) (keyW ws k row dones p)).getD 0
def z49 : FS := fun xs Q _ => ∃ (ws : List Wk) (k : Int) (row : List Cm) (dones : List Int) (waiting : List Nat), xs = [orderD (ordCn k) ws, .lst (row.map Cm.d), .lst ((waiting.map fun p : Nat => (p : Int)).map .int), .lst (dones.map .int)] ∧ waiting ≠ [] ∧ (∀ p ∈ waiting, PlOk ws row dones p) ∧ (∀ w ∈ ws, w.ok) ∧ ws.length ≤ 1000 ∧
  (Best ws k row dones waiting (pickW ws k row dones waiting) → Q (.d (.int (pickW ws k row dones waiting))))
def zaz : DS := (dRet (dOp dSub (dOp dIx (dL 1) (dC (.int 3))) (dL 2)))
local macro_rules | `(tactic| walk_at "M_Order_steady") => `(tactic| repeat (first | walk_at "e" | walk_at "s" | (with_reducible show zaz _ _; simp only [zaz])))
def z4w : FS := fun xs Q _ => ∃ (o : D) (c : Cm) (done : Int), xs = [o, c.d, .int done] ∧ Q (.d (.int (c.length - done)))
def z3b : DS := (dIf (dTst cGt (dL 6) (dL 2)) (dSet 3 (dCB fMin2 (dConsA (dL 3) (dConsA (dOp dSub (dL 6) (dL 2)) dNilA)))) dNext)
def z3t : DS := (dRetL 3)
def z3u : DS := dSeq (dFor (.many [4, 5, 6]) (dItL (dMeth (altL [(.Work, za)]) (dMeth (altL [(.Duty, z7)]) (dFld [.Order, .ByRank, .ByDue, .ByComing] .duty (dL 0)) (dConsA (dOp dIx (dL 1) (dC (.int 0))) dNilA) []) dNilA [])) z3b) z3t
def za9 : DS := dSeq (dSet 3 (dOp dSub (dOp dIx (dL 1) (dC (.int 3))) (dL 2))) z3u
local macro_rules | `(tactic| walk_at "M_ByRank_steady") => `(tactic| repeat (first | walk_at "e" | walk_at "s" | (with_reducible show z3b _ _; simp only [z3b]) | (with_reducible show z3t _ _; simp only [z3t]) | (with_reducible show z3u _ _; simp only [z3u]) | (with_reducible show za9 _ _; simp only [za9])))
def steadyR (hs : List Hd) (c : Cm) (done : Int) : Int := hs.foldl (fun t h => if done < h.en then min t (h.en - done) else t) (c.length - done)
def zem : FS := fun xs Q _ => ∃ (ws : List Wk) (c : Cm) (w : Wk) (done : Int), xs = [orderD .ByRank ws, c.d, .int done] ∧ ws[c.at_]? = some w ∧ Q (.d (.int (steadyR w.holds c done)))
def zgl : DS := (dIf (dAnd (dTst cNe (dL 0) (dLst dNilA)) (dAnd (dTst cEq (dOp dIx (dOp dIx (dL 0) (dUn dNeg (dC (.int 1)))) (dC (.int 0))) (dL 1)) (dTst cEq (dOp dIx (dOp dIx (dL 0) (dUn dNeg (dC (.int 1)))) (dC (.int 2))) (dL 2)))) (dSeq (dPopIxP 4 0 1) (dAppP 0 (dTup (dConsA (dV 1) (dConsA (dV 4) (dConsA (dV 3) dNilA)))))) (dAppP 0 (dTup (dConsA (dV 1) (dConsA (dV 2) (dConsA (dV 3) dNilA))))))
local macro_rules | `(tactic| walk_at "M_put_on") => `(tactic| repeat (first | walk_at "e" | walk_at "s" | (with_reducible show zgl _ _; simp only [zgl])))
structure Sr where
  pl : Nat
  a : Int
  b : Int
def Sr.d (s : Sr) : D := .tup [.int s.pl, .int s.a, .int s.b]
def putOn (told : List Sr) (p : Nat) (now until_ : Int) : List Sr := match told.getLast? with
  | some s => if s.pl = p ∧ s.b = now then told.dropLast ++ [⟨p, s.a, until_⟩] else told ++ [⟨p, now, until_⟩]
  | none => [⟨p, now, until_⟩]
def zkp : FP := fun xs Q => ∃ (told : List Sr) (p : Nat) (now u : Int), xs = [.lst (told.map Sr.d), .int p, .int now, .int u] ∧ told.length ≤ 100000 ∧ Q ((putOn told p now u).map Sr.d) .non
def zb0 : DS := (dAug 7 dAddI (dC (.int 1)))
def zcy : DS := dSeq (dApp 4 (dOp dIx (dOp dIx (dL 2) (dL 7)) (dC (.int 1)))) zb0
def zb1 : DS := (dIf (dTst cEq (dOp dIx (dL 3) (dL 8)) (dOp dIx (dOp dIx (dL 1) (dL 8)) (dC (.int 3)))) (dRem 4 (dL 8)) dNext)
def zb2 : DS := dSeq (dAug 6 dAddI (dL 9)) zb1
def zb3 : DS := dSeq (dAugS 3 (dL 8) (dL 9)) zb2
def zb4 : DS := dSeq (dCallP 5 zkp (dConsA (dL 5) (dConsA (dV 8) (dConsA (dV 6) (dConsA (dOp dAdd (dL 6) (dL 9)) dNilA))))) zb3
def zb5 : DS := dSeq (dIf (dTst cLt (dL 7) (dCB fLen (dConsA (dL 1) dNilA))) (dSet 9 (dCB fMin2 (dConsA (dL 9) (dConsA (dOp dSub (dOp dIx (dOp dIx (dL 2) (dL 7)) (dC (.int 0))) (dL 6)) dNilA)))) dNext) zb4
def zb6 : DS := dSeq (dSet 9 (dMeth (altL [(.Order, z4w), (.ByRank, zem), (.ByDue, z4w), (.ByComing, z4w)]) (dV 0) (dConsA (dOp dIx (dL 1) (dL 8)) (dConsA (dOp dIx (dL 3) (dL 8)) dNilA)) [])) zb5
def zb7 : DS := dSeq (dSet 8 (dMethT (altL [(.Order, z49), (.ByRank, z49), (.ByDue, z49), (.ByComing, z49)]) (dL 0) (dConsA (dL 1) (dConsA (dL 4) (dConsA (dL 3) dNilA))) [])) zb6
def zb8 : DS := dSeq (dWhile (dAnd (dTst cLt (dL 7) (dCB fLen (dConsA (dL 1) dNilA))) (dTst cLe (dOp dIx (dOp dIx (dL 2) (dL 7)) (dC (.int 0))) (dL 6))) zcy) zb7
def zcz : DS := dSeq (dIf (dTst cEq (dL 4) (dLst dNilA)) (dSet 6 (dCB fMax2 (dConsA (dL 6) (dConsA (dOp dIx (dOp dIx (dL 2) (dL 7)) (dC (.int 0))) dNilA)))) dNext) zb8
def zen : DS := (dRetL 5)
def zeo : DS := dSeq (dWhile (dOr (dTst cLt (dL 7) (dCB fLen (dConsA (dL 1) dNilA))) (dTst cNe (dL 4) (dLst dNilA))) zcz) zen
def zep : DS := dSeq (dSet 7 (dC (.int 0))) zeo
def zeq : DS := dSeq (dSet 6 (dC (.int 0))) zep
def zer : DS := dSeq (dSetO 5 (dLst dNilA)) zeq
def zes : DS := dSeq (dSetO 4 (dLst dNilA)) zer
def zet : DS := dSeq (dSetO 3 (dLc (.one 10) (dItL (dV 1)) dYes (dC (.int 0)) [10])) zes
def zeu : DS := dSeq (dSet 2 (dCB fSort2 (dConsA (dLc (.one 8) (dRng1 (dConsA (dCB fLen (dConsA (dL 1) dNilA)) dNilA)) dYes (dTup (dConsA (dCall zcb (dConsA (dOp dIx (dL 1) (dL 8)) dNilA) []) (dConsA (dV 8) dNilA))) [8]) dNilA))) zet
def zl2 : DS := dSeq (dDrop (dCall zec (dConsA (dFld [.Order, .ByRank, .ByDue, .ByComing] .duty (dL 0)) (dConsA (dV 1) dNilA)) [])) zeu
local macro_rules | `(tactic| walk_at "M_run") => `(tactic| repeat (first | walk_at "e" | walk_at "s" | (with_reducible show zb0 _ _; simp only [zb0]) | (with_reducible show zcy _ _; simp only [zcy]) | (with_reducible show zb1 _ _; simp only [zb1]) | (with_reducible show zb2 _ _; simp only [zb2]) | (with_reducible show zb3 _ _; simp only [zb3]) | (with_reducible show zb4 _ _; simp only [zb4]) | (with_reducible show zb5 _ _; simp only [zb5]) | (with_reducible show zb6 _ _; simp only [zb6]) | (with_reducible show zb7 _ _; simp only [zb7]) | (with_reducible show zb8 _ _; simp only [zb8]) | (with_reducible show zcz _ _; simp only [zcz]) | (with_reducible show zen _ _; simp only [zen]) | (with_reducible show zeo _ _; simp only [zeo]) | (with_reducible show zep _ _; simp only [zep]) | (with_reducible show zeq _ _; simp only [zeq]) | (with_reducible show zer _ _; simp only [zer]) | (with_reducible show zes _ _; simp only [zes]) | (with_reducible show zet _ _; simp only [zet]) | (with_reducible show zeu _ _; simp only [zeu]) | (with_reducible show zl2 _ _; simp only [zl2])))
structure RS where
  told : List Sr
  dones : List Int
  waiting : List Nat
  now : Int
  many : Nat
def rdyAt (row : List Cm) (p : Nat) : Int := match row[p]? with
  | some c => c.rdy
  | none => 0
def lenAt (row : List Cm) (p : Nat) : Int := match row[p]? with
  | some c => c.length
  | none => 0
def doneAt (dones : List Int) (p : Nat) : Int := match dones[p]? with
  | some d => d
  | none => 0
def comAt (row : List Cm) (p : Nat) : Cm := match row[p]? with
  | some c => c
  | none => ⟨0, 0, 0, 0⟩
def le2 (a b : Int × Nat) : Bool := decide (a.1 < b.1) || (decide (a.1 = b.1) && decide (a.2 ≤ b.2))
def laterOf (row : List Cm) : List (Int × Nat) := ((List.range row.length).map fun p => (rdyAt row p, p)).mergeSort le2
def moreS (row : List Cm) (S : RS) : Prop := S.many < row.length ∨ S.waiting ≠ []
instance (row : List Cm) (S : RS) : Decidable (moreS row S) := by unfold moreS; infer_instance
theorem later_perm (row : List Cm) : (laterOf row).Perm ((List.range row.length).map fun p => (rdyAt row p, p)) := List.mergeSort_perm ..
theorem later_mem {row : List Cm} {e : Int × Nat} : e ∈ laterOf row ↔ e.2 < row.length ∧ e.1 = rdyAt row e.2 := by
  rw [(later_perm row).mem_iff, List.mem_map]
  constructor
  · rintro ⟨p, hp, rfl⟩
    exact ⟨List.mem_range.mp hp, rfl⟩
  · rintro ⟨h1, h2⟩
    exact ⟨e.2, List.mem_range.mpr h1, by rw [← h2]⟩
structure ROk (ws : List Wk) (row : List Cm) : Prop where
  each : ∀ c ∈ row, ∃ w, ws[c.at_]? = some w ∧ 0 ≤ c.come ∧ 0 ≤ c.late ∧ 1 ≤ c.length ∧ c.length ≤ w.length
theorem ROk.at {ws : List Wk} {row : List Cm} (h : ROk ws row) {p : Nat} (hp : p < row.length) : ∃ c w, row[p]? = some c ∧ ws[c.at_]? = some w ∧ comAt row p = c ∧ lenAt row p = c.length ∧ rdyAt row p = c.rdy ∧ 0 ≤ c.come ∧ 0 ≤ c.late ∧ 1 ≤ c.length ∧ c.length ≤ w.length := by
  have hc : row[p]? = some row[p] := List.getElem?_eq_getElem hp
  obtain ⟨w, h1, h2, h3, h4, h5⟩ := h.each row[p] (List.getElem_mem hp)
  exact ⟨row[p], w, hc, h1, by unfold comAt; rw [hc], by unfold lenAt; rw [hc], by unfold rdyAt; rw [hc], h2, h3, h4, h5⟩
structure Good (row : List Cm) (L : List (Int × Nat)) (S : RS) : Prop where
  len : S.dones.length = row.length
  rng : ∀ p, p < row.length → 0 ≤ doneAt S.dones p ∧ doneAt S.dones p ≤ lenAt row p
  wait : ∀ p, p ∈ S.waiting ↔ (∃ e ∈ L.take S.many, e.2 = p) ∧ doneAt S.dones p < lenAt row p
  nd : S.waiting.Nodup
  many : S.many ≤ row.length
  past : ∀ e ∈ L.take S.many, e.1 ≤ S.now
  fut : ∀ e ∈ L.drop S.many, S.now ≤ e.1
  zero : ∀ e ∈ L.drop S.many, doneAt S.dones e.2 = 0
section
variable {ws : List Wk} {row : List Cm} {S : RS} {k : Int}
theorem Good.place (g : Good row (laterOf row) S) {p : Nat} (h : p ∈ S.waiting) : p < row.length := by
  obtain ⟨⟨e, he, rfl⟩, _⟩ := (g.wait p).mp h
  exact (later_mem.mp (List.mem_of_mem_take he)).1
theorem Good.split (g : Good row (laterOf row) S) {p : Nat} (hp : p < row.length) : (∃ e ∈ (laterOf row).take S.many, e.2 = p ∧ e.1 = rdyAt row p) ∨ ∃ e ∈ (laterOf row).drop S.many, e.2 = p ∧ e.1 = rdyAt row p := by
  have hm : (rdyAt row p, p) ∈ laterOf row := later_mem.mpr ⟨hp, rfl⟩
  rw [← List.take_append_drop S.many (laterOf row)] at hm
  rcases List.mem_append.mp hm with h | h
  · exact .inl ⟨_, h, rfl, rfl⟩
  · exact .inr ⟨_, h, rfl, rfl⟩
end
theorem at_lt2 {α : Type} {l : List α} {p : Nat} {x : α} (h : l[p]? = some x) : p < l.length := (List.getElem?_eq_some_iff.mp h).1
def z4x : DS := (dSet 0 (dOp dAdd (dOp dDiv (dL 0) (dOp dAdd (dC (.int 2)) (dL 4))) (dOp dMul (dC (.int 7)) (dL 4))))
def z6q : DS := dSeq (dAppPop 3 2 (dOp dMod (dL 0) (dCB fLen (dConsA (dL 2) dNilA)))) z4x
def z8g : DS := (dRetL 3)
def z8h : DS := dSeq (dFor (.one 4) (dRng1 (dConsA (dL 1) dNilA)) z6q) z8g
def z8i : DS := dSeq (dSetO 3 (dLst dNilA)) z8h
def zev : DS := dSeq (dSetO 2 (dLRg1 (dL 1))) z8i
local macro_rules | `(tactic| walk_at "L_order_v2") => `(tactic| repeat (first | walk_at "e" | walk_at "s" | (with_reducible show z4x _ _; simp only [z4x]) | (with_reducible show z6q _ _; simp only [z6q]) | (with_reducible show z8g _ _; simp only [z8g]) | (with_reducible show z8h _ _; simp only [z8h]) | (with_reducible show z8i _ _; simp only [z8i]) | (with_reducible show zev _ _; simp only [zev])))
def nsD (ps : List Nat) : List D := (ps.map fun p : Nat => (p : Int)).map D.int
theorem nsD_len (ps : List Nat) : (nsD ps).length = ps.length := by unfold nsD; rw [List.length_map, List.length_map]
theorem nsD_app (ps qs : List Nat) : nsD (ps ++ qs) = nsD ps ++ nsD qs := by unfold nsD; rw [List.map_append, List.map_append]
def z3c : DS := (dRet (dMake .Duty zb (dConsA (dLc (.one 2) (dItL (dV 1)) dYes (dOp dIx (dFld [.Duty] .works (dL 0)) (dL 2)) [2]) dNilA) []))
def z3d : DS := dSeq (dIf (dTst cNe (dCB fSort2 (dConsA (dL 1) dNilA)) (dLRg1 (dCB fLen (dConsA (dFld [.Duty] .works (dL 0)) dNilA)))) (dRaise .BadDuty) dNext) z3c
def z2i : DS := dSeq (dIf (dOr (dNot (dBool (dIs "list" (dL 1)))) (dNot (dBool (dCB fAll (dConsA (dLc (.one 2) (dItL (dV 1)) dYes (dCall z9 (dConsA (dV 2) dNilA) []) [2]) dNilA))))) (dRaise .BadDuty) dNext) z3d
local macro_rules | `(tactic| walk_at "M_Duty_reordered") => `(tactic| repeat (first | walk_at "e" | walk_at "s" | (with_reducible show z3c _ _; simp only [z3c]) | (with_reducible show z3d _ _; simp only [z3d]) | (with_reducible show z2i _ _; simp only [z2i])))
def reW (ws : List Wk) (ps : List Nat) : List Wk := ps.filterMap fun p => ws[p]?
theorem range_pick {α : Type} (ws : List α) : ∀ k, k ≤ ws.length → (List.range k).filterMap (fun p => ws[p]?) = ws.take k
  | 0, _ => by simp
  | k + 1, h => by
    have hk : ws[k]? = some ws[k] := List.getElem?_eq_getElem (by omega)
    rw [List.range_succ, List.filterMap_append, range_pick ws k (by omega), List.filterMap_cons_some hk, List.filterMap_nil, List.take_add_one, hk]
    rfl
theorem reW_perm {ws : List Wk} {ps : List Nat} (h : ps.Perm (List.range ws.length)) : (reW ws ps).Perm ws := by
  have := h.filterMap fun p => ws[p]?
  rwa [range_pick ws _ (Nat.le_refl _), List.take_length] at this
theorem reW_map {ws : List Wk} : ∀ {ps : List Nat}, (∀ p ∈ ps, p < ws.length) → ∀ (i p : Nat), ps[i]? = some p → (reW ws ps)[i]? = ws[p]?
  | [], _, i, p, h => by simp at h
  | q :: ps, hp, i, p, h => by
    have hq : ws[q]? = some (ws[q]'(hp q List.mem_cons_self)) := List.getElem?_eq_getElem _
    have e : reW ws (q :: ps) = ws[q]'(hp q List.mem_cons_self) :: reW ws ps := List.filterMap_cons_some hq
    rw [e]
    cases i with
    | zero =>
      have : q = p := by simpa using h
      subst this
      rw [hq]
      rfl
    | succ i => exact reW_map (fun p h => hp p (List.mem_cons_of_mem _ h)) i p (by simpa using h)
theorem reW_len {ws : List Wk} {ps : List Nat} (h : ps.Perm (List.range ws.length)) : (reW ws ps).length = ws.length := (reW_perm h).length_eq
theorem maxOr_perm {d : Int} {l m : List Int} (h : l.Perm m) : maxOr d l = maxOr d m := by
  rcases maxOr_mem (d := d) (ns := l) with ⟨e, e2⟩ | hm
  · subst e
    rw [List.nil_perm.mp h]
  · rcases maxOr_mem (d := d) (ns := m) with ⟨e, _⟩ | hm2
    · subst e
      rw [List.perm_nil.mp h]
    · have h1 := maxOr_ge (d := d) (h.mem_iff.mp hm)
      have h2 := maxOr_ge (d := d) (h.mem_iff.mpr hm2)
      omega
theorem sum_perm {l m : List Int} (h : l.Perm m) : l.sum = m.sum := by
  induction h with
  | nil => rfl
  | cons x _ ih => rw [List.sum_cons, List.sum_cons, ih]
  | swap x y l => simp only [List.sum_cons]; omega
  | trans _ _ ih1 ih2 => rw [ih1, ih2]
theorem crowd_perm {vs ws : List Wk} (h : vs.Perm ws) : crowdOf vs = crowdOf ws := by
  unfold crowdOf
  rw [maxOr_perm (h.map Wk.due)]
  exact sum_perm (h.map _)
theorem DutyOk.perm {vs ws : List Wk} (D : DutyOk ws) (h : vs.Perm ws) : DutyOk vs :=
  ⟨fun w hw => D.ok w (h.mem_iff.mp hw), ((h.map Wk.name).nodup_iff).mpr D.nd, by rw [h.length_eq]; exact D.len, by rw [crowd_perm h]; exact D.crowd⟩
theorem sorted_range {ps : List Nat} {n : Nat} (h : ps.Perm (List.range n)) {ms : List Int} (hm : ms.Perm (ps.map fun p : Nat => (p : Int))) (hs : ms.Pairwise (· ≤ ·)) : ms = (List.range n).map fun p : Nat => (p : Int) := by
  refine List.Perm.eq_of_pairwise (le := fun a b : Int => a ≤ b) (fun a b _ _ h1 h2 => Int.le_antisymm h1 h2) hs ?_ (hm.trans (h.map _))
  rw [List.pairwise_map]
  exact List.pairwise_lt_range.imp fun {a b} h => by omega
theorem recv_d {alt : Cn → Option FS} {fs : FS} {PF : FS → Prop} (ws : List Wk) (h : alt .Duty = some fs) : mRecv alt (dutyD ws) PF = PF fs := by
  show (match alt .Duty with | some fs => PF fs | none => False) = _
  rw [h]
def zf : FS := fun xs Q _ => ∃ (ws : List Wk) (ps : List Nat), xs = [dutyD ws, .lst (nsD ps)] ∧ DutyOk ws ∧ ps.Perm (List.range ws.length) ∧ Q (.d (dutyD (reW ws ps)))
theorem zbd : ∀ xs QD QE, zf xs QD QE → xs.length = 2 := fun xs _ _ ⟨_, _, h, _⟩ => by rw [h]; rfl
theorem zdk : ∀ xs QD QE, zf xs QD QE → z2i (fEnds QD QE) (rho0 3 xs) := by
  rintro xs QD QE ⟨ws, ps, rfl, hD, hp, h⟩
  have h12 := hD.len
  have hpl : ps.length = ws.length := by rw [hp.length_eq, List.length_range]
  walk_at "M_Duty_reordered"
  unfold nsD
  refine lc_tm (fun _ : Int => .bl true) (fun x hx N hN => ?_) (by rw [List.length_map, sizeLine_eq]; omega) ?_
  · walk_at "M_Duty_reordered"
    exact ⟨_, true, rfl, rfl, hN⟩
  walk_at "M_Duty_reordered"
  intro ms hm hs
  have em := sorted_range hp hm hs
  subst em
  unfold dutyD dutyFs
  walk_at "M_Duty_reordered"
  have er : rngD 0 ((ws.length : Int) - 0) = ((List.range ws.length).map fun p : Nat => (p : Int)).map D.int := by
    rw [Int.sub_zero, rngD_map, List.map_map]
    rfl
  rw [er]
  have sh := shaped_ints ((List.range ws.length).map fun p : Nat => (p : Int))
  refine ⟨sh, sh, ?_⟩
  rw [eqv_self (nice_ints _), if_neg (by decide)]
  walk_at "M_Duty_reordered"
  refine lc_tm (fun p : Int => ((ws[p.toNat]?).map Wk.d).getD .non) (fun p hp2 N hN => ?_) (by rw [List.length_map, sizeLine_eq]; omega) ?_
  · obtain ⟨q, hq, rfl⟩ := List.mem_map.mp hp2
    have hql : q < ws.length := List.mem_range.mp (hp.mem_iff.mp hq)
    obtain ⟨w, hw⟩ := at_lt hql
    walk_at "M_Duty_reordered"
    rw [hw]
    walk_at "M_Duty_reordered"
    rw [Int.toNat_natCast, hw] at hN
    exact hN
  have e : (ps.map fun p : Nat => (p : Int)).map (fun p : Int => ((ws[p.toNat]?).map Wk.d).getD .non) = (reW ws ps).map Wk.d := by
    refine List.ext_getElem? fun i => ?_
    rw [List.map_map, List.getElem?_map, List.getElem?_map]
    cases hi : ps[i]? with
    | none =>
      rw [List.getElem?_eq_none_iff] at hi
      rw [List.getElem?_eq_none (by rw [reW_len hp]; omega)]
      rfl
    | some q =>
      have hql : q < ws.length := List.mem_range.mp (hp.mem_iff.mp (mem_of_at hi))
      obtain ⟨w, hw⟩ := at_lt hql
      rw [reW_map (fun p h => List.mem_range.mp (hp.mem_iff.mp h)) i q hi, hw]
      simp [hw]
  rw [e]
  walk_at "M_Duty_reordered"
  refine make_duty (hD.perm (reW_perm hp)) ?_
  exact h
def z4j : DS := (dRet (dOp (cmpV cNotN) (dCall z26 (dConsA (dMeth (altL [(.Duty, zf)]) (dV 0) (dConsA (dV 5) dNilA) []) (dConsA (dCB fLen (dConsA (dL 4) dNilA)) dNilA)) []) (dC .non)))
def z4k : DS := dSeq (dSet 5 (dOp dAdd (dOp dAdd (dL 4) (dLst (dConsA (dV 3) dNilA))) (dL 2))) z4j
def z3e : DS := dSeq (dSet 4 (dLc (.one 6) (dItL (dV 1)) (dTst cNe (dL 6) (dL 3)) (dV 6) [6])) z4k
local macro_rules | `(tactic| walk_at "M_fits_weakest") => `(tactic| repeat (first | walk_at "e" | walk_at "s" | (with_reducible show z4j _ _; simp only [z4j]) | (with_reducible show z4k _ _; simp only [z4k]) | (with_reducible show z3e _ _; simp only [z3e])))
def blkT (S B : List Wk) : List Int := (B.map Wk.holds).flatten.filterMap fun q => if q.th ∈ (S.map Wk.holds).flatten.map Hd.th then some (q.en - q.st - 1) else none
def sumT (A : List Wk) (s : Int) : Int := (A.map fun x => comIn x.gap x.late s * x.length).sum
theorem load_T (A : List Wk) (w : Wk) (B : List Wk) (s : Int) : loadOf (A ++ w :: B) A.length s = (blkT (A ++ [w]) B).foldl max 0 + w.length + sumT A s := by
  unfold loadOf loadG holdUp blocks strongs
  have e0 : A ++ w :: B = (A ++ [w]) ++ B := by rw [List.append_assoc]; rfl
  have e1 : ((A ++ w :: B).map Wk.holds).drop (A.length + 1) = B.map Wk.holds := by
    rw [e0, List.map_append, List.drop_left' (by rw [List.length_map, List.length_append]; rfl)]
  have e2 : ((A ++ w :: B).map Wk.holds).take (A.length + 1) = (A ++ [w]).map Wk.holds := by
    rw [e0, List.map_append, List.take_left' (by rw [List.length_map, List.length_append]; rfl)]
  have e3 : ((A ++ w :: B).map Wk.tri).take A.length = A.map Wk.tri := by
    rw [List.map_append, List.take_left' (by rw [List.length_map])]
  have e4 : ((A ++ w :: B).map Wk.length).getD A.length 0 = w.length := by
    rw [List.getD_eq_getElem?_getD, List.map_append, List.getElem?_append_right (by rw [List.length_map]; exact Nat.le_refl _), List.length_map, Nat.sub_self]
    rfl
  rw [e1, e2, e3, e4, List.map_map]
  rfl
theorem sum_nn0 {f : Wk → Int} : ∀ (m : List Wk), (∀ x ∈ m, 0 ≤ f x) → 0 ≤ (m.map f).sum
  | [], _ => Int.le_refl _
  | y :: m, h => by
    rw [List.map_cons, List.sum_cons]
    have h1 := h y List.mem_cons_self
    have h2 := sum_nn0 m fun x hx => h x (List.mem_cons_of_mem _ hx)
    omega
theorem sum_sub {f : Wk → Int} : ∀ {l m : List Wk}, l.Nodup → (∀ x ∈ l, x ∈ m) → (∀ x ∈ m, 0 ≤ f x) → (l.map f).sum ≤ (m.map f).sum
  | [], m, _, _, h => by
    rw [List.map_nil, List.sum_nil]
    exact sum_nn0 m h
  | x :: l, m, hn, hs, h => by
    obtain ⟨s, t, rfl⟩ := List.append_of_mem (hs x List.mem_cons_self)
    have hn := List.nodup_cons.mp hn
    have key := sum_sub (f := f) (l := l) (m := s ++ t) hn.2 (fun y hy => by
      have := hs y (List.mem_cons_of_mem _ hy)
      rcases List.mem_append.mp this with z | z
      · exact List.mem_append_left _ z
      · rcases List.mem_cons.mp z with z | z
        · subst z; exact absurd hy hn.1
        · exact List.mem_append_right _ z) (fun y hy => h y (by
      rcases List.mem_append.mp hy with z | z
      · exact List.mem_append_left _ z
      · exact List.mem_append_right _ (List.mem_cons_of_mem _ z)))
    rw [List.map_append, List.sum_append] at key
    rw [List.map_cons, List.sum_cons, List.map_append, List.sum_append, List.map_cons, List.sum_cons]
    omega
theorem one_com {y : Wk} (hy : y.ok) {s : Int} (hs : 1 ≤ s) : 1 ≤ comIn y.gap y.late s := by
  unfold comIn
  rw [if_neg (by omega)]
  have := hy.gap
  have := hy.late
  have h := (divUp_spec (t := s + y.late) (show 0 < y.gap by omega)).2
  rcases Int.lt_or_le (divUp (s + y.late) y.gap) 1 with z | z
  · have : divUp (s + y.late) y.gap * y.gap ≤ 0 * y.gap := Int.mul_le_mul_of_nonneg_right (by omega) (by omega)
    omega
  · exact z
theorem com_nn {y : Wk} (hy : y.ok) (s : Int) : 0 ≤ comIn y.gap y.late s * y.length := by
  have hl := hy.len
  by_cases hs : 1 ≤ s
  · exact Int.mul_nonneg (by have := one_com hy hs; omega) (by omega)
  · unfold comIn
    rw [if_pos (by omega)]
    omega
theorem load_sub {A A' B B' : List Wk} {w : Wk} {s : Int} (hs : 1 ≤ s) (hA : ∀ x ∈ A, x.ok) (hB' : ∀ x ∈ B', x.ok) (nd : (A' ++ w :: B').Nodup) (sub : ∀ x ∈ A', x ∈ A) (hB : ∀ y ∈ B', y ∈ A ∨ y ∈ B) :
    loadOf (A' ++ w :: B') A'.length s ≤ loadOf (A ++ w :: B) A.length s := by
  rw [load_T, load_T]
  have n1 := List.nodup_append.mp nd
  have nA' := n1.1
  have base : sumT A' s ≤ sumT A s := sum_sub nA' sub fun x hx => com_nn (hA x hx) s
  have g0 := (foldl_max_ge (blkT (A ++ [w]) B) 0).1
  rcases foldl_max_mem (blkT (A' ++ [w]) B') 0 with z | z
  · omega
  · generalize (blkT (A' ++ [w]) B').foldl max 0 = m at z
    unfold blkT at z
    obtain ⟨q, hq, e⟩ := List.mem_filterMap.mp z
    obtain ⟨l, hl, hql⟩ := List.mem_flatten.mp hq
    obtain ⟨y, hy, rfl⟩ := List.mem_map.mp hl
    have hyo := hB' y hy
    have hh := hyo.hold hql
    split at e
    · rename_i hst
      cases e
      rcases hB y hy with hyA | hyB
      · have hyn : y ∉ A' := fun h => n1.2.2 y h y (List.mem_cons_of_mem _ hy) rfl
        have k1 : sumT (y :: A') s ≤ sumT A s := sum_sub (List.nodup_cons.mpr ⟨hyn, nA'⟩) (fun x hx => by
          rcases List.mem_cons.mp hx with rfl | hx
          · exact hyA
          · exact sub x hx) fun x hx => com_nn (hA x hx) s
        have k2 : sumT (y :: A') s = comIn y.gap y.late s * y.length + sumT A' s := by
          unfold sumT
          rw [List.map_cons, List.sum_cons]
        have k3 := one_com hyo hs
        have k4 : 1 * y.length ≤ comIn y.gap y.late s * y.length := Int.mul_le_mul_of_nonneg_right k3 (by have := hyo.len; omega)
        omega
      · have hm : q.en - q.st - 1 ∈ blkT (A ++ [w]) B := by
          refine List.mem_filterMap.mpr ⟨q, List.mem_flatten.mpr ⟨y.holds, List.mem_map.mpr ⟨y, hyB, rfl⟩, hql⟩, ?_⟩
          rw [if_pos ?_]
          obtain ⟨p, hp, ep⟩ := List.mem_map.mp hst
          refine List.mem_map.mpr ⟨p, ?_, ep⟩
          obtain ⟨l2, hl2, hp2⟩ := List.mem_flatten.mp hp
          obtain ⟨v, hv, rfl⟩ := List.mem_map.mp hl2
          refine List.mem_flatten.mpr ⟨v.holds, List.mem_map.mpr ⟨v, ?_, rfl⟩, hp2⟩
          rcases List.mem_append.mp hv with h | h
          · exact List.mem_append_left _ (sub v h)
          · exact List.mem_append_right _ h
        have := (foldl_max_ge (blkT (A ++ [w]) B) 0).2 _ hm
        omega
    · cases e
def fitT (A : List Wk) (w : Wk) (B : List Wk) : Prop := feas (A ++ w :: B) A.length (w.due - w.late)
theorem fit_sub {A A' B B' : List Wk} {w : Wk} (hA : ∀ x ∈ A, x.ok) (hB' : ∀ x ∈ B', x.ok) (nd : (A' ++ w :: B').Nodup) (sub : ∀ x ∈ A', x ∈ A) (hB : ∀ y ∈ B', y ∈ A ∨ y ∈ B) (h : fitT A w B) : fitT A' w B' := by
  obtain ⟨l, h1, h2, h3⟩ := h
  have := load_sub h1 hA hB' nd sub hB (w := w) (B := B)
  exact ⟨l, h1, h2, by omega⟩
theorem reW_app (ws : List Wk) (as bs : List Nat) : reW ws (as ++ bs) = reW ws as ++ reW ws bs := List.filterMap_append
theorem reW_cons {ws : List Wk} {k : Nat} {w : Wk} (hw : ws[k]? = some w) (bs : List Nat) : reW ws (k :: bs) = w :: reW ws bs := List.filterMap_cons_some hw
theorem reW_lenM {ws : List Wk} : ∀ {ps : List Nat}, (∀ p ∈ ps, p < ws.length) → (reW ws ps).length = ps.length
  | [], _ => rfl
  | p :: ps, h => by
    obtain ⟨w, hw⟩ := at_lt (h p List.mem_cons_self)
    rw [reW_cons hw, List.length_cons, List.length_cons, reW_lenM fun q hq => h q (List.mem_cons_of_mem _ hq)]
theorem reW_mem {ws : List Wk} {ps : List Nat} {x : Wk} : x ∈ reW ws ps ↔ ∃ k, k ∈ ps ∧ ws[k]? = some x := List.mem_filterMap
def fitI (ws : List Wk) (as : List Nat) (k : Nat) (bs : List Nat) : Prop := ∃ w, ws[k]? = some w ∧ fitT (reW ws as) w (reW ws bs)
theorem nodup_map {α β : Type} {f : α → β} : ∀ {l : List α}, (l.map f).Nodup → l.Nodup
  | [], _ => List.Pairwise.nil
  | a :: l, h => by
    rw [List.map_cons] at h
    have h := List.nodup_cons.mp h
    exact List.nodup_cons.mpr ⟨fun z => h.1 (List.mem_map.mpr ⟨a, z, rfl⟩), nodup_map h.2⟩
theorem fitI_sub {ws : List Wk} {as bs as' bs' : List Nat} {k : Nat} (hD : DutyOk ws) (hp : (as ++ k :: bs).Perm (List.range ws.length)) (hp' : (as' ++ k :: bs').Perm (List.range ws.length)) (sub : ∀ x ∈ as', x ∈ as) (h : fitI ws as k bs) : fitI ws as' k bs' := by
  obtain ⟨w, hw, h⟩ := h
  refine ⟨w, hw, fit_sub (fun x hx => ?_) (fun x hx => ?_) ?_ (fun x hx => ?_) (fun y hy => ?_) h⟩
  · obtain ⟨j, _, hj⟩ := reW_mem.mp hx
    exact hD.ok x (mem_of_at hj)
  · obtain ⟨j, _, hj⟩ := reW_mem.mp hx
    exact hD.ok x (mem_of_at hj)
  · rw [← reW_cons hw, ← reW_app]
    exact (reW_perm hp').nodup_iff.mpr (nodup_map hD.nd)
  · obtain ⟨j, h1, h2⟩ := reW_mem.mp hx
    exact reW_mem.mpr ⟨j, sub j h1, h2⟩
  · obtain ⟨j, h1, h2⟩ := reW_mem.mp hy
    have hn := hp'.nodup_iff.mpr List.nodup_range
    have hjk : j ≠ k := fun e => by
      subst e
      have := (List.nodup_append.mp hn).2.1
      exact (List.nodup_cons.mp this).1 h1
    have hj : j ∈ as ++ k :: bs := hp.mem_iff.mpr (hp'.mem_iff.mp (List.mem_append_right _ (List.mem_cons_of_mem _ h1)))
    rcases List.mem_append.mp hj with z | z
    · exact .inl (reW_mem.mpr ⟨j, z, h2⟩)
    · rcases List.mem_cons.mp z with z | z
      · exact absurd z hjk
      · exact .inr (reW_mem.mpr ⟨j, z, h2⟩)
theorem filt_nsD (a : Nat) (ps : List Nat) : ((ps.map fun p : Nat => (p : Int)).filterMap fun z : Int => if z = (a : Int) then none else some (D.int z)) = nsD (ps.filter (· ≠ a)) := by
  unfold nsD
  induction ps with
  | nil => rfl
  | cons p ps ih =>
    rw [List.map_cons, List.filterMap_cons, List.filter_cons, ih]
    by_cases e : p = a
    · subst e
      simp
    · have e2 : ¬ (p : Int) = (a : Int) := by omega
      simp [e, e2]
theorem filt_perm {a : Nat} {left placed : List Nat} {n : Nat} (hp : (left ++ placed).Perm (List.range n)) (ha : a ∈ left) : ((left.filter (· ≠ a)) ++ a :: placed).Perm (List.range n) := by
  refine List.Perm.trans ?_ hp
  have hn := (List.nodup_append.mp (hp.nodup_iff.mpr List.nodup_range)).1
  have h1 : ((left.filter (· ≠ a)) ++ [a]).Perm left := by
    refine (List.perm_ext_iff_of_nodup ?_ hn).mpr fun x => ?_
    · refine List.nodup_append.mpr ⟨hn.filter _, by simp, fun x hx y hy => ?_⟩
      rw [List.mem_singleton] at hy
      subst hy
      have := (List.mem_filter.mp hx).2
      simpa using this
    · rw [List.mem_append, List.mem_filter, List.mem_singleton]
      by_cases e : x = a
      · subst e; simp [ha]
      · simp [e]
  have h2 := h1.append_right placed
  rw [List.append_assoc] at h2
  exact h2
theorem nsD_mid (os : List Nat) (a : Nat) (ps : List Nat) : nsD os ++ [D.int a] ++ nsD ps = nsD (os ++ a :: ps) := by
  rw [nsD_app, List.append_assoc]
  rfl
theorem ans_fit {ws : List Wk} {as bs : List Nat} {k : Nat} {w : Wk} (hw : ws[k]? = some w) (ha : ∀ p ∈ as, p < ws.length) {o : Option Int} (h : AnsOk (loadOf (reW ws (as ++ k :: bs)) as.length) (w.due - w.late) o) : o.isSome = true ↔ fitI ws as k bs := by
  have e : reW ws (as ++ k :: bs) = reW ws as ++ w :: reW ws bs := by rw [reW_app, reW_cons hw]
  rw [e, ← reW_lenM ha] at h
  cases o with
  | none =>
    have := bad_feas.mp h
    refine ⟨fun z => (by cases z), fun ⟨v, hv, z⟩ => ?_⟩
    rw [hw] at hv
    cases hv
    exact absurd z this
  | some x =>
    refine ⟨fun _ => ⟨w, hw, x, h.1, h.2.1, ?_⟩, fun _ => rfl⟩
    have := h.2.2.1
    omega
theorem optI_n (o : Option Int) : (!(optI o).isN) = o.isSome := by cases o <;> rfl
def zl : FS := fun xs Q _ => ∃ (ws : List Wk) (left placed : List Nat) (a : Nat), xs = [dutyD ws, .lst (nsD left), .lst (nsD placed), .int a] ∧ DutyOk ws ∧ (left ++ placed).Perm (List.range ws.length) ∧ a ∈ left ∧ ∀ b : Bool, (b = true ↔ fitI ws (left.filter (· ≠ a)) a placed) → Q (.d (.bl b))
theorem zca : ∀ xs QD QE, zl xs QD QE → xs.length = 4 := fun xs _ _ ⟨_, _, _, _, h, _⟩ => by rw [h]; rfl
theorem zf9 : ∀ xs QD QE, zl xs QD QE → z3e (fEnds QD QE) (rho0 7 xs) := by
  rintro xs QD QE ⟨ws, left, placed, a, rfl, hD, hp, ha, h⟩
  have hl := hD.len
  have hll := hp.length_eq
  rw [List.length_append, List.length_range] at hll
  walk_at "M_fits_weakest"
  rw [show nsD left = (left.map fun p : Nat => (p : Int)).map D.int from rfl]
  refine lc_t (fun z : Int => if z = (a : Int) then none else some (D.int z)) (fun z hz N hN => ?_) (by rw [List.length_map, sizeLine_eq]; omega) ?_
  · walk_at "e"
    by_cases e : z = (a : Int)
    · rw [if_pos e] at hN
      rw [decide_eq_true e, if_neg (by decide)]
      exact hN
    · rw [if_neg e] at hN
      rw [decide_eq_false e, if_pos (by decide)]
      exact hN
  rw [filt_nsD]
  have hq := filt_perm hp ha
  have hql := hq.length_eq
  rw [List.length_append, List.length_cons, List.length_range] at hql
  have ham : a < ws.length := List.mem_range.mp (hp.mem_iff.mp (List.mem_append_left _ ha))
  obtain ⟨w, hw⟩ := at_lt ham
  generalize left.filter (· ≠ a) = os at h hq hql ⊢
  have hos : ∀ p ∈ os, p < ws.length := fun p z => List.mem_range.mp (hq.mem_iff.mp (List.mem_append_left _ z))
  walk_at "M_fits_weakest"
  refine ⟨by rw [nsD_len, sizeLine_eq]; omega, by rw [List.length_append, nsD_len, nsD_len, sizeLine_eq]; simp only [List.length_cons, List.length_nil]; omega, ?_⟩
  rw [nsD_mid]
  have eo : (nsD os).length = os.length := nsD_len os
  walk_at "M_fits_weakest"
  rw [eo, recv_d (fs := zf) ws rfl]
  refine ⟨ws, os ++ a :: placed, rfl, hD, hq, ?_⟩
  have hR := hD.perm (reW_perm hq)
  have hRl : (reW ws (os ++ a :: placed)).length = ws.length := reW_len hq
  refine ⟨reW ws (os ++ a :: placed), os.length, w, rfl, ?_, by omega, hR.ok, fun o ho => ?_⟩
  · rw [reW_map (fun p z => List.mem_range.mp (hq.mem_iff.mp z)) os.length a (by rw [List.getElem?_append_right (Nat.le_refl _), Nat.sub_self]; rfl), hw]
  walk_at "M_fits_weakest"
  rw [optI_n]
  exact h _ (ans_fit hw hos ho)
def z8j : DS := (dIf (dBool (dCall zl (dConsA (dV 0) (dConsA (dV 1) (dConsA (dV 2) (dConsA (dV 3) dNilA)))) [])) (dRetL 3) dNext)
def z9w : DS := (dRet (dC .non))
def z8v : DS := dSeq (dFor (.one 3) (dRev (dConsA (dV 1) dNilA)) z8j) z9w
local macro_rules | `(tactic| walk_at "M_weakest") => `(tactic| repeat (first | walk_at "e" | walk_at "s" | (with_reducible show z8j _ _; simp only [z8j]) | (with_reducible show z9w _ _; simp only [z9w]) | (with_reducible show z8v _ _; simp only [z8v])))
def noFit (ws : List Wk) (left placed : List Nat) (as : List Nat) : Prop := ∀ a ∈ as, ¬ fitI ws (left.filter (· ≠ a)) a placed
def z1h : FS := fun xs Q _ => ∃ (ws : List Wk) (left placed : List Nat), xs = [dutyD ws, .lst (nsD left), .lst (nsD placed)] ∧ DutyOk ws ∧ (left ++ placed).Perm (List.range ws.length) ∧ (∀ a ∈ left, fitI ws (left.filter (· ≠ a)) a placed → Q (.d (.int a))) ∧ (noFit ws left placed left → Q (.d .non))
theorem zg2 : ∀ xs QD QE, z1h xs QD QE → xs.length = 3 := fun xs _ _ ⟨_, _, _, h, _⟩ => by rw [h]; rfl
theorem zjd : ∀ xs QD QE, z1h xs QD QE → z8v (fEnds QD QE) (rho0 4 xs) := by
  rintro xs QD QE ⟨ws, left, placed, rfl, hD, hp, h1, h2⟩
  walk_at "M_weakest"
  have er : (nsD left).reverse = left.reverse.map fun p : Nat => D.int (p : Int) := by
    unfold nsD
    rw [← List.map_reverse, ← List.map_reverse, List.map_map]
    rfl
  rw [er]
  refine for_t (enc := fun p : Nat => D.int (p : Int)) (fun k ρ => ∃ o3 : Option C, ρ = [some (.d (dutyD ws)), some (.d (.lst (nsD left))), some (.d (.lst (nsD placed))), o3] ∧ noFit ws left placed (left.reverse.take k)) (fun k a ρ N hk ⟨o3, ho, hn⟩ hN => ?s1) (fun ρ ⟨o3, ho, hn⟩ => ?s3) ⟨none, rfl, fun a ha => by simp at ha⟩
  case s3 =>
    subst ho
    walk_at "M_weakest"
    refine h2 fun a ha => hn a ?_
    rw [List.take_length]
    exact List.mem_reverse.mpr ha
  case s1 =>
    subst ho
    have ha : a ∈ left := List.mem_reverse.mp (mem_of_at hk)
    walk_at "M_weakest"
    refine ⟨ws, left, placed, a, rfl, hD, hp, ha, fun b hb => ?_⟩
    walk_at "M_weakest"
    cases b with
    | true =>
      walk_at "M_weakest"
      exact h1 a ha (hb.mp rfl)
    | false =>
      walk_at "M_weakest"
      refine hN _ ⟨_, rfl, fun c hc => ?_⟩
      rw [take_snoc hk] at hc
      rcases List.mem_append.mp hc with z | z
      · exact hn c z
      · rw [List.mem_singleton] at z
        subst z
        intro q
        exact absurd (hb.mpr q) (by decide)
def z6r : DS := (dSet 2 (dOp dAdd (dLst (dConsA (dV 3) dNilA)) (dL 2)))
def z6s : DS := dSeq (dSet 1 (dLc (.one 4) (dItL (dV 1)) (dTst cNe (dL 4) (dL 3)) (dV 4) [4])) z6r
def z6t : DS := dSeq (dIf (dTst cIsN (dL 3) (dC .non)) (dRaiseI .NoRanks .stuck (dConsA (dV 1) dNilA)) dNext) z6s
def z9x : DS := dSeq (dSet 3 (dCall z1h (dConsA (dV 0) (dConsA (dV 1) (dConsA (dV 2) dNilA))) [])) z6t
def zb9 : DS := (dRetL 2)
def zba : DS := dSeq (dWhile (dTst cNe (dL 1) (dLst dNilA)) z9x) zb9
def zbb : DS := dSeq (dSet 2 (dLst dNilA)) zba
def zgm : DS := dSeq (dSet 1 (dLRg1 (dMeth (altL [(.Duty, z8)]) (dV 0) dNilA []))) zbb
local macro_rules | `(tactic| walk_at "M_ranked") => `(tactic| repeat (first | walk_at "e" | walk_at "s" | (with_reducible show z6r _ _; simp only [z6r]) | (with_reducible show z6s _ _; simp only [z6s]) | (with_reducible show z6t _ _; simp only [z6t]) | (with_reducible show z9x _ _; simp only [z9x]) | (with_reducible show zb9 _ _; simp only [zb9]) | (with_reducible show zba _ _; simp only [zba]) | (with_reducible show zbb _ _; simp only [zbb]) | (with_reducible show zgm _ _; simp only [zgm])))
def lowC (ws : List Wk) (left placed : List Nat) : Prop := ∀ (s : List Nat) (p : Nat) (t : List Nat), placed = s ++ p :: t → fitI ws (left ++ s) p t
theorem lowC_step {ws : List Wk} {left placed : List Nat} {a : Nat} (hD : DutyOk ws) (hp : (left ++ placed).Perm (List.range ws.length)) (ha : a ∈ left) (hf : fitI ws (left.filter (· ≠ a)) a placed) (h : lowC ws left placed) : lowC ws (left.filter (· ≠ a)) (a :: placed) := by
  intro s p t e
  have hq := filt_perm hp ha
  cases s with
  | nil =>
    rw [List.nil_append] at e
    injection e with e1 e2
    subst e1 e2
    rw [List.append_nil]
    exact hf
  | cons b s =>
    rw [List.cons_append] at e
    injection e with e1 e2
    subst e1
    refine fitI_sub hD (as := left ++ s) (bs := t) ?_ ?_ (fun x hx => ?_) (h s p t e2)
    · rw [List.append_assoc, ← e2]
      exact hp
    · rw [List.append_assoc, List.cons_append, ← e2]
      exact hq
    · rcases List.mem_append.mp hx with z | z
      · exact List.mem_append_left _ (List.mem_filter.mp z).1
      · rcases List.mem_cons.mp z with z | z
        · subst z; exact List.mem_append_left _ ha
        · exact List.mem_append_right _ z
theorem nil_eqv (ps : List Nat) : PyData.eqv (D.lst (nsD ps)).py (D.lst []).py = decide (ps = []) := by
  cases ps with
  | nil => rfl
  | cons a ps =>
    cases he : PyData.eqv (D.lst (nsD (a :: ps))).py (D.lst []).py with
    | false => simp
    | true =>
      have := (eqv_iff (n := 1) (m := 1) (nice_ints _) rfl).mp he
      cases this
theorem last74 {α : Type} {P : α → Prop} : ∀ {l : List α}, (∃ x ∈ l, P x) → ∃ s p t, l = s ++ p :: t ∧ P p ∧ ∀ y ∈ t, ¬ P y
  | [], h => by obtain ⟨x, hx, _⟩ := h; cases hx
  | a :: l, h => by
    by_cases e : ∃ x ∈ l, P x
    · obtain ⟨s, p, t, rfl, h1, h2⟩ := last74 e
      exact ⟨a :: s, p, t, rfl, h1, h2⟩
    · obtain ⟨x, hx, hP⟩ := h
      rcases List.mem_cons.mp hx with rfl | hx
      · exact ⟨[], x, l, rfl, hP, fun y hy hPy => e ⟨y, hy, hPy⟩⟩
      · exact absurd ⟨x, hx, hP⟩ e
theorem low_fits {ws : List Wk} {ps : List Nat} (hp : ps.Perm (List.range ws.length)) (h : lowC ws [] ps) : ∀ (j : Nat) w, (reW ws ps)[j]? = some w → feas (reW ws ps) j (w.due - w.late) := fun j w hw => by
  have hlt : ∀ p ∈ ps, p < ws.length := fun p h => List.mem_range.mp (hp.mem_iff.mp h)
  have hj : j < ps.length := by have := at_lt2 hw; rw [reW_lenM hlt] at this; exact this
  obtain ⟨s, p, t, e, hs⟩ : ∃ s p t, ps = s ++ p :: t ∧ s.length = j := by
    refine ⟨ps.take j, ps[j], ps.drop (j + 1), ?_, by rw [List.length_take]; omega⟩
    have h1 := List.take_append_drop j ps
    rw [List.drop_eq_getElem_cons hj] at h1
    exact h1.symm
  obtain ⟨y, hy, hf⟩ := h s p t e
  have hps : ps[j]? = some p := by rw [e, ← hs, List.getElem?_append_right (Nat.le_refl _), Nat.sub_self]; rfl
  rw [reW_map hlt j p hps, hy] at hw
  cases hw
  have hsl : (reW ws s).length = j := by rw [reW_lenM fun q hq => hlt q (by rw [e]; exact List.mem_append_left _ hq)]; exact hs
  unfold fitT at hf
  rw [List.nil_append, ← reW_cons hy, ← reW_app, ← e, hsl] at hf
  exact hf
theorem ans_not {f : Int → Int} {m : Int} (h : ¬ AnsOk f m none) : ∃ l, 1 ≤ l ∧ l ≤ m ∧ f l ≤ l := by
  apply Classical.byContradiction
  intro hno
  refine h fun x h1 h2 => ?_
  rcases Int.lt_or_le x (f x) with z | z
  · exact z
  · exact absurd ⟨x, h1, h2, z⟩ hno
theorem no_fits {ws : List Wk} {left placed ps : List Nat} (hD : DutyOk ws) (hq : (left ++ placed).Perm (List.range ws.length)) (hne : left ≠ []) (hno : noFit ws left placed left) (hp : ps.Perm (List.range ws.length)) : ∃ (j : Nat) (w : Wk), (reW ws ps)[j]? = some w ∧ AnsOk (loadOf (reW ws ps) j) (w.due - w.late) none := by
  apply Classical.byContradiction
  intro hall
  have hlt : ∀ p ∈ ps, p < ws.length := fun p h => List.mem_range.mp (hp.mem_iff.mp h)
  obtain ⟨a, ha⟩ := List.exists_mem_of_ne_nil left hne
  obtain ⟨s, p, t, e, hpl, ht⟩ : ∃ s p t, ps = s ++ p :: t ∧ p ∈ left ∧ ∀ y ∈ t, ¬ y ∈ left := last74 ⟨a, hp.mem_iff.mpr (hq.mem_iff.mp (List.mem_append_left _ ha)), ha⟩
  obtain ⟨w, hw⟩ : ∃ w, ws[p]? = some w := ⟨_, List.getElem?_eq_getElem (hlt p (by rw [e]; exact List.mem_append_right _ List.mem_cons_self))⟩
  have hps : ps[s.length]? = some p := by rw [e, List.getElem?_append_right (Nat.le_refl _), Nat.sub_self]; rfl
  have hv : (reW ws ps)[s.length]? = some w := by rw [reW_map hlt _ p hps]; exact hw
  obtain ⟨l, l1, l2, l3⟩ := ans_not fun z => hall ⟨_, w, hv, z⟩
  have hsl : (reW ws s).length = s.length := reW_lenM fun q hq => hlt q (by rw [e]; exact List.mem_append_left _ hq)
  have hf : fitI ws s p t := by
    refine ⟨w, hw, ?_⟩
    unfold fitT
    rw [← reW_cons hw, ← reW_app, ← e, hsl]
    exact ⟨l, l1, l2, l3⟩
  refine hno p hpl (fitI_sub hD (as := s) (bs := t) (by rw [← e]; exact hp) (filt_perm hq hpl) (fun x hx => ?_) hf)
  have hx2 := List.mem_filter.mp hx
  have hxp : x ≠ p := by simpa using hx2.2
  have := hp.mem_iff.mpr (hq.mem_iff.mp (List.mem_append_left _ hx2.1))
  rw [e] at this
  rcases List.mem_append.mp this with z | z
  · exact z
  · rcases List.mem_cons.mp z with z | z
    · exact absurd z hxp
    · exact absurd hx2.1 (ht x z)
def Wk.t5 (w : Wk) : D := .tup [.int w.gap, .int w.length, .int w.due, .int w.late, .lst (w.holds.map Hd.d)]
def Wk.pz (w : Wk) : Pz := ⟨w.gap, w.length, w.due, w.late, w.holds, 0⟩
theorem t5_pz (ws : List Wk) : ws.map Wk.t5 = (ws.map Wk.pz).map Pz.t5 := by
  rw [List.map_map]
  rfl
def z4y : DS := (dSetO 2 (dOp dAdd (dLst (dConsA (dV 3) dNilA)) (dL 2)))
def z4z : DS := dSeq (dSet 1 (dLc (.one 4) (dItL (dV 1)) (dTst cNe (dL 4) (dL 3)) (dV 4) [4])) z4y
def z50 : DS := dSeq (dIf (dTst cIsN (dL 3) (dC .non)) (dRaiseI .NoRanks .stuck (dConsA (dV 1) dNilA)) dNext) z4z
def z6u : DS := dSeq (dSet 3 (dCallT z1h (dConsA (dL 0) (dConsA (dL 1) (dConsA (dL 2) dNilA))) [])) z50
def z8k : DS := (dRetL 2)
def z8l : DS := dSeq (dWhile (dTst cNe (dL 1) (dLst dNilA)) z6u) z8k
def z8m : DS := dSeq (dSetO 2 (dLst dNilA)) z8l
def z6v : DS := dSeq (dSet 1 (dLRg1 (dMeth (altL [(.Duty, z8)]) (dV 0) dNilA []))) z8m
local macro_rules | `(tactic| walk_at "M_ranked_o") => `(tactic| repeat (first | walk_at "e" | walk_at "s" | (with_reducible show z4y _ _; simp only [z4y]) | (with_reducible show z4z _ _; simp only [z4z]) | (with_reducible show z50 _ _; simp only [z50]) | (with_reducible show z6u _ _; simp only [z6u]) | (with_reducible show z8k _ _; simp only [z8k]) | (with_reducible show z8l _ _; simp only [z8l]) | (with_reducible show z8m _ _; simp only [z8m]) | (with_reducible show z6v _ _; simp only [z6v])))
def z1k : FS := fun xs Q E => ∃ ws : List Wk, xs = [dutyD ws] ∧ DutyOk ws ∧ (∀ ps : List Nat, ps.Perm (List.range ws.length) → lowC ws [] ps → Q (.nl (nsD ps))) ∧ ∀ left placed : List Nat, (left ++ placed).Perm (List.range ws.length) → left ≠ [] → left.Pairwise (· < ·) → lowC ws left placed → noFit ws left placed left → E ⟨.NoRanks, [(.stuck, .lst (nsD left))]⟩
theorem zfa : ∀ xs QD QE, z1k xs QD QE → xs.length = 1 := fun xs _ _ ⟨_, h, _⟩ => by rw [h]; rfl
theorem zie : ∀ xs QD QE, z1k xs QD QE → z6v (fEnds QD QE) (rho0 5 xs) := by
  rintro xs QD QE ⟨ws, rfl, hD, h1, h2⟩
  have hl := hD.len
  walk_at "M_ranked_o"
  refine ⟨ws, rfl, ?_⟩
  walk_at "M_ranked_o"
  have e0 : rngD 0 ((ws.length : Int) - 0) = nsD (List.range ws.length) := by
    rw [Int.sub_zero, rngD_map]
    unfold nsD
    rw [List.map_map]
    rfl
  rw [e0]
  refine while_rule (fun ρ => ∃ (left placed : List Nat) (o3 o4 : Option C), ρ = [some (.d (dutyD ws)), some (.d (.lst (nsD left))), some (.nl (nsD placed)), o3, o4] ∧ (left ++ placed).Perm (List.range ws.length) ∧ left.Pairwise (· < ·) ∧ lowC ws left placed) (fun ρ => match ρ with | [_, some (.d (.lst xs)), _, _, _] => xs.length | _ => 0) (fun ρ N ⟨left, placed, o3, o4, ho, hp, hs, hc⟩ hN => ?_) ⟨List.range ws.length, [], none, none, rfl, by rw [List.append_nil], List.pairwise_lt_range, fun s p t e => by cases s <;> cases e⟩
  subst ho
  walk_at "M_ranked_o"
  have hll := hp.length_eq
  rw [List.length_append, List.length_range] at hll
  refine ⟨shaped_ints _, rfl, ?_⟩
  rw [nil_eqv]
  by_cases e : left = []
  · subst e
    rw [decide_eq_true rfl, if_neg (by decide)]
    walk_at "M_ranked_o"
    rw [List.nil_append] at hp
    exact h1 placed hp hc
  · rw [decide_eq_false e, if_pos (by decide)]
    walk_at "M_ranked_o"
    refine ⟨ws, left, placed, rfl, hD, hp, fun a ha hf => ?_, fun hn => ?_⟩
    · walk_at "M_ranked_o"
      rw [show nsD left = (left.map fun p : Nat => (p : Int)).map D.int from rfl]
      refine lc_t (fun z : Int => if z = (a : Int) then none else some (D.int z)) (fun z hz N hN => ?_) (by rw [List.length_map, sizeLine_eq]; omega) ?_
      · walk_at "e"
        by_cases e : z = (a : Int)
        · rw [if_pos e] at hN
          rw [decide_eq_true e, if_neg (by decide)]
          exact hN
        · rw [if_neg e] at hN
          rw [decide_eq_false e, if_pos (by decide)]
          exact hN
      rw [filt_nsD]
      walk_at "M_ranked_o"
      refine ⟨by rw [nsD_len, sizeLine_eq]; omega, hN _ ⟨left.filter (· ≠ a), a :: placed, _, _, rfl, filt_perm hp ha, hs.filter _, lowC_step hD hp ha hf hc⟩ ?_⟩
      show (nsD (left.filter (· ≠ a))).length < (nsD left).length
      rw [nsD_len, nsD_len]
      exact List.length_filter_lt_length_iff_exists.mpr ⟨a, ha, by simp⟩
    · walk_at "M_ranked_o"
      intro x hx
      cases hx
      exact h2 left placed hp e hs hc hn
def z9y : DS := (dRetL 1)
def z8w : DS := dSeq (dTry1 .NoRanks 2 (dSetO 1 (dCall z1k (dConsA (dV 0) dNilA) [])) (fun xk => (dSeq (dSet 3 (dLst (dConsA (dXis xk exAll (.own .NotKept) (dL 2)) (dConsA (dXis xk exAll (.own .BadDuty) (dL 2)) (dConsA (dXis xk exAll (.own .TooMany) (dL 2)) (dConsA (dXis xk exAll (.own .HoldsThings) (dL 2)) dNilA)))))) (dSetO 1 (dTup (dConsA (dXis xk exAll (.own .DutyError) (dL 2)) (dConsA (dXis xk exAll .ve (dL 2)) (dConsA (dOp (cmpV cIn) (dC (.bl true)) (dL 3)) dNilA)))))))) z9y
local macro_rules | `(tactic| walk_at "L_told_v4") => `(tactic| repeat (first | walk_at "e" | walk_at "s" | (with_reducible show z9y _ _; simp only [z9y]) | (with_reducible show z8w _ _; simp only [z8w])))
def zy : FS := fun xs Q _ => ∃ ws : List Wk, xs = [dutyD ws] ∧ DutyOk ws ∧ (∀ ps : List Nat, ps.Perm (List.range ws.length) → lowC ws [] ps → Q (.nl (nsD ps))) ∧ ∀ left placed : List Nat, (left ++ placed).Perm (List.range ws.length) → left ≠ [] → lowC ws left placed → noFit ws left placed left → Q (.d (.tup [.bl true, .bl true, .bl false]))
theorem zg3 : ∀ xs QD QE, zy xs QD QE → xs.length = 1 := fun xs _ _ ⟨_, h, _⟩ => by rw [h]; rfl
theorem zje : ∀ xs QD QE, zy xs QD QE → z8w (fEnds QD QE) (rho0 4 xs) := by
  rintro xs QD QE ⟨ws, rfl, hD, h1, h2⟩
  walk_at "L_told_v4"
  refine ⟨ws, rfl, hD, fun ps hp hc => ?_, fun left placed hp hne hs hc hno => ?_⟩
  · walk_at "L_told_v4"
    exact h1 ps hp hc
  · refine ⟨show Cn.NoRanks ∈ exAll by decide, ?_⟩
    show if Cn.NoRanks.sub Cn.NoRanks = true then _ else _
    rw [if_pos (by decide)]
    intro xk
    walk_at "L_told_v4"
    exact h2 left placed hp hne hc hno
def z6w : DS := (dRet (dTup (dConsA (dV 4) (dConsA (dV 5) (dConsA (dV 6) (dConsA (dV 7) (dConsA (dCall z1j (dConsA (dSl (dL 3) (dSome (dC (.int 7))) dNo) (dConsA (dV 5) dNilA)) []) dNilA)))))))
def z6x : DS := dSeq (dSet 7 (dOp dMul (dOp dMod (dOp dIx (dL 3) (dC (.int 5))) (dC (.int 2))) (dOp dMod (dOp dIx (dL 3) (dC (.int 6))) (dOp dAdd (dOp dDiv (dL 4) (dC (.int 4))) (dC (.int 1)))))) z6w
def z6y : DS := dSeq (dSet 6 (dOp dSub (dL 4) (dOp dMul (dOp dMod (dOp dIx (dL 3) (dC (.int 3))) (dC (.int 2))) (dOp dMod (dOp dIx (dL 3) (dC (.int 4))) (dOp dAdd (dOp dDiv (dOp dMul (dL 4) (dC (.int 9))) (dC (.int 10))) (dC (.int 1))))))) z6x
def z4a : DS := dSeq (dSet 5 (dOp dAdd (dC (.int 1)) (dOp dMod (dOp dIx (dL 3) (dC (.int 2))) (dOp dAdd (dOp dDiv (dOp dMul (dL 4) (dOp dIx (dLst (dConsA (dC (.int 1)) (dConsA (dC (.int 2)) dNilA))) (dOp dMod (dOp dDiv (dOp dIx (dL 3) (dC (.int 1))) (dC (.int 5))) (dC (.int 2))))) (dOp dMul (dC (.int 2)) (dL 2))) (dC (.int 1)))))) z6y
def z6z : DS := dSeq (dIf (dTst cGt (dL 2) (dC (.int 5))) (dSet 4 (dOp dAdd (dOp dMul (dL 1) (dOp dAdd (dC (.int 1)) (dOp dMod (dOp dIx (dL 3) (dC (.int 0))) (dC (.int 2))))) (dOp dMod (dOp dIx (dL 3) (dC (.int 1))) (dCB fMin2 (dConsA (dC (.int 5)) (dConsA (dOp dAdd (dC (.int 1)) (dOp dDiv (dL 1) (dC (.int 2)))) dNilA)))))) dNext) z4a
def z70 : DS := dSeq (dSet 4 (dOp dAdd (dOp dMul (dL 1) (dOp dAdd (dC (.int 1)) (dOp dMod (dOp dIx (dL 3) (dC (.int 0))) (dC (.int 8))))) (dOp dMod (dOp dIx (dL 3) (dC (.int 1))) (dC (.int 5))))) z6z
def z5c : DS := dSeq (dSet 3 (dCall zo (dConsA (dV 0) (dConsA (dC (.int 12)) dNilA)) [])) z70
local macro_rules | `(tactic| walk_at "L_plain_v17") => `(tactic| repeat (first | walk_at "e" | walk_at "s" | (with_reducible show z6w _ _; simp only [z6w]) | (with_reducible show z6x _ _; simp only [z6x]) | (with_reducible show z6y _ _; simp only [z6y]) | (with_reducible show z4a _ _; simp only [z4a]) | (with_reducible show z6z _ _; simp only [z6z]) | (with_reducible show z70 _ _; simp only [z70]) | (with_reducible show z5c _ _; simp only [z5c])))
structure Wk.by71 (w : Wk) (u m : Int) : Prop where
  ok : w.ok
  lo : u ≤ w.gap
  hi : w.gap ≤ 12 * u
  hi5 : 5 < m → 2 * w.gap ≤ 5 * u
  lt : 4 * w.late ≤ w.gap
def z1a : FS := fun xs Q _ => ∃ (c u m : Int) (x : Str), xs = [.int c, .int u, .int m] ∧ nameOk (.str x) = true ∧ 1 ≤ u ∧ u ≤ 10 ^ 40 ∧ 1 ≤ m ∧ m ≤ 100 ∧ ∀ w : Wk, w.by71 u m → w.name = x → Q (.d w.t5)
theorem zew : ∀ xs QD QE, z1a xs QD QE → xs.length = 3 := fun xs _ _ ⟨_, _, _, _, h, _⟩ => by rw [h]; rfl
theorem zh5 : ∀ xs QD QE, z1a xs QD QE → z5c (fEnds QD QE) (rho0 8 xs) := by
  rintro xs QD QE ⟨c, u, m, x, rfl, hx, hu, hu2, hm, hm2, h⟩
  walk_at "L_plain_v17"
  refine ⟨c, 12, rfl, by decide, fun ms hd => ?_⟩
  obtain ⟨x0, e0, a0, b0⟩ := drawn_get hd (k := 0) (by decide)
  obtain ⟨x1, e1, a1, b1⟩ := drawn_get hd (k := 1) (by decide)
  obtain ⟨x2, e2, a2, b2⟩ := drawn_get hd (k := 2) (by decide)
  obtain ⟨x3, e3, a3, b3⟩ := drawn_get hd (k := 3) (by decide)
  obtain ⟨x4, e4, a4, b4⟩ := drawn_get hd (k := 4) (by decide)
  obtain ⟨x5, e5, a5, b5⟩ := drawn_get hd (k := 5) (by decide)
  obtain ⟨x6, e6, a6, b6⟩ := drawn_get hd (k := 6) (by decide)
  have fin : ∀ g : Int, u ≤ g → g ≤ 12 * u → (5 < m → 2 * g ≤ 5 * u) → z4a (fEnds QD QE) [some (.d (.int c)), some (.d (.int u)), some (.d (.int m)), some (.d (.lst (ms.map .int))), some (.d (.int g)), none, none, none] := fun g g1 g2 g3 => by
    walk_at "L_plain_v17"
    rw [e2]
    walk_at "L_plain_v17"
    rw [e1]
    walk_at "L_plain_v17"
    obtain ⟨k, hk1, hk2, _⟩ := ix_i (enc := D.int) (l := ([1, 2] : List Int)) (i := x1 / 5 % 2) (by omega) (by simp; omega)
    simp only [List.map_cons, List.map_nil] at hk1
    rw [hk1]
    have k1 : 1 ≤ k ∧ k ≤ 2 := by
      simp only [List.mem_cons, List.not_mem_nil, or_false] at hk2
      omega
    have k2 : g * 1 ≤ g * k := Int.mul_le_mul_of_nonneg_left (by omega) (by omega)
    have k3 : g * k ≤ g * 2 := Int.mul_le_mul_of_nonneg_left (by omega) (by omega)
    have k4 : 0 ≤ g * k := by omega
    walk_at "L_plain_v17"
    generalize g * k = gk at k2 k3 k4 ⊢
    have hmb : big (2 * m) < 9000 := big_of (by omega) (by omega)
    have f8 := ediv_b (x := gk) (m := 2 * m) (by omega) (by omega)
    refine ⟨⟨by omega, hmb⟩, by omega, ?_⟩
    have f9 := emod_b x2 (show 0 < gk / (2 * m) + 1 by omega)
    obtain ⟨l, hl⟩ : ∃ l, 1 + x2 % (gk / (2 * m) + 1) = l := ⟨_, rfl⟩
    have l1 : 1 ≤ l ∧ l ≤ 1 + gk := by omega
    rw [hl]
    clear hl f9 f8
    walk_at "L_plain_v17"
    rw [e3]
    walk_at "L_plain_v17"
    rw [e4]
    walk_at "L_plain_v17"
    have f5 : 1 ≤ g - x3 % 2 * (x4 % (g * 9 / 10 + 1)) ∧ g - x3 % 2 * (x4 % (g * 9 / 10 + 1)) ≤ g := by
      have h1 := emod_b x4 (show 0 < g * 9 / 10 + 1 by omega)
      generalize x4 % (g * 9 / 10 + 1) = z at h1 ⊢
      rcases (show x3 % 2 = 0 ∨ x3 % 2 = 1 by omega) with h | h <;> rw [h] <;> omega
    generalize g - x3 % 2 * (x4 % (g * 9 / 10 + 1)) = du at f5 ⊢
    rw [e5]
    walk_at "L_plain_v17"
    rw [e6]
    walk_at "L_plain_v17"
    have f7 : 0 ≤ x5 % 2 * (x6 % (g / 4 + 1)) ∧ x5 % 2 * (x6 % (g / 4 + 1)) ≤ g / 4 := by
      have h1 := emod_b x6 (show 0 < g / 4 + 1 by omega)
      generalize x6 % (g / 4 + 1) = z at h1 ⊢
      rcases (show x5 % 2 = 0 ∨ x5 % 2 = 1 by omega) with h | h <;> rw [h] <;> omega
    generalize x5 % 2 * (x6 % (g / 4 + 1)) = la at f7 ⊢
    refine ⟨ms.drop 7, l, 5, rfl, ⟨by decide, drawn_drop hd 7⟩, by omega, fun hs hg => ?_⟩
    walk_at "L_plain_v17"
    exact h ⟨x, g, l, du, la, hs⟩ ⟨⟨hx, show 1 ≤ g by omega, show g < 10 ^ 60 by omega, show 1 ≤ l by omega, show l < 10 ^ 60 by omega, f5.1, f5.2, f7.1, show la < 10 ^ 61 by omega, show hs.length ≤ 6 by have := hg.1; omega, hg.2⟩, g1, g2, g3, show 4 * la ≤ g by omega⟩ rfl
  walk_at "L_plain_v17"
  rw [e0]
  walk_at "L_plain_v17"
  rw [e1]
  walk_at "L_plain_v17"
  refine ite_d (fun z => ?_) (fun z => ?_)
  · rw [e0]
    walk_at "L_plain_v17"
    rw [e1]
    walk_at "e"
    have f1 : u * 1 ≤ u * (1 + x0 % 2) := Int.mul_le_mul_of_nonneg_left (by omega) (by omega)
    have f2 : u * (1 + x0 % 2) ≤ u * 2 := Int.mul_le_mul_of_nonneg_left (by omega) (by omega)
    generalize u * (1 + x0 % 2) = p at f1 f2 ⊢
    have f3 := emod_b x1 (show 0 < min 5 (1 + u / 2) by omega)
    generalize x1 % min 5 (1 + u / 2) = r at f3 ⊢
    refine ⟨by omega, ?_⟩
    exact fin (p + r) (by omega) (by omega) (fun _ => by omega)
  · have f4 := gap_by hu a0 a1
    exact fin (u * (1 + x0 % 8) + x1 % 5) (by omega) (by omega) (fun h => absurd h z)
def z8n : DS := (dSet 7 (dOp dAdd (dL 7) (dOp dMul (dOp dDiv (dOp dSub (dOp dAdd (dOp dAdd (dL 8) (dOp dIx (dL 9) (dC (.int 3)))) (dOp dIx (dL 9) (dC (.int 0)))) (dC (.int 1))) (dOp dIx (dL 9) (dC (.int 0)))) (dOp dIx (dL 9) (dC (.int 1))))))
def z5m : DS := (dFor (.one 9) (dItL (dSl (dL 0) dNo (dSome (dL 1)))) z8n)
def z5n : DS := dSeq (dSet 7 (dOp dAdd (dCall z1g (dConsA (dV 0) (dConsA (dV 1) dNilA)) []) (dL 3))) z5m
def z5o : DS := dSeq (dIf (dTst cGt (dOp dAdd (dL 8) (dL 5)) (dL 4)) (dRet (dC (.bl false))) dNext) z5n
def z8o : DS := dSeq (dSet 8 (dV 7)) z5o
def z9z : DS := (dRet (dC (.bl true)))
def za0 : DS := dSeq (dWhile (dTst cLt (dL 8) (dL 7)) z8o) z9z
def za1 : DS := dSeq (dSet 8 (dC (.int 0))) za0
def za2 : DS := dSeq (dSet 7 (dOp dAdd (dCall z1g (dConsA (dV 0) (dConsA (dV 1) dNilA)) []) (dL 3))) za1
def z8x : DS := dSeq (dUnp [2, 3, 4, 5, 6] (dOp dIx (dL 0) (dL 1))) za2
local macro_rules | `(tactic| walk_at "L_in_time") => `(tactic| repeat (first | walk_at "e" | walk_at "s" | (with_reducible show z8n _ _; simp only [z8n]) | (with_reducible show z5m _ _; simp only [z5m]) | (with_reducible show z5n _ _; simp only [z5n]) | (with_reducible show z5o _ _; simp only [z5o]) | (with_reducible show z8o _ _; simp only [z8o]) | (with_reducible show z9z _ _; simp only [z9z]) | (with_reducible show za0 _ _; simp only [za0]) | (with_reducible show za1 _ _; simp only [za1]) | (with_reducible show za2 _ _; simp only [za2]) | (with_reducible show z8x _ _; simp only [z8x])))
def z21 : FS := fun xs Q _ => ∃ (ws : List Wk) (k : Nat) (w : Wk), xs = [.lst (ws.map Wk.t5), .int k] ∧ ws[k]? = some w ∧ ws.length ≤ 12 ∧ (∀ w ∈ ws, w.ok) ∧ ∀ b : Bool, (b = true ↔ feas ws k (w.due - w.late)) → Q (.d (.bl b))
theorem zg4 : ∀ xs QD QE, z21 xs QD QE → xs.length = 2 := fun xs _ _ ⟨_, _, _, h, _⟩ => by rw [h]; rfl
theorem zjf : ∀ xs QD QE, z21 xs QD QE → z8x (fEnds QD QE) (rho0 10 xs) := by
  rintro xs QD QE ⟨ws, k, w, rfl, hw, hl, hok, h⟩
  have hk : k < ws.length := (List.getElem?_eq_some_iff.mp hw).1
  have hwo := hok w (mem_of_at hw)
  have d1 := hwo.dueb
  have d2 := hwo.gapb
  have d3 := hwo.late
  have d4 := hwo.len
  have hm := fun s t => load_mono (ws := ws) (k := k) (s := s) (t := t) hok
  have hb := fun s => load_b (s := s) hok (by omega) hw
  walk_at "L_in_time"
  rw [hw, Option.map_some, show w.t5 = .tup [.int w.gap, .int w.length, .int w.due, .int w.late, .lst (w.holds.map Hd.d)] from rfl]
  walk_at "L_in_time"
  have hpz : ∀ p ∈ ws.map Wk.pz, p.holds.length ≤ 100 := fun p hp => by
    obtain ⟨v, hv, rfl⟩ := List.mem_map.mp hp
    have := (hok v hv).hl
    show v.holds.length ≤ 100
    omega
  have hhe : (ws.map Wk.pz).map Pz.holds = ws.map Wk.holds := by
    rw [List.map_map]
    rfl
  have L0 : loadOf ws k 0 = holdUp (ws.map Wk.holds) k + w.length := by
    unfold loadOf loadG
    rw [List.getD_eq_getElem?_getD, List.getElem?_map, hw]
    simp only [Option.map_some, Option.getD_some]
    have : ((List.take k (ws.map Wk.tri)).map fun t => comIn t.1 t.2.1 0 * t.2.2).sum = 0 := by
      generalize List.take k (ws.map Wk.tri) = l
      induction l with
      | nil => rfl
      | cons a l ih =>
        rw [List.map_cons, List.sum_cons, ih]
        unfold comIn
        rw [if_pos (by decide)]
        omega
    omega
  refine ⟨ws.map Wk.pz, k, by rw [t5_pz], hpz, ?_⟩
  rw [hhe]
  walk_at "L_in_time"
  rw [← L0]
  refine while_rule (fun ρ => ∃ (l : Int) (o9 : Option C), ρ = [some (.d (.lst (ws.map Wk.t5))), some (.d (.int k)), some (.d (.int w.gap)), some (.d (.int w.length)), some (.d (.int w.due)), some (.d (.int w.late)), some (.d (.lst (w.holds.map Hd.d))), some (.d (.int (loadOf ws k l))), some (.d (.int l)), o9] ∧ 0 ≤ l ∧ (l = 0 ∨ l + w.late ≤ w.due) ∧ ∀ x, 1 ≤ x → x < l → x < loadOf ws k x) (fun ρ => match ρ with | [_, _, _, _, _, _, _, _, some (.d (.int l)), _] => (10 ^ 60 - l).toNat | _ => 0) (fun ρ N ⟨l, o9, ho, h0, h1, h2⟩ hN => ?_) ⟨0, _, rfl, by omega, .inl rfl, fun x hx hx2 => by omega⟩
  subst ho
  walk_at "L_in_time"
  refine ite_d (fun h3 => ?_) (fun h3 => ?_)
  · walk_at "L_in_time"
    have low : ∀ x, 1 ≤ x → x < loadOf ws k l → x < loadOf ws k x := fun x hx1 hx2 => by
      rcases Int.lt_or_le x l with z | z
      · exact h2 x hx1 z
      · exact Int.lt_of_lt_of_le hx2 (hm l x z)
    have hbl := hb l (by omega) (by omega)
    refine ite_d (fun h4 => ?_) (fun h4 => ?_)
    · walk_at "L_in_time"
      refine h false ⟨fun z => (by cases z), fun ⟨x, x1, x2, x3⟩ => ?_⟩
      have := low x x1 (by omega)
      omega
    · walk_at "L_in_time"
      refine ⟨ws.map Wk.pz, k, by rw [t5_pz], hpz, ?_⟩
      rw [hhe]
      walk_at "L_in_time"
      rw [cut_hi, ← List.map_take]
      generalize loadOf ws k l = n at *
      refine for_t (enc := Wk.t5) (fun j ρ => ∃ o9 : Option C, ρ = [some (.d (.lst (ws.map Wk.t5))), some (.d (.int k)), some (.d (.int w.gap)), some (.d (.int w.length)), some (.d (.int w.due)), some (.d (.int w.late)), some (.d (.lst (w.holds.map Hd.d))), some (.d (.int (holdUp (ws.map Wk.holds) k + w.length + (((ws.take k).take j).map fun v => comIn v.gap v.late n * v.length).sum))), some (.d (.int n)), o9]) (fun j v ρ N2 hj ⟨o9, ho⟩ hN2 => ?_) (fun ρ ⟨o9, ho⟩ => ?_) ⟨o9, by rw [List.take_zero, List.map_nil, List.sum_nil, Int.add_zero]⟩
      · subst ho
        have hvo := hok v (List.mem_of_mem_take (mem_of_at hj))
        have v1 := hvo.gap
        have v2 := hvo.gapb
        have v3 := hvo.late
        rw [show v.t5 = .tup [.int v.gap, .int v.length, .int v.due, .int v.late, .lst (v.holds.map Hd.d)] from rfl]
        walk_at "L_in_time"
        rw [divUp_alt (show 0 < v.gap by omega)]
        have v4 := hvo.lateb
        have v5 := hvo.len
        have v6 := hvo.lenb
        have hd := divUp_abs (t := n + v.late) (b := v.gap) (by omega)
        have hc : comIn v.gap v.late n = divUp (n + v.late) v.gap := by unfold comIn; rw [if_neg (by omega)]
        have hc0 : 0 ≤ divUp (n + v.late) v.gap := by rw [← hc]; exact comIn_nn (by omega) v3
        have hd0 : -(10 ^ 70) < divUp (n + v.late) v.gap ∧ divUp (n + v.late) v.gap < 10 ^ 70 := by omega
        refine ⟨⟨by omega, big_of (by omega) (by omega)⟩, .inr ?_, hN2 _ ⟨some (.d (.tup [.int v.gap, .int v.length, .int v.due, .int v.late, .lst (v.holds.map Hd.d)])), ?_⟩⟩
        · have g1 : big (divUp (n + v.late) v.gap) < 9000 := big_of (by omega) (by omega)
          have g2 : big v.length < 9000 := big_of (by omega) (by omega)
          omega
        · rw [take_snoc hj, List.map_append, List.sum_append, List.map_cons, List.map_nil, List.sum_cons, List.sum_nil, hc, Int.add_zero, ← Int.add_assoc]
      · subst ho
        rw [List.take_length]
        have e : holdUp (ws.map Wk.holds) k + w.length + ((ws.take k).map fun v => comIn v.gap v.late n * v.length).sum = loadOf ws k n := by
          unfold loadOf loadG
          rw [List.getD_eq_getElem?_getD, List.getElem?_map, hw, ← List.map_take, List.map_map]
          rfl
        rw [e]
        refine hN _ ⟨n, _, rfl, by omega, .inr (by omega), low⟩ ?_
        show (10 ^ 60 - n).toNat < (10 ^ 60 - l).toNat
        omega
  · walk_at "L_in_time"
    have hbl := hb 0 (by omega) (by omega)
    refine h true ⟨fun _ => ?_, fun _ => rfl⟩
    rcases h1 with z | z
    · subst z
      omega
    · refine ⟨l, ?_, by omega, by omega⟩
      rcases Int.lt_or_le l 1 with y | y
      · have : l = 0 := by omega
        subst this
        omega
      · exact y
def z51 : DS := (dRet (dCB fAll (dConsA (dLc (.one 4) (dRng1 (dConsA (dCB fLen (dConsA (dL 2) dNilA)) dNilA)) dYes (dCall z21 (dConsA (dV 2) (dConsA (dV 4) dNilA)) []) [4]) dNilA)))
def z4b : DS := dSeq (dSet 2 (dLc (.one 3) (dItL (dV 1)) dYes (dOp dIx (dL 0) (dL 3)) [3])) z51
local macro_rules | `(tactic| walk_at "L_all_in_time") => `(tactic| repeat (first | walk_at "e" | walk_at "s" | (with_reducible show z51 _ _; simp only [z51]) | (with_reducible show z4b _ _; simp only [z4b])))
theorem pickT {ws : List Wk} : ∀ {ps : List Nat}, (∀ p ∈ ps, p < ws.length) → ps.map (fun p => ((ws[p]?).map Wk.t5).getD .non) = (reW ws ps).map Wk.t5
  | [], _ => rfl
  | p :: ps, h => by
    obtain ⟨w, hw⟩ : ∃ w, ws[p]? = some w := ⟨_, List.getElem?_eq_getElem (h p List.mem_cons_self)⟩
    rw [reW_cons hw, List.map_cons, List.map_cons, hw, pickT fun q hq => h q (List.mem_cons_of_mem _ hq)]
    rfl
theorem nsD_map (ps : List Nat) : nsD ps = ps.map (D.int ∘ fun p : Nat => (p : Int)) := by
  unfold nsD
  rw [List.map_map]
def zj : FS := fun xs Q _ => ∃ (ws : List Wk) (ps : List Nat), xs = [.lst (ws.map Wk.t5), .lst (nsD ps)] ∧ ws.length ≤ 12 ∧ (∀ w ∈ ws, w.ok) ∧ ps.Perm (List.range ws.length) ∧ ∀ b : Bool, (b = true ↔ ∀ (j : Nat) w, (reW ws ps)[j]? = some w → feas (reW ws ps) j (w.due - w.late)) → Q (.d (.bl b))
theorem zd0 : ∀ xs QD QE, zj xs QD QE → xs.length = 2 := fun xs _ _ ⟨_, _, h, _⟩ => by rw [h]; rfl
theorem zg5 : ∀ xs QD QE, zj xs QD QE → z4b (fEnds QD QE) (rho0 5 xs) := by
  rintro xs QD QE ⟨ws, ps, rfl, hl, hok, hp, h⟩
  have hpl := hp.length_eq
  rw [List.length_range] at hpl
  walk_at "L_all_in_time"
  have hlt : ∀ p ∈ ps, p < ws.length := fun p h => List.mem_range.mp (hp.mem_iff.mp h)
  rw [nsD_map]
  refine lc_tm (fun p : Nat => ((ws[p]?).map Wk.t5).getD .non) (fun p hpm N hN => ?_) (by rw [sizeLine_eq]; omega) ?_
  · obtain ⟨w, hw⟩ : ∃ w, ws[p]? = some w := ⟨_, List.getElem?_eq_getElem (hlt p hpm)⟩
    rw [hw] at hN
    walk_at "e"
    show dIx (D.lst (ws.map Wk.t5)) (D.int (p : Int)) fun z => N (some z.dat)
    walk_at "e"
    rw [hw, Option.map_some]
    exact hN
  rw [pickT hlt]
  have hrl : (reW ws ps).length = ps.length := reW_lenM hlt
  have hok2 : ∀ w ∈ reW ws ps, w.ok := fun w hw => by
    obtain ⟨j, _, hj⟩ := reW_mem.mp hw
    exact hok w (mem_of_at hj)
  generalize reW ws ps = vs at *
  walk_at "L_all_in_time"
  rw [rngD_map]
  refine lc_tm (fun k : Nat => .bl (@decide (∀ w, vs[k]? = some w → feas vs k (w.due - w.late)) (Classical.propDecidable _))) (fun k hk N hN => ?_) (by rw [List.length_range, sizeLine_eq]; omega) ?_
  · have hk := List.mem_range.mp hk
    obtain ⟨w, hw⟩ := at_lt hk
    walk_at "e"
    refine ⟨vs, k, w, rfl, hw, by omega, hok2, fun b hb => ?_⟩
    have e : @decide (∀ w, vs[k]? = some w → feas vs k (w.due - w.late)) (Classical.propDecidable _) = b := by
      rw [Bool.eq_iff_iff, hb, @decide_eq_true_iff _ (Classical.propDecidable _)]
      refine ⟨fun z => z w hw, fun z v hv => ?_⟩
      rw [hw] at hv
      cases hv
      exact z
    rw [e] at hN
    exact hN
  walk_at "e"
  refine h _ ?_
  rw [List.all_eq_true]
  refine ⟨fun z j w hw => ?_, fun z b hb => ?_⟩
  · have hj : j < vs.length := (List.getElem?_eq_some_iff.mp hw).1
    have := z _ (List.mem_map.mpr ⟨j, List.mem_range.mpr hj, rfl⟩)
    exact (@decide_eq_true_iff _ (Classical.propDecidable _)).mp this w hw
  · obtain ⟨j, hj, rfl⟩ := List.mem_map.mp hb
    exact (@decide_eq_true_iff _ (Classical.propDecidable _)).mpr fun w hw => z j w hw
def z8p : DS := (dRet (dAndV (dOp (cmpV cEq) (dCB fSort2 (dConsA (dL 0) dNilA)) (dL 2)) (dCall zj (dConsA (dV 1) (dConsA (dV 0) dNilA)) [])))
def z8q : DS := dSeq (dIf (dOr (dNot (dBool (dIs "list" (dL 0)))) (dNot (dBool (dCB fAll (dConsA (dLc (.one 3) (dItL (dV 0)) dYes (dAndV (dIs "int" (dL 3)) (dNotV (dIs "bool" (dL 3)))) [3]) dNilA))))) (dRet (dC (.bl false))) dNext) z8p
def z8r : DS := dSeq (dIf (dBool (dIs "tuple" (dL 0))) (dSeq (dIf (dOr (dTst cNe (dL 0) (dTup (dConsA (dC (.bl true)) (dConsA (dC (.bl true)) (dConsA (dC (.bl false)) dNilA))))) (dBool (dCall zj (dConsA (dV 1) (dConsA (dV 2) dNilA)) []))) (dRet (dC (.bl false))) dNext) (dRet (dNotV (dCall zj (dConsA (dV 1) (dConsA (dSortKL (dL 2) 1 2 3) dNilA)) [])))) dNext) z8q
def z71 : DS := dSeq (dSet 2 (dLRg1 (dCB fLen (dConsA (dL 1) dNilA)))) z8r
local macro_rules | `(tactic| walk_at "L_right_v8") => `(tactic| repeat (first | walk_at "e" | walk_at "s" | (with_reducible show z8p _ _; simp only [z8p]) | (with_reducible show z8q _ _; simp only [z8q]) | (with_reducible show z8r _ _; simp only [z8r]) | (with_reducible show z71 _ _; simp only [z71])))
def AllT (ws : List Wk) (ps : List Nat) : Prop := ∀ (j : Nat) w, (reW ws ps)[j]? = some w → feas (reW ws ps) j (w.due - w.late)
def z18 : FS := fun xs Q _ => ∃ (ws : List Wk) (x : D), xs = [x, .lst (ws.map Wk.t5)] ∧ ws.length ≤ 12 ∧ (∀ w ∈ ws, w.ok) ∧ ((∃ ps : List Nat, x = .lst (nsD ps) ∧ ps.Perm (List.range ws.length) ∧ AllT ws ps) ∨ (x = .tup [.bl true, .bl true, .bl false] ∧ ∀ ps : List Nat, ps.Perm (List.range ws.length) → ¬ AllT ws ps)) ∧ Q (.d (.bl true))
theorem zfb : ∀ xs QD QE, z18 xs QD QE → xs.length = 2 := fun xs _ _ ⟨_, _, h, _⟩ => by rw [h]; rfl
theorem zif : ∀ xs QD QE, z18 xs QD QE → z71 (fEnds QD QE) (rho0 4 xs) := by
  rintro xs QD QE ⟨ws, x, rfl, hl, hok, hx, h⟩
  have er : rngD 0 (ws.length : Int) = nsD (List.range ws.length) := by
    rw [rngD_map]
    unfold nsD
    rw [List.map_map]
    rfl
  have er0 : rngD 0 ((ws.length : Int) - 0) = nsD (List.range ws.length) := by rw [Int.sub_zero, er]
  rcases hx with ⟨ps, rfl, hp, ha⟩ | ⟨rfl, hn⟩
  · walk_at "L_right_v8"
    have hpl := hp.length_eq
    rw [List.length_range] at hpl
    rw [er0, nsD_map]
    refine lc_tm (fun _ : Nat => .bl true) (fun p hpm N hN => ?_) (by rw [sizeLine_eq]; omega) ?_
    · walk_at "e"
      exact hN
    walk_at "L_right_v8"
    rw [← nsD_map, show intsD (nsD ps) = some (ps.map fun k : Nat => (k : Int)) from intsD_map _]
    intro ms hms hso
    have e : ms = (List.range ws.length).map fun k : Nat => (k : Int) := List.Perm.eq_of_pairwise (le := fun a b : Int => a ≤ b) (fun a b _ _ h1 h2 => by omega) hso (List.pairwise_map.mpr (List.pairwise_lt_range.imp fun {i j} h => by omega)) (hms.trans (hp.map _))
    subst e
    refine ⟨shaped_ints _, shaped_ints _, ?_⟩
    rw [if_pos (show PyData.eqv (D.lst (((List.range ws.length).map fun k : Nat => (k : Int)).map D.int)).py (D.lst (nsD (List.range ws.length))).py = true from eqv_self (n := 1) (nice_ints _))]
    refine ⟨ws, ps, rfl, hl, hok, hp, fun b hb => ?_⟩
    have hb : b = true := hb.mpr ha
    subst hb
    exact h
  · walk_at "L_right_v8"
    rw [er0, show PyData.eqv _ _ = true by decide +kernel, if_neg (by decide)]
    refine ⟨ws, List.range ws.length, rfl, hl, hok, List.Perm.refl _, fun b hb => ?_⟩
    have hb : b = false := by
      cases b with
      | false => rfl
      | true => exact absurd (hb.mp rfl) (hn _ (List.Perm.refl _))
    subst hb
    walk_at "L_right_v8"
    unfold dSortKL
    walk_at "L_right_v8"
    show withI (intsD (nsD (List.range ws.length))) _
    rw [show intsD (nsD (List.range ws.length)) = some ((List.range ws.length).map fun k : Nat => (k : Int)) from intsD_map _]
    refine ⟨fun n hn2 => ?_, fun ms hms => ?_⟩
    · obtain ⟨k, hk, rfl⟩ := List.mem_map.mp hn2
      obtain ⟨w, hw⟩ := at_lt (List.mem_range.mp hk)
      exact ⟨k, [.int w.gap, .int w.length, .int w.due, .int w.late, .lst (w.holds.map Hd.d)], w.due, w.late, rfl, by rw [List.getElem?_map, hw]; rfl, rfl, rfl⟩
    · obtain ⟨ps, rfl, hps⟩ : ∃ ps : List Nat, ms = ps.map (fun k : Nat => (k : Int)) ∧ ps.Perm (List.range ws.length) := by
        refine ⟨ms.map Int.toNat, ?_, ?_⟩
        · rw [List.map_map]
          refine (List.map_id ms).symm.trans (List.map_congr_left fun x hx => ?_)
          obtain ⟨k, _, rfl⟩ := List.mem_map.mp (hms.mem_iff.mp hx)
          rfl
        · have := hms.map Int.toNat
          rw [List.map_map] at this
          rwa [show (List.range ws.length).map (Int.toNat ∘ fun k : Nat => (k : Int)) = List.range ws.length from (List.map_congr_left fun k _ => rfl).trans (List.map_id _)] at this
      walk_at "L_right_v8"
      refine ⟨ws, ps, rfl, hl, hok, hps, fun b hb => ?_⟩
      have hb : b = false := by
        cases b with
        | false => rfl
        | true => exact absurd (hb.mp rfl) (hn _ hps)
      subst hb
      walk_at "L_right_v8"
      exact h
def zbc : DS := (dApp 5 (dMake .Work ze (dConsA (dOp dAdd (dC (.str "s")) (dOp dIx (dC (.str "tuvwxabcdefg")) (dL 6))) (dConsA (dV 7) (dConsA (dV 8) (dConsA (dV 9) (dConsA (dV 10) (dConsA (dCB fList (dConsA (dL 11) dNilA)) dNilA)))))) []))
def zd1 : DS := dSeq (dUnp [7, 8, 9, 10, 11] (dOp dIx (dL 4) (dL 6))) zbc
def zd2 : DS := (dRet (dOp (cmpV cEq) (dCall zy (dConsA (dV 12) dNilA) []) (dL 13)))
def zd3 : DS := dSeq (dIf (dBool (dIs "list" (dL 13))) (dSeq (dApp 13 (dC (.int 7))) (dRet (dCall z18 (dConsA (dCall zy (dConsA (dV 12) dNilA) []) (dConsA (dV 4) dNilA)) []))) dNext) zd2
def zd4 : DS := dSeq (dIf (dNot (dBool (dCallT z18 (dConsA (dL 13) (dConsA (dL 4) dNilA)) []))) (dRet (dC (.bl false))) dNext) zd3
def zex : DS := dSeq (dSetO 13 (dCall zy (dConsA (dV 12) dNilA) [])) zd4
def zey : DS := dSeq (dFz 5 (dSet 12 (dMake .Duty zb (dConsA (dV 5) dNilA) []))) zex
def zez : DS := dSeq (dFor (.one 6) (dRng1 (dConsA (dCB fLen (dConsA (dL 4) dNilA)) dNilA)) zd1) zey
def zf0 : DS := dSeq (dSetO 5 (dLst dNilA)) zez
def zbi : DS := dSeq (dSet 4 (dLc (.one 14) (dItL (dV 3)) dYes (dCall z1a (dConsA (dV 14) (dConsA (dV 2) (dConsA (dCB fLen (dConsA (dL 3) dNilA)) dNilA))) []) [14])) zf0
def zf1 : DS := dSeq (dIf (dTst cEq (dOp dMod (dOp dDiv (dL 1) (dC (.int 8))) (dC (.int 8))) (dC (.int 3))) (dSeq (dSet 3 (dOp dAdd (dSl (dL 0) (dSome (dC (.int 1))) (dSome (dC (.int 13)))) (dLc (.one 6) (dRng1 (dConsA (dC (.int 12)) dNilA)) dYes (dOp dAdd (dOp dDiv (dL 1) (dC (.int 64))) (dOp dMul (dOp dMul (dC (.int 31)) (dL 6)) (dL 6))) [6]))) (dSet 3 (dSl (dL 3) dNo (dSome (dOp dAdd (dC (.int 6)) (dOp dMod (dOp dDiv (dL 1) (dC (.int 64))) (dC (.int 7)))))))) dNext) zbi
def zbj : DS := dSeq (dSet 3 (dSl (dL 0) (dSome (dC (.int 1))) (dSome (dC (.int 6))))) zf1
def zbk : DS := dSeq (dSet 2 (dOp dAdd (dC (.int 1)) (dOp dMod (dOp dDiv (dL 1) (dC (.int 4))) (dOp dIx (dLst (dConsA (dC (.int 3)) (dConsA (dOp dPow (dC (.int 10)) (dC (.int 15))) dNilA))) (dOp dMod (dL 1) (dC (.int 2))))))) zbj
def zf2 : DS := dSeq (dIf (dTst cNe (dL 0) (dLst dNilA)) (dSet 1 (dOp dIx (dL 0) (dC (.int 0)))) dNext) zbk
def zf3 : DS := dSeq (dSet 1 (dC (.int 0))) zf2
local macro_rules | `(tactic| walk_at "W_k71") => `(tactic| repeat (first | walk_at "e" | walk_at "s" | (with_reducible show zbc _ _; simp only [zbc]) | (with_reducible show zd1 _ _; simp only [zd1]) | (with_reducible show zd2 _ _; simp only [zd2]) | (with_reducible show zd3 _ _; simp only [zd3]) | (with_reducible show zd4 _ _; simp only [zd4]) | (with_reducible show zex _ _; simp only [zex]) | (with_reducible show zey _ _; simp only [zey]) | (with_reducible show zez _ _; simp only [zez]) | (with_reducible show zf0 _ _; simp only [zf0]) | (with_reducible show zbi _ _; simp only [zbi]) | (with_reducible show zf1 _ _; simp only [zf1]) | (with_reducible show zbj _ _; simp only [zbj]) | (with_reducible show zbk _ _; simp only [zbk]) | (with_reducible show zf2 _ _; simp only [zf2]) | (with_reducible show zf3 _ _; simp only [zf3])))
abbrev zjg : FS := spLaw
def nm71 (k : Nat) : Str := ⟨#[115, ([116, 117, 118, 119, 120, 97, 98, 99, 100, 101, 102, 103] : List Nat).getD k 0]⟩
theorem sign71 : ∀ k : Nat, k < 12 → ixD (Str.ofString "tuvwxabcdefg").cps.toList (k : Int) = some (([116, 117, 118, 119, 120, 97, 98, 99, 100, 101, 102, 103] : List Nat).getD k 0) := by decide +kernel
theorem nm71_ok : ∀ k : Nat, k < 12 → nameOk (.str (nm71 k)) = true := by decide +kernel
theorem nm71_inj : ∀ i : Nat, i < 12 → ∀ j : Nat, j < 12 → nm71 i = nm71 j → i = j := by decide +kernel
theorem press71 : ∀ k : Nat, k < 12 → Str.ofString "s" ++ oneSign (([116, 117, 118, 119, 120, 97, 98, 99, 100, 101, 102, 103] : List Nat).getD k 0) = nm71 k := by decide +kernel
def ren71 (k : Nat) (w : Wk) : Wk := ⟨nm71 k, w.gap, w.length, w.due, w.late, w.holds⟩
theorem ren71_by {k : Nat} {w : Wk} {u m : Int} (hk : k < 12) (h : w.by71 u m) : (ren71 k w).by71 u m := ⟨⟨nm71_ok k hk, h.ok.gap, h.ok.gapb, h.ok.len, h.ok.lenb, h.ok.due, h.ok.dueb, h.ok.late, h.ok.lateb, h.ok.hl, h.ok.fit⟩, h.lo, h.hi, h.hi5, h.lt⟩
theorem ren71_t5 (ws : List Wk) : (ws.mapIdx ren71).map Wk.t5 = ws.map Wk.t5 := by
  refine List.ext_getElem? fun i => ?_
  rw [List.getElem?_map, List.getElem?_map, List.getElem?_mapIdx, Option.map_map]
  cases ws[i]? <;> rfl
theorem zl8 : ∀ xs QD QE, zjg xs QD QE → zf3 (fEnds QD QE) (rho0 15 xs) := by
  rintro xs QD QE ⟨ns, rfl, ⟨hl, hbs⟩, h⟩
  have hT : QD (.d (.bl true)) := h
  walk_at "W_k71"
  have key : ∀ f : Int, zbk (fEnds QD QE) [some (.d (.lst (ns.map .int))), some (.d (.int f)), none, none, none, none, none, none, none, none, none, none, none, none, none] := fun f => by
    walk_at "W_k71"
    obtain ⟨m, e1, e2, e3⟩ := unit_ok f (P := fun u => zbj (fEnds QD QE) [some (.d (.lst (ns.map .int))), some (.d (.int f)), some (.d (.int u)), none, none, none, none, none, none, none, none, none, none, none, none]) fun u h1 h2 => by
      walk_at "W_k71"
      have main : ∀ cs : List Int, cs.length ≤ 12 → zbi (fEnds QD QE) [some (.d (.lst (ns.map .int))), some (.d (.int f)), some (.d (.int u)), some (.d (.lst (cs.map .int))), none, none, none, none, none, none, none, none, none, none, none] := fun cs hcl => by
        walk_at "W_k71"
        refine lc_g (enc := D.int) Wk.t5 (fun w => w.by71 u cs.length) (fun a ha N hN => ?_) (by rw [sizeLine_eq]; omega) fun ws0 hwl0 hws0 => ?_
        · have := List.length_pos_of_mem ha
          walk_at "e"
          exact ⟨a, u, cs.length, "a", rfl, by decide +kernel, h1, h2, by omega, by omega, fun w hw _ => hN w hw⟩
        obtain ⟨ws, hwe, hwl, hws⟩ : ∃ ws : List Wk, ws0.map Wk.t5 = ws.map Wk.t5 ∧ ws.length = cs.length ∧ ∀ (i : Nat) (w : Wk), ws[i]? = some w → w.by71 u cs.length ∧ w.name = nm71 i := by
          refine ⟨ws0.mapIdx ren71, (ren71_t5 ws0).symm, by rw [List.length_mapIdx, hwl0], fun i w hw => ?_⟩
          rw [List.getElem?_mapIdx] at hw
          cases h0 : ws0[i]? with
          | none => rw [h0] at hw; cases hw
          | some y =>
            rw [h0] at hw
            cases hw
            have hi := (List.getElem?_eq_some_iff.mp h0).1
            exact ⟨ren71_by (by omega) (hws0 y (mem_of_at h0)), rfl⟩
        rw [hwe]
        clear hwe hws0 hwl0
        generalize cs.length = n at *
        walk_at "W_k71"
        rw [hwl]
        refine for_rng (fun k ρ => ∃ (o6 o7 o8 o9 o10 o11 : Option C), ρ = [some (.d (.lst (ns.map .int))), some (.d (.int f)), some (.d (.int u)), some (.d (.lst (cs.map .int))), some (.d (.lst (ws.map Wk.t5))), some (.nl ((ws.take k).map Wk.d)), o6, o7, o8, o9, o10, o11, none, none, none]) n (fun k ρ N hk ⟨o6, o7, o8, o9, o10, o11, ho⟩ hN => ?s1) (fun ρ ⟨o6, o7, o8, o9, o10, o11, ho⟩ => ?s3) ⟨_, _, _, _, _, _, rfl⟩
        case s1 =>
          subst ho
          obtain ⟨w, hw⟩ : ∃ w, ws[k]? = some w := ⟨_, List.getElem?_eq_getElem (by omega)⟩
          obtain ⟨hb, hnm⟩ := hws k w hw
          walk_at "W_k71"
          rw [hw, Option.map_some, show w.t5 = .tup [.int w.gap, .int w.length, .int w.due, .int w.late, .lst (w.holds.map Hd.d)] from rfl]
          walk_at "W_k71"
          rw [sign71 k (by omega)]
          walk_at "W_k71"
          rw [press71 k (by omega), ← hnm]
          refine ⟨by rw [sizeLine_eq]; show 1 + 1 ≤ _; omega, ?_⟩
          refine make_work hb.ok ?_
          refine ⟨by rw [List.length_take, sizeLine_eq]; omega, hN _ ⟨_, _, _, _, _, _, by rw [take_snoc hw, List.map_append]; rfl⟩⟩
        case s3 =>
          subst ho
          rw [List.take_of_length_le (show ws.length ≤ n by omega)]
          have hwu : ∀ w ∈ ws, w.by71 u n := fun w hw => by
            obtain ⟨i, hi⟩ := List.getElem?_of_mem hw
            exact (hws i w hi).1
          have hwn : ws.map Wk.name = (List.range n).map nm71 := by
            refine List.ext_getElem? fun i => ?_
            rw [List.getElem?_map, List.getElem?_map]
            by_cases hi : i < n
            · obtain ⟨w, hw⟩ := at_lt (show i < ws.length by omega)
              rw [hw, List.getElem?_range hi]
              show some w.name = _
              rw [(hws i w hw).2]
              rfl
            · rw [List.getElem?_eq_none (by omega), List.getElem?_eq_none (by rw [List.length_range]; omega)]
              rfl
          have hD : DutyOk ws := by
            refine ⟨fun w hw => (hwu w hw).ok, names_nodup hwn fun i j hi hj e => nm71_inj i (by omega) j (by omega) e, by omega, ?_⟩
            by_cases h5 : 5 < (n : Int)
            · have := crowd_le (ws := ws) 4 (fun a ha b hb => by
                have h1 := hwu a ha
                have h2 := hwu b hb
                have := h1.ok.dueb
                have := h1.hi5 h5
                have := h2.hi5 h5
                have := h2.lo
                have := h2.lt
                omega) fun w hw => ⟨(hwu w hw).ok.gap, (hwu w hw).ok.due⟩
              omega
            · have := crowd_le (ws := ws) 15 (fun a ha b hb => by
                have h1 := hwu a ha
                have h2 := hwu b hb
                have := h1.ok.dueb
                have := h1.hi
                have := h2.hi
                have := h2.lo
                have := h2.lt
                omega) fun w hw => ⟨(hwu w hw).ok.gap, (hwu w hw).ok.due⟩
              omega
          clear hwn hwu hws
          have hwl12 : ws.length ≤ 12 := hD.len
          walk_at "W_k71"
          refine make_duty hD ?_
          have no : ∀ left placed : List Nat, (left ++ placed).Perm (List.range ws.length) → left ≠ [] → noFit ws left placed left → ∀ ps : List Nat, ps.Perm (List.range ws.length) → ¬ AllT ws ps := fun left placed hp hne hno ps hps hA => by
            obtain ⟨j, w, hw, hn⟩ := no_fits hD hp hne hno hps
            exact bad_feas.mp hn (hA j w hw)
          refine ⟨ws, rfl, hD, fun ps hp hc => ?_, fun left placed hp hne hc hno => ?_⟩
          · walk_at "W_k71"
            refine ⟨ws, _, rfl, hwl12, hD.ok, .inl ⟨ps, rfl, hp, low_fits hp hc⟩, rfl, ?_⟩
            walk_at "W_k71"
            have hpl := hp.length_eq
            rw [List.length_range] at hpl
            refine ⟨by rw [nsD_len, sizeLine_eq]; omega, ?_⟩
            refine ⟨ws, rfl, hD, fun ps2 hp2 hc2 => ?_, fun left placed hp2 hne hc2 hno => ?_⟩
            · walk_at "W_k71"
              exact ⟨ws, _, rfl, hwl12, hD.ok, .inl ⟨ps2, rfl, hp2, low_fits hp2 hc2⟩, hT⟩
            · exact absurd (low_fits hp hc) (no left placed hp2 hne hno ps hp)
          · walk_at "W_k71"
            refine ⟨ws, _, rfl, hwl12, hD.ok, .inr ⟨rfl, no left placed hp hne hno⟩, rfl, ?_⟩
            walk_at "W_k71"
            refine ⟨ws, rfl, hD, fun ps2 hp2 hc2 => ?_, fun left2 placed2 hp2 hne2 hc2 hno2 => ?_⟩
            · exact absurd (low_fits hp2 hc2) (no left placed hp hne hno ps2 hp2)
            · walk_at "W_k71"
              rw [show PyData.eqv _ _ = true by decide +kernel]
              exact hT
      refine ite_d (fun z => ?_) (fun z => ?_)
      · refine ⟨⟨by decide, by decide⟩, ?_⟩
        rw [show (12 : Int) = ((12 : Nat) : Int) from rfl, rngD_map]
        refine lc_tm (fun k : Nat => .int (f / 64 + 31 * (k : Int) * (k : Int))) (fun k hk N hN => ?_) (by decide +kernel) ?_
        · walk_at "e"
          have hk := List.mem_range.mp hk
          have g1 : big (31 * (k : Int)) < 9000 := big_of (by omega) (by omega)
          have g2 : big (k : Int) < 9000 := big_of (by omega) (by omega)
          exact ⟨.inr (by omega), hN⟩
        walk_at "e"
        refine ⟨by rw [List.length_take, List.length_range, sizeLine_eq]; omega, ?_⟩
        obtain ⟨m, hm⟩ : ∃ m : Nat, 6 + f / 64 % 7 = (m : Int) := ⟨(6 + f / 64 % 7).toNat, by omega⟩
        rw [hm, cut_hi, show (List.range 12).map (fun k : Nat => D.int (f / 64 + 31 * (k : Int) * (k : Int))) = ((List.range 12).map fun k : Nat => f / 64 + 31 * (k : Int) * (k : Int)).map D.int by rw [List.map_map]; rfl, ← List.map_append, ← List.map_take]
        exact main _ (by rw [List.length_take]; omega)
      · exact main _ (by rw [List.length_take]; omega)
    rw [e1]
    walk_at "e"
    exact ⟨e2, e3⟩
  refine ⟨shaped_ints ns, rfl, ?_⟩
  rw [eqv_nil]
  cases ns with
  | nil => exact key 0
  | cons n ns =>
    walk_at "e"
    exact key n
end DL
namespace Law
open PySem PySem.Spec L2 DL
variable [DL.TP]
variable {P : Program} {w : World} {K : PySem.W.Frag} {mg : Str → Option Value} {base : Heap} {f : Addr} {fd : FuncData} {h : Heap}
theorem zh6 : FnScope ["top", "bottom", "whole", "rest"] ["top", "bottom"] (defScope z10) := ⟨rfl, rfl, rfl, by decide +kernel, rfl, by decide +kernel, by decide +kernel⟩
theorem zh7 (n_divmod : mg "divmod" = none) (cdv : Value) (A : Around) (outer : List Env) (s : Shared) (H : Hp) (E : XK)
    (B : Bd (cxOf (L2N.CX P w) P w K mg base ["top", "bottom", "whole", "rest"] "rounds_up" (defScope z10) f cdv A outer s H E) (fun cls d _ H' => E cls d H') 0) : PSs (cxOf (L2N.CX P w) P w K mg base ["top", "bottom", "whole", "rest"] "rounds_up" (defScope z10) f cdv A outer s H E) (defBody z10) (sD K (fun cls d _ H' => E cls d H') z3j) :=
  (dss_cons (ds_unp (is := [2, 3]) (dcb call_divmodW br_divmod n_divmod bt_divmod (pab_cons (dl 0) (pab_cons (dl 1) pab_nil))) (pg_tup B.calm (pgs_cons (pg_name (i := 2) B.nd rfl (by first | exact Or.inl rfl | exact Or.inr rfl)) (pgs_cons (pg_name (i := 3) B.nd rfl (by first | exact Or.inl rfl | exact Or.inr rfl)) pgs_nil))))
    (dss_cons (ds_if (tcmp k_gt (dl 3) (PE_look dint) (nomark _)) (dss_one (ds_iadd (i := 2) B.nd (PE_look dint))) dss_nil)
    (dss_one (ds_retL 2))))
theorem zh8 (F : FunD K "rounds_up" "rounds_up" (defArgs z10) (defBody z10) (defScope z10) [] [] f fd) (n_divmod : mg "divmod" = none) : FnOk P w K mg base (L2N.CX P w) 1 f fd ["top", "bottom"] (spD K 2 zg) :=
  fn_D F zh6 rfl (fun cdv A outer s H E B => zh7 n_divmod cdv A outer s H E B) (fun xs QD QE _ h => zgv xs QD QE h)
theorem zgn : FnScope ["self", "greatest", "many", "one"] ["self"] (defScope zm) := ⟨rfl, rfl, rfl, by decide +kernel, rfl, by decide +kernel, by decide +kernel⟩
theorem zgo (a_works : ∀ c, c ∈ ([.Duty] : List Cn) → Cls K (He.ga K c.str) ∧ NoAttr K (He.ga K c.str) (Fd.works).str) (a_due : ∀ c, c ∈ ([.Work] : List Cn) → Cls K (He.ga K c.str) ∧ NoAttr K (He.ga K c.str) (Fd.due).str) (n_max : mg "max" = none) (a_late : ∀ c, c ∈ ([.Work] : List Cn) → Cls K (He.ga K c.str) ∧ NoAttr K (He.ga K c.str) (Fd.late).str) (a_gap : ∀ c, c ∈ ([.Work] : List Cn) → Cls K (He.ga K c.str) ∧ NoAttr K (He.ga K c.str) (Fd.gap).str) (zk : Fn K mg base P w "rounds_up" 1 2 [] zg) (cdv : Value) (A : Around) (outer : List Env) (s : Shared) (H : Hp) (E : XK)
    (B : Bd (cxOf (L2N.CX P w) P w K mg base ["self", "greatest", "many", "one"] "Duty.crowd" (defScope zm) f cdv A outer s H E) (fun cls d _ H' => E cls d H') 1) : PSs (cxOf (L2N.CX P w) P w K mg base ["self", "greatest", "many", "one"] "Duty.crowd" (defScope zm) f cdv A outer s H E) (defBody zm) (sD K (fun cls d _ H' => E cls d H') z2w) :=
  (dss_cons (ds_set (i := 1) B.nd (dmaxOr B.calm B.hu n_max (PE_look (dlc (own := [("one", 3)]) (tg := (.one 3)) B.calm B.nd (tic (di_list (dfld (f := .works) a_works (dl 0)))) (blkOk_by (own := [("one", 3)]) (N := ["self", "greatest", "many", "one"]) (sc := defScope zm) (by decide +kernel)) (fun _ _ _ _ _ => (pg_name (i := 3) (Bd.blk B).nd rfl (by first | exact Or.inl rfl | exact Or.inr rfl))) (fun _ _ _ _ _ => pts_yes) (fun _ _ _ _ _ => (dfld (f := .due) a_due (dl 3))) (by simp [Tg.slots]))) (PE_look dint)))
    (dss_cons (ds_set (i := 2) B.nd dint)
    (dss_cons (ds_for (tg := (.one 3)) B.po B.calm (di_list (dfld (f := .works) a_works (dl 0))) (pg_name (i := 3) B.nd rfl (by first | exact Or.inl rfl | exact Or.inr rfl)) (dss_one (ds_iadd (i := 2) B.nd (PE_look (dcallF zk B (by decide) (fun _ => .nil) (paf_cons (dadd (dl 1) (PE_look (dfld (f := .late) a_late (dl 3)))) (paf_cons (dfld (f := .gap) a_gap (dl 3)) paf_nil)))))))
    (dss_one (ds_retL 2)))))
theorem zgp (F : FunD K "crowd" "Duty.crowd" (defArgs zm) (defBody zm) (defScope zm) [] [] f fd) (a_works : ∀ c, c ∈ ([.Duty] : List Cn) → Cls K (He.ga K c.str) ∧ NoAttr K (He.ga K c.str) (Fd.works).str) (a_due : ∀ c, c ∈ ([.Work] : List Cn) → Cls K (He.ga K c.str) ∧ NoAttr K (He.ga K c.str) (Fd.due).str) (n_max : mg "max" = none) (a_late : ∀ c, c ∈ ([.Work] : List Cn) → Cls K (He.ga K c.str) ∧ NoAttr K (He.ga K c.str) (Fd.late).str) (a_gap : ∀ c, c ∈ ([.Work] : List Cn) → Cls K (He.ga K c.str) ∧ NoAttr K (He.ga K c.str) (Fd.gap).str) (zk : Fn K mg base P w "rounds_up" 1 2 [] zg) : FnOk P w K mg base (L2N.CX P w) 2 f fd ["self"] (spD K 1 zt) :=
  fn_D F zgn rfl (fun cdv A outer s H E B => zgo a_works a_due n_max a_late a_gap zk cdv A outer s H E B) (fun xs QD QE _ h => zgb xs QD QE h)
theorem zh9 : FnScope ["self", "works", "at"] ["self", "works"] (defScope z11) := ⟨rfl, rfl, rfl, by decide +kernel, rfl, by decide +kernel, by decide +kernel⟩
theorem zha {tk_MOST_CROWD : Tok} {tk_MOST_WORKS : Tok} (n_isinstance : mg "isinstance" = none) (n_list : mg "list" = none) (x_BadDuty : ExC K mg .BadDuty) (a_works : ∀ c, c ∈ ([.Duty] : List Cn) → Cls K (He.ga K c.str) ∧ NoAttr K (He.ga K c.str) (Fd.works).str) (a_numbers : ∀ c, c ∈ ([.Duty] : List Cn) → Cls K (He.ga K c.str) ∧ NoAttr K (He.ga K c.str) (Fd.numbers).str) (n_len : mg "len" = none) (i_Work : IsF K mg [.Work, .Duty] .Work) (a_name : ∀ c, c ∈ ([.Work] : List Cn) → Cls K (He.ga K c.str) ∧ NoAttr K (He.ga K c.str) (Fd.name).str) (n_range : mg "range" = none) (g_MOST_WORKS : mg "MOST_WORKS" = some (.int 12 tk_MOST_WORKS)) (m_Duty_crowd : Mm K mg base P w "crowd" .Duty 2 1 [] zt) (g_MOST_CROWD : mg "MOST_CROWD" = some (.int 80 tk_MOST_CROWD)) (x_TooMany : ExC K mg .TooMany) (cdv : Value) (A : Around) (outer : List Env) (s : Shared) (H : Hp) (E : XK)
    (B : Bd (cxOf (L2N.CX P w) P w K mg base ["self", "works", "at"] "Duty.__init__" (defScope z11) f cdv A outer s H E) (fun cls d _ H' => E cls d H') 2) : PSs (cxOf (L2N.CX P w) P w K mg base ["self", "works", "at"] "Duty.__init__" (defScope z11) f cdv A outer s H E) (defBody z11) (sD K (fun cls d _ H' => E cls d H') z3q) :=
  (dss_cons (ds_if (tnot (tbool (PE_look (disT (T := "list") (by simp) n_isinstance n_list bt_list bt_isinstance (dl 1))))) (dss_one (ds_raise (c := .BadDuty) B x_BadDuty)) dss_nil)
    (dss_cons (ds_fld 0 (f := .works) a_works (dct call_list_of br_list n_list bt_list (pab_cons (dl 1) pab_nil)))
    (ds_nums 0 2 (f := .numbers) B a_numbers n_range (pab_cons (PE_look (dcb cr_len br_len n_len bt_len (pab_cons (dl 1) pab_nil))) pab_nil) (PW.pt (tor (tnot (tbool (PE_look (disC (y := .Work) i_Work n_isinstance (PE_look (dix B.hu (dl 1) (dl 2))))))) (tor1 (tcmp (k_in B.hu) (PE_look (dfld (f := .name) a_name (PE_look (dix B.hu (dl 1) (dl 2))))) (PE_look (dfld (f := .numbers) a_numbers (dl 0))) (by rfl))))) (dss_one (ds_raise (c := .BadDuty) B x_BadDuty)) (PE_look (dfld (f := .name) a_name (PE_look (dix B.hu (dl 1) (dl 2))))) (dl 2) (pg_name (i := 2) B.nd rfl (by first | exact Or.inl rfl | exact Or.inr rfl))
    (dss_one (ds_if (PW.pt (tor (tcmp k_gt (PE_look (dcb cr_len br_len n_len bt_len (pab_cons (dl 1) pab_nil))) (PE_look (dgint g_MOST_WORKS)) (nomark _)) (tor1 (tcmp k_gt (PE_look (dmethT0 B (noFd (by decide +kernel)) (fun _ => .nil) (alt_cons (Mm.ok m_Duty_crowd (by decide)) alt_nil) (dl 0))) (PE_look (dgint g_MOST_CROWD)) (nomark _))))) (dss_one (ds_raise (c := .TooMany) B x_TooMany)) dss_nil)))))
theorem zhb {tk_MOST_CROWD : Tok} {tk_MOST_WORKS : Tok} (F : FunD K "__init__" "Duty.__init__" (defArgs z11) (defBody z11) (defScope z11) [] [] f fd) (n_isinstance : mg "isinstance" = none) (n_list : mg "list" = none) (x_BadDuty : ExC K mg .BadDuty) (a_works : ∀ c, c ∈ ([.Duty] : List Cn) → Cls K (He.ga K c.str) ∧ NoAttr K (He.ga K c.str) (Fd.works).str) (a_numbers : ∀ c, c ∈ ([.Duty] : List Cn) → Cls K (He.ga K c.str) ∧ NoAttr K (He.ga K c.str) (Fd.numbers).str) (n_len : mg "len" = none) (i_Work : IsF K mg [.Work, .Duty] .Work) (a_name : ∀ c, c ∈ ([.Work] : List Cn) → Cls K (He.ga K c.str) ∧ NoAttr K (He.ga K c.str) (Fd.name).str) (n_range : mg "range" = none) (g_MOST_WORKS : mg "MOST_WORKS" = some (.int 12 tk_MOST_WORKS)) (m_Duty_crowd : Mm K mg base P w "crowd" .Duty 2 1 [] zt) (g_MOST_CROWD : mg "MOST_CROWD" = some (.int 80 tk_MOST_CROWD)) (x_TooMany : ExC K mg .TooMany) : FnOk P w K mg base (L2N.CX P w) 3 f fd ["self", "works"] (spI K .Duty 1 zb) :=
  init_D F zh9 rfl (by decide) (fun cdv A outer s H E B => zha n_isinstance n_list x_BadDuty a_works a_numbers n_len i_Work a_name n_range g_MOST_WORKS m_Duty_crowd g_MOST_CROWD x_TooMany cdv A outer s H E B) (fun a xs QF QE _ h => zh1 a xs QF QE h)
theorem zhc : FnScope ["self"] ["self"] (defScope z12) := ⟨rfl, rfl, rfl, by decide +kernel, rfl, by decide +kernel, by decide +kernel⟩
theorem zhd (a_works : ∀ c, c ∈ ([.Duty] : List Cn) → Cls K (He.ga K c.str) ∧ NoAttr K (He.ga K c.str) (Fd.works).str) (n_len : mg "len" = none) (cdv : Value) (A : Around) (outer : List Env) (s : Shared) (H : Hp) (E : XK)
    (B : Bd (cxOf (L2N.CX P w) P w K mg base ["self"] "Duty.size" (defScope z12) f cdv A outer s H E) (fun cls d _ H' => E cls d H') 0) : PSs (cxOf (L2N.CX P w) P w K mg base ["self"] "Duty.size" (defScope z12) f cdv A outer s H E) (defBody z12) (sD K (fun cls d _ H' => E cls d H') z3o) :=
  (dss_one (ds_ret (dcb cr_len br_len n_len bt_len (pab_cons (PE_look (dfld (f := .works) a_works (dl 0))) pab_nil))))
theorem zhe (F : FunD K "size" "Duty.size" (defArgs z12) (defBody z12) (defScope z12) [] [] f fd) (a_works : ∀ c, c ∈ ([.Duty] : List Cn) → Cls K (He.ga K c.str) ∧ NoAttr K (He.ga K c.str) (Fd.works).str) (n_len : mg "len" = none) : FnOk P w K mg base (L2N.CX P w) 1 f fd ["self"] (spD K 1 z8) :=
  fn_D F zhc rfl (fun cdv A outer s H E B => zhd a_works n_len cdv A outer s H E B) (fun xs QD QE _ h => zgz xs QD QE h)
theorem zhf : FnScope ["self"] ["self"] (defScope z13) := ⟨rfl, rfl, rfl, by decide +kernel, rfl, by decide +kernel, by decide +kernel⟩
theorem zhg (a_sections : ∀ c, c ∈ ([.Work] : List Cn) → Cls K (He.ga K c.str) ∧ NoAttr K (He.ga K c.str) (Fd.sections).str) (n_list : mg "list" = none) (cdv : Value) (A : Around) (outer : List Env) (s : Shared) (H : Hp) (E : XK)
    (B : Bd (cxOf (L2N.CX P w) P w K mg base ["self"] "Work.held" (defScope z13) f cdv A outer s H E) (fun cls d _ H' => E cls d H') 0) : PSs (cxOf (L2N.CX P w) P w K mg base ["self"] "Work.held" (defScope z13) f cdv A outer s H E) (defBody z13) (sD K (fun cls d _ H' => E cls d H') z3n) :=
  (dss_one (ds_ret (dct call_list_of br_list n_list bt_list (pab_cons (PE_look (dfld (f := .sections) a_sections (dl 0))) pab_nil))))
theorem zhh (F : FunD K "held" "Work.held" (defArgs z13) (defBody z13) (defScope z13) [] [] f fd) (a_sections : ∀ c, c ∈ ([.Work] : List Cn) → Cls K (He.ga K c.str) ∧ NoAttr K (He.ga K c.str) (Fd.sections).str) (n_list : mg "list" = none) : FnOk P w K mg base (L2N.CX P w) 1 f fd ["self"] (spD K 1 za) :=
  fn_D F zhf rfl (fun cdv A outer s H E B => zhg a_sections n_list cdv A outer s H E B) (fun xs QD QE _ h => zgy xs QD QE h)
theorem zhi : FnScope ["self", "at"] ["self", "at"] (defScope z14) := ⟨rfl, rfl, rfl, by decide +kernel, rfl, by decide +kernel, by decide +kernel⟩
theorem zhj (a_works : ∀ c, c ∈ ([.Duty] : List Cn) → Cls K (He.ga K c.str) ∧ NoAttr K (He.ga K c.str) (Fd.works).str) (cdv : Value) (A : Around) (outer : List Env) (s : Shared) (H : Hp) (E : XK)
    (B : Bd (cxOf (L2N.CX P w) P w K mg base ["self", "at"] "Duty.work" (defScope z14) f cdv A outer s H E) (fun cls d _ H' => E cls d H') 0) : PSs (cxOf (L2N.CX P w) P w K mg base ["self", "at"] "Duty.work" (defScope z14) f cdv A outer s H E) (defBody z14) (sD K (fun cls d _ H' => E cls d H') z3p) :=
  (dss_one (ds_ret (dix B.hu (PE_look (dfld (f := .works) a_works (dl 0))) (dl 1))))
theorem zhk (F : FunD K "work" "Duty.work" (defArgs z14) (defBody z14) (defScope z14) [] [] f fd) (a_works : ∀ c, c ∈ ([.Duty] : List Cn) → Cls K (He.ga K c.str) ∧ NoAttr K (He.ga K c.str) (Fd.works).str) : FnOk P w K mg base (L2N.CX P w) 1 f fd ["self", "at"] (spD K 2 z7) :=
  fn_D F zhi rfl (fun cdv A outer s H E B => zhj a_works cdv A outer s H E B) (fun xs QD QE _ h => zh0 xs QD QE h)
theorem zjh : FnScope ["duty", "thing", "at", "hold"] ["duty", "thing"] (defScope z1n) := ⟨rfl, rfl, rfl, by decide +kernel, rfl, by decide +kernel, by decide +kernel⟩
theorem zji (m_Duty_size : Mm K mg base P w "size" .Duty 1 1 [] z8) (n_range : mg "range" = none) (m_Duty_work : Mm K mg base P w "work" .Duty 1 2 [] z7) (m_Work_held : Mm K mg base P w "held" .Work 1 1 [] za) (cdv : Value) (A : Around) (outer : List Env) (s : Shared) (H : Hp) (E : XK)
    (B : Bd (cxOf (L2N.CX P w) P w K mg base ["duty", "thing", "at", "hold"] "ceiling" (defScope z1n) f cdv A outer s H E) (fun cls d _ H' => E cls d H') 1) : PSs (cxOf (L2N.CX P w) P w K mg base ["duty", "thing", "at", "hold"] "ceiling" (defScope z1n) f cdv A outer s H E) (defBody z1n) (sD K (fun cls d _ H' => E cls d H') z55) :=
  (dss_cons (ds_for (tg := (.one 2)) B.po B.calm (di_rng1 n_range (pab_cons (PE_look (dmeth0 B (noFd (by decide +kernel)) (fun _ => .nil) (alt_cons (Mm.ok m_Duty_size (by decide)) alt_nil) (dv 0))) pab_nil)) (pg_name (i := 2) B.nd rfl (by first | exact Or.inl rfl | exact Or.inr rfl)) (dss_one (ds_for (tg := (.one 3)) B.po B.calm (di_list (dmeth0 B (noFd (by decide +kernel)) (fun _ => .nil) (alt_cons (Mm.ok m_Work_held (by decide)) alt_nil) (dmeth B (noFd (by decide +kernel)) (fun _ => .nil) (alt_cons (Mm.ok m_Duty_work (by decide)) alt_nil) (dv 0) (paf_cons (dv 2) paf_nil)))) (pg_name (i := 3) B.nd rfl (by first | exact Or.inl rfl | exact Or.inr rfl)) (dss_one (ds_if (tcmp (k_eq B.hu64) (PE_look (dix B.hu (dl 3) (PE_look dint))) (dl 1) (nomark _)) (dss_one (ds_retL 2)) dss_nil)))))
    (dss_one (ds_ret dnon)))
theorem zjj (F : FunD K "ceiling" "ceiling" (defArgs z1n) (defBody z1n) (defScope z1n) [] [] f fd) (m_Duty_size : Mm K mg base P w "size" .Duty 1 1 [] z8) (n_range : mg "range" = none) (m_Duty_work : Mm K mg base P w "work" .Duty 1 2 [] z7) (m_Work_held : Mm K mg base P w "held" .Work 1 1 [] za) : FnOk P w K mg base (L2N.CX P w) 2 f fd ["duty", "thing"] (spD K 2 z1f) :=
  fn_D F zjh rfl (fun cdv A outer s H E B => zji m_Duty_size n_range m_Duty_work m_Work_held cdv A outer s H E B) (fun xs QD QE _ h => zj6 xs QD QE h)
theorem zjk : FnScope ["duty", "at", "most", "weaker", "thing", "start", "end"] ["duty", "at"] (defScope z1o) := ⟨rfl, rfl, rfl, by decide +kernel, rfl, by decide +kernel, by decide +kernel⟩
theorem zjl (m_Duty_size : Mm K mg base P w "size" .Duty 1 1 [] z8) (n_range : mg "range" = none) (m_Duty_work : Mm K mg base P w "work" .Duty 1 2 [] z7) (m_Work_held : Mm K mg base P w "held" .Work 1 1 [] za) (z2o : Fn K mg base P w "ceiling" 2 2 [] z1f) (n_max : mg "max" = none) (cdv : Value) (A : Around) (outer : List Env) (s : Shared) (H : Hp) (E : XK)
    (B : Bd (cxOf (L2N.CX P w) P w K mg base ["duty", "at", "most", "weaker", "thing", "start", "end"] "hold_up" (defScope z1o) f cdv A outer s H E) (fun cls d _ H' => E cls d H') 2) : PSs (cxOf (L2N.CX P w) P w K mg base ["duty", "at", "most", "weaker", "thing", "start", "end"] "hold_up" (defScope z1o) f cdv A outer s H E) (defBody z1o) (sD K (fun cls d _ H' => E cls d H') z8s) :=
  (dss_cons (ds_set (i := 2) B.nd dint)
    (dss_cons (ds_for (tg := (.one 3)) B.po B.calm (di_rng2 n_range (pab_cons (PE_look (dadd (dl 1) (PE_look dint))) (pab_cons (PE_look (dmeth0 B (noFd (by decide +kernel)) (fun _ => .nil) (alt_cons (Mm.ok m_Duty_size (by decide)) alt_nil) (dv 0))) pab_nil))) (pg_name (i := 3) B.nd rfl (by first | exact Or.inl rfl | exact Or.inr rfl)) (dss_one (ds_for (tg := (.many [4, 5, 6])) B.po B.calm (di_list (dmeth0 B (noFd (by decide +kernel)) (fun _ => .nil) (alt_cons (Mm.ok m_Work_held (by decide)) alt_nil) (dmeth B (noFd (by decide +kernel)) (fun _ => .nil) (alt_cons (Mm.ok m_Duty_work (by decide)) alt_nil) (dv 0) (paf_cons (dv 3) paf_nil)))) (pg_tup B.calm (pgs_cons (pg_name (i := 4) B.nd rfl (by first | exact Or.inl rfl | exact Or.inr rfl)) (pgs_cons (pg_name (i := 5) B.nd rfl (by first | exact Or.inl rfl | exact Or.inr rfl)) (pgs_cons (pg_name (i := 6) B.nd rfl (by first | exact Or.inl rfl | exact Or.inr rfl)) pgs_nil)))) (dss_one (ds_if (tcmp k_le (PE_look (dcallF z2o B (by decide) (fun _ => .nil) (paf_cons (dv 0) (paf_cons (dv 4) paf_nil)))) (dl 1) (nomark _)) (dss_one (ds_set (i := 2) B.nd (dcb (call_max2 B.calm) br_max2 n_max bt_max (pab_cons (dl 2) (pab_cons (PE_look (dsub (PE_look (dsub (dl 6) (dl 5))) (PE_look dint))) pab_nil))))) dss_nil)))))
    (dss_one (ds_retL 2))))
theorem zjm (F : FunD K "hold_up" "hold_up" (defArgs z1o) (defBody z1o) (defScope z1o) [] [] f fd) (m_Duty_size : Mm K mg base P w "size" .Duty 1 1 [] z8) (n_range : mg "range" = none) (m_Duty_work : Mm K mg base P w "work" .Duty 1 2 [] z7) (m_Work_held : Mm K mg base P w "held" .Work 1 1 [] za) (z2o : Fn K mg base P w "ceiling" 2 2 [] z1f) (n_max : mg "max" = none) : FnOk P w K mg base (L2N.CX P w) 3 f fd ["duty", "at"] (spD K 2 z1z) :=
  fn_D F zjk rfl (fun cdv A outer s H E B => zjl m_Duty_size n_range m_Duty_work m_Work_held z2o n_max cdv A outer s H E B) (fun xs QD QE _ h => zj9 xs QD QE h)
theorem zgq : FnScope ["work", "span"] ["work", "span"] (defScope zq) := ⟨rfl, rfl, rfl, by decide +kernel, rfl, by decide +kernel, by decide +kernel⟩
theorem zgr (a_late : ∀ c, c ∈ ([.Work] : List Cn) → Cls K (He.ga K c.str) ∧ NoAttr K (He.ga K c.str) (Fd.late).str) (a_gap : ∀ c, c ∈ ([.Work] : List Cn) → Cls K (He.ga K c.str) ∧ NoAttr K (He.ga K c.str) (Fd.gap).str) (zk : Fn K mg base P w "rounds_up" 1 2 [] zg) (cdv : Value) (A : Around) (outer : List Env) (s : Shared) (H : Hp) (E : XK)
    (B : Bd (cxOf (L2N.CX P w) P w K mg base ["work", "span"] "comings_in" (defScope zq) f cdv A outer s H E) (fun cls d _ H' => E cls d H') 1) : PSs (cxOf (L2N.CX P w) P w K mg base ["work", "span"] "comings_in" (defScope zq) f cdv A outer s H E) (defBody zq) (sD K (fun cls d _ H' => E cls d H') z2y) :=
  (dss_cons (ds_if (tcmp k_lt (dl 1) (PE_look dint) (nomark _)) (dss_one (ds_ret dint)) dss_nil)
    (dss_one (ds_ret (dcallF zk B (by decide) (fun _ => .nil) (paf_cons (dadd (dl 1) (PE_look (dfld (f := .late) a_late (dl 0)))) (paf_cons (dfld (f := .gap) a_gap (dl 0)) paf_nil))))))
theorem zgs (F : FunD K "comings_in" "comings_in" (defArgs zq) (defBody zq) (defScope zq) [] [] f fd) (a_late : ∀ c, c ∈ ([.Work] : List Cn) → Cls K (He.ga K c.str) ∧ NoAttr K (He.ga K c.str) (Fd.late).str) (a_gap : ∀ c, c ∈ ([.Work] : List Cn) → Cls K (He.ga K c.str) ∧ NoAttr K (He.ga K c.str) (Fd.gap).str) (zk : Fn K mg base P w "rounds_up" 1 2 [] zg) : FnOk P w K mg base (L2N.CX P w) 2 f fd ["work", "span"] (spD K 2 zu) :=
  fn_D F zgq rfl (fun cdv A outer s H E B => zgr a_late a_gap zk cdv A outer s H E B) (fun xs QD QE _ h => zgg xs QD QE h)
theorem zl4 : FnScope ["duty", "at", "span", "found", "stronger", "work"] ["duty", "at", "span"] (defScope z2k) := ⟨rfl, rfl, rfl, by decide +kernel, rfl, by decide +kernel, by decide +kernel⟩
theorem zl5 (z2p : Fn K mg base P w "hold_up" 3 2 [] z1z) (m_Duty_work : Mm K mg base P w "work" .Duty 1 2 [] z7) (a_length : ∀ c, c ∈ ([.Work] : List Cn) → Cls K (He.ga K c.str) ∧ NoAttr K (He.ga K c.str) (Fd.length).str) (n_range : mg "range" = none) (z22 : Fn K mg base P w "comings_in" 2 2 [] zu) (cdv : Value) (A : Around) (outer : List Env) (s : Shared) (H : Hp) (E : XK)
    (B : Bd (cxOf (L2N.CX P w) P w K mg base ["duty", "at", "span", "found", "stronger", "work"] "load" (defScope z2k) f cdv A outer s H E) (fun cls d _ H' => E cls d H') 3) : PSs (cxOf (L2N.CX P w) P w K mg base ["duty", "at", "span", "found", "stronger", "work"] "load" (defScope z2k) f cdv A outer s H E) (defBody z2k) (sD K (fun cls d _ H' => E cls d H') zcq) :=
  (dss_cons (ds_set (i := 3) B.nd (dadd (PE_look (dcallF z2p B (by decide) (fun _ => .nil) (paf_cons (dv 0) (paf_cons (dv 1) paf_nil)))) (PE_look (dfld (f := .length) a_length (PE_look (dmeth B (noFd (by decide +kernel)) (fun _ => .nil) (alt_cons (Mm.ok m_Duty_work (by decide)) alt_nil) (dv 0) (paf_cons (dv 1) paf_nil)))))))
    (dss_cons (ds_for (tg := (.one 4)) B.po B.calm (di_rng1 n_range (pab_cons (dl 1) pab_nil)) (pg_name (i := 4) B.nd rfl (by first | exact Or.inl rfl | exact Or.inr rfl)) (dss_cons (ds_set (i := 5) B.nd (dmeth B (noFd (by decide +kernel)) (fun _ => .nil) (alt_cons (Mm.ok m_Duty_work (by decide)) alt_nil) (dv 0) (paf_cons (dv 4) paf_nil))) (dss_one (ds_iadd (i := 3) B.nd (PE_look (dmul (PE_look (dcallF z22 B (by decide) (fun _ => .nil) (paf_cons (dv 5) (paf_cons (dv 2) paf_nil)))) (PE_look (dfld (f := .length) a_length (dl 5)))))))))
    (dss_one (ds_retL 3))))
theorem zl6 (F : FunD K "load" "load" (defArgs z2k) (defBody z2k) (defScope z2k) [] [] f fd) (z2p : Fn K mg base P w "hold_up" 3 2 [] z1z) (m_Duty_work : Mm K mg base P w "work" .Duty 1 2 [] z7) (a_length : ∀ c, c ∈ ([.Work] : List Cn) → Cls K (He.ga K c.str) ∧ NoAttr K (He.ga K c.str) (Fd.length).str) (n_range : mg "range" = none) (z22 : Fn K mg base P w "comings_in" 2 2 [] zu) : FnOk P w K mg base (L2N.CX P w) 4 f fd ["duty", "at", "span"] (spD K 3 z28) :=
  fn_D F zl4 rfl (fun cdv A outer s H E B => zl5 z2p m_Duty_work a_length n_range z22 cdv A outer s H E B) (fun xs QD QE _ h => zl3 xs QD QE h)
theorem zjn : FnScope ["duty", "at", "line", "work"] ["duty", "at", "line"] (defScope z1p) := ⟨rfl, rfl, rfl, by decide +kernel, rfl, by decide +kernel, by decide +kernel⟩
theorem zjo (m_Duty_work : Mm K mg base P w "work" .Duty 1 2 [] z7) (a_late : ∀ c, c ∈ ([.Work] : List Cn) → Cls K (He.ga K c.str) ∧ NoAttr K (He.ga K c.str) (Fd.late).str) (a_due : ∀ c, c ∈ ([.Work] : List Cn) → Cls K (He.ga K c.str) ∧ NoAttr K (He.ga K c.str) (Fd.due).str) (cdv : Value) (A : Around) (outer : List Env) (s : Shared) (H : Hp) (E : XK)
    (B : Bd (cxOf (L2N.CX P w) P w K mg base ["duty", "at", "line", "work"] "in_time" (defScope z1p) f cdv A outer s H E) (fun cls d _ H' => E cls d H') 1) : PSs (cxOf (L2N.CX P w) P w K mg base ["duty", "at", "line", "work"] "in_time" (defScope z1p) f cdv A outer s H E) (defBody z1p) (sD K (fun cls d _ H' => E cls d H') z8u) :=
  (dss_cons (ds_set (i := 3) B.nd (dmeth B (noFd (by decide +kernel)) (fun _ => .nil) (alt_cons (Mm.ok m_Duty_work (by decide)) alt_nil) (dv 0) (paf_cons (dv 1) paf_nil)))
    (dss_one (ds_ret (dcmp k_le (PE_look (dadd (dl 2) (PE_look (dfld (f := .late) a_late (dl 3))))) (PE_look (dfld (f := .due) a_due (dl 3))) (nomark _)))))
theorem zjp (F : FunD K "in_time" "in_time" (defArgs z1p) (defBody z1p) (defScope z1p) [] [] f fd) (m_Duty_work : Mm K mg base P w "work" .Duty 1 2 [] z7) (a_late : ∀ c, c ∈ ([.Work] : List Cn) → Cls K (He.ga K c.str) ∧ NoAttr K (He.ga K c.str) (Fd.late).str) (a_due : ∀ c, c ∈ ([.Work] : List Cn) → Cls K (He.ga K c.str) ∧ NoAttr K (He.ga K c.str) (Fd.due).str) : FnOk P w K mg base (L2N.CX P w) 2 f fd ["duty", "at", "line"] (spD K 3 z20) :=
  fn_D F zjn rfl (fun cdv A outer s H E B => zjo m_Duty_work a_late a_due cdv A outer s H E B) (fun xs QD QE _ h => zjb xs QD QE h)
theorem zkq : FnScope ["duty", "at", "line", "found"] ["duty", "at"] (defScope z23) := ⟨rfl, rfl, rfl, by decide +kernel, rfl, by decide +kernel, by decide +kernel⟩
theorem zkr (z4l : Fn K mg base P w "load" 4 3 [] z28) (z2q : Fn K mg base P w "in_time" 2 3 [] z20) (cdv : Value) (A : Around) (outer : List Env) (s : Shared) (H : Hp) (E : XK)
    (B : Bd (cxOf (L2N.CX P w) P w K mg base ["duty", "at", "line", "found"] "answer" (defScope z23) f cdv A outer s H E) (fun cls d _ H' => E cls d H') 4) : PSs (cxOf (L2N.CX P w) P w K mg base ["duty", "at", "line", "found"] "answer" (defScope z23) f cdv A outer s H E) (defBody z23) (sD K (fun cls d _ H' => E cls d H') zaa) :=
  (dss_cons (ds_set (i := 2) B.nd (dcallF z4l B (by decide) (fun _ => .nil) (paf_cons (dv 0) (paf_cons (dv 1) (paf_cons dint paf_nil)))))
    (dss_cons (ds_while B.po (tbool (PE_look (dcallF z2q B (by decide) (fun _ => .nil) (paf_cons (dv 0) (paf_cons (dv 1) (paf_cons (dv 2) paf_nil)))))) (dss_cons (ds_set (i := 3) B.nd (dcallF z4l B (by decide) (fun _ => .nil) (paf_cons (dv 0) (paf_cons (dv 1) (paf_cons (dv 2) paf_nil))))) (dss_cons (ds_if (tcmp k_le (dl 3) (dl 2) (nomark _)) (dss_one (ds_retL 2)) dss_nil) (dss_one (ds_set (i := 2) B.nd (dv 3))))))
    (dss_one (ds_ret dnon))))
theorem zks (F : FunD K "answer" "answer" (defArgs z23) (defBody z23) (defScope z23) [] [] f fd) (z4l : Fn K mg base P w "load" 4 3 [] z28) (z2q : Fn K mg base P w "in_time" 2 3 [] z20) : FnOk P w K mg base (L2N.CX P w) 5 f fd ["duty", "at"] (spD K 2 z26) :=
  fn_D F zkq rfl (fun cdv A outer s H E B => zkr z4l z2q cdv A outer s H E B) (fun xs QD QE _ h => zko xs QD QE h)
theorem zig : FnScope ["thing"] ["thing"] (defScope z1b) := ⟨rfl, rfl, rfl, by decide +kernel, rfl, by decide +kernel, by decide +kernel⟩
theorem zih (n_isinstance : mg "isinstance" = none) (n_int : mg "int" = none) (n_bool : mg "bool" = none) (cdv : Value) (A : Around) (outer : List Env) (s : Shared) (H : Hp) (E : XK)
    (B : Bd (cxOf (L2N.CX P w) P w K mg base ["thing"] "is_whole" (defScope z1b) f cdv A outer s H E) (fun cls d _ H' => E cls d H') 0) : PSs (cxOf (L2N.CX P w) P w K mg base ["thing"] "is_whole" (defScope z1b) f cdv A outer s H E) (defBody z1b) (sD K (fun cls d _ H' => E cls d H') z4c) :=
  (dss_one (ds_ret (dand (disT (T := "int") (by simp) n_isinstance n_int bt_int bt_isinstance (dl 0)) (done (dnot (disT (T := "bool") (by simp) n_isinstance n_bool bt_bool bt_isinstance (dl 0)))))))
theorem zii (F : FunD K "is_whole" "is_whole" (defArgs z1b) (defBody z1b) (defScope z1b) [] [] f fd) (n_isinstance : mg "isinstance" = none) (n_int : mg "int" = none) (n_bool : mg "bool" = none) : FnOk P w K mg base (L2N.CX P w) 1 f fd ["thing"] (spD K 1 z9) :=
  fn_D F zig rfl (fun cdv A outer s H E B => zih n_isinstance n_int n_bool cdv A outer s H E B) (fun xs QD QE _ h => zi7 xs QD QE h)
theorem zdl : FnScope ["self", "places", "at"] ["self", "places"] (defScope zd) := ⟨rfl, rfl, rfl, by decide +kernel, rfl, by decide +kernel, by decide +kernel⟩
theorem zdm (n_isinstance : mg "isinstance" = none) (n_list : mg "list" = none) (zc : Fn K mg base P w "is_whole" 1 1 [] z9) (n_all : mg "all" = none) (x_BadDuty : ExC K mg .BadDuty) (n_sorted : mg "sorted" = none) (a_works : ∀ c, c ∈ ([.Duty] : List Cn) → Cls K (He.ga K c.str) ∧ NoAttr K (He.ga K c.str) (Fd.works).str) (n_len : mg "len" = none) (n_range : mg "range" = none) (c_Duty_1 : McA K mg base P w .Duty 3 1 [] zb) (cdv : Value) (A : Around) (outer : List Env) (s : Shared) (H : Hp) (E : XK)
    (B : Bd (cxOf (L2N.CX P w) P w K mg base ["self", "places", "at"] "Duty.reordered" (defScope zd) f cdv A outer s H E) (fun cls d _ H' => E cls d H') 4) : PSs (cxOf (L2N.CX P w) P w K mg base ["self", "places", "at"] "Duty.reordered" (defScope zd) f cdv A outer s H E) (defBody zd) (sD K (fun cls d _ H' => E cls d H') z2i) :=
  (dss_cons (ds_if (PW.pt (tor (tnot (tbool (PE_look (disT (T := "list") (by simp) n_isinstance n_list bt_list bt_isinstance (dl 1))))) (tor1 (tnot (tbool (PE_look (dcb (cr_all B.calm) br_all n_all bt_all (pab_cons (PE_look (dlc (own := [("at", 2)]) (tg := (.one 2)) B.calm B.nd (tic (di_list (dv 1))) (blkOk_by (own := [("at", 2)]) (N := ["self", "places", "at"]) (sc := defScope zd) (by decide +kernel)) (fun _ _ _ _ _ => (pg_name (i := 2) (Bd.blk B).nd rfl (by first | exact Or.inl rfl | exact Or.inr rfl))) (fun _ _ _ _ _ => pts_yes) (fun _ _ _ _ _ => (dcallF zc (Bd.blk B) (by decide) (fun _ => .nil) (paf_cons (dv 2) paf_nil))) (by simp [Tg.slots]))) pab_nil)))))))) (dss_one (ds_raise (c := .BadDuty) B x_BadDuty)) dss_nil)
    (dss_cons (ds_if (tcmp (k_ne B.hu64) (PE_look (dcb cr_sort2 br_sort2 n_sorted bt_sorted (pab_cons (dl 1) pab_nil))) (PE_look (dlrg1 B.calm n_list n_range (PE_look (dcb cr_len br_len n_len bt_len (pab_cons (PE_look (dfld (f := .works) a_works (dl 0))) pab_nil))))) (nomark _)) (dss_one (ds_raise (c := .BadDuty) B x_BadDuty)) dss_nil)
    (dss_one (ds_ret (dmakeF (c := .Duty) (dd := []) c_Duty_1 B (by decide) (fun _ => .nil) (paf_cons (dlc (own := [("at", 2)]) (tg := (.one 2)) B.calm B.nd (tic (di_list (dv 1))) (blkOk_by (own := [("at", 2)]) (N := ["self", "places", "at"]) (sc := defScope zd) (by decide +kernel)) (fun _ _ _ _ _ => (pg_name (i := 2) (Bd.blk B).nd rfl (by first | exact Or.inl rfl | exact Or.inr rfl))) (fun _ _ _ _ _ => pts_yes) (fun _ _ _ _ _ => (dix (Bd.blk B).hu (PE_look (dfld (f := .works) a_works (dl 0))) (dl 2))) (by simp [Tg.slots])) paf_nil))))))
theorem zdn (F : FunD K "reordered" "Duty.reordered" (defArgs zd) (defBody zd) (defScope zd) [] [] f fd) (n_isinstance : mg "isinstance" = none) (n_list : mg "list" = none) (zc : Fn K mg base P w "is_whole" 1 1 [] z9) (n_all : mg "all" = none) (x_BadDuty : ExC K mg .BadDuty) (n_sorted : mg "sorted" = none) (a_works : ∀ c, c ∈ ([.Duty] : List Cn) → Cls K (He.ga K c.str) ∧ NoAttr K (He.ga K c.str) (Fd.works).str) (n_len : mg "len" = none) (n_range : mg "range" = none) (c_Duty_1 : McA K mg base P w .Duty 3 1 [] zb) : FnOk P w K mg base (L2N.CX P w) 5 f fd ["self", "places"] (spD K 2 zf) :=
  fn_D F zdl rfl (fun cdv A outer s H E B => zdm n_isinstance n_list zc n_all x_BadDuty n_sorted a_works n_len n_range c_Duty_1 cdv A outer s H E B) (fun xs QD QE _ h => zdk xs QD QE h)
theorem zfc : FnScope ["duty", "left", "placed", "at", "others", "order", "one"] ["duty", "left", "placed", "at"] (defScope zi) := ⟨rfl, rfl, rfl, by decide +kernel, rfl, by decide +kernel, by decide +kernel⟩
theorem zfd (m_Duty_reordered : Mm K mg base P w "reordered" .Duty 5 2 [] zf) (n_len : mg "len" = none) (z3f : Fn K mg base P w "answer" 5 2 [] z26) (cdv : Value) (A : Around) (outer : List Env) (s : Shared) (H : Hp) (E : XK)
    (B : Bd (cxOf (L2N.CX P w) P w K mg base ["duty", "left", "placed", "at", "others", "order", "one"] "fits_weakest" (defScope zi) f cdv A outer s H E) (fun cls d _ H' => E cls d H') 5) : PSs (cxOf (L2N.CX P w) P w K mg base ["duty", "left", "placed", "at", "others", "order", "one"] "fits_weakest" (defScope zi) f cdv A outer s H E) (defBody zi) (sD K (fun cls d _ H' => E cls d H') z3e) :=
  (dss_cons (ds_setLc (i := 4) (own := [("one", 6)]) (tg := (.one 6)) B.calm B.nd rfl rfl (sw_true rfl rfl rfl (by decide +kernel)) (tic (di_list (dv 1))) (blkOk_by (own := [("one", 6)]) (N := ["duty", "left", "placed", "at", "others", "order", "one"]) (sc := defScope zi) (by decide +kernel)) (fun _ _ _ _ _ => (pg_name (i := 6) (Bd.blk B).nd rfl (by first | exact Or.inl rfl | exact Or.inr rfl))) (fun _ _ _ _ _ => (pts_if (tcmp (k_ne (Bd.blk B).hu64) (dl 6) (dl 3) (nomark _)))) (fun _ _ _ _ _ => (dv 6)) (by simp [Tg.slots]))
    (dss_cons (ds_set (i := 5) B.nd (dadd (PE_look (dadd (dl 4) (PE_look (dlst (paf_cons (dv 3) paf_nil))))) (dl 2)))
    (dss_one (ds_ret (dcmp k_notN (PE_look (dcallF z3f B (by decide) (fun _ => .nil) (paf_cons (dmeth B (noFd (by decide +kernel)) (fun _ => .nil) (alt_cons (Mm.ok m_Duty_reordered (by decide)) alt_nil) (dv 0) (paf_cons (dv 5) paf_nil)) (paf_cons (dcb cr_len br_len n_len bt_len (pab_cons (dl 4) pab_nil)) paf_nil)))) (PE_look dnon) (nomark _))))))
theorem zfe (F : FunD K "fits_weakest" "fits_weakest" (defArgs zi) (defBody zi) (defScope zi) [] [] f fd) (m_Duty_reordered : Mm K mg base P w "reordered" .Duty 5 2 [] zf) (n_len : mg "len" = none) (z3f : Fn K mg base P w "answer" 5 2 [] z26) : FnOk P w K mg base (L2N.CX P w) 6 f fd ["duty", "left", "placed", "at"] (spD K 4 zl) :=
  fn_D F zfc rfl (fun cdv A outer s H E B => zfd m_Duty_reordered n_len z3f cdv A outer s H E B) (fun xs QD QE _ h => zf9 xs QD QE h)
theorem zjq : FnScope ["duty", "left", "placed", "at"] ["duty", "left", "placed"] (defScope z1q) := ⟨rfl, rfl, rfl, by decide +kernel, rfl, by decide +kernel, by decide +kernel⟩
theorem zjr (n_reversed : mg "reversed" = none) (z1m : Fn K mg base P w "fits_weakest" 6 4 [] zl) (cdv : Value) (A : Around) (outer : List Env) (s : Shared) (H : Hp) (E : XK)
    (B : Bd (cxOf (L2N.CX P w) P w K mg base ["duty", "left", "placed", "at"] "weakest" (defScope z1q) f cdv A outer s H E) (fun cls d _ H' => E cls d H') 6) : PSs (cxOf (L2N.CX P w) P w K mg base ["duty", "left", "placed", "at"] "weakest" (defScope z1q) f cdv A outer s H E) (defBody z1q) (sD K (fun cls d _ H' => E cls d H') z8v) :=
  (dss_cons (ds_for (tg := (.one 3)) B.po B.calm (di_rev n_reversed (paf_cons (dv 1) paf_nil)) (pg_name (i := 3) B.nd rfl (by first | exact Or.inl rfl | exact Or.inr rfl)) (dss_one (ds_if (tbool (PE_look (dcallF z1m B (by decide) (fun _ => .nil) (paf_cons (dv 0) (paf_cons (dv 1) (paf_cons (dv 2) (paf_cons (dv 3) paf_nil))))))) (dss_one (ds_retL 3)) dss_nil)))
    (dss_one (ds_ret dnon)))
theorem zjs (F : FunD K "weakest" "weakest" (defArgs z1q) (defBody z1q) (defScope z1q) [] [] f fd) (n_reversed : mg "reversed" = none) (z1m : Fn K mg base P w "fits_weakest" 6 4 [] zl) : FnOk P w K mg base (L2N.CX P w) 7 f fd ["duty", "left", "placed"] (spD K 3 z1h) :=
  fn_D F zjq rfl (fun cdv A outer s H E B => zjr n_reversed z1m cdv A outer s H E B) (fun xs QD QE _ h => zjd xs QD QE h)
theorem zff : FnScope ["self", "stuck"] ["self", "stuck"] (defScope z1l) := ⟨rfl, rfl, rfl, by decide +kernel, rfl, by decide +kernel, by decide +kernel⟩
theorem zfg (F : FunD K "__init__" "NoRanks.__init__" (defArgs z1l) (defBody z1l) (defScope z1l) [] [] f fd) : FnOk P w K mg base (L2N.CX P w) 1 f fd ["self", "stuck"] (spE K (He.ga K (Cn.NoRanks).str) (Fd.stuck).str) :=
  init_E F zff
theorem zij : FnScope ["duty", "left", "placed", "at", "one"] ["duty"] (defScope zw) := ⟨rfl, rfl, rfl, by decide +kernel, rfl, by decide +kernel, by decide +kernel⟩
theorem zik (m_Duty_size : Mm K mg base P w "size" .Duty 1 1 [] z8) (n_list : mg "list" = none) (n_range : mg "range" = none) (z2r : Fn K mg base P w "weakest" 7 3 [] z1h) (xi_NoRanks : ExI K mg base P w .NoRanks .stuck 1) (cdv : Value) (A : Around) (outer : List Env) (s : Shared) (H : Hp) (E : XK)
    (B : Bd (cxOf (L2N.CX P w) P w K mg base ["duty", "left", "placed", "at", "one"] "ranked" (defScope zw) f cdv A outer s H E) (fun cls d _ H' => E cls d H') 7) : PSs (cxOf (L2N.CX P w) P w K mg base ["duty", "left", "placed", "at", "one"] "ranked" (defScope zw) f cdv A outer s H E) (defBody zw) (sD K (fun cls d _ H' => E cls d H') z6v) :=
  (dss_cons (ds_set (i := 1) B.nd (dlrg1 B.calm n_list n_range (PE_look (dmeth0 B (noFd (by decide +kernel)) (fun _ => .nil) (alt_cons (Mm.ok m_Duty_size (by decide)) alt_nil) (dv 0)))))
    (dss_cons (ds_setO (i := 2) B.nd (dlst paf_nil))
    (dss_cons (ds_while B.po (tcmp (k_ne B.hu64) (dl 1) (PE_look (dlst paf_nil)) (nomark _)) (dss_cons (ds_set (i := 3) B.nd (dcallFT z2r B (by decide) (fun _ => .nil) (pab_cons (dl 0) (pab_cons (dl 1) (pab_cons (dl 2) pab_nil))))) (dss_cons (ds_if (tcmp k_isN (dl 3) (PE_look dnon) (nomark _)) (dss_one (ds_raiseI (c := .NoRanks) (f := .stuck) B xi_NoRanks (by decide) (paf_cons (dv 1) paf_nil))) dss_nil) (dss_cons (ds_setLc (i := 1) (own := [("one", 4)]) (tg := (.one 4)) B.calm B.nd rfl rfl (sw_true rfl rfl rfl (by decide +kernel)) (tic (di_list (dv 1))) (blkOk_by (own := [("one", 4)]) (N := ["duty", "left", "placed", "at", "one"]) (sc := defScope zw) (by decide +kernel)) (fun _ _ _ _ _ => (pg_name (i := 4) (Bd.blk B).nd rfl (by first | exact Or.inl rfl | exact Or.inr rfl))) (fun _ _ _ _ _ => (pts_if (tcmp (k_ne (Bd.blk B).hu64) (dl 4) (dl 3) (nomark _)))) (fun _ _ _ _ _ => (dv 4)) (by simp [Tg.slots])) (dss_one (ds_setO (i := 2) B.nd (dadd (PE_look (dlst (paf_cons (dv 3) paf_nil))) (dl 2))))))))
    (dss_one (ds_retL 2)))))
theorem zil (F : FunD K "ranked" "ranked" (defArgs zw) (defBody zw) (defScope zw) [] [] f fd) (m_Duty_size : Mm K mg base P w "size" .Duty 1 1 [] z8) (n_list : mg "list" = none) (n_range : mg "range" = none) (z2r : Fn K mg base P w "weakest" 7 3 [] z1h) (xi_NoRanks : ExI K mg base P w .NoRanks .stuck 1) : FnOk P w K mg base (L2N.CX P w) 8 f fd ["duty"] (spD K 1 z1k) :=
  fn_D F zij rfl (fun cdv A outer s H E B => zik m_Duty_size n_list n_range z2r xi_NoRanks cdv A outer s H E B) (fun xs QD QE _ h => zie xs QD QE h)
theorem zjt : FnScope ["_law_duty", "_law_found", "e", "_law_some"] ["_law_duty"] (defScope z1r) := ⟨rfl, rfl, rfl, by decide +kernel, rfl, by decide +kernel, by decide +kernel⟩
theorem zju (k_NoRanks : CatC K mg .NoRanks) (z3g : Fn K mg base P w "ranked" 8 1 [] z1k) (ask_NotKept : AskC K mg exAll (.own .NotKept)) (n_isinstance : mg "isinstance" = none) (ask_BadDuty : AskC K mg exAll (.own .BadDuty)) (ask_TooMany : AskC K mg exAll (.own .TooMany)) (ask_HoldsThings : AskC K mg exAll (.own .HoldsThings)) (ask_DutyError : AskC K mg exAll (.own .DutyError)) (ask_ValueError : AskC K mg exAll .ve) (cdv : Value) (A : Around) (outer : List Env) (s : Shared) (H : Hp) (E : XK)
    (B : Bd (cxOf (L2N.CX P w) P w K mg base ["_law_duty", "_law_found", "e", "_law_some"] "_law_told" (defScope z1r) f cdv A outer s H E) (fun cls d _ H' => E cls d H') 8) : PSs (cxOf (L2N.CX P w) P w K mg base ["_law_duty", "_law_found", "e", "_law_some"] "_law_told" (defScope z1r) f cdv A outer s H E) (defBody z1r) (sD K (fun cls d _ H' => E cls d H') z8w) :=
  (dss_cons (ds_try1 2 (c := .NoRanks) B k_NoRanks (fun W2 pn xe B => (dss_one (ds_setO (i := 1) B.nd (dcallF z3g B (by decide) (fun _ => .nil) (paf_cons (dv 0) paf_nil))))) (fun ax oe cls dx pn hz hf => (dss_cons (ds_set (i := 3) B.nd (dlst (paf_cons (dxis (y := (.own .NotKept)) hz hf ask_NotKept n_isinstance (dl 2)) (paf_cons (dxis (y := (.own .BadDuty)) hz hf ask_BadDuty n_isinstance (dl 2)) (paf_cons (dxis (y := (.own .TooMany)) hz hf ask_TooMany n_isinstance (dl 2)) (paf_cons (dxis (y := (.own .HoldsThings)) hz hf ask_HoldsThings n_isinstance (dl 2)) paf_nil)))))) (dss_one (ds_setO (i := 1) B.nd (dtup (paf_cons (dxis (y := (.own .DutyError)) hz hf ask_DutyError n_isinstance (dl 2)) (paf_cons (dxis (y := .ve) hz hf ask_ValueError n_isinstance (dl 2)) (paf_cons (dcmp (k_in (Bd.suite B hz hf).hu) (PE_look dbl) (dl 3) (by rfl)) paf_nil)))))))))
    (dss_one (ds_retL 1)))
theorem zjv (F : FunD K "_law_told" "_law_told" (defArgs z1r) (defBody z1r) (defScope z1r) [] [] f fd) (k_NoRanks : CatC K mg .NoRanks) (z3g : Fn K mg base P w "ranked" 8 1 [] z1k) (ask_NotKept : AskC K mg exAll (.own .NotKept)) (n_isinstance : mg "isinstance" = none) (ask_BadDuty : AskC K mg exAll (.own .BadDuty)) (ask_TooMany : AskC K mg exAll (.own .TooMany)) (ask_HoldsThings : AskC K mg exAll (.own .HoldsThings)) (ask_DutyError : AskC K mg exAll (.own .DutyError)) (ask_ValueError : AskC K mg exAll .ve) : FnOk P w K mg base (L2N.CX P w) 9 f fd ["_law_duty"] (spD K 1 zy) :=
  fn_D F zjt rfl (fun cdv A outer s H E B => zju k_NoRanks z3g ask_NotKept n_isinstance ask_BadDuty ask_TooMany ask_HoldsThings ask_DutyError ask_ValueError cdv A outer s H E B) (fun xs QD QE _ h => zje xs QD QE h)
theorem zkt : FnScope ["_law_cell", "_law_many", "_law_found", "_law_rest", "_law_k", "_law_number"] ["_law_cell", "_law_many"] (defScope z24) := ⟨rfl, rfl, rfl, by decide +kernel, rfl, by decide +kernel, by decide +kernel⟩
theorem zku (n_range : mg "range" = none) (cdv : Value) (A : Around) (outer : List Env) (s : Shared) (H : Hp) (E : XK)
    (B : Bd (cxOf (L2N.CX P w) P w K mg base ["_law_cell", "_law_many", "_law_found", "_law_rest", "_law_k", "_law_number"] "_law_stream" (defScope z24) f cdv A outer s H E) (fun cls d _ H' => E cls d H') 0) : PSs (cxOf (L2N.CX P w) P w K mg base ["_law_cell", "_law_many", "_law_found", "_law_rest", "_law_k", "_law_number"] "_law_stream" (defScope z24) f cdv A outer s H E) (defBody z24) (sD K (fun cls d _ H' => E cls d H') z5v) :=
  (dss_cons (ds_setO (i := 2) B.nd (dlst paf_nil))
    (dss_cons (ds_if (tcmp k_ge (dl 0) (PE_look (dpow (PE_look dint) (PE_look dint))) (nomark _)) (dss_cons (ds_set (i := 3) B.nd (dsub (dl 0) (PE_look (dpow (PE_look dint) (PE_look dint))))) (dss_cons (ds_for (tg := (.one 4)) B.po B.calm (di_rng1 n_range (pab_cons (dl 1) pab_nil)) (pg_name (i := 4) B.nd rfl (by first | exact Or.inl rfl | exact Or.inr rfl)) (dss_cons (ds_append 2 (dmod (dl 3) (PE_look (dpow (PE_look dint) (PE_look dint))))) (dss_one (ds_set (i := 3) B.nd (ddiv (dl 3) (PE_look (dpow (PE_look dint) (PE_look dint)))))))) (dss_one (ds_retL 2)))) dss_nil)
    (dss_cons (ds_set (i := 5) B.nd (dadd (PE_look (dmod (dl 0) (PE_look (dadd (PE_look (dpow (PE_look dint) (PE_look dint))) (PE_look dint))))) (PE_look dint)))
    (dss_cons (ds_for (tg := (.one 4)) B.po B.calm (di_rng1 n_range (pab_cons (PE_look (dadd (dl 1) (PE_look dint))) pab_nil)) (pg_name (i := 4) B.nd rfl (by first | exact Or.inl rfl | exact Or.inr rfl)) (dss_cons (ds_set (i := 5) B.nd (dmod (PE_look (dadd (PE_look (dadd (PE_look (dmul (dl 5) (dl 5))) (PE_look (dmul (PE_look dint) (dl 5))))) (dl 4))) (PE_look (dadd (PE_look (dpow (PE_look dint) (PE_look dint))) (PE_look dint))))) (dss_one (ds_append 2 (dv 5)))))
    (dss_one (ds_ret (dsl (dl 2) (dsome (PE_look dint)) dno)))))))
theorem zkv (F : FunD K "_law_stream" "_law_stream" (defArgs z24) (defBody z24) (defScope z24) [] [] f fd) (n_range : mg "range" = none) : FnOk P w K mg base (L2N.CX P w) 1 f fd ["_law_cell", "_law_many"] (spD K 2 zo) :=
  fn_D F zkt rfl (fun cdv A outer s H E B => zku n_range cdv A outer s H E B) (fun xs QD QE _ h => zkm xs QD QE h)
theorem zim : FnScope ["_law_xs", "_law_length", "_law_found", "_law_start", "_law_end"] ["_law_xs", "_law_length"] (defScope z1c) := ⟨rfl, rfl, rfl, by decide +kernel, rfl, by decide +kernel, by decide +kernel⟩
theorem zin (cdv : Value) (A : Around) (outer : List Env) (s : Shared) (H : Hp) (E : XK)
    (B : Bd (cxOf (L2N.CX P w) P w K mg base ["_law_xs", "_law_length", "_law_found", "_law_start", "_law_end"] "_law_holds" (defScope z1c) f cdv A outer s H E) (fun cls d _ H' => E cls d H') 0) : PSs (cxOf (L2N.CX P w) P w K mg base ["_law_xs", "_law_length", "_law_found", "_law_start", "_law_end"] "_law_holds" (defScope z1c) f cdv A outer s H E) (defBody z1c) (sD K (fun cls d _ H' => E cls d H') z60) :=
  (dss_cons (ds_setO (i := 2) B.nd (dlst paf_nil))
    (dss_cons (ds_if (PW.pt (tand (tcmp k_gt (dl 1) (PE_look dint) (nomark _)) (tand1 (tcmp (k_eq B.hu64) (PE_look (dmod (PE_look (dix B.hu (dl 0) (PE_look dint))) (PE_look dint))) (PE_look dint) (nomark _))))) (dss_cons (ds_set (i := 3) B.nd (dmod (PE_look (dix B.hu (dl 0) (PE_look dint))) (PE_look (dsub (dl 1) (PE_look dint))))) (dss_cons (ds_set (i := 4) B.nd (dadd (PE_look (dadd (dl 3) (PE_look dint))) (PE_look (dmod (PE_look (dix B.hu (dl 0) (PE_look dint))) (PE_look (dsub (PE_look (dsub (dl 1) (PE_look dint))) (dl 3))))))) (dss_cons (ds_append 2 (dtup (paf_cons (dix B.hu (PE_look (dlst (paf_cons dstr (paf_cons dstr paf_nil)))) (PE_look (dmod (PE_look (ddiv (PE_look (dix B.hu (dl 0) (PE_look dint))) (PE_look dint))) (PE_look dint)))) (paf_cons (dv 3) (paf_cons (dv 4) paf_nil))))) (dss_one (ds_if (PW.pt (tand (tcmp (k_eq B.hu64) (PE_look (dmod (PE_look (dix B.hu (dl 0) (PE_look dint))) (PE_look dint))) (PE_look dint) (nomark _)) (tand1 (tcmp k_lt (dl 4) (PE_look (dsub (dl 1) (PE_look dint))) (nomark _))))) (dss_one (ds_append 2 (dtup (paf_cons (dix B.hu (PE_look (dlst (paf_cons dstr (paf_cons dstr paf_nil)))) (PE_look (dmod (PE_look (ddiv (PE_look (dix B.hu (dl 0) (PE_look dint))) (PE_look dint))) (PE_look dint)))) (paf_cons (dv 4) (paf_cons (dadd (PE_look (dadd (dl 4) (PE_look dint))) (PE_look (dmod (PE_look (dix B.hu (dl 0) (PE_look dint))) (PE_look (dsub (PE_look (dsub (dl 1) (PE_look dint))) (dl 4)))))) paf_nil)))))) dss_nil))))) dss_nil)
    (dss_one (ds_retL 2))))
theorem zio (F : FunD K "_law_holds" "_law_holds" (defArgs z1c) (defBody z1c) (defScope z1c) [] [] f fd) : FnOk P w K mg base (L2N.CX P w) 1 f fd ["_law_xs", "_law_length"] (spD K 2 z1j) :=
  fn_D F zim rfl (fun cdv A outer s H E B => zin cdv A outer s H E B) (fun xs QD QE _ h => zia xs QD QE h)
theorem zhl : FnScope ["_law_cell", "_law_unit", "_law_many", "_law_xs", "_law_gap", "_law_length", "_law_last", "_law_late"] ["_law_cell", "_law_unit", "_law_many"] (defScope z15) := ⟨rfl, rfl, rfl, by decide +kernel, rfl, by decide +kernel, by decide +kernel⟩
theorem zhm (z3h : Fn K mg base P w "_law_stream" 1 2 [] zo) (n_min : mg "min" = none) (z4m : Fn K mg base P w "_law_holds" 1 2 [] z1j) (cdv : Value) (A : Around) (outer : List Env) (s : Shared) (H : Hp) (E : XK)
    (B : Bd (cxOf (L2N.CX P w) P w K mg base ["_law_cell", "_law_unit", "_law_many", "_law_xs", "_law_gap", "_law_length", "_law_last", "_law_late"] "_law_plain" (defScope z15) f cdv A outer s H E) (fun cls d _ H' => E cls d H') 1) : PSs (cxOf (L2N.CX P w) P w K mg base ["_law_cell", "_law_unit", "_law_many", "_law_xs", "_law_gap", "_law_length", "_law_last", "_law_late"] "_law_plain" (defScope z15) f cdv A outer s H E) (defBody z15) (sD K (fun cls d _ H' => E cls d H') z5c) :=
  (dss_cons (ds_set (i := 3) B.nd (dcallF z3h B (by decide) (fun _ => .nil) (paf_cons (dv 0) (paf_cons dint paf_nil))))
    (dss_cons (ds_set (i := 4) B.nd (dadd (PE_look (dmul (dl 1) (PE_look (dadd (PE_look dint) (PE_look (dmod (PE_look (dix B.hu (dl 3) (PE_look dint))) (PE_look dint))))))) (PE_look (dmod (PE_look (dix B.hu (dl 3) (PE_look dint))) (PE_look dint)))))
    (dss_cons (ds_if (tcmp k_gt (dl 2) (PE_look dint) (nomark _)) (dss_one (ds_set (i := 4) B.nd (dadd (PE_look (dmul (dl 1) (PE_look (dadd (PE_look dint) (PE_look (dmod (PE_look (dix B.hu (dl 3) (PE_look dint))) (PE_look dint))))))) (PE_look (dmod (PE_look (dix B.hu (dl 3) (PE_look dint))) (PE_look (dcb (call_min2 B.calm) br_min2 n_min bt_min (pab_cons (PE_look dint) (pab_cons (PE_look (dadd (PE_look dint) (PE_look (ddiv (dl 1) (PE_look dint))))) pab_nil))))))))) dss_nil)
    (dss_cons (ds_set (i := 5) B.nd (dadd (PE_look dint) (PE_look (dmod (PE_look (dix B.hu (dl 3) (PE_look dint))) (PE_look (dadd (PE_look (ddiv (PE_look (dmul (dl 4) (PE_look (dix B.hu (PE_look (dlst (paf_cons dint (paf_cons dint paf_nil)))) (PE_look (dmod (PE_look (ddiv (PE_look (dix B.hu (dl 3) (PE_look dint))) (PE_look dint))) (PE_look dint))))))) (PE_look (dmul (PE_look dint) (dl 2))))) (PE_look dint)))))))
    (dss_cons (ds_set (i := 6) B.nd (dsub (dl 4) (PE_look (dmul (PE_look (dmod (PE_look (dix B.hu (dl 3) (PE_look dint))) (PE_look dint))) (PE_look (dmod (PE_look (dix B.hu (dl 3) (PE_look dint))) (PE_look (dadd (PE_look (ddiv (PE_look (dmul (dl 4) (PE_look dint))) (PE_look dint))) (PE_look dint)))))))))
    (dss_cons (ds_set (i := 7) B.nd (dmul (PE_look (dmod (PE_look (dix B.hu (dl 3) (PE_look dint))) (PE_look dint))) (PE_look (dmod (PE_look (dix B.hu (dl 3) (PE_look dint))) (PE_look (dadd (PE_look (ddiv (dl 4) (PE_look dint))) (PE_look dint)))))))
    (dss_one (ds_ret (dtup (paf_cons (dv 4) (paf_cons (dv 5) (paf_cons (dv 6) (paf_cons (dv 7) (paf_cons (dcallF z4m B (by decide) (fun _ => .nil) (paf_cons (dsl (dl 3) (dsome (PE_look dint)) dno) (paf_cons (dv 5) paf_nil))) paf_nil))))))))))))))
theorem zhn (F : FunD K "_law_plain" "_law_plain" (defArgs z15) (defBody z15) (defScope z15) [] [] f fd) (z3h : Fn K mg base P w "_law_stream" 1 2 [] zo) (n_min : mg "min" = none) (z4m : Fn K mg base P w "_law_holds" 1 2 [] z1j) : FnOk P w K mg base (L2N.CX P w) 2 f fd ["_law_cell", "_law_unit", "_law_many"] (spD K 3 z1a) :=
  fn_D F zhl rfl (fun cdv A outer s H E B => zhm z3h n_min z4m cdv A outer s H E B) (fun xs QD QE _ h => zh5 xs QD QE h)
theorem zjw : FnScope ["_law_some", "_law_at", "_law_most", "_law_one", "_law_thing", "_law_start", "_law_end", "_law_strong", "_law_hold"] ["_law_some", "_law_at"] (defScope z1d) := ⟨rfl, rfl, rfl, by decide +kernel, rfl, by decide +kernel, by decide +kernel⟩
theorem zjx (n_max : mg "max" = none) (cdv : Value) (A : Around) (outer : List Env) (s : Shared) (H : Hp) (E : XK)
    (B : Bd (cxOf (L2N.CX P w) P w K mg base ["_law_some", "_law_at", "_law_most", "_law_one", "_law_thing", "_law_start", "_law_end", "_law_strong", "_law_hold"] "_law_held_up" (defScope z1d) f cdv A outer s H E) (fun cls d _ H' => E cls d H') 0) : PSs (cxOf (L2N.CX P w) P w K mg base ["_law_some", "_law_at", "_law_most", "_law_one", "_law_thing", "_law_start", "_law_end", "_law_strong", "_law_hold"] "_law_held_up" (defScope z1d) f cdv A outer s H E) (defBody z1d) (sD K (fun cls d _ H' => E cls d H') z8t) :=
  (dss_cons (ds_set (i := 2) B.nd dint)
    (dss_cons (ds_for (tg := (.one 3)) B.po B.calm (di_list (dsl (dl 0) (dsome (PE_look (dadd (dl 1) (PE_look dint)))) dno)) (pg_name (i := 3) B.nd rfl (by first | exact Or.inl rfl | exact Or.inr rfl)) (dss_one (ds_for (tg := (.many [4, 5, 6])) B.po B.calm (di_list (dix B.hu (dl 3) (PE_look dint))) (pg_tup B.calm (pgs_cons (pg_name (i := 4) B.nd rfl (by first | exact Or.inl rfl | exact Or.inr rfl)) (pgs_cons (pg_name (i := 5) B.nd rfl (by first | exact Or.inl rfl | exact Or.inr rfl)) (pgs_cons (pg_name (i := 6) B.nd rfl (by first | exact Or.inl rfl | exact Or.inr rfl)) pgs_nil)))) (dss_one (ds_for (tg := (.one 7)) B.po B.calm (di_list (dsl (dl 0) dno (dsome (PE_look (dadd (dl 1) (PE_look dint)))))) (pg_name (i := 7) B.nd rfl (by first | exact Or.inl rfl | exact Or.inr rfl)) (dss_one (ds_if (tcmp (k_in B.hu) (dl 4) (PE_look (dlc (own := [("_law_hold", 8)]) (tg := (.one 8)) B.calm B.nd (tic (di_list (dix B.hu (dl 7) (PE_look dint)))) (blkOk_by (own := [("_law_hold", 8)]) (N := ["_law_some", "_law_at", "_law_most", "_law_one", "_law_thing", "_law_start", "_law_end", "_law_strong", "_law_hold"]) (sc := defScope z1d) (by decide +kernel)) (fun _ _ _ _ _ => (pg_name (i := 8) (Bd.blk B).nd rfl (by first | exact Or.inl rfl | exact Or.inr rfl))) (fun _ _ _ _ _ => pts_yes) (fun _ _ _ _ _ => (dix (Bd.blk B).hu (dl 8) (PE_look dint))) (by simp [Tg.slots]))) (by rfl)) (dss_one (ds_set (i := 2) B.nd (dcb (call_max2 B.calm) br_max2 n_max bt_max (pab_cons (dl 2) (pab_cons (PE_look (dsub (PE_look (dsub (dl 6) (dl 5))) (PE_look dint))) pab_nil))))) dss_nil)))))))
    (dss_one (ds_retL 2))))
theorem zjy (F : FunD K "_law_held_up" "_law_held_up" (defArgs z1d) (defBody z1d) (defScope z1d) [] [] f fd) (n_max : mg "max" = none) : FnOk P w K mg base (L2N.CX P w) 1 f fd ["_law_some", "_law_at"] (spD K 2 z1g) :=
  fn_D F zjw rfl (fun cdv A outer s H E B => zjx n_max cdv A outer s H E B) (fun xs QD QE _ h => zja xs QD QE h)
theorem zjz : FnScope ["_law_some", "_law_at", "_law_gap", "_law_length", "_law_last", "_law_late", "_law_holds_here", "_law_least", "_law_line", "_law_other"] ["_law_some", "_law_at"] (defScope z1s) := ⟨rfl, rfl, rfl, by decide +kernel, rfl, by decide +kernel, by decide +kernel⟩
theorem zk0 (z29 : Fn K mg base P w "_law_held_up" 1 2 [] z1g) (cdv : Value) (A : Around) (outer : List Env) (s : Shared) (H : Hp) (E : XK)
    (B : Bd (cxOf (L2N.CX P w) P w K mg base ["_law_some", "_law_at", "_law_gap", "_law_length", "_law_last", "_law_late", "_law_holds_here", "_law_least", "_law_line", "_law_other"] "_law_in_time" (defScope z1s) f cdv A outer s H E) (fun cls d _ H' => E cls d H') 1) : PSs (cxOf (L2N.CX P w) P w K mg base ["_law_some", "_law_at", "_law_gap", "_law_length", "_law_last", "_law_late", "_law_holds_here", "_law_least", "_law_line", "_law_other"] "_law_in_time" (defScope z1s) f cdv A outer s H E) (defBody z1s) (sD K (fun cls d _ H' => E cls d H') z8x) :=
  (dss_cons (ds_unp (is := [2, 3, 4, 5, 6]) (dix B.hu (dl 0) (dl 1)) (pg_tup B.calm (pgs_cons (pg_name (i := 2) B.nd rfl (by first | exact Or.inl rfl | exact Or.inr rfl)) (pgs_cons (pg_name (i := 3) B.nd rfl (by first | exact Or.inl rfl | exact Or.inr rfl)) (pgs_cons (pg_name (i := 4) B.nd rfl (by first | exact Or.inl rfl | exact Or.inr rfl)) (pgs_cons (pg_name (i := 5) B.nd rfl (by first | exact Or.inl rfl | exact Or.inr rfl)) (pgs_cons (pg_name (i := 6) B.nd rfl (by first | exact Or.inl rfl | exact Or.inr rfl)) pgs_nil)))))))
    (dss_cons (ds_set (i := 7) B.nd (dadd (PE_look (dcallF z29 B (by decide) (fun _ => .nil) (paf_cons (dv 0) (paf_cons (dv 1) paf_nil)))) (dl 3)))
    (dss_cons (ds_set (i := 8) B.nd dint)
    (dss_cons (ds_while B.po (tcmp k_lt (dl 8) (dl 7) (nomark _)) (dss_cons (ds_set (i := 8) B.nd (dv 7)) (dss_cons (ds_if (tcmp k_gt (PE_look (dadd (dl 8) (dl 5))) (dl 4) (nomark _)) (dss_one (ds_ret dbl)) dss_nil) (dss_cons (ds_set (i := 7) B.nd (dadd (PE_look (dcallF z29 B (by decide) (fun _ => .nil) (paf_cons (dv 0) (paf_cons (dv 1) paf_nil)))) (dl 3))) (dss_one (ds_for (tg := (.one 9)) B.po B.calm (di_list (dsl (dl 0) dno (dsome (dl 1)))) (pg_name (i := 9) B.nd rfl (by first | exact Or.inl rfl | exact Or.inr rfl)) (dss_one (ds_set (i := 7) B.nd (dadd (dl 7) (PE_look (dmul (PE_look (ddiv (PE_look (dsub (PE_look (dadd (PE_look (dadd (dl 8) (PE_look (dix B.hu (dl 9) (PE_look dint))))) (PE_look (dix B.hu (dl 9) (PE_look dint))))) (PE_look dint))) (PE_look (dix B.hu (dl 9) (PE_look dint))))) (PE_look (dix B.hu (dl 9) (PE_look dint))))))))))))))
    (dss_one (ds_ret dbl))))))
theorem zk1 (F : FunD K "_law_in_time" "_law_in_time" (defArgs z1s) (defBody z1s) (defScope z1s) [] [] f fd) (z29 : Fn K mg base P w "_law_held_up" 1 2 [] z1g) : FnOk P w K mg base (L2N.CX P w) 2 f fd ["_law_some", "_law_at"] (spD K 2 z21) :=
  fn_D F zjz rfl (fun cdv A outer s H E B => zk0 z29 cdv A outer s H E B) (fun xs QD QE _ h => zjf xs QD QE h)
theorem zg6 : FnScope ["_law_some", "_law_order", "_law_turned", "_law_at", "_law_k"] ["_law_some", "_law_order"] (defScope zh) := ⟨rfl, rfl, rfl, by decide +kernel, rfl, by decide +kernel, by decide +kernel⟩
theorem zg7 (n_len : mg "len" = none) (n_range : mg "range" = none) (z2s : Fn K mg base P w "_law_in_time" 2 2 [] z21) (n_all : mg "all" = none) (cdv : Value) (A : Around) (outer : List Env) (s : Shared) (H : Hp) (E : XK)
    (B : Bd (cxOf (L2N.CX P w) P w K mg base ["_law_some", "_law_order", "_law_turned", "_law_at", "_law_k"] "_law_all_in_time" (defScope zh) f cdv A outer s H E) (fun cls d _ H' => E cls d H') 2) : PSs (cxOf (L2N.CX P w) P w K mg base ["_law_some", "_law_order", "_law_turned", "_law_at", "_law_k"] "_law_all_in_time" (defScope zh) f cdv A outer s H E) (defBody zh) (sD K (fun cls d _ H' => E cls d H') z4b) :=
  (dss_cons (ds_set (i := 2) B.nd (dlc (own := [("_law_at", 3)]) (tg := (.one 3)) B.calm B.nd (tic (di_list (dv 1))) (blkOk_by (own := [("_law_at", 3)]) (N := ["_law_some", "_law_order", "_law_turned", "_law_at", "_law_k"]) (sc := defScope zh) (by decide +kernel)) (fun _ _ _ _ _ => (pg_name (i := 3) (Bd.blk B).nd rfl (by first | exact Or.inl rfl | exact Or.inr rfl))) (fun _ _ _ _ _ => pts_yes) (fun _ _ _ _ _ => (dix (Bd.blk B).hu (dl 0) (dl 3))) (by simp [Tg.slots])))
    (dss_one (ds_ret (dcb (cr_all B.calm) br_all n_all bt_all (pab_cons (PE_look (dlc (own := [("_law_k", 4)]) (tg := (.one 4)) B.calm B.nd (tic (di_rng1 n_range (pab_cons (PE_look (dcb cr_len br_len n_len bt_len (pab_cons (dl 2) pab_nil))) pab_nil))) (blkOk_by (own := [("_law_k", 4)]) (N := ["_law_some", "_law_order", "_law_turned", "_law_at", "_law_k"]) (sc := defScope zh) (by decide +kernel)) (fun _ _ _ _ _ => (pg_name (i := 4) (Bd.blk B).nd rfl (by first | exact Or.inl rfl | exact Or.inr rfl))) (fun _ _ _ _ _ => pts_yes) (fun _ _ _ _ _ => (dcallF z2s (Bd.blk B) (by decide) (fun _ => .nil) (paf_cons (dv 2) (paf_cons (dv 4) paf_nil)))) (by simp [Tg.slots]))) pab_nil)))))
theorem zg8 (F : FunD K "_law_all_in_time" "_law_all_in_time" (defArgs zh) (defBody zh) (defScope zh) [] [] f fd) (n_len : mg "len" = none) (n_range : mg "range" = none) (z2s : Fn K mg base P w "_law_in_time" 2 2 [] z21) (n_all : mg "all" = none) : FnOk P w K mg base (L2N.CX P w) 3 f fd ["_law_some", "_law_order"] (spD K 2 zj) :=
  fn_D F zg6 rfl (fun cdv A outer s H E B => zg7 n_len n_range z2s n_all cdv A outer s H E B) (fun xs QD QE _ h => zg5 xs QD QE h)
theorem ziq : FnScope ["_law_found", "_law_some", "_law_here", "_law_at"] ["_law_found", "_law_some"] (defScope zx) := ⟨rfl, rfl, rfl, by decide +kernel, rfl, by decide +kernel, by decide +kernel⟩
theorem zir (n_len : mg "len" = none) (n_list : mg "list" = none) (n_range : mg "range" = none) (n_isinstance : mg "isinstance" = none) (n_tuple : mg "tuple" = none) (zv : Fn K mg base P w "_law_all_in_time" 3 2 [] zj) (t_pick : PickT K base mg lamD lamQ) (n_sorted : mg "sorted" = none) (n_int : mg "int" = none) (n_bool : mg "bool" = none) (n_all : mg "all" = none) (A : Around) (outer : List Env) (s : Shared) (H : Hp) (E : XK)
    (B : Bd (cxOf (L2N.CX P w) P w K mg base ["_law_found", "_law_some", "_law_here", "_law_at"] "_law_right" (defScope zx) (He.fAd K lamD) (.ref (He.codeOf K lamD)) A outer s H E) (fun cls d _ H' => E cls d H') 3) : PSs (cxOf (L2N.CX P w) P w K mg base ["_law_found", "_law_some", "_law_here", "_law_at"] "_law_right" (defScope zx) (He.fAd K lamD) (.ref (He.codeOf K lamD)) A outer s H E) (defBody zx) (sD K (fun cls d _ H' => E cls d H') z71) :=
  (dss_cons (ds_set (i := 2) B.nd (dlrg1 B.calm n_list n_range (PE_look (dcb cr_len br_len n_len bt_len (pab_cons (dl 1) pab_nil)))))
    (dss_cons (ds_if (tbool (PE_look (disT (T := "tuple") (by simp) n_isinstance n_tuple bt_tuple bt_isinstance (dl 0)))) (dss_cons (ds_if (PW.pt (tor (tcmp (k_ne B.hu64) (dl 0) (PE_look (dtup (paf_cons dbl (paf_cons dbl (paf_cons dbl paf_nil))))) (nomark _)) (tor1 (tbool (PE_look (dcallF zv B (by decide) (fun _ => .nil) (paf_cons (dv 1) (paf_cons (dv 2) paf_nil)))))))) (dss_one (ds_ret dbl)) dss_nil) (dss_one (ds_ret (dnot (dcallF zv B (by decide) (fun _ => .nil) (paf_cons (dv 1) (paf_cons (d_sortKL (j := 1) 2 3 "_law_some" "_law_at" B t_pick n_sorted (pab_cons (dl 2) pab_nil)) paf_nil))))))) dss_nil)
    (dss_cons (ds_if (PW.pt (tor (tnot (tbool (PE_look (disT (T := "list") (by simp) n_isinstance n_list bt_list bt_isinstance (dl 0))))) (tor1 (tnot (tbool (PE_look (dcb (cr_all B.calm) br_all n_all bt_all (pab_cons (PE_look (dlc (own := [("_law_at", 3)]) (tg := (.one 3)) B.calm B.nd (tic (di_list (dv 0))) (blkOk_by (own := [("_law_at", 3)]) (N := ["_law_found", "_law_some", "_law_here", "_law_at"]) (sc := defScope zx) (by decide +kernel)) (fun _ _ _ _ _ => (pg_name (i := 3) (Bd.blk B).nd rfl (by first | exact Or.inl rfl | exact Or.inr rfl))) (fun _ _ _ _ _ => pts_yes) (fun _ _ _ _ _ => (dand (disT (T := "int") (by simp) n_isinstance n_int bt_int bt_isinstance (dl 3)) (done (dnot (disT (T := "bool") (by simp) n_isinstance n_bool bt_bool bt_isinstance (dl 3)))))) (by simp [Tg.slots]))) pab_nil)))))))) (dss_one (ds_ret dbl)) dss_nil)
    (dss_one (ds_ret (dand (dcmp (k_eq B.hu64) (PE_look (dcb cr_sort2 br_sort2 n_sorted bt_sorted (pab_cons (dl 0) pab_nil))) (dl 2) (nomark _)) (done (dcallF zv B (by decide) (fun _ => .nil) (paf_cons (dv 1) (paf_cons (dv 0) paf_nil))))))))))
theorem zis (F : FunD K "_law_right" "_law_right" (defArgs zx) (defBody zx) (defScope zx) [] [] (He.fAd K lamD) fd) (n_len : mg "len" = none) (n_list : mg "list" = none) (n_range : mg "range" = none) (n_isinstance : mg "isinstance" = none) (n_tuple : mg "tuple" = none) (zv : Fn K mg base P w "_law_all_in_time" 3 2 [] zj) (t_pick : PickT K base mg lamD lamQ) (n_sorted : mg "sorted" = none) (n_int : mg "int" = none) (n_bool : mg "bool" = none) (n_all : mg "all" = none) : FnOk P w K mg base (L2N.CX P w) 4 (He.fAd K lamD) fd ["_law_found", "_law_some"] (spD K 2 z18) :=
  fn_Dc F ziq rfl (fun A outer s H E B => zir n_len n_list n_range n_isinstance n_tuple zv t_pick n_sorted n_int n_bool n_all A outer s H E B) (fun xs QD QE _ h => zif xs QD QE h)
theorem zk2 : FnScope ["thing", "sign"] ["thing"] (defScope z1t) := ⟨rfl, rfl, rfl, by decide +kernel, rfl, by decide +kernel, by decide +kernel⟩
theorem zk3 {tk_LETTERS : Tok} {tk_MOST_SIGNS : Tok} (n_isinstance : mg "isinstance" = none) (n_str : mg "str" = none) (n_len : mg "len" = none) (g_MOST_SIGNS : mg "MOST_SIGNS" = some (.int 8 tk_MOST_SIGNS)) (g_LETTERS : mg "LETTERS" = some (.str "abcdefghijklmnopqrstuvwxyz" tk_LETTERS)) (cdv : Value) (A : Around) (outer : List Env) (s : Shared) (H : Hp) (E : XK)
    (B : Bd (cxOf (L2N.CX P w) P w K mg base ["thing", "sign"] "is_name" (defScope z1t) f cdv A outer s H E) (fun cls d _ H' => E cls d H') 0) : PSs (cxOf (L2N.CX P w) P w K mg base ["thing", "sign"] "is_name" (defScope z1t) f cdv A outer s H E) (defBody z1t) (sD K (fun cls d _ H' => E cls d H') z52) :=
  (dss_cons (ds_if (PW.pt (tor (tnot (tbool (PE_look (disT (T := "str") (by simp) n_isinstance n_str bt_str bt_isinstance (dl 0))))) (tor1 (tnot (tchain k_le k_le (PE_look dint) (PE_look (dcb cr_len br_len n_len bt_len (pab_cons (dl 0) pab_nil))) (PE_look (dgint g_MOST_SIGNS))))))) (dss_one (ds_ret dbl)) dss_nil)
    (dss_cons (ds_for (tg := (.one 1)) B.po B.calm (di_str (dv 0)) (pg_name (i := 1) B.nd rfl (by first | exact Or.inl rfl | exact Or.inr rfl)) (dss_one (ds_if (tcmp (k_notIn B.hu) (dl 1) (PE_look (dgstr g_LETTERS)) (by rfl)) (dss_one (ds_ret dbl)) dss_nil)))
    (dss_one (ds_ret dbl))))
theorem zk4 {tk_LETTERS : Tok} {tk_MOST_SIGNS : Tok} (F : FunD K "is_name" "is_name" (defArgs z1t) (defBody z1t) (defScope z1t) [] [] f fd) (n_isinstance : mg "isinstance" = none) (n_str : mg "str" = none) (n_len : mg "len" = none) (g_MOST_SIGNS : mg "MOST_SIGNS" = some (.int 8 tk_MOST_SIGNS)) (g_LETTERS : mg "LETTERS" = some (.str "abcdefghijklmnopqrstuvwxyz" tk_LETTERS)) : FnOk P w K mg base (L2N.CX P w) 1 f fd ["thing"] (spD K 1 zn) :=
  fn_D F zk2 rfl (fun cdv A outer s H E B => zk3 n_isinstance n_str n_len g_MOST_SIGNS g_LETTERS cdv A outer s H E B) (fun xs QD QE _ h => zj2 xs QD QE h)
theorem zk5 : FnScope ["thing", "length"] ["thing", "length"] (defScope z1u) := ⟨rfl, rfl, rfl, by decide +kernel, rfl, by decide +kernel, by decide +kernel⟩
theorem zk6 (n_isinstance : mg "isinstance" = none) (n_tuple : mg "tuple" = none) (n_len : mg "len" = none) (zr : Fn K mg base P w "is_name" 1 1 [] zn) (zc : Fn K mg base P w "is_whole" 1 1 [] z9) (cdv : Value) (A : Around) (outer : List Env) (s : Shared) (H : Hp) (E : XK)
    (B : Bd (cxOf (L2N.CX P w) P w K mg base ["thing", "length"] "is_hold" (defScope z1u) f cdv A outer s H E) (fun cls d _ H' => E cls d H') 1) : PSs (cxOf (L2N.CX P w) P w K mg base ["thing", "length"] "is_hold" (defScope z1u) f cdv A outer s H E) (defBody z1u) (sD K (fun cls d _ H' => E cls d H') z53) :=
  (dss_cons (ds_if (PW.pt (tor (tnot (tbool (PE_look (disT (T := "tuple") (by simp) n_isinstance n_tuple bt_tuple bt_isinstance (dl 0))))) (tor1 (tcmp (k_ne B.hu64) (PE_look (dcb cr_len br_len n_len bt_len (pab_cons (dl 0) pab_nil))) (PE_look dint) (nomark _))))) (dss_one (ds_ret dbl)) dss_nil)
    (dss_cons (ds_if (PW.pt (tor (tnot (tbool (PE_look (dcallF zr B (by decide) (fun _ => .nil) (paf_cons (dix B.hu (dl 0) (PE_look dint)) paf_nil))))) (tor (tnot (tbool (PE_look (dcallF zc B (by decide) (fun _ => .nil) (paf_cons (dix B.hu (dl 0) (PE_look dint)) paf_nil))))) (tor1 (tnot (tbool (PE_look (dcallF zc B (by decide) (fun _ => .nil) (paf_cons (dix B.hu (dl 0) (PE_look dint)) paf_nil))))))))) (dss_one (ds_ret dbl)) dss_nil)
    (dss_one (ds_ret (dchain3 k_le k_lt k_lt (PE_look dint) (PE_look (dix B.hu (dl 0) (PE_look dint))) (PE_look (dix B.hu (dl 0) (PE_look dint))) (dl 1))))))
theorem zk7 (F : FunD K "is_hold" "is_hold" (defArgs z1u) (defBody z1u) (defScope z1u) [] [] f fd) (n_isinstance : mg "isinstance" = none) (n_tuple : mg "tuple" = none) (n_len : mg "len" = none) (zr : Fn K mg base P w "is_name" 1 1 [] zn) (zc : Fn K mg base P w "is_whole" 1 1 [] z9) : FnOk P w K mg base (L2N.CX P w) 2 f fd ["thing", "length"] (spD K 2 z1y) :=
  fn_D F zk5 rfl (fun cdv A outer s H E B => zk6 n_isinstance n_tuple n_len zr zc cdv A outer s H E B) (fun xs QD QE _ h => zj3 xs QD QE h)
theorem zkw : FnScope ["one", "other"] ["one", "other"] (defScope z25) := ⟨rfl, rfl, rfl, by decide +kernel, rfl, by decide +kernel, by decide +kernel⟩
theorem zkx (cdv : Value) (A : Around) (outer : List Env) (s : Shared) (H : Hp) (E : XK)
    (B : Bd (cxOf (L2N.CX P w) P w K mg base ["one", "other"] "within" (defScope z25) f cdv A outer s H E) (fun cls d _ H' => E cls d H') 0) : PSs (cxOf (L2N.CX P w) P w K mg base ["one", "other"] "within" (defScope z25) f cdv A outer s H E) (defBody z25) (sD K (fun cls d _ H' => E cls d H') z5q) :=
  (dss_one (ds_ret (dand (dcmp k_le (PE_look (dix B.hu (dl 1) (PE_look dint))) (PE_look (dix B.hu (dl 0) (PE_look dint))) (nomark _)) (done (dcmp k_le (PE_look (dix B.hu (dl 0) (PE_look dint))) (PE_look (dix B.hu (dl 1) (PE_look dint))) (nomark _))))))
theorem zky (F : FunD K "within" "within" (defArgs z25) (defBody z25) (defScope z25) [] [] f fd) : FnOk P w K mg base (L2N.CX P w) 1 f fd ["one", "other"] (spD K 2 z1w) :=
  fn_D F zkw rfl (fun cdv A outer s H E B => zkx cdv A outer s H E B) (fun xs QD QE _ h => zkl xs QD QE h)
theorem zit : FnScope ["one", "other"] ["one", "other"] (defScope z1e) := ⟨rfl, rfl, rfl, by decide +kernel, rfl, by decide +kernel, by decide +kernel⟩
theorem ziu (z2j : Fn K mg base P w "within" 1 2 [] z1w) (cdv : Value) (A : Around) (outer : List Env) (s : Shared) (H : Hp) (E : XK)
    (B : Bd (cxOf (L2N.CX P w) P w K mg base ["one", "other"] "together" (defScope z1e) f cdv A outer s H E) (fun cls d _ H' => E cls d H') 1) : PSs (cxOf (L2N.CX P w) P w K mg base ["one", "other"] "together" (defScope z1e) f cdv A outer s H E) (defBody z1e) (sD K (fun cls d _ H' => E cls d H') z4d) :=
  (dss_cons (ds_if (PW.pt (tor (tcmp k_le (PE_look (dix B.hu (dl 0) (PE_look dint))) (PE_look (dix B.hu (dl 1) (PE_look dint))) (nomark _)) (tor1 (tcmp k_le (PE_look (dix B.hu (dl 1) (PE_look dint))) (PE_look (dix B.hu (dl 0) (PE_look dint))) (nomark _))))) (dss_one (ds_ret dbl)) dss_nil)
    (dss_cons (ds_if (tcmp (k_eq B.hu64) (PE_look (dix B.hu (dl 0) (PE_look dint))) (PE_look (dix B.hu (dl 1) (PE_look dint))) (nomark _)) (dss_one (ds_ret dbl)) dss_nil)
    (dss_one (ds_ret (dor (dcallF z2j B (by decide) (fun _ => .nil) (paf_cons (dv 0) (paf_cons (dv 1) paf_nil))) (done (dcallF z2j B (by decide) (fun _ => .nil) (paf_cons (dv 1) (paf_cons (dv 0) paf_nil)))))))))
theorem ziv (F : FunD K "together" "together" (defArgs z1e) (defBody z1e) (defScope z1e) [] [] f fd) (z2j : Fn K mg base P w "within" 1 2 [] z1w) : FnOk P w K mg base (L2N.CX P w) 2 f fd ["one", "other"] (spD K 2 z1i) :=
  fn_D F zit rfl (fun cdv A outer s H E B => ziu z2j cdv A outer s H E B) (fun xs QD QE _ h => zi8 xs QD QE h)
theorem zho : FnScope ["holds", "length", "k", "hold"] ["holds", "length"] (defScope z16) := ⟨rfl, rfl, rfl, by decide +kernel, rfl, by decide +kernel, by decide +kernel⟩
theorem zhp {tk_MOST_HOLDS : Tok} (n_isinstance : mg "isinstance" = none) (n_list : mg "list" = none) (n_len : mg "len" = none) (g_MOST_HOLDS : mg "MOST_HOLDS" = some (.int 6 tk_MOST_HOLDS)) (n_range : mg "range" = none) (z2t : Fn K mg base P w "is_hold" 2 2 [] z1y) (z2b : Fn K mg base P w "together" 2 2 [] z1i) (cdv : Value) (A : Around) (outer : List Env) (s : Shared) (H : Hp) (E : XK)
    (B : Bd (cxOf (L2N.CX P w) P w K mg base ["holds", "length", "k", "hold"] "holds_fit" (defScope z16) f cdv A outer s H E) (fun cls d _ H' => E cls d H') 2) : PSs (cxOf (L2N.CX P w) P w K mg base ["holds", "length", "k", "hold"] "holds_fit" (defScope z16) f cdv A outer s H E) (defBody z16) (sD K (fun cls d _ H' => E cls d H') z3l) :=
  (dss_cons (ds_if (PW.pt (tor (tnot (tbool (PE_look (disT (T := "list") (by simp) n_isinstance n_list bt_list bt_isinstance (dl 0))))) (tor1 (tcmp k_gt (PE_look (dcb cr_len br_len n_len bt_len (pab_cons (dl 0) pab_nil))) (PE_look (dgint g_MOST_HOLDS)) (nomark _))))) (dss_one (ds_ret dbl)) dss_nil)
    (dss_cons (ds_for (tg := (.one 2)) B.po B.calm (di_rng1 n_range (pab_cons (PE_look (dcb cr_len br_len n_len bt_len (pab_cons (dl 0) pab_nil))) pab_nil)) (pg_name (i := 2) B.nd rfl (by first | exact Or.inl rfl | exact Or.inr rfl)) (dss_cons (ds_if (tnot (tbool (PE_look (dcallF z2t B (by decide) (fun _ => .nil) (paf_cons (dix B.hu (dl 0) (dl 2)) (paf_cons (dv 1) paf_nil)))))) (dss_one (ds_ret dbl)) dss_nil) (dss_one (ds_for (tg := (.one 3)) B.po B.calm (di_list (dsl (dl 0) dno (dsome (dl 2)))) (pg_name (i := 3) B.nd rfl (by first | exact Or.inl rfl | exact Or.inr rfl)) (dss_one (ds_if (tnot (tbool (PE_look (dcallF z2b B (by decide) (fun _ => .nil) (paf_cons (dv 3) (paf_cons (dix B.hu (dl 0) (dl 2)) paf_nil)))))) (dss_one (ds_ret dbl)) dss_nil))))))
    (dss_one (ds_ret dbl))))
theorem zhq {tk_MOST_HOLDS : Tok} (F : FunD K "holds_fit" "holds_fit" (defArgs z16) (defBody z16) (defScope z16) [] [] f fd) (n_isinstance : mg "isinstance" = none) (n_list : mg "list" = none) (n_len : mg "len" = none) (g_MOST_HOLDS : mg "MOST_HOLDS" = some (.int 6 tk_MOST_HOLDS)) (n_range : mg "range" = none) (z2t : Fn K mg base P w "is_hold" 2 2 [] z1y) (z2b : Fn K mg base P w "together" 2 2 [] z1i) : FnOk P w K mg base (L2N.CX P w) 3 f fd ["holds", "length"] (spD K 2 z19) :=
  fn_D F zho rfl (fun cdv A outer s H E B => zhp n_isinstance n_list n_len g_MOST_HOLDS n_range z2t z2b cdv A outer s H E B) (fun xs QD QE _ h => zgw xs QD QE h)
theorem zk8 : FnScope ["thing", "low"] ["thing", "low"] (defScope z1v) := ⟨rfl, rfl, rfl, by decide +kernel, rfl, by decide +kernel, by decide +kernel⟩
theorem zk9 (zc : Fn K mg base P w "is_whole" 1 1 [] z9) (cdv : Value) (A : Around) (outer : List Env) (s : Shared) (H : Hp) (E : XK)
    (B : Bd (cxOf (L2N.CX P w) P w K mg base ["thing", "low"] "from_on" (defScope z1v) f cdv A outer s H E) (fun cls d _ H' => E cls d H') 1) : PSs (cxOf (L2N.CX P w) P w K mg base ["thing", "low"] "from_on" (defScope z1v) f cdv A outer s H E) (defBody z1v) (sD K (fun cls d _ H' => E cls d H') z54) :=
  (dss_one (ds_ret (dand (dcallF zc B (by decide) (fun _ => .nil) (paf_cons (dv 0) paf_nil)) (done (dcmp k_ge (dl 0) (dl 1) (nomark _))))))
theorem zka (F : FunD K "from_on" "from_on" (defArgs z1v) (defBody z1v) (defScope z1v) [] [] f fd) (zc : Fn K mg base P w "is_whole" 1 1 [] z9) : FnOk P w K mg base (L2N.CX P w) 2 f fd ["thing", "low"] (spD K 2 zp) :=
  fn_D F zk8 rfl (fun cdv A outer s H E B => zk9 zc cdv A outer s H E B) (fun xs QD QE _ h => zj4 xs QD QE h)
theorem zhr : FnScope ["self", "name", "gap", "length", "due", "late", "holds"] ["self", "name", "gap", "length", "due", "late", "holds"] (defScope z17) := ⟨rfl, rfl, rfl, by decide +kernel, rfl, by decide +kernel, by decide +kernel⟩
theorem zhs (zr : Fn K mg base P w "is_name" 1 1 [] zn) (z1x : Fn K mg base P w "from_on" 2 2 [] zp) (x_BadWork : ExC K mg .BadWork) (z27 : Fn K mg base P w "holds_fit" 3 2 [] z19) (a_name : ∀ c, c ∈ ([.Work] : List Cn) → Cls K (He.ga K c.str) ∧ NoAttr K (He.ga K c.str) (Fd.name).str) (a_gap : ∀ c, c ∈ ([.Work] : List Cn) → Cls K (He.ga K c.str) ∧ NoAttr K (He.ga K c.str) (Fd.gap).str) (a_length : ∀ c, c ∈ ([.Work] : List Cn) → Cls K (He.ga K c.str) ∧ NoAttr K (He.ga K c.str) (Fd.length).str) (a_due : ∀ c, c ∈ ([.Work] : List Cn) → Cls K (He.ga K c.str) ∧ NoAttr K (He.ga K c.str) (Fd.due).str) (a_late : ∀ c, c ∈ ([.Work] : List Cn) → Cls K (He.ga K c.str) ∧ NoAttr K (He.ga K c.str) (Fd.late).str) (a_sections : ∀ c, c ∈ ([.Work] : List Cn) → Cls K (He.ga K c.str) ∧ NoAttr K (He.ga K c.str) (Fd.sections).str) (n_list : mg "list" = none) (cdv : Value) (A : Around) (outer : List Env) (s : Shared) (H : Hp) (E : XK)
    (B : Bd (cxOf (L2N.CX P w) P w K mg base ["self", "name", "gap", "length", "due", "late", "holds"] "Work.__init__" (defScope z17) f cdv A outer s H E) (fun cls d _ H' => E cls d H') 3) : PSs (cxOf (L2N.CX P w) P w K mg base ["self", "name", "gap", "length", "due", "late", "holds"] "Work.__init__" (defScope z17) f cdv A outer s H E) (defBody z17) (sD K (fun cls d _ H' => E cls d H') z3m) :=
  (dss_cons (ds_if (tcmp k_isN (dl 4) (PE_look dnon) (nomark _)) (dss_one (ds_set (i := 4) B.nd (dv 2))) dss_nil)
    (dss_cons (ds_if (tcmp k_isN (dl 6) (PE_look dnon) (nomark _)) (dss_one (ds_set (i := 6) B.nd (dlst paf_nil))) dss_nil)
    (dss_cons (ds_if (PW.pt (tor (tnot (tbool (PE_look (dcallF zr B (by decide) (fun _ => .nil) (paf_cons (dv 1) paf_nil))))) (tor (tnot (tbool (PE_look (dcallF z1x B (by decide) (fun _ => .nil) (paf_cons (dv 2) (paf_cons dint paf_nil)))))) (tor1 (tnot (tbool (PE_look (dcallF z1x B (by decide) (fun _ => .nil) (paf_cons (dv 3) (paf_cons dint paf_nil)))))))))) (dss_one (ds_raise (c := .BadWork) B x_BadWork)) dss_nil)
    (dss_cons (ds_if (PW.pt (tor (tnot (tbool (PE_look (dcallF z1x B (by decide) (fun _ => .nil) (paf_cons (dv 4) (paf_cons dint paf_nil)))))) (tor (tcmp k_gt (dl 4) (dl 2) (nomark _)) (tor1 (tnot (tbool (PE_look (dcallF z1x B (by decide) (fun _ => .nil) (paf_cons (dv 5) (paf_cons dint paf_nil)))))))))) (dss_one (ds_raise (c := .BadWork) B x_BadWork)) dss_nil)
    (dss_cons (ds_if (tnot (tbool (PE_look (dcallF z27 B (by decide) (fun _ => .nil) (paf_cons (dv 6) (paf_cons (dv 3) paf_nil)))))) (dss_one (ds_raise (c := .BadWork) B x_BadWork)) dss_nil)
    (dss_cons (ds_fld 0 (f := .name) a_name (dv 1))
    (dss_cons (ds_fld 0 (f := .gap) a_gap (dv 2))
    (dss_cons (ds_fld 0 (f := .length) a_length (dv 3))
    (dss_cons (ds_fld 0 (f := .due) a_due (dv 4))
    (dss_cons (ds_fld 0 (f := .late) a_late (dv 5))
    (dss_one (ds_fld 0 (f := .sections) a_sections (dct call_list_of br_list n_list bt_list (pab_cons (dl 6) pab_nil))))))))))))))
theorem zht (F : FunD K "__init__" "Work.__init__" (defArgs z17) (defBody z17) (defScope z17) [V.non, V.int 0, V.non] [] f fd) (zr : Fn K mg base P w "is_name" 1 1 [] zn) (z1x : Fn K mg base P w "from_on" 2 2 [] zp) (x_BadWork : ExC K mg .BadWork) (z27 : Fn K mg base P w "holds_fit" 3 2 [] z19) (a_name : ∀ c, c ∈ ([.Work] : List Cn) → Cls K (He.ga K c.str) ∧ NoAttr K (He.ga K c.str) (Fd.name).str) (a_gap : ∀ c, c ∈ ([.Work] : List Cn) → Cls K (He.ga K c.str) ∧ NoAttr K (He.ga K c.str) (Fd.gap).str) (a_length : ∀ c, c ∈ ([.Work] : List Cn) → Cls K (He.ga K c.str) ∧ NoAttr K (He.ga K c.str) (Fd.length).str) (a_due : ∀ c, c ∈ ([.Work] : List Cn) → Cls K (He.ga K c.str) ∧ NoAttr K (He.ga K c.str) (Fd.due).str) (a_late : ∀ c, c ∈ ([.Work] : List Cn) → Cls K (He.ga K c.str) ∧ NoAttr K (He.ga K c.str) (Fd.late).str) (a_sections : ∀ c, c ∈ ([.Work] : List Cn) → Cls K (He.ga K c.str) ∧ NoAttr K (He.ga K c.str) (Fd.sections).str) (n_list : mg "list" = none) : FnOk P w K mg base (L2N.CX P w) 4 f fd ["self", "name", "gap", "length", "due", "late", "holds"] (spI K .Work 6 ze) :=
  init_D F zhr rfl (by decide) (fun cdv A outer s H E B => zhs zr z1x x_BadWork z27 a_name a_gap a_length a_due a_late a_sections n_list cdv A outer s H E B) (fun a xs QF QE _ h => zgx a xs QF QE h)
theorem zl9 : FnScope ["_law_script", "_law_first", "_law_unit", "_law_cells", "_law_some", "_law_works", "_law_k", "_law_gap", "_law_length", "_law_last", "_law_late", "_law_holds_here", "_law_duty", "_law_found", "_law_cell"] ["_law_script"] (defScope z2c) := ⟨rfl, rfl, rfl, by decide +kernel, rfl, by decide +kernel, by decide +kernel⟩
theorem zla (n_range : mg "range" = none) (n_len : mg "len" = none) (z4n : Fn K mg base P w "_law_plain" 2 3 [] z1a) (n_list : mg "list" = none) (c_Work_6 : McA K mg base P w .Work 4 6 [] ze) (c_Duty_1 : McA K mg base P w .Duty 3 1 [] zb) (z3i : Fn K mg base P w "_law_told" 9 1 [] zy) (z2z : Fn K mg base P w "_law_right" 4 2 [] z18) (n_isinstance : mg "isinstance" = none) (cdv : Value) (A : Around) (outer : List Env) (s : Shared) (H : Hp) (E : XK)
    (B : Bd (cxOf (L2N.CX P w) P w K mg base ["_law_script", "_law_first", "_law_unit", "_law_cells", "_law_some", "_law_works", "_law_k", "_law_gap", "_law_length", "_law_last", "_law_late", "_law_holds_here", "_law_duty", "_law_found", "_law_cell"] "law" (defScope z2c) f cdv A outer s H E) (fun cls d _ H' => E cls d H') 9) : PSs (cxOf (L2N.CX P w) P w K mg base ["_law_script", "_law_first", "_law_unit", "_law_cells", "_law_some", "_law_works", "_law_k", "_law_gap", "_law_length", "_law_last", "_law_late", "_law_holds_here", "_law_duty", "_law_found", "_law_cell"] "law" (defScope z2c) f cdv A outer s H E) (defBody z2c) (sD K (fun cls d _ H' => E cls d H') zf3) :=
  (dss_cons (ds_set (i := 1) B.nd dint)
    (dss_cons (ds_if (tcmp (k_ne B.hu64) (dl 0) (PE_look (dlst paf_nil)) (nomark _)) (dss_one (ds_set (i := 1) B.nd (dix B.hu (dl 0) (PE_look dint)))) dss_nil)
    (dss_cons (ds_set (i := 2) B.nd (dadd (PE_look dint) (PE_look (dmod (PE_look (ddiv (dl 1) (PE_look dint))) (PE_look (dix B.hu (PE_look (dlst (paf_cons dint (paf_cons (dpow (PE_look dint) (PE_look dint)) paf_nil)))) (PE_look (dmod (dl 1) (PE_look dint)))))))))
    (dss_cons (ds_set (i := 3) B.nd (dsl (dl 0) (dsome (PE_look dint)) (dsome (PE_look dint))))
    (dss_cons (ds_if (tcmp (k_eq B.hu64) (PE_look (dmod (PE_look (ddiv (dl 1) (PE_look dint))) (PE_look dint))) (PE_look dint) (nomark _)) (dss_cons (ds_set (i := 3) B.nd (dadd (PE_look (dsl (dl 0) (dsome (PE_look dint)) (dsome (PE_look dint)))) (PE_look (dlc (own := [("_law_k", 6)]) (tg := (.one 6)) B.calm B.nd (tic (di_rng1 n_range (pab_cons (PE_look dint) pab_nil))) (blkOk_by (own := [("_law_k", 6)]) (N := ["_law_script", "_law_first", "_law_unit", "_law_cells", "_law_some", "_law_works", "_law_k", "_law_gap", "_law_length", "_law_last", "_law_late", "_law_holds_here", "_law_duty", "_law_found", "_law_cell"]) (sc := defScope z2c) (by decide +kernel)) (fun _ _ _ _ _ => (pg_name (i := 6) (Bd.blk B).nd rfl (by first | exact Or.inl rfl | exact Or.inr rfl))) (fun _ _ _ _ _ => pts_yes) (fun _ _ _ _ _ => (dadd (PE_look (ddiv (dl 1) (PE_look dint))) (PE_look (dmul (PE_look (dmul (PE_look dint) (dl 6))) (dl 6))))) (by simp [Tg.slots]))))) (dss_one (ds_set (i := 3) B.nd (dsl (dl 3) dno (dsome (PE_look (dadd (PE_look dint) (PE_look (dmod (PE_look (ddiv (dl 1) (PE_look dint))) (PE_look dint)))))))))) dss_nil)
    (dss_cons (ds_setLc (i := 4) (own := [("_law_cell", 14)]) (tg := (.one 14)) B.calm B.nd rfl rfl (sw_true rfl rfl rfl (by decide +kernel)) (tic (di_list (dv 3))) (blkOk_by (own := [("_law_cell", 14)]) (N := ["_law_script", "_law_first", "_law_unit", "_law_cells", "_law_some", "_law_works", "_law_k", "_law_gap", "_law_length", "_law_last", "_law_late", "_law_holds_here", "_law_duty", "_law_found", "_law_cell"]) (sc := defScope z2c) (by decide +kernel)) (fun _ _ _ _ _ => (pg_name (i := 14) (Bd.blk B).nd rfl (by first | exact Or.inl rfl | exact Or.inr rfl))) (fun _ _ _ _ _ => pts_yes) (fun _ _ _ _ _ => (dcallF z4n (Bd.blk B) (by decide) (fun _ => .nil) (paf_cons (dv 14) (paf_cons (dv 2) (paf_cons (dcb cr_len br_len n_len bt_len (pab_cons (dl 3) pab_nil)) paf_nil))))) (by simp [Tg.slots]))
    (dss_cons (ds_setO (i := 5) B.nd (dlst paf_nil))
    (dss_cons (ds_for (tg := (.one 6)) B.po B.calm (di_rng1 n_range (pab_cons (PE_look (dcb cr_len br_len n_len bt_len (pab_cons (dl 4) pab_nil))) pab_nil)) (pg_name (i := 6) B.nd rfl (by first | exact Or.inl rfl | exact Or.inr rfl)) (dss_cons (ds_unp (is := [7, 8, 9, 10, 11]) (dix B.hu (dl 4) (dl 6)) (pg_tup B.calm (pgs_cons (pg_name (i := 7) B.nd rfl (by first | exact Or.inl rfl | exact Or.inr rfl)) (pgs_cons (pg_name (i := 8) B.nd rfl (by first | exact Or.inl rfl | exact Or.inr rfl)) (pgs_cons (pg_name (i := 9) B.nd rfl (by first | exact Or.inl rfl | exact Or.inr rfl)) (pgs_cons (pg_name (i := 10) B.nd rfl (by first | exact Or.inl rfl | exact Or.inr rfl)) (pgs_cons (pg_name (i := 11) B.nd rfl (by first | exact Or.inl rfl | exact Or.inr rfl)) pgs_nil))))))) (dss_one (ds_append 5 (dmakeF (c := .Work) (dd := []) c_Work_6 B (by decide) (fun _ => .nil) (paf_cons (dadd (PE_look dstr) (PE_look (dix B.hu (PE_look dstr) (dl 6)))) (paf_cons (dv 7) (paf_cons (dv 8) (paf_cons (dv 9) (paf_cons (dv 10) (paf_cons (dct call_list_of br_list n_list bt_list (pab_cons (dl 11) pab_nil)) paf_nil)))))))))))
    (dss_cons (ds_fz 5 (ds_set (i := 12) B.nd (dmakeF (c := .Duty) (dd := []) c_Duty_1 B (by decide) (fun _ => .nil) (paf_cons (dv 5) paf_nil))))
    (dss_cons (ds_setO (i := 13) B.nd (dcallF z3i B (by decide) (fun _ => .nil) (paf_cons (dv 12) paf_nil)))
    (dss_cons (ds_if (tnot (tbool (PE_look (dcallFT z2z B (by decide) (fun _ => .nil) (pab_cons (dl 13) (pab_cons (dl 4) pab_nil)))))) (dss_one (ds_ret dbl)) dss_nil)
    (dss_cons (ds_if (tbool (PE_look (disT (T := "list") (by simp) n_isinstance n_list bt_list bt_isinstance (dl 13)))) (dss_cons (ds_append 13 dint) (dss_one (ds_ret (dcallF z2z B (by decide) (fun _ => .nil) (paf_cons (dcallF z3i B (by decide) (fun _ => .nil) (paf_cons (dv 12) paf_nil)) (paf_cons (dv 4) paf_nil)))))) dss_nil)
    (dss_one (ds_ret (dcmp (k_eq B.hu64) (PE_look (dcallF z3i B (by decide) (fun _ => .nil) (paf_cons (dv 12) paf_nil))) (dl 13) (nomark _))))))))))))))))
theorem zlb (F : FunD K "law" "law" (defArgs z2c) (defBody z2c) (defScope z2c) [] [] f fd) (n_range : mg "range" = none) (n_len : mg "len" = none) (z4n : Fn K mg base P w "_law_plain" 2 3 [] z1a) (n_list : mg "list" = none) (c_Work_6 : McA K mg base P w .Work 4 6 [] ze) (c_Duty_1 : McA K mg base P w .Duty 3 1 [] zb) (z3i : Fn K mg base P w "_law_told" 9 1 [] zy) (z2z : Fn K mg base P w "_law_right" 4 2 [] z18) (n_isinstance : mg "isinstance" = none) : FnOk P w K mg base (L2N.CX P w) 10 f fd ["_law_script"] (spD K 1 zjg) :=
  fn_D F zl9 rfl (fun cdv A outer s H E B => zla n_range n_len z4n n_list c_Work_6 c_Duty_1 z3i z2z n_isinstance cdv A outer s H E B) (fun xs QD QE _ h => zl8 xs QD QE h)
theorem hx_n_range (X : K.In h) (G : h.Ns mainGlobals mg) (c : He.SaysD fa fn K) (cx : (exs.all fun f => f K) = true) : mg "range" = none := by
  have n_range : mg "range" = none := He.free_ok X G (c.fact 0 (f := .free "range") rfl)
  exact n_range
theorem hx_n_len (X : K.In h) (G : h.Ns mainGlobals mg) (c : He.SaysD fa fn K) (cx : (exs.all fun f => f K) = true) : mg "len" = none := by
  have n_len : mg "len" = none := He.free_ok X G (c.fact 1 (f := .free "len") rfl)
  exact n_len
theorem hx_f_L_stream (X : K.In h) (G : h.Ns mainGlobals mg) (c : He.SaysD fa fn K) (cx : (exs.all fun f => f K) = true) : Fn K mg base P w "_law_stream" 1 2 [] zo := by
  have n_range : mg "range" = none := hx_n_range X G c cx
  obtain ⟨zkz, F_L_stream⟩ := c.def_ 19 (d := zfk) rfl
  have z3h : Fn K mg base P w "_law_stream" 1 2 [] zo := ⟨⟨_, zkz, ["_law_cell", "_law_many"], [], zkv F_L_stream n_range, He.glo_ok X G (c.fact 2 (f := .glo "_law_stream") rfl), F_L_stream.kp, FunD.bindsN F_L_stream (fun _ _ _ _ _ _ us hl => match us, hl with | [_, _], _ => rfl), .nil⟩, zgd⟩
  exact z3h
theorem hx_n_min (X : K.In h) (G : h.Ns mainGlobals mg) (c : He.SaysD fa fn K) (cx : (exs.all fun f => f K) = true) : mg "min" = none := by
  have n_min : mg "min" = none := He.free_ok X G (c.fact 3 (f := .free "min") rfl)
  exact n_min
theorem hx_f_L_holds (X : K.In h) (G : h.Ns mainGlobals mg) (c : He.SaysD fa fn K) (cx : (exs.all fun f => f K) = true) : Fn K mg base P w "_law_holds" 1 2 [] z1j := by
  obtain ⟨ziw, F_L_holds_v3⟩ := c.def_ 20 (d := zd7) rfl
  have z4m : Fn K mg base P w "_law_holds" 1 2 [] z1j := ⟨⟨_, ziw, ["_law_xs", "_law_length"], [], zio F_L_holds_v3, He.glo_ok X G (c.fact 4 (f := .glo "_law_holds") rfl), F_L_holds_v3.kp, FunD.bindsN F_L_holds_v3 (fun _ _ _ _ _ _ us hl => match us, hl with | [_, _], _ => rfl), .nil⟩, zf6⟩
  exact z4m
theorem hx_f_L_plain (X : K.In h) (G : h.Ns mainGlobals mg) (c : He.SaysD fa fn K) (cx : (exs.all fun f => f K) = true) : Fn K mg base P w "_law_plain" 2 3 [] z1a := by
  have z3h : Fn K mg base P w "_law_stream" 1 2 [] zo := hx_f_L_stream X G c cx
  have n_min : mg "min" = none := hx_n_min X G c cx
  have z4m : Fn K mg base P w "_law_holds" 1 2 [] z1j := hx_f_L_holds X G c cx
  obtain ⟨zhu, F_L_plain_v17⟩ := c.def_ 21 (d := zc2) rfl
  have z4n : Fn K mg base P w "_law_plain" 2 3 [] z1a := ⟨⟨_, zhu, ["_law_cell", "_law_unit", "_law_many"], [], zhn F_L_plain_v17 z3h n_min z4m, He.glo_ok X G (c.fact 5 (f := .glo "_law_plain") rfl), F_L_plain_v17.kp, FunD.bindsN F_L_plain_v17 (fun _ _ _ _ _ _ us hl => match us, hl with | [_, _, _], _ => rfl), .nil⟩, zew⟩
  exact z4n
theorem hx_n_list (X : K.In h) (G : h.Ns mainGlobals mg) (c : He.SaysD fa fn K) (cx : (exs.all fun f => f K) = true) : mg "list" = none := by
  have n_list : mg "list" = none := He.free_ok X G (c.fact 6 (f := .free "list") rfl)
  exact n_list
theorem hx_n_isinstance (X : K.In h) (G : h.Ns mainGlobals mg) (c : He.SaysD fa fn K) (cx : (exs.all fun f => f K) = true) : mg "isinstance" = none := by
  have n_isinstance : mg "isinstance" = none := He.free_ok X G (c.fact 7 (f := .free "isinstance") rfl)
  exact n_isinstance
theorem hx_n_str (X : K.In h) (G : h.Ns mainGlobals mg) (c : He.SaysD fa fn K) (cx : (exs.all fun f => f K) = true) : mg "str" = none := by
  have n_str : mg "str" = none := He.free_ok X G (c.fact 8 (f := .free "str") rfl)
  exact n_str
theorem hx_f_M_is_name (X : K.In h) (G : h.Ns mainGlobals mg) (c : He.SaysD fa fn K) (cx : (exs.all fun f => f K) = true) : Fn K mg base P w "is_name" 1 1 [] zn := by
  have n_isinstance : mg "isinstance" = none := hx_n_isinstance X G c cx
  have n_str : mg "str" = none := hx_n_str X G c cx
  have n_len : mg "len" = none := hx_n_len X G c cx
  obtain ⟨tk_MOST_SIGNS, g_MOST_SIGNS⟩ := He.int_ok X G (c.fact 9 (f := .int "MOST_SIGNS" 8) rfl)
  obtain ⟨tk_LETTERS, g_LETTERS⟩ := He.str_ok X G (c.fact 10 (f := .str "LETTERS" "abcdefghijklmnopqrstuvwxyz") rfl)
  obtain ⟨zkb, F_M_is_name⟩ := c.def_ 26 (d := zdw) rfl
  have zr : Fn K mg base P w "is_name" 1 1 [] zn := ⟨⟨_, zkb, ["thing"], [], zk4 F_M_is_name n_isinstance n_str n_len g_MOST_SIGNS g_LETTERS, He.glo_ok X G (c.fact 11 (f := .glo "is_name") rfl), F_M_is_name.kp, FunD.bindsN F_M_is_name (fun _ _ _ _ _ _ us hl => match us, hl with | [_], _ => rfl), .nil⟩, zfu⟩
  exact zr
theorem hx_n_int (X : K.In h) (G : h.Ns mainGlobals mg) (c : He.SaysD fa fn K) (cx : (exs.all fun f => f K) = true) : mg "int" = none := by
  have n_int : mg "int" = none := He.free_ok X G (c.fact 12 (f := .free "int") rfl)
  exact n_int
theorem hx_n_bool (X : K.In h) (G : h.Ns mainGlobals mg) (c : He.SaysD fa fn K) (cx : (exs.all fun f => f K) = true) : mg "bool" = none := by
  have n_bool : mg "bool" = none := He.free_ok X G (c.fact 13 (f := .free "bool") rfl)
  exact n_bool
theorem hx_f_M_is_whole (X : K.In h) (G : h.Ns mainGlobals mg) (c : He.SaysD fa fn K) (cx : (exs.all fun f => f K) = true) : Fn K mg base P w "is_whole" 1 1 [] z9 := by
  have n_isinstance : mg "isinstance" = none := hx_n_isinstance X G c cx
  have n_int : mg "int" = none := hx_n_int X G c cx
  have n_bool : mg "bool" = none := hx_n_bool X G c cx
  obtain ⟨zix, F_M_is_whole⟩ := c.def_ 12 (d := zd5) rfl
  have zc : Fn K mg base P w "is_whole" 1 1 [] z9 := ⟨⟨_, zix, ["thing"], [], zii F_M_is_whole n_isinstance n_int n_bool, He.glo_ok X G (c.fact 14 (f := .glo "is_whole") rfl), F_M_is_whole.kp, FunD.bindsN F_M_is_whole (fun _ _ _ _ _ _ us hl => match us, hl with | [_], _ => rfl), .nil⟩, zf4⟩
  exact zc
theorem hx_f_M_from_on (X : K.In h) (G : h.Ns mainGlobals mg) (c : He.SaysD fa fn K) (cx : (exs.all fun f => f K) = true) : Fn K mg base P w "from_on" 2 2 [] zp := by
  have zc : Fn K mg base P w "is_whole" 1 1 [] z9 := hx_f_M_is_whole X G c cx
  obtain ⟨zkc, F_M_from_on⟩ := c.def_ 31 (d := zdy) rfl
  have z1x : Fn K mg base P w "from_on" 2 2 [] zp := ⟨⟨_, zkc, ["thing", "low"], [], zka F_M_from_on zc, He.glo_ok X G (c.fact 15 (f := .glo "from_on") rfl), F_M_from_on.kp, FunD.bindsN F_M_from_on (fun _ _ _ _ _ _ us hl => match us, hl with | [_, _], _ => rfl), .nil⟩, zfw⟩
  exact z1x
theorem hx_x_BadWork (X : K.In h) (G : h.Ns mainGlobals mg) (c : He.SaysD fa fn K) (cx : (exs.all fun f => f K) = true) : ExC K mg .BadWork := by
  have x_BadWork : ExC K mg .BadWork := by
    obtain ⟨q1, q2, q3, q4⟩ := He.exc_ok (c.fact 16 (f := .exc "BadWork") rfl)
    exact ⟨⟨_, q1, rfl⟩, q2, q3, q4, He.glo_ok X G (c.fact 17 (f := .glo "BadWork") rfl), He.eqO_ok (c.fact 17 (f := .glo "BadWork") rfl)⟩
  exact x_BadWork
theorem hx_n_tuple (X : K.In h) (G : h.Ns mainGlobals mg) (c : He.SaysD fa fn K) (cx : (exs.all fun f => f K) = true) : mg "tuple" = none := by
  have n_tuple : mg "tuple" = none := He.free_ok X G (c.fact 19 (f := .free "tuple") rfl)
  exact n_tuple
theorem hx_f_M_is_hold (X : K.In h) (G : h.Ns mainGlobals mg) (c : He.SaysD fa fn K) (cx : (exs.all fun f => f K) = true) : Fn K mg base P w "is_hold" 2 2 [] z1y := by
  have n_isinstance : mg "isinstance" = none := hx_n_isinstance X G c cx
  have n_tuple : mg "tuple" = none := hx_n_tuple X G c cx
  have n_len : mg "len" = none := hx_n_len X G c cx
  have zr : Fn K mg base P w "is_name" 1 1 [] zn := hx_f_M_is_name X G c cx
  have zc : Fn K mg base P w "is_whole" 1 1 [] z9 := hx_f_M_is_whole X G c cx
  obtain ⟨zkd, F_M_is_hold⟩ := c.def_ 27 (d := zdx) rfl
  have z2t : Fn K mg base P w "is_hold" 2 2 [] z1y := ⟨⟨_, zkd, ["thing", "length"], [], zk7 F_M_is_hold n_isinstance n_tuple n_len zr zc, He.glo_ok X G (c.fact 20 (f := .glo "is_hold") rfl), F_M_is_hold.kp, FunD.bindsN F_M_is_hold (fun _ _ _ _ _ _ us hl => match us, hl with | [_, _], _ => rfl), .nil⟩, zfv⟩
  exact z2t
theorem hx_f_M_within (X : K.In h) (G : h.Ns mainGlobals mg) (c : He.SaysD fa fn K) (cx : (exs.all fun f => f K) = true) : Fn K mg base P w "within" 1 2 [] z1w := by
  obtain ⟨zl0, F_M_within⟩ := c.def_ 28 (d := zfl) rfl
  have z2j : Fn K mg base P w "within" 1 2 [] z1w := ⟨⟨_, zl0, ["one", "other"], [], zky F_M_within, He.glo_ok X G (c.fact 21 (f := .glo "within") rfl), F_M_within.kp, FunD.bindsN F_M_within (fun _ _ _ _ _ _ us hl => match us, hl with | [_, _], _ => rfl), .nil⟩, zga⟩
  exact z2j
theorem hx_f_M_together (X : K.In h) (G : h.Ns mainGlobals mg) (c : He.SaysD fa fn K) (cx : (exs.all fun f => f K) = true) : Fn K mg base P w "together" 2 2 [] z1i := by
  have z2j : Fn K mg base P w "within" 1 2 [] z1w := hx_f_M_within X G c cx
  obtain ⟨ziy, F_M_together⟩ := c.def_ 29 (d := zd9) rfl
  have z2b : Fn K mg base P w "together" 2 2 [] z1i := ⟨⟨_, ziy, ["one", "other"], [], ziv F_M_together z2j, He.glo_ok X G (c.fact 22 (f := .glo "together") rfl), F_M_together.kp, FunD.bindsN F_M_together (fun _ _ _ _ _ _ us hl => match us, hl with | [_, _], _ => rfl), .nil⟩, zf5⟩
  exact z2b
theorem hx_f_M_holds_fit (X : K.In h) (G : h.Ns mainGlobals mg) (c : He.SaysD fa fn K) (cx : (exs.all fun f => f K) = true) : Fn K mg base P w "holds_fit" 3 2 [] z19 := by
  have n_isinstance : mg "isinstance" = none := hx_n_isinstance X G c cx
  have n_list : mg "list" = none := hx_n_list X G c cx
  have n_len : mg "len" = none := hx_n_len X G c cx
  obtain ⟨tk_MOST_HOLDS, g_MOST_HOLDS⟩ := He.int_ok X G (c.fact 18 (f := .int "MOST_HOLDS" 6) rfl)
  have n_range : mg "range" = none := hx_n_range X G c cx
  have z2t : Fn K mg base P w "is_hold" 2 2 [] z1y := hx_f_M_is_hold X G c cx
  have z2b : Fn K mg base P w "together" 2 2 [] z1i := hx_f_M_together X G c cx
  obtain ⟨zhv, F_M_holds_fit⟩ := c.def_ 30 (d := zc3) rfl
  have z27 : Fn K mg base P w "holds_fit" 3 2 [] z19 := ⟨⟨_, zhv, ["holds", "length"], [], zhq F_M_holds_fit n_isinstance n_list n_len g_MOST_HOLDS n_range z2t z2b, He.glo_ok X G (c.fact 23 (f := .glo "holds_fit") rfl), F_M_holds_fit.kp, FunD.bindsN F_M_holds_fit (fun _ _ _ _ _ _ us hl => match us, hl with | [_, _], _ => rfl), .nil⟩, ze0⟩
  exact z27
theorem hx_a_name (X : K.In h) (G : h.Ns mainGlobals mg) (c : He.SaysD fa fn K) (cx : (exs.all fun f => f K) = true) : ∀ c, c ∈ ([.Work] : List Cn) → Cls K (He.ga K c.str) ∧ NoAttr K (He.ga K c.str) (Fd.name).str := by
  have a_name : ∀ c, c ∈ ([.Work] : List Cn) → Cls K (He.ga K c.str) ∧ NoAttr K (He.ga K c.str) (Fd.name).str := by
    intro z hz
    simp only [List.mem_cons, List.mem_nil_iff, or_false] at hz
    subst hz
    exact ⟨He.cls_ok (c.fact 24 (f := .cls "Work") rfl), He.noat_ok (c.fact 25 (f := .noat "Work" "name") rfl)⟩
  exact a_name
theorem hx_a_gap (X : K.In h) (G : h.Ns mainGlobals mg) (c : He.SaysD fa fn K) (cx : (exs.all fun f => f K) = true) : ∀ c, c ∈ ([.Work] : List Cn) → Cls K (He.ga K c.str) ∧ NoAttr K (He.ga K c.str) (Fd.gap).str := by
  have a_gap : ∀ c, c ∈ ([.Work] : List Cn) → Cls K (He.ga K c.str) ∧ NoAttr K (He.ga K c.str) (Fd.gap).str := by
    intro z hz
    simp only [List.mem_cons, List.mem_nil_iff, or_false] at hz
    subst hz
    exact ⟨He.cls_ok (c.fact 24 (f := .cls "Work") rfl), He.noat_ok (c.fact 26 (f := .noat "Work" "gap") rfl)⟩
  exact a_gap
theorem hx_a_length (X : K.In h) (G : h.Ns mainGlobals mg) (c : He.SaysD fa fn K) (cx : (exs.all fun f => f K) = true) : ∀ c, c ∈ ([.Work] : List Cn) → Cls K (He.ga K c.str) ∧ NoAttr K (He.ga K c.str) (Fd.length).str := by
  have a_length : ∀ c, c ∈ ([.Work] : List Cn) → Cls K (He.ga K c.str) ∧ NoAttr K (He.ga K c.str) (Fd.length).str := by
    intro z hz
    simp only [List.mem_cons, List.mem_nil_iff, or_false] at hz
    subst hz
    exact ⟨He.cls_ok (c.fact 24 (f := .cls "Work") rfl), He.noat_ok (c.fact 27 (f := .noat "Work" "length") rfl)⟩
  exact a_length
theorem hx_a_due (X : K.In h) (G : h.Ns mainGlobals mg) (c : He.SaysD fa fn K) (cx : (exs.all fun f => f K) = true) : ∀ c, c ∈ ([.Work] : List Cn) → Cls K (He.ga K c.str) ∧ NoAttr K (He.ga K c.str) (Fd.due).str := by
  have a_due : ∀ c, c ∈ ([.Work] : List Cn) → Cls K (He.ga K c.str) ∧ NoAttr K (He.ga K c.str) (Fd.due).str := by
    intro z hz
    simp only [List.mem_cons, List.mem_nil_iff, or_false] at hz
    subst hz
    exact ⟨He.cls_ok (c.fact 24 (f := .cls "Work") rfl), He.noat_ok (c.fact 28 (f := .noat "Work" "due") rfl)⟩
  exact a_due
theorem hx_a_late (X : K.In h) (G : h.Ns mainGlobals mg) (c : He.SaysD fa fn K) (cx : (exs.all fun f => f K) = true) : ∀ c, c ∈ ([.Work] : List Cn) → Cls K (He.ga K c.str) ∧ NoAttr K (He.ga K c.str) (Fd.late).str := by
  have a_late : ∀ c, c ∈ ([.Work] : List Cn) → Cls K (He.ga K c.str) ∧ NoAttr K (He.ga K c.str) (Fd.late).str := by
    intro z hz
    simp only [List.mem_cons, List.mem_nil_iff, or_false] at hz
    subst hz
    exact ⟨He.cls_ok (c.fact 24 (f := .cls "Work") rfl), He.noat_ok (c.fact 29 (f := .noat "Work" "late") rfl)⟩
  exact a_late
theorem hx_a_sections (X : K.In h) (G : h.Ns mainGlobals mg) (c : He.SaysD fa fn K) (cx : (exs.all fun f => f K) = true) : ∀ c, c ∈ ([.Work] : List Cn) → Cls K (He.ga K c.str) ∧ NoAttr K (He.ga K c.str) (Fd.sections).str := by
  have a_sections : ∀ c, c ∈ ([.Work] : List Cn) → Cls K (He.ga K c.str) ∧ NoAttr K (He.ga K c.str) (Fd.sections).str := by
    intro z hz
    simp only [List.mem_cons, List.mem_nil_iff, or_false] at hz
    subst hz
    exact ⟨He.cls_ok (c.fact 24 (f := .cls "Work") rfl), He.noat_ok (c.fact 30 (f := .noat "Work" "sections") rfl)⟩
  exact a_sections
theorem hx_c_Work_6 (X : K.In h) (G : h.Ns mainGlobals mg) (c : He.SaysD fa fn K) (cx : (exs.all fun f => f K) = true) : McA K mg base P w .Work 4 6 [] ze := by
  have zr : Fn K mg base P w "is_name" 1 1 [] zn := hx_f_M_is_name X G c cx
  have z1x : Fn K mg base P w "from_on" 2 2 [] zp := hx_f_M_from_on X G c cx
  have x_BadWork : ExC K mg .BadWork := hx_x_BadWork X G c cx
  have z27 : Fn K mg base P w "holds_fit" 3 2 [] z19 := hx_f_M_holds_fit X G c cx
  have a_name : ∀ c, c ∈ ([.Work] : List Cn) → Cls K (He.ga K c.str) ∧ NoAttr K (He.ga K c.str) (Fd.name).str := hx_a_name X G c cx
  have a_gap : ∀ c, c ∈ ([.Work] : List Cn) → Cls K (He.ga K c.str) ∧ NoAttr K (He.ga K c.str) (Fd.gap).str := hx_a_gap X G c cx
  have a_length : ∀ c, c ∈ ([.Work] : List Cn) → Cls K (He.ga K c.str) ∧ NoAttr K (He.ga K c.str) (Fd.length).str := hx_a_length X G c cx
  have a_due : ∀ c, c ∈ ([.Work] : List Cn) → Cls K (He.ga K c.str) ∧ NoAttr K (He.ga K c.str) (Fd.due).str := hx_a_due X G c cx
  have a_late : ∀ c, c ∈ ([.Work] : List Cn) → Cls K (He.ga K c.str) ∧ NoAttr K (He.ga K c.str) (Fd.late).str := hx_a_late X G c cx
  have a_sections : ∀ c, c ∈ ([.Work] : List Cn) → Cls K (He.ga K c.str) ∧ NoAttr K (He.ga K c.str) (Fd.sections).str := hx_a_sections X G c cx
  have n_list : mg "list" = none := hx_n_list X G c cx
  obtain ⟨zhw, F_M_Work_init⟩ := c.def_ 32 (d := zc4) rfl
  have O_M_Work_init := zht (P := P) (w := w) (mg := mg) (base := base) F_M_Work_init zr z1x x_BadWork z27 a_name a_gap a_length a_due a_late a_sections n_list
  obtain ⟨ds_c_Work_6, vd_c_Work_6, bd_c_Work_6⟩ := FunD.binds1 (ps := ["self", "name", "gap", "length", "due", "late", "holds"]) F_M_Work_init 7 3 (List.cons_ne_nil _ _) (by rfl) (fun T _ _ _ _ _ _ us its hl hi => match us, hl, its, hi with | [_, _, _, _, _, _, _], _, [_, _, _], _ => ⟨_, rfl, rfl⟩)
  have c_Work_6 : McA K mg base P w .Work 4 6 [] ze := ⟨⟨_, zhw, ["self", "name", "gap", "length", "due", "late", "holds"], ds_c_Work_6, He.mkr_ok (c.fact 31 (f := .mkr "Work") rfl), O_M_Work_init, He.glo_ok X G (c.fact 32 (f := .glo "Work") rfl), bd_c_Work_6, vd_c_Work_6⟩, ze1⟩
  exact c_Work_6
theorem hx_x_BadDuty (X : K.In h) (G : h.Ns mainGlobals mg) (c : He.SaysD fa fn K) (cx : (exs.all fun f => f K) = true) : ExC K mg .BadDuty := by
  have x_BadDuty : ExC K mg .BadDuty := by
    obtain ⟨q1, q2, q3, q4⟩ := He.exc_ok (c.fact 33 (f := .exc "BadDuty") rfl)
    exact ⟨⟨_, q1, rfl⟩, q2, q3, q4, He.glo_ok X G (c.fact 34 (f := .glo "BadDuty") rfl), He.eqO_ok (c.fact 34 (f := .glo "BadDuty") rfl)⟩
  exact x_BadDuty
theorem hx_a_works (X : K.In h) (G : h.Ns mainGlobals mg) (c : He.SaysD fa fn K) (cx : (exs.all fun f => f K) = true) : ∀ c, c ∈ ([.Duty] : List Cn) → Cls K (He.ga K c.str) ∧ NoAttr K (He.ga K c.str) (Fd.works).str := by
  have a_works : ∀ c, c ∈ ([.Duty] : List Cn) → Cls K (He.ga K c.str) ∧ NoAttr K (He.ga K c.str) (Fd.works).str := by
    intro z hz
    simp only [List.mem_cons, List.mem_nil_iff, or_false] at hz
    subst hz
    exact ⟨He.cls_ok (c.fact 35 (f := .cls "Duty") rfl), He.noat_ok (c.fact 36 (f := .noat "Duty" "works") rfl)⟩
  exact a_works
theorem hx_a_numbers (X : K.In h) (G : h.Ns mainGlobals mg) (c : He.SaysD fa fn K) (cx : (exs.all fun f => f K) = true) : ∀ c, c ∈ ([.Duty] : List Cn) → Cls K (He.ga K c.str) ∧ NoAttr K (He.ga K c.str) (Fd.numbers).str := by
  have a_numbers : ∀ c, c ∈ ([.Duty] : List Cn) → Cls K (He.ga K c.str) ∧ NoAttr K (He.ga K c.str) (Fd.numbers).str := by
    intro z hz
    simp only [List.mem_cons, List.mem_nil_iff, or_false] at hz
    subst hz
    exact ⟨He.cls_ok (c.fact 35 (f := .cls "Duty") rfl), He.noat_ok (c.fact 37 (f := .noat "Duty" "numbers") rfl)⟩
  exact a_numbers
theorem hx_i_Work (X : K.In h) (G : h.Ns mainGlobals mg) (c : He.SaysD fa fn K) (cx : (exs.all fun f => f K) = true) : IsF K mg [.Work, .Duty] .Work := by
  have i_Work : IsF K mg [.Work, .Duty] .Work := ⟨He.glo_ok X G (c.fact 32 (f := .glo "Work") rfl), kitNo_ok (exFact cx 4 (f := kitNo "Work") rfl), by
    intro z hz
    simp only [List.mem_cons, List.mem_nil_iff, or_false] at hz
    rcases hz with rfl | rfl
    · exact ⟨He.cls_ok (c.fact 24 (f := .cls "Work") rfl), tyOwn_ok (exFact cx 0 (f := tyOwn "Work") rfl), kitIs_ok (b := true) (exFact cx 1 (f := kitIs "Work" "Work" true) rfl)⟩
    · exact ⟨He.cls_ok (c.fact 35 (f := .cls "Duty") rfl), tyOwn_ok (exFact cx 2 (f := tyOwn "Duty") rfl), kitIs_ok (b := false) (exFact cx 3 (f := kitIs "Duty" "Work" false) rfl)⟩⟩
  exact i_Work
theorem hx_n_max (X : K.In h) (G : h.Ns mainGlobals mg) (c : He.SaysD fa fn K) (cx : (exs.all fun f => f K) = true) : mg "max" = none := by
  have n_max : mg "max" = none := He.free_ok X G (c.fact 39 (f := .free "max") rfl)
  exact n_max
theorem hx_n_divmod (X : K.In h) (G : h.Ns mainGlobals mg) (c : He.SaysD fa fn K) (cx : (exs.all fun f => f K) = true) : mg "divmod" = none := by
  have n_divmod : mg "divmod" = none := He.free_ok X G (c.fact 40 (f := .free "divmod") rfl)
  exact n_divmod
theorem hx_f_M_rounds_up (X : K.In h) (G : h.Ns mainGlobals mg) (c : He.SaysD fa fn K) (cx : (exs.all fun f => f K) = true) : Fn K mg base P w "rounds_up" 1 2 [] zg := by
  have n_divmod : mg "divmod" = none := hx_n_divmod X G c cx
  obtain ⟨zhx, F_M_rounds_up⟩ := c.def_ 0 (d := zbx) rfl
  have zk : Fn K mg base P w "rounds_up" 1 2 [] zg := ⟨⟨_, zhx, ["top", "bottom"], [], zh8 F_M_rounds_up n_divmod, He.glo_ok X G (c.fact 41 (f := .glo "rounds_up") rfl), F_M_rounds_up.kp, FunD.bindsN F_M_rounds_up (fun _ _ _ _ _ _ us hl => match us, hl with | [_, _], _ => rfl), .nil⟩, zdz⟩
  exact zk
theorem hx_m_Duty_crowd (X : K.In h) (G : h.Ns mainGlobals mg) (c : He.SaysD fa fn K) (cx : (exs.all fun f => f K) = true) : Mm K mg base P w "crowd" .Duty 2 1 [] zt := by
  have a_works : ∀ c, c ∈ ([.Duty] : List Cn) → Cls K (He.ga K c.str) ∧ NoAttr K (He.ga K c.str) (Fd.works).str := hx_a_works X G c cx
  have a_due : ∀ c, c ∈ ([.Work] : List Cn) → Cls K (He.ga K c.str) ∧ NoAttr K (He.ga K c.str) (Fd.due).str := hx_a_due X G c cx
  have n_max : mg "max" = none := hx_n_max X G c cx
  have a_late : ∀ c, c ∈ ([.Work] : List Cn) → Cls K (He.ga K c.str) ∧ NoAttr K (He.ga K c.str) (Fd.late).str := hx_a_late X G c cx
  have a_gap : ∀ c, c ∈ ([.Work] : List Cn) → Cls K (He.ga K c.str) ∧ NoAttr K (He.ga K c.str) (Fd.gap).str := hx_a_gap X G c cx
  have zk : Fn K mg base P w "rounds_up" 1 2 [] zg := hx_f_M_rounds_up X G c cx
  obtain ⟨zgt, F_M_Duty_crowd⟩ := c.def_ 1 (d := zbe) rfl
  have m_Duty_crowd : Mm K mg base P w "crowd" .Duty 2 1 [] zt := ⟨He.cls_ok (c.fact 35 (f := .cls "Duty") rfl), ⟨_, zgt, ["self"], [], He.meth_ok (c.fact 42 (f := .meth "Duty" "crowd") rfl), zgp F_M_Duty_crowd a_works a_due n_max a_late a_gap zk, FunD.bindsN F_M_Duty_crowd (fun _ _ _ _ _ _ us hl => match us, hl with | [_], _ => rfl), .nil⟩, zdh⟩
  exact m_Duty_crowd
theorem hx_x_TooMany (X : K.In h) (G : h.Ns mainGlobals mg) (c : He.SaysD fa fn K) (cx : (exs.all fun f => f K) = true) : ExC K mg .TooMany := by
  have x_TooMany : ExC K mg .TooMany := by
    obtain ⟨q1, q2, q3, q4⟩ := He.exc_ok (c.fact 44 (f := .exc "TooMany") rfl)
    exact ⟨⟨_, q1, rfl⟩, q2, q3, q4, He.glo_ok X G (c.fact 45 (f := .glo "TooMany") rfl), He.eqO_ok (c.fact 45 (f := .glo "TooMany") rfl)⟩
  exact x_TooMany
theorem hx_c_Duty_1 (X : K.In h) (G : h.Ns mainGlobals mg) (c : He.SaysD fa fn K) (cx : (exs.all fun f => f K) = true) : McA K mg base P w .Duty 3 1 [] zb := by
  have n_isinstance : mg "isinstance" = none := hx_n_isinstance X G c cx
  have n_list : mg "list" = none := hx_n_list X G c cx
  have x_BadDuty : ExC K mg .BadDuty := hx_x_BadDuty X G c cx
  have a_works : ∀ c, c ∈ ([.Duty] : List Cn) → Cls K (He.ga K c.str) ∧ NoAttr K (He.ga K c.str) (Fd.works).str := hx_a_works X G c cx
  have a_numbers : ∀ c, c ∈ ([.Duty] : List Cn) → Cls K (He.ga K c.str) ∧ NoAttr K (He.ga K c.str) (Fd.numbers).str := hx_a_numbers X G c cx
  have n_len : mg "len" = none := hx_n_len X G c cx
  have i_Work : IsF K mg [.Work, .Duty] .Work := hx_i_Work X G c cx
  have a_name : ∀ c, c ∈ ([.Work] : List Cn) → Cls K (He.ga K c.str) ∧ NoAttr K (He.ga K c.str) (Fd.name).str := hx_a_name X G c cx
  have n_range : mg "range" = none := hx_n_range X G c cx
  obtain ⟨tk_MOST_WORKS, g_MOST_WORKS⟩ := He.int_ok X G (c.fact 38 (f := .int "MOST_WORKS" 12) rfl)
  have m_Duty_crowd : Mm K mg base P w "crowd" .Duty 2 1 [] zt := hx_m_Duty_crowd X G c cx
  obtain ⟨tk_MOST_CROWD, g_MOST_CROWD⟩ := He.int_ok X G (c.fact 43 (f := .int "MOST_CROWD" 80) rfl)
  have x_TooMany : ExC K mg .TooMany := hx_x_TooMany X G c cx
  obtain ⟨zhy, F_M_Duty_init⟩ := c.def_ 2 (d := zby) rfl
  have O_M_Duty_init := zhb (P := P) (w := w) (mg := mg) (base := base) F_M_Duty_init n_isinstance n_list x_BadDuty a_works a_numbers n_len i_Work a_name n_range g_MOST_WORKS m_Duty_crowd g_MOST_CROWD x_TooMany
  have c_Duty_1 : McA K mg base P w .Duty 3 1 [] zb := ⟨⟨_, zhy, ["self", "works"], [], He.mkr_ok (c.fact 46 (f := .mkr "Duty") rfl), O_M_Duty_init, He.glo_ok X G (c.fact 47 (f := .glo "Duty") rfl), FunD.bindsN F_M_Duty_init (fun _ _ _ _ _ _ us hl => match us, hl with | [_, _], _ => rfl), .nil⟩, ze5⟩
  exact c_Duty_1
theorem hx_k_NoRanks (X : K.In h) (G : h.Ns mainGlobals mg) (c : He.SaysD fa fn K) (cx : (exs.all fun f => f K) = true) : CatC K mg .NoRanks := by
  have k_NoRanks : CatC K mg .NoRanks := ⟨He.glo_ok X G (c.fact 48 (f := .glo "NoRanks") rfl), catB_ok (exFact cx 5 (f := catB .NoRanks) rfl)⟩
  exact k_NoRanks
theorem hx_m_Duty_size (X : K.In h) (G : h.Ns mainGlobals mg) (c : He.SaysD fa fn K) (cx : (exs.all fun f => f K) = true) : Mm K mg base P w "size" .Duty 1 1 [] z8 := by
  have a_works : ∀ c, c ∈ ([.Duty] : List Cn) → Cls K (He.ga K c.str) ∧ NoAttr K (He.ga K c.str) (Fd.works).str := hx_a_works X G c cx
  have n_len : mg "len" = none := hx_n_len X G c cx
  obtain ⟨zhz, F_M_Duty_size⟩ := c.def_ 3 (d := zbz) rfl
  have m_Duty_size : Mm K mg base P w "size" .Duty 1 1 [] z8 := ⟨He.cls_ok (c.fact 35 (f := .cls "Duty") rfl), ⟨_, zhz, ["self"], [], He.meth_ok (c.fact 49 (f := .meth "Duty" "size") rfl), zhe F_M_Duty_size a_works n_len, FunD.bindsN F_M_Duty_size (fun _ _ _ _ _ _ us hl => match us, hl with | [_], _ => rfl), .nil⟩, ze3⟩
  exact m_Duty_size
theorem hx_n_reversed (X : K.In h) (G : h.Ns mainGlobals mg) (c : He.SaysD fa fn K) (cx : (exs.all fun f => f K) = true) : mg "reversed" = none := by
  have n_reversed : mg "reversed" = none := He.free_ok X G (c.fact 50 (f := .free "reversed") rfl)
  exact n_reversed
theorem hx_n_all (X : K.In h) (G : h.Ns mainGlobals mg) (c : He.SaysD fa fn K) (cx : (exs.all fun f => f K) = true) : mg "all" = none := by
  have n_all : mg "all" = none := He.free_ok X G (c.fact 51 (f := .free "all") rfl)
  exact n_all
theorem hx_n_sorted (X : K.In h) (G : h.Ns mainGlobals mg) (c : He.SaysD fa fn K) (cx : (exs.all fun f => f K) = true) : mg "sorted" = none := by
  have n_sorted : mg "sorted" = none := He.free_ok X G (c.fact 52 (f := .free "sorted") rfl)
  exact n_sorted
theorem hx_m_Duty_reordered (X : K.In h) (G : h.Ns mainGlobals mg) (c : He.SaysD fa fn K) (cx : (exs.all fun f => f K) = true) : Mm K mg base P w "reordered" .Duty 5 2 [] zf := by
  have n_isinstance : mg "isinstance" = none := hx_n_isinstance X G c cx
  have n_list : mg "list" = none := hx_n_list X G c cx
  have zc : Fn K mg base P w "is_whole" 1 1 [] z9 := hx_f_M_is_whole X G c cx
  have n_all : mg "all" = none := hx_n_all X G c cx
  have x_BadDuty : ExC K mg .BadDuty := hx_x_BadDuty X G c cx
  have n_sorted : mg "sorted" = none := hx_n_sorted X G c cx
  have a_works : ∀ c, c ∈ ([.Duty] : List Cn) → Cls K (He.ga K c.str) ∧ NoAttr K (He.ga K c.str) (Fd.works).str := hx_a_works X G c cx
  have n_len : mg "len" = none := hx_n_len X G c cx
  have n_range : mg "range" = none := hx_n_range X G c cx
  have c_Duty_1 : McA K mg base P w .Duty 3 1 [] zb := hx_c_Duty_1 X G c cx
  obtain ⟨zdo, F_M_Duty_reordered⟩ := c.def_ 13 (d := z72) rfl
  have m_Duty_reordered : Mm K mg base P w "reordered" .Duty 5 2 [] zf := ⟨He.cls_ok (c.fact 35 (f := .cls "Duty") rfl), ⟨_, zdo, ["self", "places"], [], He.meth_ok (c.fact 53 (f := .meth "Duty" "reordered") rfl), zdn F_M_Duty_reordered n_isinstance n_list zc n_all x_BadDuty n_sorted a_works n_len n_range c_Duty_1, FunD.bindsN F_M_Duty_reordered (fun _ _ _ _ _ _ us hl => match us, hl with | [_, _], _ => rfl), .nil⟩, zbd⟩
  exact m_Duty_reordered
theorem hx_m_Duty_work (X : K.In h) (G : h.Ns mainGlobals mg) (c : He.SaysD fa fn K) (cx : (exs.all fun f => f K) = true) : Mm K mg base P w "work" .Duty 1 2 [] z7 := by
  have a_works : ∀ c, c ∈ ([.Duty] : List Cn) → Cls K (He.ga K c.str) ∧ NoAttr K (He.ga K c.str) (Fd.works).str := hx_a_works X G c cx
  obtain ⟨zi0, F_M_Duty_work⟩ := c.def_ 5 (d := zc1) rfl
  have m_Duty_work : Mm K mg base P w "work" .Duty 1 2 [] z7 := ⟨He.cls_ok (c.fact 35 (f := .cls "Duty") rfl), ⟨_, zi0, ["self", "at"], [], He.meth_ok (c.fact 54 (f := .meth "Duty" "work") rfl), zhk F_M_Duty_work a_works, FunD.bindsN F_M_Duty_work (fun _ _ _ _ _ _ us hl => match us, hl with | [_, _], _ => rfl), .nil⟩, ze4⟩
  exact m_Duty_work
theorem hx_m_Work_held (X : K.In h) (G : h.Ns mainGlobals mg) (c : He.SaysD fa fn K) (cx : (exs.all fun f => f K) = true) : Mm K mg base P w "held" .Work 1 1 [] za := by
  have a_sections : ∀ c, c ∈ ([.Work] : List Cn) → Cls K (He.ga K c.str) ∧ NoAttr K (He.ga K c.str) (Fd.sections).str := hx_a_sections X G c cx
  have n_list : mg "list" = none := hx_n_list X G c cx
  obtain ⟨zi1, F_M_Work_held⟩ := c.def_ 4 (d := zc0) rfl
  have m_Work_held : Mm K mg base P w "held" .Work 1 1 [] za := ⟨He.cls_ok (c.fact 24 (f := .cls "Work") rfl), ⟨_, zi1, ["self"], [], He.meth_ok (c.fact 55 (f := .meth "Work" "held") rfl), zhh F_M_Work_held a_sections n_list, FunD.bindsN F_M_Work_held (fun _ _ _ _ _ _ us hl => match us, hl with | [_], _ => rfl), .nil⟩, ze2⟩
  exact m_Work_held
theorem hx_f_M_ceiling (X : K.In h) (G : h.Ns mainGlobals mg) (c : He.SaysD fa fn K) (cx : (exs.all fun f => f K) = true) : Fn K mg base P w "ceiling" 2 2 [] z1f := by
  have m_Duty_size : Mm K mg base P w "size" .Duty 1 1 [] z8 := hx_m_Duty_size X G c cx
  have n_range : mg "range" = none := hx_n_range X G c cx
  have m_Duty_work : Mm K mg base P w "work" .Duty 1 2 [] z7 := hx_m_Duty_work X G c cx
  have m_Work_held : Mm K mg base P w "held" .Work 1 1 [] za := hx_m_Work_held X G c cx
  obtain ⟨zke, F_M_ceiling⟩ := c.def_ 6 (d := zdp) rfl
  have z2o : Fn K mg base P w "ceiling" 2 2 [] z1f := ⟨⟨_, zke, ["duty", "thing"], [], zjj F_M_ceiling m_Duty_size n_range m_Duty_work m_Work_held, He.glo_ok X G (c.fact 56 (f := .glo "ceiling") rfl), F_M_ceiling.kp, FunD.bindsN F_M_ceiling (fun _ _ _ _ _ _ us hl => match us, hl with | [_, _], _ => rfl), .nil⟩, zfx⟩
  exact z2o
theorem hx_f_M_hold_up (X : K.In h) (G : h.Ns mainGlobals mg) (c : He.SaysD fa fn K) (cx : (exs.all fun f => f K) = true) : Fn K mg base P w "hold_up" 3 2 [] z1z := by
  have m_Duty_size : Mm K mg base P w "size" .Duty 1 1 [] z8 := hx_m_Duty_size X G c cx
  have n_range : mg "range" = none := hx_n_range X G c cx
  have m_Duty_work : Mm K mg base P w "work" .Duty 1 2 [] z7 := hx_m_Duty_work X G c cx
  have m_Work_held : Mm K mg base P w "held" .Work 1 1 [] za := hx_m_Work_held X G c cx
  have z2o : Fn K mg base P w "ceiling" 2 2 [] z1f := hx_f_M_ceiling X G c cx
  have n_max : mg "max" = none := hx_n_max X G c cx
  obtain ⟨zkf, F_M_hold_up⟩ := c.def_ 7 (d := zdq) rfl
  have z2p : Fn K mg base P w "hold_up" 3 2 [] z1z := ⟨⟨_, zkf, ["duty", "at"], [], zjm F_M_hold_up m_Duty_size n_range m_Duty_work m_Work_held z2o n_max, He.glo_ok X G (c.fact 57 (f := .glo "hold_up") rfl), F_M_hold_up.kp, FunD.bindsN F_M_hold_up (fun _ _ _ _ _ _ us hl => match us, hl with | [_, _], _ => rfl), .nil⟩, zfy⟩
  exact z2p
theorem hx_f_M_comings_in (X : K.In h) (G : h.Ns mainGlobals mg) (c : He.SaysD fa fn K) (cx : (exs.all fun f => f K) = true) : Fn K mg base P w "comings_in" 2 2 [] zu := by
  have a_late : ∀ c, c ∈ ([.Work] : List Cn) → Cls K (He.ga K c.str) ∧ NoAttr K (He.ga K c.str) (Fd.late).str := hx_a_late X G c cx
  have a_gap : ∀ c, c ∈ ([.Work] : List Cn) → Cls K (He.ga K c.str) ∧ NoAttr K (He.ga K c.str) (Fd.gap).str := hx_a_gap X G c cx
  have zk : Fn K mg base P w "rounds_up" 1 2 [] zg := hx_f_M_rounds_up X G c cx
  obtain ⟨zgu, F_M_comings_in⟩ := c.def_ 8 (d := zbf) rfl
  have z22 : Fn K mg base P w "comings_in" 2 2 [] zu := ⟨⟨_, zgu, ["work", "span"], [], zgs F_M_comings_in a_late a_gap zk, He.glo_ok X G (c.fact 58 (f := .glo "comings_in") rfl), F_M_comings_in.kp, FunD.bindsN F_M_comings_in (fun _ _ _ _ _ _ us hl => match us, hl with | [_, _], _ => rfl), .nil⟩, zdi⟩
  exact z22
theorem hx_f_M_load (X : K.In h) (G : h.Ns mainGlobals mg) (c : He.SaysD fa fn K) (cx : (exs.all fun f => f K) = true) : Fn K mg base P w "load" 4 3 [] z28 := by
  have z2p : Fn K mg base P w "hold_up" 3 2 [] z1z := hx_f_M_hold_up X G c cx
  have m_Duty_work : Mm K mg base P w "work" .Duty 1 2 [] z7 := hx_m_Duty_work X G c cx
  have a_length : ∀ c, c ∈ ([.Work] : List Cn) → Cls K (He.ga K c.str) ∧ NoAttr K (He.ga K c.str) (Fd.length).str := hx_a_length X G c cx
  have n_range : mg "range" = none := hx_n_range X G c cx
  have z22 : Fn K mg base P w "comings_in" 2 2 [] zu := hx_f_M_comings_in X G c cx
  obtain ⟨zl7, F_M_load⟩ := c.def_ 9 (d := zi2) rfl
  have z4l : Fn K mg base P w "load" 4 3 [] z28 := ⟨⟨_, zl7, ["duty", "at", "span"], [], zl6 F_M_load z2p m_Duty_work a_length n_range z22, He.glo_ok X G (c.fact 59 (f := .glo "load") rfl), F_M_load.kp, FunD.bindsN F_M_load (fun _ _ _ _ _ _ us hl => match us, hl with | [_, _, _], _ => rfl), .nil⟩, zi9⟩
  exact z4l
theorem hx_f_M_in_time (X : K.In h) (G : h.Ns mainGlobals mg) (c : He.SaysD fa fn K) (cx : (exs.all fun f => f K) = true) : Fn K mg base P w "in_time" 2 3 [] z20 := by
  have m_Duty_work : Mm K mg base P w "work" .Duty 1 2 [] z7 := hx_m_Duty_work X G c cx
  have a_late : ∀ c, c ∈ ([.Work] : List Cn) → Cls K (He.ga K c.str) ∧ NoAttr K (He.ga K c.str) (Fd.late).str := hx_a_late X G c cx
  have a_due : ∀ c, c ∈ ([.Work] : List Cn) → Cls K (He.ga K c.str) ∧ NoAttr K (He.ga K c.str) (Fd.due).str := hx_a_due X G c cx
  obtain ⟨zkg, F_M_in_time⟩ := c.def_ 10 (d := zdr) rfl
  have z2q : Fn K mg base P w "in_time" 2 3 [] z20 := ⟨⟨_, zkg, ["duty", "at", "line"], [], zjp F_M_in_time m_Duty_work a_late a_due, He.glo_ok X G (c.fact 60 (f := .glo "in_time") rfl), F_M_in_time.kp, FunD.bindsN F_M_in_time (fun _ _ _ _ _ _ us hl => match us, hl with | [_, _, _], _ => rfl), .nil⟩, zg0⟩
  exact z2q
theorem hx_f_M_answer (X : K.In h) (G : h.Ns mainGlobals mg) (c : He.SaysD fa fn K) (cx : (exs.all fun f => f K) = true) : Fn K mg base P w "answer" 5 2 [] z26 := by
  have z4l : Fn K mg base P w "load" 4 3 [] z28 := hx_f_M_load X G c cx
  have z2q : Fn K mg base P w "in_time" 2 3 [] z20 := hx_f_M_in_time X G c cx
  obtain ⟨zl1, F_M_answer⟩ := c.def_ 11 (d := zfj) rfl
  have z3f : Fn K mg base P w "answer" 5 2 [] z26 := ⟨⟨_, zl1, ["duty", "at"], [], zks F_M_answer z4l z2q, He.glo_ok X G (c.fact 61 (f := .glo "answer") rfl), F_M_answer.kp, FunD.bindsN F_M_answer (fun _ _ _ _ _ _ us hl => match us, hl with | [_, _], _ => rfl), .nil⟩, zgh⟩
  exact z3f
theorem hx_f_M_fits_weakest (X : K.In h) (G : h.Ns mainGlobals mg) (c : He.SaysD fa fn K) (cx : (exs.all fun f => f K) = true) : Fn K mg base P w "fits_weakest" 6 4 [] zl := by
  have m_Duty_reordered : Mm K mg base P w "reordered" .Duty 5 2 [] zf := hx_m_Duty_reordered X G c cx
  have n_len : mg "len" = none := hx_n_len X G c cx
  have z3f : Fn K mg base P w "answer" 5 2 [] z26 := hx_f_M_answer X G c cx
  obtain ⟨zfh, F_M_fits_weakest⟩ := c.def_ 14 (d := za3) rfl
  have z1m : Fn K mg base P w "fits_weakest" 6 4 [] zl := ⟨⟨_, zfh, ["duty", "left", "placed", "at"], [], zfe F_M_fits_weakest m_Duty_reordered n_len z3f, He.glo_ok X G (c.fact 62 (f := .glo "fits_weakest") rfl), F_M_fits_weakest.kp, FunD.bindsN F_M_fits_weakest (fun _ _ _ _ _ _ us hl => match us, hl with | [_, _, _, _], _ => rfl), .nil⟩, zca⟩
  exact z1m
theorem hx_f_M_weakest (X : K.In h) (G : h.Ns mainGlobals mg) (c : He.SaysD fa fn K) (cx : (exs.all fun f => f K) = true) : Fn K mg base P w "weakest" 7 3 [] z1h := by
  have n_reversed : mg "reversed" = none := hx_n_reversed X G c cx
  have z1m : Fn K mg base P w "fits_weakest" 6 4 [] zl := hx_f_M_fits_weakest X G c cx
  obtain ⟨zkh, F_M_weakest⟩ := c.def_ 15 (d := zds) rfl
  have z2r : Fn K mg base P w "weakest" 7 3 [] z1h := ⟨⟨_, zkh, ["duty", "left", "placed"], [], zjs F_M_weakest n_reversed z1m, He.glo_ok X G (c.fact 63 (f := .glo "weakest") rfl), F_M_weakest.kp, FunD.bindsN F_M_weakest (fun _ _ _ _ _ _ us hl => match us, hl with | [_, _, _], _ => rfl), .nil⟩, zg2⟩
  exact z2r
theorem hx_xi_NoRanks (X : K.In h) (G : h.Ns mainGlobals mg) (c : He.SaysD fa fn K) (cx : (exs.all fun f => f K) = true) : ExI K mg base P w .NoRanks .stuck 1 := by
  obtain ⟨zfi, F_M_NoRanks_init⟩ := c.def_ 16 (d := za4) rfl
  obtain ⟨q1_xi_NoRanks, q2_xi_NoRanks⟩ := xown_ok (exFact cx 6 (f := xownB "NoRanks") rfl)
  have xi_NoRanks : ExI K mg base P w .NoRanks .stuck 1 := ⟨q1_xi_NoRanks, He.noat_ok (c.fact 64 (f := .noat "NoRanks" "stuck") rfl), He.glo_ok X G (c.fact 48 (f := .glo "NoRanks") rfl), He.eqO_ok (c.fact 48 (f := .glo "NoRanks") rfl), ⟨_, zfi, ["self", "stuck"], (He.meth_ok (c.fact 65 (f := .meth "NoRanks" "__init__") rfl)).at_, q2_xi_NoRanks, zfg F_M_NoRanks_init, FunD.bindsN F_M_NoRanks_init (fun _ _ _ _ _ _ us hl => match us, hl with | [_, _], _ => rfl)⟩⟩
  exact xi_NoRanks
theorem hx_f_M_ranked (X : K.In h) (G : h.Ns mainGlobals mg) (c : He.SaysD fa fn K) (cx : (exs.all fun f => f K) = true) : Fn K mg base P w "ranked" 8 1 [] z1k := by
  have m_Duty_size : Mm K mg base P w "size" .Duty 1 1 [] z8 := hx_m_Duty_size X G c cx
  have n_list : mg "list" = none := hx_n_list X G c cx
  have n_range : mg "range" = none := hx_n_range X G c cx
  have z2r : Fn K mg base P w "weakest" 7 3 [] z1h := hx_f_M_weakest X G c cx
  have xi_NoRanks : ExI K mg base P w .NoRanks .stuck 1 := hx_xi_NoRanks X G c cx
  obtain ⟨ziz, F_M_ranked_o⟩ := c.def_ 17 (d := zd6) rfl
  have z3g : Fn K mg base P w "ranked" 8 1 [] z1k := ⟨⟨_, ziz, ["duty"], [], zil F_M_ranked_o m_Duty_size n_list n_range z2r xi_NoRanks, He.glo_ok X G (c.fact 66 (f := .glo "ranked") rfl), F_M_ranked_o.kp, FunD.bindsN F_M_ranked_o (fun _ _ _ _ _ _ us hl => match us, hl with | [_], _ => rfl), .nil⟩, zfa⟩
  exact z3g
theorem hx_ask_NotKept (X : K.In h) (G : h.Ns mainGlobals mg) (c : He.SaysD fa fn K) (cx : (exs.all fun f => f K) = true) : AskC K mg exAll (.own .NotKept) := by
  have ask_NotKept : AskC K mg exAll (.own .NotKept) := ⟨.inl (He.glo_ok X G (c.fact 67 (f := .glo "NotKept") rfl)), askB_ok (exFact cx 7 (f := askB (.own .NotKept)) rfl)⟩
  exact ask_NotKept
theorem hx_ask_BadDuty (X : K.In h) (G : h.Ns mainGlobals mg) (c : He.SaysD fa fn K) (cx : (exs.all fun f => f K) = true) : AskC K mg exAll (.own .BadDuty) := by
  have ask_BadDuty : AskC K mg exAll (.own .BadDuty) := ⟨.inl (He.glo_ok X G (c.fact 34 (f := .glo "BadDuty") rfl)), askB_ok (exFact cx 8 (f := askB (.own .BadDuty)) rfl)⟩
  exact ask_BadDuty
theorem hx_ask_TooMany (X : K.In h) (G : h.Ns mainGlobals mg) (c : He.SaysD fa fn K) (cx : (exs.all fun f => f K) = true) : AskC K mg exAll (.own .TooMany) := by
  have ask_TooMany : AskC K mg exAll (.own .TooMany) := ⟨.inl (He.glo_ok X G (c.fact 45 (f := .glo "TooMany") rfl)), askB_ok (exFact cx 9 (f := askB (.own .TooMany)) rfl)⟩
  exact ask_TooMany
theorem hx_ask_HoldsThings (X : K.In h) (G : h.Ns mainGlobals mg) (c : He.SaysD fa fn K) (cx : (exs.all fun f => f K) = true) : AskC K mg exAll (.own .HoldsThings) := by
  have ask_HoldsThings : AskC K mg exAll (.own .HoldsThings) := ⟨.inl (He.glo_ok X G (c.fact 68 (f := .glo "HoldsThings") rfl)), askB_ok (exFact cx 10 (f := askB (.own .HoldsThings)) rfl)⟩
  exact ask_HoldsThings
theorem hx_ask_DutyError (X : K.In h) (G : h.Ns mainGlobals mg) (c : He.SaysD fa fn K) (cx : (exs.all fun f => f K) = true) : AskC K mg exAll (.own .DutyError) := by
  have ask_DutyError : AskC K mg exAll (.own .DutyError) := ⟨.inl (He.glo_ok X G (c.fact 69 (f := .glo "DutyError") rfl)), askB_ok (exFact cx 11 (f := askB (.own .DutyError)) rfl)⟩
  exact ask_DutyError
theorem hx_ask_ValueError (X : K.In h) (G : h.Ns mainGlobals mg) (c : He.SaysD fa fn K) (cx : (exs.all fun f => f K) = true) : AskC K mg exAll .ve := by
  have ask_ValueError : AskC K mg exAll .ve := ⟨.inr ⟨He.free_ok X G (c.fact 70 (f := .free "ValueError") rfl), rfl⟩, askB_ok (exFact cx 12 (f := askB .ve) rfl)⟩
  exact ask_ValueError
theorem hx_f_L_told (X : K.In h) (G : h.Ns mainGlobals mg) (c : He.SaysD fa fn K) (cx : (exs.all fun f => f K) = true) : Fn K mg base P w "_law_told" 9 1 [] zy := by
  have k_NoRanks : CatC K mg .NoRanks := hx_k_NoRanks X G c cx
  have z3g : Fn K mg base P w "ranked" 8 1 [] z1k := hx_f_M_ranked X G c cx
  have ask_NotKept : AskC K mg exAll (.own .NotKept) := hx_ask_NotKept X G c cx
  have n_isinstance : mg "isinstance" = none := hx_n_isinstance X G c cx
  have ask_BadDuty : AskC K mg exAll (.own .BadDuty) := hx_ask_BadDuty X G c cx
  have ask_TooMany : AskC K mg exAll (.own .TooMany) := hx_ask_TooMany X G c cx
  have ask_HoldsThings : AskC K mg exAll (.own .HoldsThings) := hx_ask_HoldsThings X G c cx
  have ask_DutyError : AskC K mg exAll (.own .DutyError) := hx_ask_DutyError X G c cx
  have ask_ValueError : AskC K mg exAll .ve := hx_ask_ValueError X G c cx
  obtain ⟨zki, F_L_told_v4⟩ := c.def_ 18 (d := zdt) rfl
  have z3i : Fn K mg base P w "_law_told" 9 1 [] zy := ⟨⟨_, zki, ["_law_duty"], [], zjv F_L_told_v4 k_NoRanks z3g ask_NotKept n_isinstance ask_BadDuty ask_TooMany ask_HoldsThings ask_DutyError ask_ValueError, He.glo_ok X G (c.fact 71 (f := .glo "_law_told") rfl), F_L_told_v4.kp, FunD.bindsN F_L_told_v4 (fun _ _ _ _ _ _ us hl => match us, hl with | [_], _ => rfl), .nil⟩, zg3⟩
  exact z3i
theorem hx_f_L_held_up (X : K.In h) (G : h.Ns mainGlobals mg) (c : He.SaysD fa fn K) (cx : (exs.all fun f => f K) = true) : Fn K mg base P w "_law_held_up" 1 2 [] z1g := by
  have n_max : mg "max" = none := hx_n_max X G c cx
  obtain ⟨zkj, F_L_held_up⟩ := c.def_ 22 (d := zdu) rfl
  have z29 : Fn K mg base P w "_law_held_up" 1 2 [] z1g := ⟨⟨_, zkj, ["_law_some", "_law_at"], [], zjy F_L_held_up n_max, He.glo_ok X G (c.fact 72 (f := .glo "_law_held_up") rfl), F_L_held_up.kp, FunD.bindsN F_L_held_up (fun _ _ _ _ _ _ us hl => match us, hl with | [_, _], _ => rfl), .nil⟩, zfz⟩
  exact z29
theorem hx_f_L_in_time (X : K.In h) (G : h.Ns mainGlobals mg) (c : He.SaysD fa fn K) (cx : (exs.all fun f => f K) = true) : Fn K mg base P w "_law_in_time" 2 2 [] z21 := by
  have z29 : Fn K mg base P w "_law_held_up" 1 2 [] z1g := hx_f_L_held_up X G c cx
  obtain ⟨zkk, F_L_in_time⟩ := c.def_ 23 (d := zdv) rfl
  have z2s : Fn K mg base P w "_law_in_time" 2 2 [] z21 := ⟨⟨_, zkk, ["_law_some", "_law_at"], [], zk1 F_L_in_time z29, He.glo_ok X G (c.fact 73 (f := .glo "_law_in_time") rfl), F_L_in_time.kp, FunD.bindsN F_L_in_time (fun _ _ _ _ _ _ us hl => match us, hl with | [_, _], _ => rfl), .nil⟩, zg4⟩
  exact z2s
theorem hx_f_L_all_in_time (X : K.In h) (G : h.Ns mainGlobals mg) (c : He.SaysD fa fn K) (cx : (exs.all fun f => f K) = true) : Fn K mg base P w "_law_all_in_time" 3 2 [] zj := by
  have n_len : mg "len" = none := hx_n_len X G c cx
  have n_range : mg "range" = none := hx_n_range X G c cx
  have z2s : Fn K mg base P w "_law_in_time" 2 2 [] z21 := hx_f_L_in_time X G c cx
  have n_all : mg "all" = none := hx_n_all X G c cx
  obtain ⟨zg9, F_L_all_in_time⟩ := c.def_ 24 (d := zab) rfl
  have zv : Fn K mg base P w "_law_all_in_time" 3 2 [] zj := ⟨⟨_, zg9, ["_law_some", "_law_order"], [], zg8 F_L_all_in_time n_len n_range z2s n_all, He.glo_ok X G (c.fact 74 (f := .glo "_law_all_in_time") rfl), F_L_all_in_time.kp, FunD.bindsN F_L_all_in_time (fun _ _ _ _ _ _ us hl => match us, hl with | [_, _], _ => rfl), .nil⟩, zd0⟩
  exact zv
theorem hx_f_L_right (X : K.In h) (G : h.Ns mainGlobals mg) (c : He.SaysD fa fn K) (cx : (exs.all fun f => f K) = true) (t_pick : PickT K base mg lamD lamQ) : Fn K mg base P w "_law_right" 4 2 [] z18 := by
  have n_len : mg "len" = none := hx_n_len X G c cx
  have n_list : mg "list" = none := hx_n_list X G c cx
  have n_range : mg "range" = none := hx_n_range X G c cx
  have n_isinstance : mg "isinstance" = none := hx_n_isinstance X G c cx
  have n_tuple : mg "tuple" = none := hx_n_tuple X G c cx
  have zv : Fn K mg base P w "_law_all_in_time" 3 2 [] zj := hx_f_L_all_in_time X G c cx
  have n_sorted : mg "sorted" = none := hx_n_sorted X G c cx
  have n_int : mg "int" = none := hx_n_int X G c cx
  have n_bool : mg "bool" = none := hx_n_bool X G c cx
  have n_all : mg "all" = none := hx_n_all X G c cx
  obtain ⟨zj0, F_L_right_v8⟩ := c.def_ 25 (d := zd8) rfl
  have z2z : Fn K mg base P w "_law_right" 4 2 [] z18 := ⟨⟨_, zj0, ["_law_found", "_law_some"], [], zis F_L_right_v8 n_len n_list n_range n_isinstance n_tuple zv t_pick n_sorted n_int n_bool n_all, He.glo_ok X G (c.fact 75 (f := .glo "_law_right") rfl), F_L_right_v8.kp, FunD.bindsN F_L_right_v8 (fun _ _ _ _ _ _ us hl => match us, hl with | [_, _], _ => rfl), .nil⟩, zfb⟩
  exact z2z
theorem facts {P : Program} {w : World} {K : PySem.W.Frag} {h : Heap} {mg : Str → Option Value} {f : Addr} (X : K.In h) (G : h.Ns mainGlobals mg) (hfa : mg ("law" : Str) = some (.ref f)) (c : He.SaysD fa fn K) (cx : (exs.all fun f => f K) = true) :
    ∃ fd : FuncData, (∀ (s : Shared) (v : Value), BindsTo s fd ⟨[v], []⟩ [("_law_script", v)]) ∧ ∀ base : Heap, K.In base → base.Ns mainGlobals mg → PickT K base mg lamD lamQ → FnOk P w K mg base (L2N.CX P w) 10 f fd ["_law_script"] (spD K 1 spLaw) := by
  have elaw := hfa.symm.trans (He.glo_ok X G (c.fact 76 (f := .glo "law") rfl))
  cases elaw
  obtain ⟨fd, F⟩ := c.def_ 33 (d := zj1) rfl
  have b := FunD.bindsA (ps := ["_law_script"]) F fun _ _ _ _ _ _ us hl => match us, hl with | [_], _ => rfl
  refine ⟨fd, fun s v => b s [v] rfl, fun base _ _ t_pick => ?_⟩
  have n_range : mg "range" = none := hx_n_range X G c cx
  have n_len : mg "len" = none := hx_n_len X G c cx
  have z4n : Fn K mg base P w "_law_plain" 2 3 [] z1a := hx_f_L_plain X G c cx
  have n_list : mg "list" = none := hx_n_list X G c cx
  have c_Work_6 : McA K mg base P w .Work 4 6 [] ze := hx_c_Work_6 X G c cx
  have c_Duty_1 : McA K mg base P w .Duty 3 1 [] zb := hx_c_Duty_1 X G c cx
  have z3i : Fn K mg base P w "_law_told" 9 1 [] zy := hx_f_L_told X G c cx
  have z2z : Fn K mg base P w "_law_right" 4 2 [] z18 := hx_f_L_right X G c cx t_pick
  have n_isinstance : mg "isinstance" = none := hx_n_isinstance X G c cx
  exact zlb F n_range n_len z4n n_list c_Work_6 c_Duty_1 z3i z2z n_isinstance
end Law
open PySem PySem.W PySem.Calls PyProof.Rows in
set_option maxRecDepth 100000 in
set_option maxHeartbeats 0 in
theorem PySem.Challenge.cw_dutyproof_k71_ranks_found_holds : PySem.Challenge.rw_dutyproof_k71_ranks_found.Holds := by
  refine Law.close ?F0
  refine DL.walk_b (law := PySem.Challenge.rw_dutyproof_k71_ranks_found) (k := 10) (par := "_law_script") rfl (by kernel_rfl) ⟨rfl, by decide, by decide⟩ ?F
  intro w mg fa h Y G hmg0
  obtain ⟨K, KX, c⟩ := Y
  have hmg : mg ("law" : PySem.Str) = some (.ref fa) := by
    have e : (HandSHeadRun.topDef Law.R.prog 48).name = ("law" : PySem.Str) := by kernel_rfl
    rw [← e]
    exact hmg0
  obtain ⟨fd, hb, hF⟩ := @Law.facts (DL.tpK K DL.lamD DL.lamQ) Law.R.prog w K h mg fa KX G hmg c.d c.more
  exact ⟨K, _, _, DL.end1 KX c hb hF⟩
