import PyProof.Rows.All
import PySem.Challenge.RW_boardglue_k24_no_length
import HandS.HeadHook4
import HandS.Head2
import KE.KStateDown
import HandS.Head0
import HandS.Head1
import HandS.HeadEnd
import Wide.All
import OpenK.AllK
import Wide.FinOn
import HandS.Exc
import HandS.TryOnly
import HandS.ForMost
import HandS.ForExc
import HandS.Deep
import HandS.Wide
import HandS.WideBits
import HandS.HeadHook1
import HandS.CallSlots
import HandS.Defaults
import HandS.Iter
import HandS.Zip
import HandS.Rev
import HandS.TupAny
import HandS.Comp
import HandS.Text
import HandS.IsInst
import HandS.HeadHook2
import PyProof.Rows.RuleB_pow
import HandS.EndBits
import HandS.Sort
import HandS.ExcIs
import HandS.RevTup
import PyProof.ListStr
import HandS.Style
import HandS.SetFor
import HandS.More
import HandS.SortInts
import HandS.WordsDict
import HandS.MakeKw
import HandS.Conv
import HandS.Remove
import KE.SortData
import KE.KDictZip
import HandS.ReplaceLit
import HandS.ReplaceDef
import HandS.StrMore
import KE.IntTextLaws
import PyProof.Rows.StrLast
import PyProof.Rows.StrPartPair
import PyProof.Rows.StrCountLaw
import HandS.ReplaceList
set_option Elab.async false
set_option linter.all false
set_option maxRecDepth 100000
set_option maxHeartbeats 4000000
set_option autoImplicit false
namespace DL
open PySem L2
def subX (c T : Str) : Bool := decide (T = "YardError") || (decide (T = "ValueError") || decide (c = T))
def excCB (K : PySem.W.Frag) (D : Addr) : Bool := decide (PySem.W.findIn K (.ref D) "__getattribute__" = some (some (.builtin "BaseException.__getattribute__"))) && (decide (PySem.W.findIn K (.ref D) "__getattr__" = some none) && (decide (PySem.W.subIn K (.ref D) (.type "BaseException") = some true) && (PySem.W.hasDictIn K D && (decide (PySem.W.findIn K (.ref D) "__class__" = some (some (.builtin "object.__class__"))) &&
  (decide (PySem.W.specialIn K (.builtin "object.__class__") "__get__" = some (some (.builtin "getset_descriptor.__get__"))) && (decide (PySem.W.takesIn K (.builtin "object.__class__") = some true) && decide (PySem.W.mroIn K D (.type "object") = some true)))))))
def xisB (K : PySem.W.Frag) (es : List Str) (T : Str) (cv : Value) : Bool := es.all fun c => excCB K (He.ga K c) && decide (PySem.W.kitOne K (.ref (He.ga K c)) cv = some (subX c T))
def xatB (K : PySem.W.Frag) (es : List Str) (T : Str) : Bool := es.all fun c => decide (PySem.W.exmOne K (.ref (He.ga K c)) (.ref (He.ga K T)) = some (subX c T))
def xl_be93e3 : List Str := ["NoLength", "NoBoard", "NoText", "NoDeed", "NoName", "Grain", "Unfit", "TooMany", "NoRow", "Apart"]
end DL

set_option Elab.async false
set_option linter.all false
set_option maxRecDepth 100000
set_option maxHeartbeats 4000000
set_option autoImplicit false
namespace DL
section
open PySem L2
def top (i : Nat) : Stmt := PySem.Challenge.pw_boardglue_k24_no_length.main.body.getD i (.Pass ⟨0, 0, 0, 0⟩)
abbrev s_is_whole : Stmt := top 13
theorem sc_is_whole : FnScope ["thing"] ["thing"] (defScope s_is_whole) := ⟨rfl, rfl, rfl, by decide +kernel, rfl, by decide +kernel, by decide +kernel⟩
def d_is_whole : He.DefD := ⟨("is_whole", none), "is_whole", "is_whole", defArgs s_is_whole, defBody s_is_whole, defScope s_is_whole, [], []⟩
abbrev s_divisor : Stmt := top 14
theorem sc_divisor : FnScope ["one", "other"] ["one", "other"] (defScope s_divisor) := ⟨rfl, rfl, rfl, by decide +kernel, rfl, by decide +kernel, by decide +kernel⟩
def d_divisor : He.DefD := ⟨("divisor", none), "divisor", "divisor", defArgs s_divisor, defBody s_divisor, defScope s_divisor, [], []⟩
abbrev s_lowest : Stmt := top 15
theorem sc_lowest : FnScope ["a", "b", "n", "share"] ["a", "b", "n"] (defScope s_lowest) := ⟨rfl, rfl, rfl, by decide +kernel, rfl, by decide +kernel, by decide +kernel⟩
def d_lowest : He.DefD := ⟨("lowest", none), "lowest", "lowest", defArgs s_lowest, defBody s_lowest, defScope s_lowest, [], []⟩
abbrev s_length : Stmt := top 16
theorem sc_length : FnScope ["a", "b", "n"] ["a", "b", "n"] (defScope s_length) := ⟨rfl, rfl, rfl, by decide +kernel, rfl, by decide +kernel, by decide +kernel⟩
def d_length : He.DefD := ⟨("length", none), "length", "length", defArgs s_length, defBody s_length, defScope s_length, [(He.Dv.int 0), (He.Dv.int 1)], []⟩
abbrev s_fraction : Stmt := top 17
theorem sc_fraction : FnScope ["top", "bottom", "share"] ["top", "bottom"] (defScope s_fraction) := ⟨rfl, rfl, rfl, by decide +kernel, rfl, by decide +kernel, by decide +kernel⟩
def d_fraction : He.DefD := ⟨("fraction", none), "fraction", "fraction", defArgs s_fraction, defBody s_fraction, defScope s_fraction, [(He.Dv.int 1)], []⟩
abbrev s_parts : Stmt := top 18
theorem sc_parts : FnScope ["one"] ["one"] (defScope s_parts) := ⟨rfl, rfl, rfl, by decide +kernel, rfl, by decide +kernel, by decide +kernel⟩
def d_parts : He.DefD := ⟨("parts", none), "parts", "parts", defArgs s_parts, defBody s_parts, defScope s_parts, [], []⟩
abbrev s_by_parts : Stmt := top 19
theorem sc_by_parts : FnScope ["f", "g"] ["f", "g"] (defScope s_by_parts) := ⟨rfl, rfl, rfl, by decide +kernel, rfl, by decide +kernel, by decide +kernel⟩
def d_by_parts : He.DefD := ⟨("by_parts", none), "by_parts", "by_parts", defArgs s_by_parts, defBody s_by_parts, defScope s_by_parts, [], []⟩
abbrev s_shown_fraction : Stmt := top 23
theorem sc_shown_fraction : FnScope ["one"] ["one"] (defScope s_shown_fraction) := ⟨rfl, rfl, rfl, by decide +kernel, rfl, by decide +kernel, by decide +kernel⟩
def d_shown_fraction : He.DefD := ⟨("shown_fraction", none), "shown_fraction", "shown_fraction", defArgs s_shown_fraction, defBody s_shown_fraction, defScope s_shown_fraction, [], []⟩
abbrev s_shown_ahead : Stmt := top 24
theorem sc_shown_ahead : FnScope ["one"] ["one"] (defScope s_shown_ahead) := ⟨rfl, rfl, rfl, by decide +kernel, rfl, by decide +kernel, by decide +kernel⟩
def d_shown_ahead : He.DefD := ⟨("shown_ahead", none), "shown_ahead", "shown_ahead", defArgs s_shown_ahead, defBody s_shown_ahead, defScope s_shown_ahead, [], []⟩
abbrev s_shown_length : Stmt := top 25
theorem sc_shown_length : FnScope ["d", "one", "first", "second", "text"] ["d", "one"] (defScope s_shown_length) := ⟨rfl, rfl, rfl, by decide +kernel, rfl, by decide +kernel, by decide +kernel⟩
def d_shown_length : He.DefD := ⟨("shown_length", none), "shown_length", "shown_length", defArgs s_shown_length, defBody s_shown_length, defScope s_shown_length, [], []⟩
abbrev s_number_in : Stmt := top 26
theorem sc_number_in : FnScope ["text", "sign"] ["text"] (defScope s_number_in) := ⟨rfl, rfl, rfl, by decide +kernel, rfl, by decide +kernel, by decide +kernel⟩
def d_number_in : He.DefD := ⟨("number_in", none), "number_in", "number_in", defArgs s_number_in, defBody s_number_in, defScope s_number_in, [], []⟩
abbrev s_fraction_in : Stmt := top 27
theorem sc_fraction_in : FnScope ["text", "top", "bottom", "stroke", "under_stroke"] ["text"] (defScope s_fraction_in) := ⟨rfl, rfl, rfl, by decide +kernel, rfl, by decide +kernel, by decide +kernel⟩
def d_fraction_in : He.DefD := ⟨("fraction_in", none), "fraction_in", "fraction_in", defArgs s_fraction_in, defBody s_fraction_in, defScope s_fraction_in, [], []⟩
abbrev s_ahead_in : Stmt := top 28
theorem sc_ahead_in : FnScope ["text"] ["text"] (defScope s_ahead_in) := ⟨rfl, rfl, rfl, by decide +kernel, rfl, by decide +kernel, by decide +kernel⟩
def d_ahead_in : He.DefD := ⟨("ahead_in", none), "ahead_in", "ahead_in", defArgs s_ahead_in, defBody s_ahead_in, defScope s_ahead_in, [], []⟩
abbrev s_length_in : Stmt := top 29
theorem sc_length_in : FnScope ["text", "head", "mark", "tail", "at", "second"] ["text"] (defScope s_length_in) := ⟨rfl, rfl, rfl, by decide +kernel, rfl, by decide +kernel, by decide +kernel⟩
def d_length_in : He.DefD := ⟨("length_in", none), "length_in", "length_in", defArgs s_length_in, defBody s_length_in, defScope s_length_in, [], []⟩
abbrev s_read_length : Stmt := top 30
theorem sc_read_length : FnScope ["d", "text", "found"] ["d", "text"] (defScope s_read_length) := ⟨rfl, rfl, rfl, by decide +kernel, rfl, by decide +kernel, by decide +kernel⟩
def d_read_length : He.DefD := ⟨("read_length", none), "read_length", "read_length", defArgs s_read_length, defBody s_read_length, defScope s_read_length, [], []⟩
abbrev s_law_cell : Stmt := top 32
theorem sc_law_cell : FnScope ["_law_script", "_law_k"] ["_law_script", "_law_k"] (defScope s_law_cell) := ⟨rfl, rfl, rfl, by decide +kernel, rfl, by decide +kernel, by decide +kernel⟩
def d_law_cell : He.DefD := ⟨("_law_cell", none), "_law_cell", "_law_cell", defArgs s_law_cell, defBody s_law_cell, defScope s_law_cell, [], []⟩
abbrev s_law_mixed : Stmt := top 33
theorem sc_law_mixed : FnScope ["_law_cell_here", "_law_k"] ["_law_cell_here", "_law_k"] (defScope s_law_mixed) := ⟨rfl, rfl, rfl, by decide +kernel, rfl, by decide +kernel, by decide +kernel⟩
def d_law_mixed : He.DefD := ⟨("_law_mixed", none), "_law_mixed", "_law_mixed", defArgs s_law_mixed, defBody s_law_mixed, defScope s_law_mixed, [], []⟩
abbrev s_law_divisor : Stmt := top 34
theorem sc_law_divisor : FnScope ["_law_one", "_law_other"] ["_law_one", "_law_other"] (defScope s_law_divisor) := ⟨rfl, rfl, rfl, by decide +kernel, rfl, by decide +kernel, by decide +kernel⟩
def d_law_divisor : He.DefD := ⟨("_law_divisor", none), "_law_divisor", "_law_divisor", defArgs s_law_divisor, defBody s_law_divisor, defScope s_law_divisor, [], []⟩
abbrev s_law_root : Stmt := top 35
theorem sc_law_root : FnScope ["_law_script", "_law_d"] ["_law_script"] (defScope s_law_root) := ⟨rfl, rfl, rfl, by decide +kernel, rfl, by decide +kernel, by decide +kernel⟩
def d_law_root : He.DefD := ⟨("_law_root", none), "_law_root", "_law_root", defArgs s_law_root, defBody s_law_root, defScope s_law_root, [], []⟩
abbrev s_law_fraction : Stmt := top 36
theorem sc_law_fraction : FnScope ["_law_number", "_law_great", "_law_top", "_law_bottom", "_law_share"] ["_law_number", "_law_great"] (defScope s_law_fraction) := ⟨rfl, rfl, rfl, by decide +kernel, rfl, by decide +kernel, by decide +kernel⟩
def d_law_fraction : He.DefD := ⟨("_law_fraction", none), "_law_fraction", "_law_fraction", defArgs s_law_fraction, defBody s_law_fraction, defScope s_law_fraction, [], []⟩
abbrev s_law_shown_fraction : Stmt := top 37
theorem sc_law_shown_fraction : FnScope ["_law_one"] ["_law_one"] (defScope s_law_shown_fraction) := ⟨rfl, rfl, rfl, by decide +kernel, rfl, by decide +kernel, by decide +kernel⟩
def d_law_shown_fraction : He.DefD := ⟨("_law_shown_fraction", none), "_law_shown_fraction", "_law_shown_fraction", defArgs s_law_shown_fraction, defBody s_law_shown_fraction, defScope s_law_shown_fraction, [], []⟩
abbrev s_law_shown : Stmt := top 38
theorem sc_law_shown : FnScope ["_law_d", "_law_first", "_law_second", "_law_ahead", "_law_sign"] ["_law_d", "_law_first", "_law_second"] (defScope s_law_shown) := ⟨rfl, rfl, rfl, by decide +kernel, rfl, by decide +kernel, by decide +kernel⟩
def d_law_shown : He.DefD := ⟨("_law_shown", none), "_law_shown", "_law_shown", defArgs s_law_shown, defBody s_law_shown, defScope s_law_shown, [], []⟩
abbrev s_law_odd : Stmt := top 39
theorem sc_law_odd : FnScope ["_law_d", "_law_number", "_law_root_here", "_law_some"] ["_law_d", "_law_number"] (defScope s_law_odd) := ⟨rfl, rfl, rfl, by decide +kernel, rfl, by decide +kernel, by decide +kernel⟩
def d_law_odd : He.DefD := ⟨("_law_odd", none), "_law_odd", "_law_odd", defArgs s_law_odd, defBody s_law_odd, defScope s_law_odd, [], []⟩
abbrev s_law_spoiled : Stmt := top 40
theorem sc_law_spoiled : FnScope ["_law_d", "_law_first", "_law_second", "_law_number", "_law_row", "_law_at", "_law_way", "_law_many"] ["_law_d", "_law_first", "_law_second", "_law_number"] (defScope s_law_spoiled) := ⟨rfl, rfl, rfl, by decide +kernel, rfl, by decide +kernel, by decide +kernel⟩
def d_law_spoiled : He.DefD := ⟨("_law_spoiled", none), "_law_spoiled", "_law_spoiled", defArgs s_law_spoiled, defBody s_law_spoiled, defScope s_law_spoiled, [], []⟩
abbrev s_law_refused : Stmt := top 41
theorem sc_law_refused : FnScope ["_law_d", "_law_thing", "_law_told", "e"] ["_law_d", "_law_thing"] (defScope s_law_refused) := ⟨rfl, rfl, rfl, by decide +kernel, rfl, by decide +kernel, by decide +kernel⟩
def d_law_refused : He.DefD := ⟨("_law_refused", none), "_law_refused", "_law_refused", defArgs s_law_refused, defBody s_law_refused, defScope s_law_refused, [], []⟩
abbrev s_law : Stmt := top 42
theorem sc_law : FnScope ["_law_script", "_law_d", "_law_k", "_law_number", "_law_first", "_law_second", "_law_thing", "_law_good", "_law_due", "_law_row"] ["_law_script"] (defScope s_law) := ⟨rfl, rfl, rfl, by decide +kernel, rfl, by decide +kernel, by decide +kernel⟩
def d_law : He.DefD := ⟨("law", none), "law", "law", defArgs s_law, defBody s_law, defScope s_law, [], []⟩
def fn : List He.DefD := [d_is_whole, d_divisor, d_lowest, d_length, d_fraction, d_parts, d_by_parts, d_shown_fraction, d_shown_ahead, d_shown_length, d_number_in, d_fraction_in, d_ahead_in, d_length_in, d_read_length, d_law_cell, d_law_mixed, d_law_divisor, d_law_root, d_law_fraction, d_law_shown_fraction, d_law_shown, d_law_odd, d_law_spoiled, d_law_refused, d_law]
def ts : List He.Tab := []
def fa : List He.Fa := [.glo "is_whole", .glo "divisor", .glo "lowest", .glo "length", .glo "fraction", .glo "parts", .glo "by_parts", .glo "shown_fraction", .glo "shown_ahead", .glo "shown_length", .glo "number_in", .glo "fraction_in", .glo "ahead_in", .glo "length_in", .glo "read_length", .glo "_law_cell", .glo "_law_mixed", .glo "_law_divisor", .glo "_law_root", .glo "_law_fraction", .glo "_law_shown_fraction", .glo "_law_shown", .glo "_law_odd", .glo "_law_spoiled", .glo "_law_refused", .glo "law", .free "ValueError", .free "abs", .free "bool", .free "int", .free "isinstance", .free "len", .free "max", .free "min", .free "range", .free "str", .glo "NoLength", .exc "NoLength", .glo "NoText", .exc "NoText", .glo "YardError", .glo "NoBoard", .glo "NoDeed", .glo "NoName", .glo "Grain", .glo "Unfit", .glo "TooMany", .glo "NoRow", .glo "Apart", .str "FIGURES" "0123456789", .glo "NOUGHT"]
def ex (K : PySem.W.Frag) : Bool := (xatB K xl_be93e3 "YardError") && (xisB K xl_be93e3 "Apart" (.ref (He.ga K "Apart"))) && (xisB K xl_be93e3 "Grain" (.ref (He.ga K "Grain"))) && (xisB K xl_be93e3 "NoBoard" (.ref (He.ga K "NoBoard"))) && (xisB K xl_be93e3 "NoDeed" (.ref (He.ga K "NoDeed"))) && (xisB K xl_be93e3 "NoLength" (.ref (He.ga K "NoLength"))) && (xisB K xl_be93e3 "NoName" (.ref (He.ga K "NoName"))) && (xisB K xl_be93e3 "NoRow" (.ref (He.ga K "NoRow"))) && (xisB K xl_be93e3 "NoText" (.ref (He.ga K "NoText"))) && (xisB K xl_be93e3 "TooMany" (.ref (He.ga K "TooMany"))) && (xisB K xl_be93e3 "Unfit" (.ref (He.ga K "Unfit"))) && (xisB K xl_be93e3 "ValueError" (.type "ValueError")) && (He.tupB K "NOUGHT" [(He.Dv.int 0), (He.Dv.int 1)])
def names0 : List PySem.Str := ["YardError", "NoLength", "NoBoard", "NoText", "NoDeed", "NoName", "Grain", "Unfit", "TooMany", "NoRow", "Apart", "is_whole", "divisor", "lowest", "length", "fraction", "parts", "by_parts", "FIGURES", "NOUGHT"]
def names1 : List PySem.Str := ["shown_fraction", "shown_ahead", "shown_length", "number_in", "fraction_in", "ahead_in", "length_in", "read_length", "_law_cell", "_law_mixed", "_law_divisor", "_law_root", "_law_fraction", "_law_shown_fraction", "_law_shown", "_law_odd", "_law_spoiled", "_law_refused", "fraction_in__0", "fraction_in__1"]
def names2 : List PySem.Str := ["fraction_in__2", "fraction_in__3"]
def names : List PySem.Str := names0 ++ names1 ++ names2
abbrev Rw : PySem.W.OpenRow := PySem.W.OpenLaw.row PySem.Challenge.rw_boardglue_k24_no_length
/-! what the module's names reach: each address once, told by a number's bits -/
def frc {α : Type} (f : Nat → α) : Nat → α
  | 0 => f 0
  | m + 1 => f (m + 1)
def refsZ (g : PySem.Addr → Option PySem.Obj) (a : PySem.Addr) : List PySem.Addr := match g a with
  | some o => He.refsD o
  | none => []
def siftZ {α : Type} (k : Nat → List PySem.Addr → α) : List PySem.Addr → Nat → List PySem.Addr → α
  | [], m, acc => k m acc
  | a :: as, m, acc => frc (fun b => match Nat.testBit m b with
    | true => siftZ k as m acc
    | false => frc (fun m' => siftZ k as m' (b :: acc)) (m ||| (1 <<< b))) a
def levZ (g : PySem.Addr → Option PySem.Obj) : Nat → Nat → List PySem.Addr → List PySem.Addr → List PySem.Addr
  | 0, _, _, acc => acc
  | n + 1, m, fr, acc => siftZ (fun m' nx => levZ g n m' nx (acc ++ nx)) (fr.flatMap (refsZ g)) m []
def asZ (g : PySem.Addr → Option PySem.Obj) (n : Nat) : List PySem.Addr := levZ g n (1 <<< PySem.mainGlobals) [PySem.mainGlobals] [PySem.mainGlobals]
def obsZ (n : Nat) (fa : List He.Fa) (fn : List He.DefD) (ts : List He.Tab) (ex : PySem.W.Frag → Bool) (g : PySem.Addr → Option PySem.Obj) : He.AlX := (fun K => (He.obsT fa fn ts K, ex K)) (He.frT g (asZ g n))
theorem saysZ_of {fa : List He.Fa} {fn : List He.DefD} {ts : List He.Tab} {ex : PySem.W.Frag → Bool} {w : PySem.World} {h : PySem.Heap} {K : PySem.W.Frag} (e : (He.obsT fa fn ts K, ex K) = He.valX fn ts w) : He.SaysX fa fn ts [] ex w h K := by
  have e1 : He.obsT fa fn ts K = He.valT fn ts w := congrArg (fun z : He.AlX => z.1) e
  have e2 : ex K = true := congrArg (fun z : He.AlX => z.2) e
  exact ⟨e1, e2, (fun p hp => nomatch hp), (fun p hp => nomatch hp), (fun p hp => nomatch hp)⟩
def hookZ (n : Nat) (fa : List He.Fa) (fn : List He.DefD) (ts : List He.Tab) (ex : PySem.W.Frag → Bool) : PySem.W.Hook where
  α := He.AlX
  obs := fun s => obsZ n fa fn ts ex s.heap.get?
  val := fun w => He.valX fn ts w
  says := fun w h => ∃ K : PySem.W.Frag, K.In h ∧ He.SaysX fa fn ts [] ex w h K
  of := fun _ _ e => ⟨_, He.frT_in, saysZ_of e⟩
  keeps := fun _ _ _ ⟨K, hK, c⟩ k => ⟨K, PySem.W.Frag.In.keeps hK k, ⟨c.t, c.more, c.hd, c.out, fun p hp => k _ _ (c.empty p hp)⟩⟩
theorem obsZ_eq {n : Nat} {fa : List He.Fa} {fn : List He.DefD} {ts : List He.Tab} {ex : PySem.W.Frag → Bool} {g : PySem.Addr → Option PySem.Obj} {s : PySem.Shared} (h : ∀ a, g a = s.heap.get? a) : obsZ n fa fn ts ex g = (hookZ n fa fn ts ex).obs s := by
  have e : g = s.heap.get? := funext h
  rw [e] <;> rfl
abbrev hk : PySem.W.Hook := hookZ 5 fa fn ts ex
def ob (s : PySem.W.SharedT) : He.AlX := obsZ 5 fa fn ts ex (HandSHeadRun.getT s)
theorem ob_eq (s : PySem.W.SharedT) : ob s = hk.obs s.abs := obsZ_eq (HandSHeadRun.getT_eq s)
theorem run (w : World) : HandSHeadRun.RunEq Rw (PySem.W.view Rw.prog [42]) hk ob 20000 names w := by
  intro os
  kernel_rfl
end
end DL

set_option Elab.async false
set_option linter.all false
set_option maxRecDepth 100000
set_option maxHeartbeats 4000000
set_option autoImplicit false
/-! exceptions that are kept: tracked from the end of the suite on -/
namespace DL
open PySem PySem.Spec PyProof.Rows L2
/-- an exception object of the class cls that was caught -/
def ExK (cls : Value) (a : Addr) : HO := .ext fun h => ∃ (oe : Obj) (vs : Array Value), h.get? a = some oe ∧ Zc cls none oe ∧ oe.data = .fields vs
theorem exK_ok {P : Program} {w : World} {H : Hp} {h : Heap} {a : Addr} {cls : Value} {oe : Obj} {vs : Array Value} (e : h.get? a = some oe) (z : Zc cls none oe) (d : oe.data = .fields vs) : ObjOk P w H h a (ExK cls a) :=
  ⟨⟨oe, vs, e, z, d⟩, ⟨oe, e⟩, fun _ _ ⟨o, v, q, r⟩ k => ⟨o, v, k o q, r⟩⟩
section
variable {X : Cx} {pins : List (Addr × Obj)} {σ : L2.St} {H : Hp} {s : Shared}
/-- an object that stands, new since the entry, is tracked from here on -/
theorem invTrack {a : Addr} {o : HO} {oe : Obj} (I : Inv X pins σ H s) (e : s.heap.get? a = some oe) (d : ∀ v, oe.data ≠ .cell v) (n : H a = none) (n0 : X.s_0.heap.get? a = none) (nl : a ≠ X.env.locals)
    (np : ∀ p ∈ X.pn ++ pins, p.1 ≠ a) (new : ObjOk X.prog X.w (upd H a o) s.heap a o) : Inv X pins σ (upd H a o) s where
  ok := I.ok
  os := I.os
  bare := I.bare
  base := ⟨I.base.keep, I.base.slot, fun b u q m hx => by
      rw [upd_ne (fun z => by rw [z, n0] at q; cases q)]; exact I.base.free b u q m hx, I.base.there,
    fun b xs q => by rw [upd_ne (ne_of_none (I.base.tups b xs q) n)]; exact I.base.tups b xs q,
    fun b u xs q => by rw [upd_ne (ne_of_none (I.base.frzs b u xs q) n)]; exact I.base.frzs b u xs q,
    fun b ps q => by
      obtain ⟨m, z⟩ := I.base.tbls b ps q
      exact ⟨m, by rw [upd_ne (ne_of_none z n)]; exact z⟩⟩
  loc := I.loc
  cell := I.cell
  free := by rw [upd_ne (fun z => nl z.symm)]; exact I.free
  freeC := fun x c h => by
    obtain ⟨v, o', h1, h2⟩ := I.cell x c h
    rw [upd_ne (fun z => by
      rw [z, e] at h1
      cases h1
      exact d _ h2)]
    exact I.freeC x c h
  pin := fun p hp => by
    obtain ⟨h1, h2, h3⟩ := I.pin p hp
    exact ⟨h1, by rw [upd_ne (np p hp)]; exact h2, h3⟩
  hok := fun b u q => by
    by_cases hb : b = a
    · subst hb
      rw [upd_same] at q
      cases q
      exact new
    · rw [upd_ne hb] at q
      exact (I.hok b u q).stay (fun c v _ q => q) (fun c q => by rw [upd_ne (ne_of_none q n)]; exact q) fun c xs q => by rw [upd_ne (ne_of_none q n)]; exact q
  len := I.len
end
/-- what 'except x as n' wishes where the error is kept: slot i is n's -/
def wAsK (K : PySem.W.Frag) (c : Value) (i : Nat) (ts : Addr → Value → Option Addr → TS) (Wout : WX) (D : Ends) : WX := fun cls d σ H =>
  ∃ b, PySem.W.exmOne K cls c = some b ∧ (b = true → d = none ∧ ∀ a, H a = none → ts a cls d { nx := fun σ' H' => H' a = none → D.nx (σ'.set i none) (upd H' a (ExK cls a)), rt := fun _ _ => False, bk := fun _ _ => False, ct := fun _ _ => False } (σ.set i (some (.ref a))) H) ∧
    (b = false → Wout cls d σ H)
section
variable {X : Cx} {x n : Str} {c : Value} {i : Nat} {body suite : List Stmt} {b₀ : Stmt} {np pos pos' : Pos} {tb : WX → TS} {ts : Addr → Value → Option Addr → TS} {Wout : WX}
theorem ps_try_keep (hex : X.ex = []) (hs : X.stack = X.env :: X.outer) (hf : X.env.frame = some X.env.locals) (hN : X.N.Nodup) (hi : X.N[i]? = some n) (hln : X.env.kindOf n = some .local) (hc : Names X x c) (tk : Takes X Wout)
    (hb : ∀ (W : WX) (pn : List (Addr × Obj)) (xe : Value → Shared → Prop), Takes (X.tr pn xe) W → PassesOwn (model X.prog X.w) X.A X.env xe → PSs (X.tr pn xe) body (tb W))
    (hsu : ∀ (a : Addr) (oe : Obj) (cls : Value) (d : Option Addr) (pn : List (Addr × Obj)), Zc cls d oe → (∃ vs, oe.data = .fields vs) → PSs (X.suite a ((a, oe) :: pn)) (b₀ :: suite) (ts a cls d)) :
    PS X (.Try body [.ExceptHandler (some (.Name x np)) (some n) (b₀ :: suite) pos'] [] [] pos) (fun D σ H => tb (wAsK X.K c i ts Wout D) D σ H) := by
  refine ⟨fun pins s σ H D I h => ?_⟩
  have ok := I.ok
  have hfr : X.A.frames = some (X.env :: X.outer) := by rw [ok.frames, hs]
  have hloc : Loc X.env.scope n := .inl hln
  refine wpAny_Try_except ?_
  refine wpAny_mono ((hb (wAsK X.K c i ts Wout D) (X.pn ++ pins) (fun e s₁ => wpAny (model X.prog X.w) X.A (noteFrame e X.env) (fun _ s₂ => wpAny (model X.prog X.w) X.A (setFlight e none) (fun _ s₃ =>
    wpAny (model X.prog X.w) X.A (handleBy e X.env [.ExceptHandler (some (.Name x np)) (some n) (b₀ :: suite) pos']) (SP X pins D) X.xe s₃) X.xe s₂) X.xe s₁) (fun u s' xx => ?_) PassesOwn.looking).run [] s σ H D (I.toTry _) h) (fun f s1 hsp => ?_) (fun e s1 he => he)
  · -- the catch
    obtain ⟨a, B, sI, pins', σ', H', cls, d, rfl, J', nb, up, sky, na, os, ag, b, hb1, hyes, hno⟩ := xx
    have J : Inv X pins σ' H' sI := J'.ofTry ok
    have sky' : Sky B (X.env :: X.outer) a (Zc cls d) X.env.locals s'.heap := by rw [← hs]; exact sky
    show wpAny (model X.prog X.w) X.A (noteFrame (.ref a) X.env) _ _ _
    refine Sky.land Zc.steady hfr hf sky' fun h3 fl3 up3 => ?_
    have J3 : Inv X pins σ' H' { s' with heap := h3 } := J.landed nb fl3.1 (up.trans up3) os ag
    obtain ⟨oe3, vs3, he3, hz3, hd3⟩ := fl3.there
    have notFr : ∀ {h : Heap} {o : Obj} {vs : Array Value}, h.FunFrames B (X.env :: X.outer) → h.get? a = some o → o.data = .fields vs → a ∉ frs (X.env :: X.outer) := fun {h o vs} ff e dd hm => by
      obtain ⟨_, o', e', hnf⟩ := ff.mem hm
      rw [e] at e'; cases e'
      exact hnf _ dd
    have nfr := notFr fl3.2.2.1 he3 hd3
    have nL : a ≠ X.env.locals := fun z => nfr (List.mem_filterMap.mpr ⟨X.env, List.mem_cons_self, by rw [hf, z]⟩)
    have nF : a ∉ X.fs := fun hm => by
      obtain ⟨e, he, q⟩ := List.mem_filterMap.mp hm
      exact nfr (List.mem_filterMap.mpr ⟨e, List.mem_cons_of_mem _ he, q⟩)
    have nI : sI.heap.get? a = none := by
      cases q : sI.heap.get? a with
      | none => rfl
      | some o =>
        have z := nb a o q (by rw [hs]; exact nfr)
        rw [fl3.2.1] at z
        cases z
    have n0 : X.s_0.heap.get? a = none := by
      cases q : X.s_0.heap.get? a with
      | none => rfl
      | some o =>
        obtain ⟨o', z⟩ := J.base.there a o q (by rw [hex]; exact fun z => nomatch z)
        rw [nI] at z
        cases z
    have nP : ∀ p ∈ X.pn ++ pins, p.1 ≠ a := fun p hp z => by
      have q := (J.pin p hp).1
      rw [z, nI] at q
      cases q
    have S3 := J3.suite he3 hd3 na nL nF
    refine wpAny_handleBy_cons (codeAny_handlers_test ?_) (by intro q; cases q)
    have LT : PySem.W.Looks (model X.prog X.w) h3 (typeOf (.ref a)) cls := fun A Q E s k q => wpAny_typeOf_ref (k _ _ he3) (by rw [hz3.1]; exact q)
    have LM := PySem.W.exm_one (M := model X.prog X.w) (J3.kIn) LT hb1
    have test : ∀ {Q : Value → Shared → Prop} {E : Value → Shared → Prop}, Q c { s' with heap := h3 } → wpAny (model X.prog X.w) (X.A.mark (some (.ref a))) (eval (.Name x np) X.env) Q E { s' with heap := h3 } := fun {Q E} q => by
      obtain ⟨hg, hdbg, hm | ⟨hm, hv, hnn⟩⟩ := hc
      · exact ld_glob (X := X.suite a ((a, oe3) :: (X.pn ++ pins))) S3 hg hm q hdbg
      · exact ld_blt (X := X.suite a ((a, oe3) :: (X.pn ++ pins))) S3 hg hm hv q hnn hdbg
    refine test (LM.here ?_)
    cases b with
    | true =>
      refine codeAny_handlers_suite_as ?_
      refine HandSPX.lands_againZ fl3 fun h4 fl4 up4 => ?_
      have J4 : Inv X pins σ' H' { s' with heap := h4 } := J.landed nb fl4.1 ((up.trans up3).trans up4) os ag
      obtain ⟨oe4, vs4, he4, hz4, hd4⟩ := fl4.there
      have S4 := J4.suite he4 hd4 na nL nF
      obtain ⟨hdn, hyes⟩ := hyes rfl
      refine store_ok (X := X.suite a ((a, oe4) :: (X.pn ++ pins))) (v := .ref a) S4 hN hi hloc rfl (fun s5 S5 => ?_) (.inr hln)
      refine wpAny_mono ((hsu a oe4 cls d (X.pn ++ pins) hz4 ⟨_, hd4⟩).run [] s5 _ H' _ S5 (hyes a na)) (fun f s6 hsp => ?_) (fun _ _ z => False.elim z)
      cases f with
      | next =>
        obtain ⟨σ6, H6, S6, q6⟩ := hsp
        obtain ⟨p1, p2, _⟩ := S6.pin (a, oe4) (List.mem_append.mpr (.inl List.mem_cons_self))
        subst hdn
        have T6 := invTrack (o := ExK cls a) (S6.unsuite ok) p1 (fun v z => by rw [hd4] at z; cases z) p2 n0 nL nP (exK_ok p1 hz4 hd4)
        exact gone_ok T6 hN hi hln fun s7 J7 => ⟨_, _, J7, q6 p2⟩
      | brk =>
        obtain ⟨σ6, H6, S6, q6⟩ := hsp
        exact q6.elim
      | cont =>
        obtain ⟨σ6, H6, S6, q6⟩ := hsp
        exact q6.elim
      | ret u =>
        obtain ⟨v6, σ6, H6, S6, r6, q6⟩ := hsp
        exact q6.elim
    | false =>
      show wpAny _ X.A (handleBy (.ref a) X.env []) _ _ _
      refine wpAny_handleBy_nil ?_
      obtain ⟨k1, k2, k3, oe, vs, T, oT, ts', he, hz, hd, h1, hr⟩ := id fl3
      unfold PySem.passOn
      refine wpAny_bind (wpAny_field he hd h1 ?_)
      rw [if_neg (show ¬ ((Value.ref T == Value.none) = true) from by simp)]
      have fin : wpAny (model X.prog X.w) X.A (setFlight (.ref a) X.env.frame) (fun _ s4 => wpAny (model X.prog X.w) X.A (throw (.ref a) : Sem Flow) (SP X pins D) X.xe s4) X.xe { s' with heap := h3 } := by
        rw [hf]
        refine HandSPX.setFlight_upZ fl3 fun h4 hh4 up4 => wpAny_throw (tk _ _ ?_)
        exact ⟨a, B, sI, pins, σ', H', cls, d, rfl, J, nb, (up.trans up3).trans up4, .inr (.inr (by rw [hs]; exact hh4)), na, os, ag, hno rfl⟩
      first
        | exact wpAny_bind (wpAny_pure (wpAny_bind fin))
        | exact wpAny_bind fin
  · cases f with
    | next =>
      obtain ⟨σ', H', J', q⟩ := hsp
      exact wpAny_execs_nil ⟨σ', H', J'.ofTry ok, q⟩
    | brk =>
      obtain ⟨σ', H', J', q⟩ := hsp
      exact ⟨σ', H', J'.ofTry ok, q⟩
    | cont =>
      obtain ⟨σ', H', J', q⟩ := hsp
      exact ⟨σ', H', J'.ofTry ok, q⟩
    | ret u =>
      obtain ⟨v, σ', H', J', r, q⟩ := hsp
      exact ⟨v, σ', H', J'.ofTry ok, r, q⟩
end
end DL

set_option Elab.async false
set_option linter.all false
set_option maxRecDepth 100000
set_option maxHeartbeats 4000000
set_option autoImplicit false
/-! the data layer: what a def computes, as a function of plain data -/
namespace DL
open PySem L2
abbrev PD := PyData

/-- an outcome: a value, an exception by its class's name, or no claim -/
inductive R (α : Type) where
  | ok (a : α)
  | ex (c : Str)
  | no
def R.bind {α β : Type} (r : R α) (k : α → R β) : R β := match r with
  | .ok a => k a
  | .ex c => .ex c
  | .no => .no
@[simp] theorem R.bind_ok {α β : Type} (a : α) (k : α → R β) : (R.ok a).bind k = k a := rfl
@[simp] theorem R.bind_ex {α β : Type} (c : Str) (k : α → R β) : (R.ex c : R α).bind k = .ex c := rfl
@[simp] theorem R.bind_no {α β : Type} (k : α → R β) : (R.no : R α).bind k = .no := rfl

/-- a field of an object of one's own: data that stands still; a list of its own; a dict of its own -/
inductive FV where
  | d (x : PD)
  | l (xs : List PD)
  | k (kvs : List (L2.Key × PD))
abbrev Fs := List (Str × FV)
/-- a told tuple's parts: data that stands still; a list of one's own; an object of one's own -/
inductive TP where
  | d (x : PD)
  | l (xs : List PD)
  | o (c : Str) (fs : Fs)
/-- what a local holds: data that stands still; a list of its own; a dict of its own; a list of lists of its own; an object of its own; the object whose method runs; an object that is looked at alone; a tuple of data and of lists of its own; a list of its own that stands still for a while -/
inductive SV where
  | d (x : PD)
  | l (xs : List PD)
  | k (kvs : List (L2.Key × PD))
  | ll (xss : List (List PD))
  | o (c : Str) (fs : Fs)
  | me (c : Str) (fs : Fs)
  | ro (c : Str) (fs : Fs)
  | tp (ps : List TP)
  | pl (xs : List PD)
  | mk (kvs : List (L2.Key × PD))
abbrev En := List (Option SV)
def SV.own : SV → Bool
  | .d _ => false
  | _ => true

/-! ### values that bear data in a heap -/
/-- a dict's key as data -/
def KeyD : L2.Key → PD → Prop
  | .inl i, .int j => i = j
  | .inr x, .str y => x = y
  | _, _ => False
/-- an exception of a class of the program as data -/
def exD (c : Str) : PD := .dict [(.none, .str c)]
mutual
inductive Rp (K : PySem.W.Frag) (S : Hp) : V → PD → Prop
  | non : Rp K S .non .none
  | bl (b : Bool) : Rp K S (.bl b) (.bool b)
  | int (i : Int) : Rp K S (.int i) (.int i)
  | str (x : Str) : Rp K S (.str x) (.str x)
  | lst {a : Addr} {xs : List V} {ds : List PD} : SqL K S a xs → RpA K S xs ds → Rp K S (.ref a) (.list ds)
  | tup {a : Addr} {xs : List V} {ds : List PD} : SqT K S a xs → RpA K S xs ds → Rp K S (.ref a) (.tuple ds)
  | exc {a : Addr} {c : Str} : S a = some (ExK (.ref (He.ga K c)) a) → Rp K S (.ref a) (.dict [(.none, .str c)])
  | dct {a : Addr} {o : Obj} {kvs : List (L2.Key × V)} {ds : List (PD × PD)} : S a = some (.frz o (.dK kvs)) → RpK K S kvs ds → Rp K S (.ref a) (.dict ds)
inductive RpA (K : PySem.W.Frag) (S : Hp) : List V → List PD → Prop
  | nil : RpA K S [] []
  | cons {v : V} {vs : List V} {d : PD} {ds : List PD} : Rp K S v d → RpA K S vs ds → RpA K S (v :: vs) (d :: ds)
inductive RpK (K : PySem.W.Frag) (S : Hp) : List (L2.Key × V) → List (PD × PD) → Prop
  | nil : RpK K S [] []
  | cons {k : L2.Key} {v : V} {kvs : List (L2.Key × V)} {kd d : PD} {ds : List (PD × PD)} : KeyD k kd → Rp K S v d → RpK K S kvs ds → RpK K S ((k, v) :: kvs) ((kd, d) :: ds)
end

section
variable {K : PySem.W.Frag} {S S' H H' : Hp}
theorem Same.seqT {a : Addr} {xs : List V} (e : Same S S') (h : SqT K S a xs) : SqT K S' a xs := by
  rcases h with (h | ⟨o, h⟩) | h
  · exact .inl (.inl (e _ _ h))
  · exact .inl (.inr ⟨o, e _ _ h⟩)
  · exact .inr h
mutual
theorem Rp.mono0 (e : Same S S') : ∀ {v : V} {d : PD}, Rp K S v d → Rp K S' v d
  | _, _, .non => .non
  | _, _, .bl b => .bl b
  | _, _, .int i => .int i
  | _, _, .str x => .str x
  | _, _, .lst hs ha => .lst (Same.seq e hs) (RpA.mono0 e ha)
  | _, _, .tup hs ha => .tup (Same.seqT e hs) (RpA.mono0 e ha)
  | _, _, .exc h => .exc (e _ _ h)
  | _, _, .dct h hk => .dct (e _ _ h) (RpK.mono0 e hk)
theorem RpA.mono0 (e : Same S S') : ∀ {vs : List V} {ds : List PD}, RpA K S vs ds → RpA K S' vs ds
  | _, _, .nil => .nil
  | _, _, .cons h1 h2 => .cons (Rp.mono0 e h1) (RpA.mono0 e h2)
theorem RpK.mono0 (e : Same S S') : ∀ {vs : List (L2.Key × V)} {ds : List (PD × PD)}, RpK K S vs ds → RpK K S' vs ds
  | _, _, .nil => .nil
  | _, _, .cons h1 h2 h3 => .cons h1 (Rp.mono0 e h2) (RpK.mono0 e h3)
end
theorem Rp.mono (e : Same S S') (d : PD) (v : V) (h : Rp K S v d) : Rp K S' v d := Rp.mono0 e h
theorem RpA.mono (e : Same S S') (ds : List PD) (vs : List V) (h : RpA K S vs ds) : RpA K S' vs ds := RpA.mono0 e h
mutual
theorem Rp.dp : ∀ (d : PD) (v : V), d.canLay0 = true → Rp K S v d → Dp K S v d
  | .none, _, _, h => by cases h; exact .non
  | .bool b, _, _, h => by cases h; exact .bl b
  | .int i, _, _, h => by cases h; exact .int i
  | .str x, _, _, h => by cases h; exact .str x
  | .list ds, _, c, h => by
    cases h with
    | lst hs ha => exact .lst hs (RpA.dp ds _ c ha)
  | .tuple ds, _, c, h => by
    cases h with
    | tup hs ha => exact .tup hs (RpA.dp ds _ c ha)
  | .dict _, _, c, h => by cases c
theorem RpA.dp : ∀ (ds : List PD) (vs : List V), PyData.canLayAll0 ds = true → RpA K S vs ds → DpAll K S vs ds
  | [], _, _, h => by cases h; exact .nil
  | d :: ds, _, c, h => by
    have c' : (d.canLay0 && PyData.canLayAll0 ds) = true := c
    rw [Bool.and_eq_true] at c'
    cases h with
    | cons h1 h2 => exact .cons (Rp.dp d _ c'.1 h1) (RpA.dp ds _ c'.2 h2)
end
theorem RpA.length : ∀ {ds : List PD} {vs : List V}, RpA K S vs ds → vs.length = ds.length
  | [], _, h => by cases h; rfl
  | d :: ds, _, h => by
    cases h with
    | cons h1 h2 => simp only [List.length_cons, RpA.length h2]
theorem RpA.get : ∀ {ds : List PD} {vs : List V} {i : Nat} {d : PD}, RpA K S vs ds → ds[i]? = some d → ∃ v, vs[i]? = some v ∧ Rp K S v d
  | [], _, _, _, _, e => by simp at e
  | d :: ds, _, i, x, h, e => by
    cases h with
    | cons h1 h2 =>
      cases i with
      | zero =>
        simp at e
        subst e
        exact ⟨_, rfl, h1⟩
      | succ i => simpa using RpA.get h2 (by simpa using e)
theorem RpA.append : ∀ {ds es : List PD} {vs us : List V}, RpA K S vs ds → RpA K S us es → RpA K S (vs ++ us) (ds ++ es)
  | [], _, _, _, h, g => by cases h; exact g
  | d :: ds, _, _, _, h, g => by
    cases h with
    | cons h1 h2 => exact .cons h1 (RpA.append h2 g)
theorem RpA.take : ∀ {ds : List PD} {vs : List V} (n : Nat), RpA K S vs ds → RpA K S (vs.take n) (ds.take n)
  | [], _, n, h => by cases h; simpa using RpA.nil
  | d :: ds, _, n, h => by
    cases h with
    | cons h1 h2 =>
      cases n with
      | zero => exact .nil
      | succ n => exact .cons h1 (RpA.take n h2)
theorem RpA.drop : ∀ {ds : List PD} {vs : List V} (n : Nat), RpA K S vs ds → RpA K S (vs.drop n) (ds.drop n)
  | [], _, n, h => by cases h; simpa using RpA.nil
  | d :: ds, _, n, h => by
    cases h with
    | cons h1 h2 =>
      cases n with
      | zero => exact .cons h1 h2
      | succ n => exact RpA.drop n h2
theorem RpA.set {v : V} {d : PD} (r : Rp K S v d) : ∀ {ds : List PD} {vs : List V} (i : Nat), RpA K S vs ds → RpA K S (vs.set i v) (ds.set i d)
  | [], _, _, h => by cases h; exact .nil
  | e :: ds, _, i, h => by
    cases h with
    | cons h1 h2 =>
      cases i with
      | zero => exact .cons r h2
      | succ i => exact .cons h1 (RpA.set r i h2)
theorem RpA.reverse : ∀ {ds : List PD} {vs : List V}, RpA K S vs ds → RpA K S vs.reverse ds.reverse
  | [], _, h => by cases h; exact .nil
  | d :: ds, _, h => by
    cases h with
    | cons h1 h2 =>
      rw [List.reverse_cons, List.reverse_cons]
      exact (RpA.reverse h2).append (.cons h1 .nil)
theorem RpA.snoc {ds : List PD} {vs : List V} {v : V} {d : PD} (h : RpA K S vs ds) (r : Rp K S v d) : RpA K S (vs ++ [v]) (ds ++ [d]) := h.append (.cons r .nil)

/-- a heap grows: S, what is known of it, grows too, by new things alone -/
structure Ext (S H S' H' : Hp) : Prop where
  sub : Same S S'
  all : Same H H'
  inn : Same S' H'
  new : ∀ a o, S' a = some o → S a = some o ∨ H a = none
theorem Ext.refl (h : Same S H) : Ext S H S H := ⟨Same.refl _, Same.refl _, h, fun _ _ e => .inl e⟩
theorem Ext.trans {S1 S2 S3 H1 H2 H3 : Hp} (a : Ext S1 H1 S2 H2) (b : Ext S2 H2 S3 H3) : Ext S1 H1 S3 H3 :=
  ⟨a.sub.trans b.sub, a.all.trans b.all, b.inn, fun x o e => by
    rcases b.new x o e with h | h
    · exact a.new x o h
    · exact .inr (a.all.free h)⟩
/-- a new thing, known -/
theorem Ext.known {p : Addr} {o : HO} (h : Same S H) (hp : H p = none) : Ext S H (upd S p o) (upd H p o) := by
  have hs : S p = none := h.free hp
  refine ⟨fun a x e => by rw [upd_ne (ne_of_none e hs)]; exact e, fun a x e => by rw [upd_ne (ne_of_none e hp)]; exact e, fun a x e => ?_, fun a x e => ?_⟩
  · by_cases ha : a = p
    · subst ha; rw [upd_same] at e ⊢; exact e
    · rw [upd_ne ha] at e ⊢; exact h a x e
  · by_cases ha : a = p
    · subst ha; exact .inr hp
    · rw [upd_ne ha] at e; exact .inl e
/-- a new thing, not known -/
theorem Ext.fresh {p : Addr} {o : HO} (h : Same S H) (hp : H p = none) : Ext S H S (upd H p o) := by
  refine ⟨Same.refl _, fun a x e => by rw [upd_ne (ne_of_none e hp)]; exact e, fun a x e => ?_, fun a x e => .inl e⟩
  have := h a x e
  rw [upd_ne (ne_of_none this hp)]; exact this
end

/-! ### the state: F, the entry's known part and heap (without the footprint P of the object at a whose method runs) -/
structure F where
  S : Hp
  H : Hp
  a : Addr
  P : List Addr
  q : List Addr
def kvRel (K : PySem.W.Frag) (S : Hp) : List (L2.Key × V) → List (L2.Key × PD) → Prop
  | [], [] => True
  | (a, v) :: r, (b, d) :: q => a = b ∧ Rp K S v d ∧ kvRel K S r q
  | _, _ => False
theorem kvRel.mono {K : PySem.W.Frag} {S S' : Hp} (e : Same S S') : ∀ {l : List (L2.Key × V)} {m : List (L2.Key × PD)}, kvRel K S l m → kvRel K S' l m
  | [], [], _ => trivial
  | (a, v) :: r, (b, d) :: q, h => ⟨h.1, Rp.mono e _ _ h.2.1, kvRel.mono e h.2.2⟩
  | [], _ :: _, h => h.elim
  | _ :: _, [], h => h.elim
/-- lists of one's own at addresses -/
def LLs (K : PySem.W.Frag) (S H : Hp) : List Addr → List (List PD) → Prop
  | [], [] => True
  | b :: bs, xs :: xss => (∃ vs, H b = some (.lst vs) ∧ RpA K S vs xs) ∧ LLs K S H bs xss
  | _, _ => False
/-- a field's value; the addresses of what it owns -/
def FldV (K : PySem.W.Frag) (S H : Hp) (v : V) (bs : List Addr) : FV → Prop
  | .d x => bs = [] ∧ Rp K S v x
  | .l xs => ∃ b vs, v = .ref b ∧ bs = [b] ∧ H b = some (.lst vs) ∧ RpA K S vs xs
  | .k kvs => ∃ b vs, v = .ref b ∧ bs = [b] ∧ H b = some (.dK vs) ∧ kvRel K S vs kvs
def FldR (K : PySem.W.Frag) (S H : Hp) : List (Str × V) → Fs → List Addr → Prop
  | [], [], bs => bs = []
  | (n, v) :: vs, (m, x) :: fs, bs => n = m ∧ ∃ b1 b2, bs = b1 ++ b2 ∧ FldV K S H v b1 x ∧ FldR K S H vs fs b2
  | _, _, _ => False
def OwnI (K : PySem.W.Frag) (S H : Hp) (a : Addr) (fp : List Addr) (c : Str) (fs : Fs) : Prop := ∃ dx vs bs, fp = a :: dx :: bs ∧ fp.Nodup ∧ H a = some (.ins (He.ga K c) dx vs) ∧ H dx = some (.own a) ∧ FldR K S H vs fs bs
/-- a tuple's parts: data, and lists and objects of one's own at addresses -/
def TpR (K : PySem.W.Frag) (S H : Hp) : List V → List TP → List Addr → Prop
  | [], [], bs => bs = []
  | v :: vs, .d d :: ps, bs => Rp K S v d ∧ TpR K S H vs ps bs
  | v :: vs, .l xs :: ps, bs => ∃ b b2 us, bs = b :: b2 ∧ v = .ref b ∧ H b = some (.lst us) ∧ RpA K S us xs ∧ TpR K S H vs ps b2
  | v :: vs, .o c fs :: ps, bs => ∃ b b1 b2, bs = b1 ++ b2 ∧ v = .ref b ∧ OwnI K S H b b1 c fs ∧ TpR K S H vs ps b2
  | _, _, _ => False
def Own (K : PySem.W.Frag) (S H : Hp) (a : Addr) (fp : List Addr) : SV → Prop
  | .d _ => False
  | .l ds => fp = [a] ∧ ∃ vs, H a = some (.lst vs) ∧ RpA K S vs ds
  | .k kvs => fp = [a] ∧ ∃ vs, H a = some (.dK vs) ∧ kvRel K S vs kvs
  | .ll xss => ∃ bs, fp = a :: bs ∧ fp.Nodup ∧ H a = some (.lst (bs.map V.ref)) ∧ LLs K S H bs xss
  | .o c fs => OwnI K S H a fp c fs
  | .me c fs => OwnI K S H a fp c fs
  | .ro _ _ => False
  | .tp ps => ∃ bs vs, fp = a :: bs ∧ fp.Nodup ∧ H a = some (.tup vs) ∧ TpR K S H vs ps bs
  | .pl _ => False
  | .mk kvs => fp = [a] ∧ ∃ vs, H a = some (.dK vs) ∧ kvRel K S vs kvs
/-- what a running def changes for its caller -/
def SV.isMe : SV → Bool
  | .me _ _ => true
  | .mk _ => true
  | _ => false
def Sl (K : PySem.W.Frag) (G : F) (S H : Hp) (v : V) (fp : List Addr) : SV → Prop
  | .d x => Rp K S v x
  | .me c fs => v = .ref G.a ∧ Own K S H G.a fp (.me c fs)
  | .mk kvs => v = .ref G.a ∧ Own K S H G.a fp (.mk kvs)
  | .ro c fs => fp = [] ∧ ∃ a f0, v = .ref a ∧ OwnI K S G.H a f0 c fs ∧ ∀ b ∈ f0, S b = none ∧ G.H b ≠ none ∧ b ∉ G.q
  | .pl xs => fp = [] ∧ ∃ a vs, v = .ref a ∧ G.q.head? = some a ∧ S a = none ∧ G.H a = some (.lst vs) ∧ RpA K S vs xs
  | x => ∃ a, v = .ref a ∧ Own K S H a fp x
structure RelF (K : PySem.W.Frag) (G : F) (φ : Nat → List Addr) (S : Hp) (σ : St) (ρ : En) (H : Hp) : Prop where
  len : σ.length = ρ.length
  inn : Same S H
  ent : Same G.H H
  entS : Same G.S S
  new : ∀ a o, S a = some o → G.S a = some o ∨ (G.H a = none ∧ a ∉ G.P)
  gp : ∀ a, a ∈ G.P → G.H a = none ∧ S a = none ∧ H a ≠ none
  slot : ∀ (i : Nat) (x : SV), ρ[i]? = some (some x) → ∃ v, σ[i]? = some (some v) ∧ Sl K G S H v (φ i) x
  fr : ∀ i a, a ∈ φ i → S a = none ∧ G.H a = none ∧ H a ≠ none
  dj : ∀ i j a, i ≠ j → a ∈ φ i → a ∉ φ j
  pp : ∀ i a, a ∈ φ i → a ∈ G.P → ∃ x : SV, ρ[i]? = some (some x) ∧ x.isMe = true
def Rel (K : PySem.W.Frag) (G : F) (S : Hp) (σ : St) (ρ : En) (H : Hp) : Prop := ∃ φ, RelF K G φ S σ ρ H

section
variable {K : PySem.W.Frag} {G : F} {S S' H H' : Hp} {σ : St} {ρ : En} {φ : Nat → List Addr}
theorem Rel.len (r : Rel K G S σ ρ H) : σ.length = ρ.length := let ⟨_, r⟩ := r; r.len
theorem Rel.inn (r : Rel K G S σ ρ H) : Same S H := let ⟨_, r⟩ := r; r.inn
theorem Rel.ent (r : Rel K G S σ ρ H) : Same G.H H := let ⟨_, r⟩ := r; r.ent
theorem Rel.entS (r : Rel K G S σ ρ H) : Same G.S S := let ⟨_, r⟩ := r; r.entS
theorem Rel.new (r : Rel K G S σ ρ H) : ∀ a o, S a = some o → G.S a = some o ∨ (G.H a = none ∧ a ∉ G.P) := let ⟨_, r⟩ := r; r.new
theorem Rel.slot (r : Rel K G S σ ρ H) (i : Nat) (x : SV) (h : ρ[i]? = some (some x)) : ∃ v fp, σ[i]? = some (some v) ∧ Sl K G S H v fp x := by
  obtain ⟨φ, r⟩ := r
  obtain ⟨v, h1, h2⟩ := r.slot i x h
  exact ⟨v, φ i, h1, h2⟩
theorem Rel.slotD (r : Rel K G S σ ρ H) (i : Nat) (x : PD) (h : ρ[i]? = some (some (.d x))) : ∃ v, σ[i]? = some (some v) ∧ Rp K S v x := by
  obtain ⟨φ, r⟩ := r
  exact r.slot i _ h
/-! what is kept where the addresses of a footprint keep their things -/
theorem LLs.keep (e : Same S S') : ∀ {bs : List Addr} {xss : List (List PD)}, (∀ a ∈ bs, ∀ o, H a = some o → H' a = some o) → LLs K S H bs xss → LLs K S' H' bs xss
  | [], [], _, _ => trivial
  | b :: bs, xs :: xss, k, ⟨⟨vs, h1, h2⟩, h⟩ => ⟨⟨vs, k b (.head _) _ h1, RpA.mono e _ _ h2⟩, LLs.keep e (fun a ha => k a (.tail _ ha)) h⟩
  | [], _ :: _, _, h => h.elim
  | _ :: _, [], _, h => h.elim
theorem FldV.keep (e : Same S S') {v : V} {bs : List Addr} (k : ∀ a ∈ bs, ∀ o, H a = some o → H' a = some o) : ∀ {x : FV}, FldV K S H v bs x → FldV K S' H' v bs x
  | .d _, ⟨h1, h2⟩ => ⟨h1, Rp.mono e _ _ h2⟩
  | .l _, ⟨b, vs, h1, h2, h3, h4⟩ => ⟨b, vs, h1, h2, k b (by rw [h2]; exact .head _) _ h3, RpA.mono e _ _ h4⟩
  | .k _, ⟨b, vs, h1, h2, h3, h4⟩ => ⟨b, vs, h1, h2, k b (by rw [h2]; exact .head _) _ h3, kvRel.mono e h4⟩
theorem FldR.keep (e : Same S S') : ∀ {vs : List (Str × V)} {fs : Fs} {bs : List Addr}, (∀ a ∈ bs, ∀ o, H a = some o → H' a = some o) → FldR K S H vs fs bs → FldR K S' H' vs fs bs
  | [], [], _, _, h => h
  | (n, v) :: vs, (m, x) :: fs, bs, k, ⟨h1, b1, b2, h2, h3, h4⟩ => ⟨h1, b1, b2, h2, FldV.keep e (fun a ha => k a (by rw [h2]; exact List.mem_append_left _ ha)) h3, FldR.keep e (fun a ha => k a (by rw [h2]; exact List.mem_append_right _ ha)) h4⟩
  | [], _ :: _, _, _, h => h.elim
  | _ :: _, [], _, _, h => h.elim
theorem OwnI.keep (e : Same S S') {a : Addr} {fp : List Addr} {c : Str} {fs : Fs} (k : ∀ a ∈ fp, ∀ o, H a = some o → H' a = some o) (h : OwnI K S H a fp c fs) : OwnI K S' H' a fp c fs := by
  obtain ⟨dx, vs, bs, h1, h2, h3, h4, h5⟩ := h
  exact ⟨dx, vs, bs, h1, h2, k a (by rw [h1]; exact .head _) _ h3, k dx (by rw [h1]; exact .tail _ (.head _)) _ h4, FldR.keep e (fun a ha => k a (by rw [h1]; exact .tail _ (.tail _ ha))) h5⟩
theorem TpR.keep (e : Same S S') : ∀ {vs : List V} {ps : List TP} {bs : List Addr}, (∀ a ∈ bs, ∀ o, H a = some o → H' a = some o) → TpR K S H vs ps bs → TpR K S' H' vs ps bs
  | [], [], _, _, h => h
  | v :: vs, .d d :: ps, bs, k, ⟨h1, h2⟩ => ⟨Rp.mono e _ _ h1, TpR.keep e k h2⟩
  | v :: vs, .l xs :: ps, bs, k, ⟨b, b2, us, h1, h2, h3, h4, h5⟩ => ⟨b, b2, us, h1, h2, k b (by rw [h1]; exact .head _) _ h3, RpA.mono e _ _ h4, TpR.keep e (fun a ha => k a (by rw [h1]; exact .tail _ ha)) h5⟩
  | v :: vs, .o c fs :: ps, bs, k, ⟨b, b1, b2, h1, h2, h3, h4⟩ => ⟨b, b1, b2, h1, h2, OwnI.keep e (fun a ha => k a (by rw [h1]; exact List.mem_append_left _ ha)) h3, TpR.keep e (fun a ha => k a (by rw [h1]; exact List.mem_append_right _ ha)) h4⟩
  | [], .d _ :: _, _, _, h => h.elim
  | [], .l _ :: _, _, _, h => h.elim
  | [], .o _ _ :: _, _, _, h => h.elim
  | _ :: _, [], _, _, h => h.elim
theorem Own.keep (e : Same S S') {a : Addr} {fp : List Addr} {x : SV} (k : ∀ a ∈ fp, ∀ o, H a = some o → H' a = some o) (h : Own K S H a fp x) : Own K S' H' a fp x := by
  cases x with
  | d x => exact h
  | l ds => obtain ⟨h0, vs, h1, h2⟩ := h; exact ⟨h0, vs, k a (by rw [h0]; exact .head _) _ h1, RpA.mono e _ _ h2⟩
  | k kvs => obtain ⟨h0, vs, h1, h2⟩ := h; exact ⟨h0, vs, k a (by rw [h0]; exact .head _) _ h1, kvRel.mono e h2⟩
  | mk kvs => obtain ⟨h0, vs, h1, h2⟩ := h; exact ⟨h0, vs, k a (by rw [h0]; exact .head _) _ h1, kvRel.mono e h2⟩
  | ll xss =>
    obtain ⟨bs, h1, h2, h3, h4⟩ := h
    exact ⟨bs, h1, h2, k a (by rw [h1]; exact .head _) _ h3, LLs.keep e (fun a ha => k a (by rw [h1]; exact .tail _ ha)) h4⟩
  | o c fs => exact OwnI.keep e k h
  | me c fs => exact OwnI.keep e k h
  | ro c fs => exact h
  | pl xs => exact h
  | tp ps => obtain ⟨bs, vs, h1, h2, h3, h4⟩ := h; exact ⟨bs, vs, h1, h2, k a (by rw [h1]; exact .head _) _ h3, TpR.keep e (fun a ha => k a (by rw [h1]; exact .tail _ ha)) h4⟩
theorem Sl.keep (e : Same S S') {v : V} {fp : List Addr} {x : SV} (k : ∀ a ∈ fp, ∀ o, H a = some o → H' a = some o) (n : ∀ b, G.H b ≠ none → S b = none → S' b = none) (h : Sl K G S H v fp x) : Sl K G S' H' v fp x := by
  cases x with
  | ro c fs => obtain ⟨h0, a, f0, h1, h2, h3⟩ := h; exact ⟨h0, a, f0, h1, OwnI.keep e (fun _ _ _ q => q) h2, fun b hb => ⟨n b (h3 b hb).2.1 (h3 b hb).1, (h3 b hb).2⟩⟩
  | tp ds => obtain ⟨a, h1, h2⟩ := h; exact ⟨a, h1, h2.keep e k⟩
  | pl xs => obtain ⟨h0, a, vs, h1, h2, h3, h4, h5⟩ := h; exact ⟨h0, a, vs, h1, h2, n _ (by rw [h4]; intro z; cases z) h3, h4, RpA.mono e _ _ h5⟩
  | d x => exact Rp.mono e _ _ h
  | me c fs => exact ⟨h.1, Own.keep e k h.2⟩
  | mk c => exact ⟨h.1, Own.keep e k h.2⟩
  | l ds => obtain ⟨a, h1, h2⟩ := h; exact ⟨a, h1, h2.keep e k⟩
  | k ds => obtain ⟨a, h1, h2⟩ := h; exact ⟨a, h1, h2.keep e k⟩
  | ll ds => obtain ⟨a, h1, h2⟩ := h; exact ⟨a, h1, h2.keep e k⟩
  | o c ds => obtain ⟨a, h1, h2⟩ := h; exact ⟨a, h1, h2.keep e k⟩
theorem Ext.none (e : Ext S H S' H') {a : Addr} (hs : S a = none) (hh : H a ≠ .none) : S' a = .none := by
  cases q : S' a with
  | none => rfl
  | some o =>
    rcases e.new a o q with z | z
    · rw [hs] at z; cases z
    · exact absurd z hh
theorem same_ne (e : Same H H') {a : Addr} (h : H a ≠ none) : H' a ≠ none := by
  cases q : H a with
  | none => exact absurd q h
  | some o => rw [e a o q]; intro z; cases z
theorem RelF.ext (r : RelF K G φ S σ ρ H) (e : Ext S H S' H') : RelF K G φ S' σ ρ H' where
  len := r.len
  inn := e.inn
  ent := r.ent.trans e.all
  entS := r.entS.trans e.sub
  new := fun a o h => by
    rcases e.new a o h with z | z
    · exact r.new a o z
    · exact .inr ⟨r.ent.free z, fun hp => (r.gp a hp).2.2 z⟩
  gp := fun a ha => ⟨(r.gp a ha).1, e.none (r.gp a ha).2.1 (r.gp a ha).2.2, same_ne e.all (r.gp a ha).2.2⟩
  slot := fun i x h => by
    obtain ⟨v, h1, h2⟩ := r.slot i x h
    exact ⟨v, h1, h2.keep e.sub (fun a _ o q => e.all a o q) fun b hb hn => e.none hn (same_ne r.ent hb)⟩
  fr := fun i a ha => ⟨e.none (r.fr i a ha).1 (r.fr i a ha).2.2, (r.fr i a ha).2.1, same_ne e.all (r.fr i a ha).2.2⟩
  dj := r.dj
  pp := r.pp
theorem Rel.ext (r : Rel K G S σ ρ H) (e : Ext S H S' H') : Rel K G S' σ ρ H' := let ⟨φ, r⟩ := r; ⟨φ, r.ext e⟩
def φset (φ : Nat → List Addr) (i : Nat) (fp : List Addr) : Nat → List Addr := fun j => if j = i then fp else φ j
theorem φset_same {i : Nat} {fp : List Addr} : φset φ i fp i = fp := if_pos rfl
theorem φset_ne {i j : Nat} {fp : List Addr} (h : i ≠ j) : φset φ i fp j = φ j := if_neg fun e => h e.symm
/-- a slot gets another value; what it owns from then on was its own before, or is new -/
theorem RelF.set (r : RelF K G φ S σ ρ H) {i : Nat} {x : SV} {v : V} {fp : List Addr} (k : ∀ a o, a ∉ φ i → H a = some o → H' a = some o) (sub : Same S S') (inn : Same S' H')
    (new : ∀ a o, S' a = some o → S a = some o ∨ (H a = none ∧ a ∉ φ i) ∨ (a ∈ φ i ∧ a ∉ G.P)) (there : ∀ a ∈ φ i, H' a ≠ none) (hfp : ∀ a ∈ fp, S' a = none ∧ H' a ≠ none ∧ (a ∈ φ i ∨ H a = none))
    (hq : ∀ a ∈ fp, a ∈ G.P → i < ρ.length ∧ x.isMe = true)
    (hs : Sl K G S' H' v fp x) : RelF K G (φset φ i fp) S' (σ.set i (some v)) (ρ.set i (some x)) H' where
  len := by simp only [List.length_set]; exact r.len
  inn := inn
  ent := fun a o q => k a o (fun ha => by rw [(r.fr i a ha).2.1] at q; cases q) (r.ent a o q)
  entS := r.entS.trans sub
  new := fun a o h => by
    rcases new a o h with z | ⟨z, _⟩ | ⟨z, z'⟩
    · exact r.new a o z
    · exact .inr ⟨r.ent.free z, fun hp => (r.gp a hp).2.2 z⟩
    · exact .inr ⟨(r.fr i a z).2.1, z'⟩
  gp := fun a ha => by
    obtain ⟨g1, g2, g3⟩ := r.gp a ha
    refine ⟨g1, ?_, ?_⟩
    · cases q : S' a with
      | none => rfl
      | some o =>
        rcases new a o q with z | ⟨z, _⟩ | ⟨z, z'⟩
        · rw [g2] at z; cases z
        · exact absurd z g3
        · exact absurd ha z'
    · by_cases hm : a ∈ φ i
      · exact there a hm
      · cases q : H a with
        | none => exact absurd q g3
        | some o => rw [k a o hm q]; intro z; cases z
  slot := fun j y hj => by
    by_cases e : i = j
    · subst e
      by_cases hl : i < ρ.length
      · rw [List.getElem?_set_self hl] at hj
        cases hj
        exact ⟨v, List.getElem?_set_self (by rw [r.len]; exact hl), by rw [φset_same]; exact hs⟩
      · rw [List.getElem?_eq_none (by simpa using hl)] at hj; cases hj
    · rw [List.getElem?_set_ne e] at hj ⊢
      rw [φset_ne e]
      obtain ⟨u, h1, h2⟩ := r.slot j y hj
      exact ⟨u, h1, h2.keep sub (fun a ha o q => k a o (r.dj j i a (fun z => e z.symm) ha) q) fun b hb hn => by
        cases q : S' b with
        | none => rfl
        | some o =>
          rcases new b o q with z | ⟨z, _⟩ | ⟨z, _⟩
          · rw [hn] at z; cases z
          · exact absurd z (same_ne r.ent hb)
          · exact absurd (r.fr i b z).2.1 hb⟩
  fr := fun j a ha => by
    by_cases e : i = j
    · subst e
      rw [φset_same] at ha
      obtain ⟨h1, h2, h3⟩ := hfp a ha
      refine ⟨h1, ?_, h2⟩
      rcases h3 with z | z
      · exact (r.fr i a z).2.1
      · exact r.ent.free z
    · rw [φset_ne e] at ha
      obtain ⟨h1, h2, h3⟩ := r.fr j a ha
      have hn : a ∉ φ i := r.dj j i a (fun z => e z.symm) ha
      refine ⟨?_, h2, ?_⟩
      · cases q : S' a with
        | none => rfl
        | some o =>
          rcases new a o q with z | ⟨z, _⟩ | ⟨z, _⟩
          · rw [h1] at z; cases z
          · exact absurd z h3
          · exact absurd z hn
      · cases q : H a with
        | none => exact absurd q h3
        | some o => rw [k a o hn q]; intro z; cases z
  dj := fun j l a hjl hj hl => by
    by_cases e1 : i = j
    · subst e1
      rw [φset_same] at hj
      rw [φset_ne hjl] at hl
      rcases (hfp a hj).2.2 with z | z
      · exact r.dj i l a hjl z hl
      · exact (r.fr l a hl).2.2 z
    · by_cases e2 : i = l
      · subst e2
        rw [φset_same] at hl
        rw [φset_ne e1] at hj
        rcases (hfp a hl).2.2 with z | z
        · exact r.dj j i a hjl hj z
        · exact (r.fr j a hj).2.2 z
      · rw [φset_ne e1] at hj
        rw [φset_ne e2] at hl
        exact r.dj j l a hjl hj hl
  pp := fun j a hj hp => by
    by_cases e1 : i = j
    · subst e1
      rw [φset_same] at hj
      obtain ⟨hl, hx⟩ := hq a hj hp
      exact ⟨x, List.getElem?_set_self hl, hx⟩
    · rw [φset_ne e1] at hj
      rw [List.getElem?_set_ne e1]
      exact r.pp j a hj hp
/-- data is put at a slot -/
theorem Rel.setD (r : Rel K G S σ ρ H) {v : V} {x : PD} (h : Rp K S v x) (i : Nat) : Rel K G S (σ.set i (some v)) (ρ.set i (some (.d x))) H := by
  obtain ⟨φ, r⟩ := r
  exact ⟨_, r.set (fp := []) (fun _ _ _ q => q) (Same.refl _) r.inn (fun _ _ q => .inl q) (fun a ha => (r.fr i a ha).2.2) (fun a ha => nomatch ha) (fun a ha => nomatch ha) h⟩
/-- a slot is forgotten -/
theorem Rel.forget (r : Rel K G S σ ρ H) (i : Nat) (w : Option V) : Rel K G S (σ.set i w) (ρ.set i none) H := by
  obtain ⟨φ, r⟩ := r
  have hm : ∀ j a, a ∈ φset φ i [] j → j ≠ i ∧ a ∈ φ j := fun j a ha => by
    by_cases e : i = j
    · subst e; rw [φset_same] at ha; cases ha
    · rw [φset_ne e] at ha; exact ⟨fun z => e z.symm, ha⟩
  refine ⟨φset φ i [], ?_, r.inn, r.ent, r.entS, r.new, r.gp, fun j y hj => ?_, fun j a ha => r.fr j a (hm j a ha).2, fun j l a e h1 h2 => r.dj j l a e (hm j a h1).2 (hm l a h2).2, fun j a ha hp => ?_⟩
  · simp only [List.length_set]; exact r.len
  · by_cases e : i = j
    · subst e
      by_cases hl : i < ρ.length
      · rw [List.getElem?_set_self hl] at hj; cases hj
      · rw [List.getElem?_eq_none (by simpa using hl)] at hj; cases hj
    · rw [List.getElem?_set_ne e] at hj ⊢
      rw [φset_ne e]
      exact r.slot j y hj
  · obtain ⟨h1, h2⟩ := hm j a ha
    rw [List.getElem?_set_ne (fun z => h1 z.symm)]
    exact r.pp j a h2 hp
/-- a new thing of one's own is put at a slot -/
theorem Rel.newP (r : Rel K G S σ ρ H) (e : Ext S H S' H') {v : V} {x : SV} {fp : List Addr} (hfp : ∀ a ∈ fp, H a = none ∧ S' a = none ∧ H' a ≠ none) (hs : Sl K G S' H' v fp x) (i : Nat) : Rel K G S' (σ.set i (some v)) (ρ.set i (some x)) H' := by
  obtain ⟨φ, r⟩ := r
  exact ⟨_, r.set (fun a o _ q => e.all a o q) e.sub e.inn (fun a o q => by
    rcases e.new a o q with z | z
    · exact .inl z
    · exact .inr (.inl ⟨z, fun hm => (r.fr i a hm).2.2 z⟩)) (fun a ha => same_ne e.all (r.fr i a ha).2.2) (fun a ha => ⟨(hfp a ha).2.1, (hfp a ha).2.2, .inr (hfp a ha).1⟩)
    (fun a ha hp => absurd (hfp a ha).1 (r.gp a hp).2.2) hs⟩
theorem ne_some {o : HO} {x : Option HO} (h : x = some o) : x ≠ none := by rw [h]; intro z; cases z
theorem set_self {α : Type} {l : List α} {i : Nat} {x : α} (h : l[i]? = some x) : l.set i x = l := by
  apply List.ext_getElem?
  intro j
  by_cases e : i = j
  · subst e
    rw [List.getElem?_set_self (List.getElem?_eq_some_iff.mp h).1, h]
  · rw [List.getElem?_set_ne e]
/-- what a slot owns that is not the running method's own -/
theorem RelF.nop (r : RelF K G φ S σ ρ H) {i : Nat} {x : SV} (hi : ρ[i]? = some (some x)) (hx : x.isMe = false) : ∀ a ∈ φ i, a ∉ G.P := fun a ha hp => by
  obtain ⟨y, e, hy⟩ := r.pp i a ha hp
  rw [hi] at e
  cases e
  rw [hx] at hy
  cases hy
/-- a list of one's own is known from here on -/
theorem Rel.known {ds : List PD} {i : Nat} (r : Rel K G S σ ρ H) (hi : ρ[i]? = some (some (.l ds))) : ∃ a vs, σ[i]? = some (some (.ref a)) ∧ S a = none ∧ H a = some (.lst vs) ∧ RpA K S vs ds ∧ Rel K G (upd S a (.lst vs)) σ (ρ.set i (some (.d (.list ds)))) H := by
  obtain ⟨φ, r⟩ := r
  obtain ⟨v, h1, a, rfl, hf, vs, ha, hr⟩ := r.slot i _ hi
  have hm : a ∈ φ i := by rw [hf]; exact .head _
  obtain ⟨f1, f2, f3⟩ := r.fr i a hm
  have hP := r.nop hi rfl a hm
  have sub : Same S (upd S a (.lst vs)) := fun b o e => by rw [upd_ne (ne_of_none e f1)]; exact e
  refine ⟨a, vs, h1, f1, ha, hr, φset φ i [], ?_⟩
  have z := r.set (i := i) (x := .d (.list ds)) (v := .ref a) (fp := []) (S' := upd S a (.lst vs)) (H' := H) (fun _ _ _ q => q) sub (fun b o e => by
      by_cases hb : b = a
      · subst hb; rw [upd_same] at e; cases e; exact ha
      · rw [upd_ne hb] at e; exact r.inn b o e) (fun b o e => by
      by_cases hb : b = a
      · subst hb; exact .inr (.inr ⟨hm, hP⟩)
      · rw [upd_ne hb] at e; exact .inl e) (fun b hb => (r.fr i b hb).2.2) (fun b hb => nomatch hb) (fun b hb => nomatch hb) (.lst (SqL.of upd_same) (RpA.mono sub _ _ hr))
  rw [set_self h1] at z
  exact z
end
end DL

set_option Elab.async false
set_option linter.all false
set_option maxRecDepth 100000
set_option maxHeartbeats 4000000
set_option autoImplicit false
/-! the data layer 2: readings that compute -/
namespace DL
open PySem L2

/-! ### weaker readings -/
section
variable {X : Cx}
theorem PEimp {e : Expr} {t t' : TE} (h : PE X e t) (i : ∀ σ H Q, t' σ H Q → t σ H Q) : PE X e t' := ⟨fun pins s σ H Q I q => h.run pins s σ H Q I (i σ H Q q)⟩
theorem PTimp {e : Expr} {t t' : TT} (h : PT X e t) (i : ∀ σ H Q, t' σ H Q → t σ H Q) : PT X e t' := ⟨fun pins s σ H Q I q => h.run pins s σ H Q I (i σ H Q q)⟩
theorem PWimp {e : Expr} {t t' : TT} (h : PW X e t) (i : ∀ σ H Q, t' σ H Q → t σ H Q) : PW X e t' := ⟨fun w pins s σ H Q I q => h.run w pins s σ H Q I (i σ H Q q)⟩
theorem PAimp {e : List Expr} {t t' : TA} (h : PA X e t) (i : ∀ σ H Q, t' σ H Q → t σ H Q) : PA X e t' := ⟨fun pos pins s σ H Q I q => h.run pos pins s σ H Q I (i σ H Q q)⟩
theorem PSimp {e : Stmt} {t t' : TS} (h : PS X e t) (i : ∀ D σ H, t' D σ H → t D σ H) : PS X e t' := ⟨fun pins s σ H D I q => h.run pins s σ H D I (i D σ H q)⟩
theorem PSsimp {e : List Stmt} {t t' : TS} (h : PSs X e t) (i : ∀ D σ H, t' D σ H → t D σ H) : PSs X e t' := ⟨fun pins s σ H D I q => h.run pins s σ H D I (i D σ H q)⟩
theorem PIimp {tg e : Expr} {t t' : TI} (h : PI X tg e t) (i : ∀ σ H Q, t' σ H Q → t σ H Q) : PI X tg e t' := ⟨fun pins s σ H Q I q => h.run pins s σ H Q I (i σ H Q q)⟩
end

/-! ### what is wanted of an outcome -/
abbrev MG := Str → Option Value
def wG {A B : Type} (rp : Hp → B → A → Prop) (mg : MG) (W : WX) (σ : St) (S H : Hp) (Q : B → Hp → Prop) : R A → Prop
  | .ok a => ∀ b S' H', Ext S H S' H' → rp S' b a → Q b H'
  | .ex c => ∀ cls S' H', mg c = some cls → Ext S H S' H' → W cls none σ H'
  | .no => False
theorem wG.mono {A B : Type} {rp : Hp → B → A → Prop} {mg : MG} {W : WX} {σ : St} {S H S1 H1 : Hp} {Q : B → Hp → Prop} {r : R A} (e : Ext S H S1 H1) (h : wG rp mg W σ S H Q r) : wG rp mg W σ S1 H1 Q r := by
  cases r with
  | ok a => exact fun b S' H' e' x => h b S' H' (e.trans e') x
  | ex c => exact fun cls S' H' m e' => h cls S' H' m (e.trans e')
  | no => exact h
theorem wG.imp {A B : Type} {rp : Hp → B → A → Prop} {mg : MG} {W : WX} {σ : St} {S H : Hp} {Q Q' : B → Hp → Prop} {r : R A} (i : ∀ b H, Q b H → Q' b H) (h : wG rp mg W σ S H Q r) : wG rp mg W σ S H Q' r := by
  cases r with
  | ok a => exact fun b S' H' e' x => i b H' (h b S' H' e' x)
  | ex c => exact h
  | no => exact h
theorem wG.bind {A B A' B' : Type} {rp : Hp → B → A → Prop} {rp' : Hp → B' → A' → Prop} {mg : MG} {W : WX} {σ : St} {S H : Hp} {Q : B' → Hp → Prop} {r : R A} {k : A → R A'} (h : wG rp' mg W σ S H Q (r.bind k)) :
    wG rp mg W σ S H (fun b H1 => ∃ S1 a, Ext S H S1 H1 ∧ rp S1 b a ∧ wG rp' mg W σ S1 H1 Q (k a)) r := by
  cases r with
  | ok a => exact fun b S' H' e x => ⟨S', a, e, x, h.mono e⟩
  | ex c => exact h
  | no => exact h
def tG {A B : Type} (rp : Hp → B → A → Prop) (K : PySem.W.Frag) (mg : MG) (W : WX) (f : En → R A) : St → Hp → (B → Hp → Prop) → Prop := fun σ H Q => ∃ G ρ S, Rel K G S σ ρ H ∧ wG rp mg W σ S H Q (f ρ)
abbrev tD (K : PySem.W.Frag) (mg : MG) (W : WX) (f : En → R PD) : TE := tG (Rp K) K mg W f
def rpB : Hp → Bool → Bool → Prop := fun _ b a => b = a
abbrev tDT (K : PySem.W.Frag) (mg : MG) (W : WX) (f : En → R Bool) : TT := tG rpB K mg W f
abbrev tDA (K : PySem.W.Frag) (mg : MG) (W : WX) (f : En → R (List PD)) : TA := tG (RpA K) K mg W f
theorem tG.mk {A B : Type} {rp : Hp → B → A → Prop} {K : PySem.W.Frag} {mg : MG} {W : WX} {f : En → R A} {G : F} {ρ : En} {S H : Hp} {σ : St} {Q : B → Hp → Prop} (r : Rel K G S σ ρ H) (h : wG rp mg W σ S H Q (f ρ)) : tG rp K mg W f σ H Q := ⟨G, ρ, S, r, h⟩

/-! ### combinators of computations -/
def dC (d : PD) : En → R PD := fun _ => .ok d
def dV (i : Nat) : En → R PD := fun ρ => match ρ[i]? with
  | some (some (.d d)) => .ok d
  | _ => .no
def d1 (g : PD → R PD) (f : En → R PD) : En → R PD := fun ρ => (f ρ).bind g
def d2 (g : PD → PD → R PD) (f1 f2 : En → R PD) : En → R PD := fun ρ => (f1 ρ).bind fun a => (f2 ρ).bind fun b => g a b
def dNil : En → R (List PD) := fun _ => .ok []
def dCons (f : En → R PD) (g : En → R (List PD)) : En → R (List PD) := fun ρ => (f ρ).bind fun a => (g ρ).bind fun as => .ok (a :: as)
def dA (g : List PD → R PD) (f : En → R (List PD)) : En → R PD := fun ρ => (f ρ).bind g
def toB : PD → R Bool
  | .bool b => .ok b
  | _ => .no
def dT (f : En → R PD) : En → R Bool := fun ρ => (f ρ).bind toB
def dAnd (f g : En → R Bool) : En → R Bool := fun ρ => (f ρ).bind fun a => if a = true then g ρ else .ok false
def dOr (f g : En → R Bool) : En → R Bool := fun ρ => (f ρ).bind fun a => if a = true then .ok true else g ρ
def dNot (f : En → R Bool) : En → R Bool := fun ρ => (f ρ).bind fun a => .ok (!a)
section
variable {X : Cx} {W : WX} {f f1 f2 : En → R PD} {a b e : Expr} {pos : Pos}
theorem pd_int {i : Int} {j} : PE X (.Constant (.int i) j pos) (tD X.K X.mg W (dC (.int i))) := PEimp pe_int fun σ H Q ⟨G, ρ, S, r, h⟩ => h (.int i) S H (Ext.refl r.inn) (.int i)
theorem pd_bl {i : Bool} {j} : PE X (.Constant (.bool i) j pos) (tD X.K X.mg W (dC (.bool i))) := PEimp pe_bl fun σ H Q ⟨G, ρ, S, r, h⟩ => h (.bl i) S H (Ext.refl r.inn) (.bl i)
theorem pd_non {j} : PE X (.Constant .none j pos) (tD X.K X.mg W (dC .none)) := PEimp pe_non fun σ H Q ⟨G, ρ, S, r, h⟩ => h .non S H (Ext.refl r.inn) .non
theorem pd_str {x : Str} {j} : PE X (.Constant (.str x) j pos) (tD X.K X.mg W (dC (.str x))) := PEimp pe_str fun σ H Q ⟨G, ρ, S, r, h⟩ => h (.str x) S H (Ext.refl r.inn) (.str x)
theorem tVar_of {i : Nat} {σ : St} {H : Hp} {Q : VK} (h : tD X.K X.mg W (dV i) σ H Q) : tVar i σ H Q := by
  obtain ⟨G, ρ, S, r, h⟩ := h
  unfold dV at h
  split at h
  · rename_i d e
    obtain ⟨v, h1, h2⟩ := r.slotD i _ e
    exact ⟨v, h1, h v S H (Ext.refl r.inn) h2⟩
  · exact h.elim
theorem pd_v (i : Nat) {x : Str} (hN : X.N[i]? = some x := by rfl) (hv : Vis X.env.scope x := by first | exact Or.inl rfl | exact Or.inr (Or.inl rfl) | exact Or.inr (Or.inr rfl)) (hd : (x == ("__debug__" : Str)) = false := by decide)
    (hcd : (x == ("__classdict__" : Str)) = false := by decide) : PE X (.Name x pos) (tD X.K X.mg W (dV i)) := PEimp (pe_var hN hv hd hcd) fun _ _ _ h => tVar_of h
/-- a module's constant -/
theorem pd_g {x : Str} {v : V} {u : Value} {d : PD} (hg : Gl X x) (hm : X.mg x = some u) (r : RelV v u) (hr : ∀ S, Rp X.K S v d) (hd : (x == ("__debug__" : Str)) = false := by decide) : PE X (.Name x pos) (tD X.K X.mg W (dC d)) :=
  PEimp (pe_glob hg hm r hd) fun σ H Q ⟨G, ρ, S, rl, h⟩ => h v S H (Ext.refl rl.inn) (hr S)

/-- a two-place operator, by its work on data -/
def OpD (X : Cx) (fn : Value → Value → Sem Value) (g : PD → PD → R PD) : Prop :=
  OpR X fn fun x y H Q => ∃ S a b, Same S H ∧ Rp X.K S x a ∧ Rp X.K S y b ∧ match g a b with
    | .ok d => ∀ v S' H', Ext S H S' H' → Rp X.K S' v d → Q v H'
    | _ => False
theorem d2_of {r : R2} {g : PD → PD → R PD} (hr : ∀ x y H Q, (∃ S a b, Same S H ∧ Rp X.K S x a ∧ Rp X.K S y b ∧ match g a b with
    | .ok d => ∀ v S' H', Ext S H S' H' → Rp X.K S' v d → Q v H'
    | _ => False) → r x y H Q) (hn : ∀ a b c, g a b ≠ .ex c) : ∀ σ H Q, tD X.K X.mg W (d2 g f1 f2) σ H Q → tOp r (tD X.K X.mg W f1) (tD X.K X.mg W f2) σ H Q := by
  rintro σ H Q ⟨G, ρ, S, rel, h⟩
  refine tG.mk rel (wG.imp ?_ (wG.bind (rp := Rp X.K) h))
  rintro x H1 ⟨S1, a, e1, ra, h1⟩
  refine tG.mk (rel.ext e1) (wG.imp ?_ (wG.bind (rp := Rp X.K) h1))
  rintro y H2 ⟨S2, b, e2, rb, h2⟩
  refine hr x y H2 Q ⟨S2, a, b, e2.inn, Rp.mono e2.sub _ _ ra, rb, ?_⟩
  cases q : g a b with
  | ok d => rw [q] at h2; exact h2
  | ex c => exact absurd q (hn a b c)
  | no => rw [q] at h2; exact h2
/-- g never raises -/
def NoEx (g : PD → PD → R PD) : Prop := ∀ a b c, g a b ≠ .ex c
theorem pd_bin {op : Operator} {g : PD → PD → R PD} (ho : OpD X (binaryOp op) g) (hn : NoEx g) (ha : PE X a (tD X.K X.mg W f1)) (hb : PE X b (tD X.K X.mg W f2)) : PE X (.BinOp a op b pos) (tD X.K X.mg W (d2 g f1 f2)) :=
  PEimp (pe_op ho ha hb) (d2_of (fun _ _ _ _ h => h) hn)
theorem pd_cmp {op : CmpOp} {g : PD → PD → R PD} (ho : OpD X (compareOp op) g) (hn : NoEx g) (ha : PE X a (tD X.K X.mg W f1)) (hb : PE X b (tD X.K X.mg W f2)) (h1 : behindInMarks op b = false := by first | exact nobehind _ (by decide) (by decide) | rfl) :
    PE X (.Compare a [op] [b] pos) (tD X.K X.mg W (d2 g f1 f2)) := PEimp (pe_cmpR ho ha hb h1) (d2_of (fun _ _ _ _ h => h) hn)

/-! tests -/
theorem dT_of {t : TE} (ht : ∀ σ H Q, tD X.K X.mg W f σ H Q → t σ H Q) : ∀ σ H Q, tDT X.K X.mg W (dT f) σ H Q → tB t σ H Q := by
  rintro σ H Q ⟨G, ρ, S, rel, h⟩
  refine ht σ H _ (tG.mk rel (wG.imp ?_ (wG.bind (rp := Rp X.K) h)))
  rintro x H1 ⟨S1, a, e1, ra, h1⟩
  cases a with
  | bool c =>
    cases ra
    exact ⟨c, rfl, h1 c S1 H1 (Ext.refl e1.inn) rfl⟩
  | _ => exact h1.elim
/-- any expression that gives a bool, as a test -/
theorem pt_d (h : PE X e (tD X.K X.mg W f)) (he : ∀ whole, isTrue e X.env whole = (do let v ← whole; standAt e.pos; holding [v] (truthy v)) := by intro _; rfl) : PT X e (tDT X.K X.mg W (dT f)) := PTimp (pt_val h he) (dT_of fun _ _ _ h => h)
theorem pt_cmpd {op : CmpOp} {g : PD → PD → R PD} (ho : OpD X (compareOp op) g) (hn : NoEx g) (ha : PE X a (tD X.K X.mg W f1)) (hb : PE X b (tD X.K X.mg W f2)) (h1 : behindInMarks op b = false := by first | exact nobehind _ (by decide) (by decide) | rfl) :
    PT X (.Compare a [op] [b] pos) (tDT X.K X.mg W (dT (d2 g f1 f2))) := PTimp (pt_cmpR ho ha hb h1) (dT_of (d2_of (fun _ _ _ _ h => h) hn))
variable {t1 t2 : En → R Bool} {rest : List Expr}
theorem tAnd_of : ∀ σ H Q, tDT X.K X.mg W (dAnd t1 t2) σ H Q → tAnd (tDT X.K X.mg W t1) (tDT X.K X.mg W t2) σ H Q := by
  rintro σ H Q ⟨G, ρ, S, rel, h⟩
  refine tG.mk rel (wG.imp ?_ (wG.bind (rp := rpB) h))
  rintro x H1 ⟨S1, a, e1, ra, h1⟩
  cases ra
  cases x with
  | true => exact tG.mk (rel.ext e1) h1
  | false => exact h1 false S1 H1 (Ext.refl e1.inn) rfl
theorem tOr_of : ∀ σ H Q, tDT X.K X.mg W (dOr t1 t2) σ H Q → tOr (tDT X.K X.mg W t1) (tDT X.K X.mg W t2) σ H Q := by
  rintro σ H Q ⟨G, ρ, S, rel, h⟩
  refine tG.mk rel (wG.imp ?_ (wG.bind (rp := rpB) h))
  rintro x H1 ⟨S1, a, e1, ra, h1⟩
  cases ra
  cases x with
  | false => exact tG.mk (rel.ext e1) h1
  | true => exact h1 true S1 H1 (Ext.refl e1.inn) rfl
theorem pw_d1 (ha : PT X a (tDT X.K X.mg W t1)) : PW X (.BoolOp .And [a] pos) (tDT X.K X.mg W t1) := pw_and1 ha
theorem pw_o1 (ha : PT X a (tDT X.K X.mg W t1)) : PW X (.BoolOp .Or [a] pos) (tDT X.K X.mg W t1) := pw_or1 ha
theorem pw_dand (ha : PT X a (tDT X.K X.mg W t1)) (hb : PW X (.BoolOp .And (b :: rest) pos) (tDT X.K X.mg W t2)) : PW X (.BoolOp .And (a :: b :: rest) pos) (tDT X.K X.mg W (dAnd t1 t2)) := PWimp (pw_and ha hb) tAnd_of
theorem pw_dor (ha : PT X a (tDT X.K X.mg W t1)) (hb : PW X (.BoolOp .Or (b :: rest) pos) (tDT X.K X.mg W t2)) : PW X (.BoolOp .Or (a :: b :: rest) pos) (tDT X.K X.mg W (dOr t1 t2)) := PWimp (pw_or ha hb) tOr_of
theorem pt_dnot (ha : PT X a (tDT X.K X.mg W t1)) : PT X (.UnaryOp .Not a pos) (tDT X.K X.mg W (dNot t1)) := PTimp (pt_not ha) fun σ H Q ⟨G, ρ, S, rel, h⟩ =>
  tG.mk rel (wG.imp (fun x H1 ⟨S1, a, e1, ra, h1⟩ => by cases ra; exact h1 (!x) S1 H1 (Ext.refl e1.inn) rfl) (wG.bind (rp := rpB) h))
/-! the same as values: each operand a bool -/
theorem pe_d1 {op} (ha : PE X a (tD X.K X.mg W f)) : PE X (.BoolOp op [a] pos) (tD X.K X.mg W f) := pe_one ha
def dAndV (f g : En → R PD) : En → R PD := fun ρ => (f ρ).bind fun a => (toB a).bind fun c => if c = true then g ρ else .ok (.bool false)
def dOrV (f g : En → R PD) : En → R PD := fun ρ => (f ρ).bind fun a => (toB a).bind fun c => if c = true then .ok (.bool true) else g ρ
def dNotV (f : En → R PD) : En → R PD := fun ρ => (f ρ).bind fun a => (toB a).bind fun c => .ok (.bool (!c))
theorem pe_dand (ha : PE X a (tD X.K X.mg W f1)) (hb : PE X (.BoolOp .And (b :: rest) pos) (tD X.K X.mg W f2)) : PE X (.BoolOp .And (a :: b :: rest) pos) (tD X.K X.mg W (dAndV f1 f2)) := PEimp (pe_and ha hb) fun σ H Q ⟨G, ρ, S, rel, h⟩ =>
  tG.mk rel (wG.imp (fun x H1 ⟨S1, a, e1, ra, h1⟩ => by
    cases a with
    | bool c =>
      cases ra
      refine ⟨c, rfl, ?_⟩
      cases c with
      | true => exact tG.mk (rel.ext e1) h1
      | false => exact h1 (.bl false) S1 H1 (Ext.refl e1.inn) (.bl false)
    | _ => exact h1.elim) (wG.bind (rp := Rp X.K) h))
theorem pe_dnot (ha : PE X a (tD X.K X.mg W f)) : PE X (.UnaryOp .Not a pos) (tD X.K X.mg W (dNotV f)) := PEimp (pe_not ha) fun σ H Q ⟨G, ρ, S, rel, h⟩ =>
  tG.mk rel (wG.imp (fun x H1 ⟨S1, a, e1, ra, h1⟩ => by
    cases a with
    | bool c =>
      cases ra
      exact ⟨c, rfl, h1 (.bl (!c)) S1 H1 (Ext.refl e1.inn) (.bl _)⟩
    | _ => exact h1.elim) (wG.bind (rp := Rp X.K) h))
/-! argument lists -/
variable {fs : En → R (List PD)} {es : List Expr}
theorem pad_nil : PA X [] (tDA X.K X.mg W dNil) := PAimp pa_nil fun σ H Q ⟨G, ρ, S, r, h⟩ => h [] S H (Ext.refl r.inn) .nil
theorem pad_cons (ha : PE X e (tD X.K X.mg W f)) (hr : PA X es (tDA X.K X.mg W fs)) (hs : starEach (e :: es) X.env = (false, eval e X.env) :: starEach es X.env := by rfl) : PA X (e :: es) (tDA X.K X.mg W (dCons f fs)) :=
  PAimp (pa_cons ha hr hs) fun σ H Q ⟨G, ρ, S, rel, h⟩ => by
    refine tG.mk rel (wG.imp ?_ (wG.bind (rp := Rp X.K) h))
    rintro x H1 ⟨S1, a, e1, ra, h1⟩
    refine tG.mk (rel.ext e1) (wG.imp ?_ (wG.bind (rp := RpA X.K) h1))
    rintro xs H2 ⟨S2, as, e2, ras, h2⟩
    exact h2 (x :: xs) S2 H2 (Ext.refl e2.inn) (.cons (Rp.mono e2.sub _ _ ra) ras)
/-- (a, b, ..) -/
def gTupD (ds : List PD) : R PD := if ds.length ≤ 1000 then .ok (.tuple ds) else .no
def gLstD (ds : List PD) : R PD := if ds.length ≤ 1000 then .ok (.list ds) else .no
theorem le_line {n : Nat} (h : n ≤ 1000) : n ≤ sizeLine := Nat.le_trans h (by decide)
theorem pd_tup {x1} (h : PA X es (tDA X.K X.mg W fs)) : PE X (.Tuple es x1 pos) (tD X.K X.mg W (dA gTupD fs)) := PEimp (pe_tup h) fun σ H Q ⟨G, ρ, S, rel, h⟩ => by
  refine tG.mk rel (wG.imp ?_ (wG.bind (rp := RpA X.K) h))
  rintro xs H1 ⟨S1, as, e1, ra, h1⟩
  unfold gTupD at h1
  by_cases hl : as.length ≤ 1000
  · rw [if_pos hl] at h1
    refine ⟨by rw [ra.length]; exact le_line hl, fun p hp => ?_⟩
    have e2 : Ext S1 H1 (upd S1 p (.tup xs)) (upd H1 p (.tup xs)) := Ext.known e1.inn hp
    exact h1 _ _ _ e2 (.tup (SqT.of upd_same) (RpA.mono e2.sub _ _ ra))
  · rw [if_neg hl] at h1; exact h1.elim
theorem pd_lst (h : PA X es (tDA X.K X.mg W fs)) : PE X (.List es pos) (tD X.K X.mg W (dA gLstD fs)) := PEimp (pe_lst h) fun σ H Q ⟨G, ρ, S, rel, h⟩ => by
  refine tG.mk rel (wG.imp ?_ (wG.bind (rp := RpA X.K) h))
  rintro xs H1 ⟨S1, as, e1, ra, h1⟩
  unfold gLstD at h1
  by_cases hl : as.length ≤ 1000
  · rw [if_pos hl] at h1
    refine ⟨by rw [ra.length]; exact le_line hl, fun p hp => ?_⟩
    have e2 : Ext S1 H1 (upd S1 p (.lst xs)) (upd H1 p (.lst xs)) := Ext.known e1.inn hp
    exact h1 _ _ _ e2 (.lst (SqL.of upd_same) (RpA.mono e2.sub _ _ ra))
  · rw [if_neg hl] at h1; exact h1.elim

/-! calls -/
/-- a def's promise by its work on data: n arguments -/
def spD (K : PySem.W.Frag) (mg : MG) (n : Nat) (g : List PD → R PD) : Sp := fun vs H Q E => ∃ S ds, Same S H ∧ RpA K S vs ds ∧ ds.length = n ∧ match g ds with
  | .ok d => ∀ v S' H', Ext S H S' H' → Rp K S' v d → Q v H'
  | .ex c => ∀ cls S' H', mg c = some cls → Ext S H S' H' → E cls none H'
  | .no => False
def gCall (n : Nat) (ds : List PD) (g : List PD → R PD) (as : List PD) : R PD := if (as ++ ds).length = n then g (as ++ ds) else .no
theorem tCallD_of {n : Nat} {ds : List PD} {dvs : List V} {g : List PD → R PD} (hd : ∀ S, RpA X.K S dvs ds) : ∀ σ H Q, tD X.K X.mg W (dA (gCall n ds g) fs) σ H Q → tCallSD (spD X.K X.mg n g) dvs (fun σ => L2.WE W σ) (tDA X.K X.mg W fs) σ H Q := by
  rintro σ H Q ⟨G, ρ, S, rel, h⟩
  refine tG.mk rel (wG.imp ?_ (wG.bind (rp := RpA X.K) h))
  rintro xs H1 ⟨S1, as, e1, ra, h1⟩
  unfold gCall at h1
  by_cases hl : (as ++ ds).length = n
  · rw [if_pos hl] at h1
    refine ⟨S1, as ++ ds, e1.inn, ra.append (hd S1), hl, ?_⟩
    cases q : g (as ++ ds) with
    | ok d => rw [q] at h1; exact h1
    | ex c => rw [q] at h1; exact h1
    | no => rw [q] at h1; exact h1
  · rw [if_neg hl] at h1; exact h1.elim
end
end DL

set_option Elab.async false
set_option linter.all false
set_option maxRecDepth 100000
set_option maxHeartbeats 4000000
set_option autoImplicit false
/-! the data layer 3: calls, statements, defs -/
namespace DL
open PySem L2

/-- a def that stands by a name of the module, with its promise: k its level, n its parameters, Bs what its defaults may fill up -/
structure FnAt (P : Program) (w : World) (K : PySem.W.Frag) (mg : MG) (base : Heap) (x : Str) (k n : Nat) (Bs : List (List PD)) (g : List PD → R PD) : Prop where
  ex : ∃ (f : Addr) (fd : FuncData) (ps : List Str), FnOk P w K mg base (L2.CX P w) k f fd ps (spD K mg n g) ∧ mg x = some (.ref f) ∧ PySem.W.keepIn K (.ref f) = true ∧
    ∀ ds, ds ∈ Bs → ∃ (us : List Value) (dvs : List V), Binds K fd ps us ∧ Vals dvs us ∧ ∀ S, RpA K S dvs ds
section
variable {X : Cx} {W : WX} {f : En → R PD} {fs : En → R (List PD)} {a b e : Expr} {es : List Expr} {pos p : Pos} {x : Str} {k n : Nat} {Bs : List (List PD)} {ds : List PD} {g : List PD → R PD}
theorem pd_call (Fn : FnAt X.prog X.w X.K X.mg X.base x k n Bs g) (hB : ds ∈ Bs) (hr : Room k X.A) (tk : Takes X W) (hg : Gl X x) (ha : PA X (e :: es) (tDA X.K X.mg W fs))
    (hdb : (x == ("__debug__" : Str)) = false := by decide) (he : starEach (e :: es) X.env = (false, eval e X.env) :: starEach es X.env := by rfl) (hpl : (backTo pos (starEach es X.env)).any (·.1) = false := by rfl) :
    PE X (.Call (.Name x p) (e :: es) [] pos) (tD X.K X.mg W (dA (gCall n ds g) fs)) := by
  obtain ⟨f, fd, ps, hF, hm, hk, hb⟩ := Fn.ex
  obtain ⟨us, dvs, b1, b2, b3⟩ := hb ds hB
  exact PEimp (pe_callSD hF hr hg hm hk b1 b2 (fun σ => passAt tk σ) ha hdb he hpl) (tCallD_of b3)
end

/-! ### statements -/
inductive Fl where
  | nx (ρ : En)
  | rt (d : PD)
  | rm (d : PD) (ρ : En)
  | rv (x : SV)
  | bk (ρ : En)
  | ct (ρ : En)
  | ex (c : Str) (ρ : En)
  | no
def wS (K : PySem.W.Frag) (mg : MG) (W : WX) (G : F) (S : Hp) (D : Ends) : Fl → Prop
  | .nx ρ => ∀ σ S' H, Same S S' → Rel K G S' σ ρ H → D.nx σ H
  | .bk ρ => ∀ σ S' H, Same S S' → Rel K G S' σ ρ H → D.bk σ H
  | .ct ρ => ∀ σ S' H, Same S S' → Rel K G S' σ ρ H → D.ct σ H
  | .rt d => ∀ v S' H, Ext G.S G.H S' H → Rp K S' v d → D.rt v H
  | .rm d ρ => ∀ v σ S' H, Same S S' → Rel K G S' σ ρ H → Rp K S' v d → D.rt v H
  | .rv x => ∀ v fp S' H, Ext G.S G.H S' H → (∀ a ∈ fp, G.H a = none ∧ S' a = none ∧ H a ≠ none) → (∃ a, v = .ref a ∧ Own K S' H a fp x) → D.rt v H
  | .ex c ρ => ∀ cls σ S' H, mg c = some cls → Same S S' → Rel K G S' σ ρ H → W cls none σ H
  | .no => False
def tS (K : PySem.W.Frag) (mg : MG) (W : WX) (f : En → Fl) : TS := fun D σ H => ∃ G ρ S, Rel K G S σ ρ H ∧ wS K mg W G S D (f ρ)
theorem Rel.fin {K : PySem.W.Frag} {G : F} {S H : Hp} {σ : St} {ρ : En} (r : Rel K G S σ ρ H) : Ext G.S G.H S H := ⟨r.entS, r.ent, r.inn, fun a o h => (r.new a o h).imp id (·.1)⟩
theorem wS.mono {K : PySem.W.Frag} {mg : MG} {W : WX} {G : F} {S S1 : Hp} {D : Ends} {r : Fl} (e : Same S S1) (h : wS K mg W G S D r) : wS K mg W G S1 D r := by
  cases r with
  | nx ρ => exact fun σ S' H s q => h σ S' H (e.trans s) q
  | bk ρ => exact fun σ S' H s q => h σ S' H (e.trans s) q
  | ct ρ => exact fun σ S' H s q => h σ S' H (e.trans s) q
  | rt d => exact h
  | rm d ρ => exact fun v σ S' H s q => h v σ S' H (e.trans s) q
  | rv x => exact h
  | ex c ρ => exact fun cls σ S' H m s q => h cls σ S' H m (e.trans s) q
  | no => exact h
/-- other ends -/
theorem wS.imp {K : PySem.W.Frag} {mg : MG} {W : WX} {G : F} {S : Hp} {D D' : Ends} {r : Fl} (h : wS K mg W G S D r) (i1 : ∀ σ H, D.nx σ H → D'.nx σ H) (i2 : ∀ v H, D.rt v H → D'.rt v H) (i3 : ∀ σ H, D.bk σ H → D'.bk σ H) (i4 : ∀ σ H, D.ct σ H → D'.ct σ H) : wS K mg W G S D' r := by
  cases r with
  | nx ρ => exact fun σ S' H s q => i1 _ _ (h σ S' H s q)
  | bk ρ => exact fun σ S' H s q => i3 _ _ (h σ S' H s q)
  | ct ρ => exact fun σ S' H s q => i4 _ _ (h σ S' H s q)
  | rt d => exact fun v S' H s q => i2 _ _ (h v S' H s q)
  | rm d ρ => exact fun v σ S' H s q z => i2 _ _ (h v σ S' H s q z)
  | rv x => exact fun v fp S' H s q z => i2 _ _ (h v fp S' H s q z)
  | ex c ρ => exact h
  | no => exact h
/-- an expression, then what a statement makes of it -/
def sE {A : Type} (f : En → R A) (k : A → En → Fl) : En → Fl := fun ρ => match f ρ with
  | .ok a => k a ρ
  | .ex c => .ex c ρ
  | .no => .no
theorem wS.ofE {A B : Type} {rp : Hp → B → A → Prop} {K : PySem.W.Frag} {mg : MG} {W : WX} {G : F} {S H : Hp} {D : Ends} {σ : St} {ρ : En} {f : En → R A} {k : A → En → Fl} (rel : Rel K G S σ ρ H) (h : wS K mg W G S D (sE f k ρ)) :
    wG rp mg W σ S H (fun b H1 => ∃ S1 a, Ext S H S1 H1 ∧ rp S1 b a ∧ Rel K G S1 σ ρ H1 ∧ wS K mg W G S1 D (k a ρ)) (f ρ) := by
  unfold sE at h
  cases q : f ρ with
  | ok a => rw [q] at h; exact fun b S' H' e x => ⟨S', a, e, x, rel.ext e, h.mono e.sub⟩
  | ex c => rw [q] at h; exact fun cls S' H' m e => h cls σ S' H' m e.sub (rel.ext e)
  | no => rw [q] at h; exact h
def sNx : En → Fl := .nx
def sSeq (f g : En → Fl) : En → Fl := fun ρ => match f ρ with
  | .nx ρ' => g ρ'
  | r => r
def sSet (i : Nat) (f : En → R PD) : En → Fl := sE f fun d ρ => .nx (ρ.set i (some (.d d)))
def sRet (f : En → R PD) : En → Fl := sE f fun d _ => .rt d
def sRetM (f : En → R PD) : En → Fl := sE f fun d ρ => .rm d ρ
def sIf (c : En → R Bool) (f g : En → Fl) : En → Fl := sE c fun b ρ => if b = true then f ρ else g ρ
def sDrop (f : En → R PD) : En → Fl := sE f fun _ ρ => .nx ρ
def sRaise (c : Str) : En → Fl := fun ρ => .ex c ρ
def sPar (i j : Nat) (f g : En → R PD) : En → Fl := sE f fun a => sE g fun b ρ => .nx ((ρ.set i (some (.d a))).set j (some (.d b)))
def whileN (c : En → R Bool) (f : En → Fl) : Nat → En → Fl
  | 0, _ => .no
  | n + 1, ρ => sE c (fun b ρ => if b = true then (match f ρ with
    | .nx ρ' => whileN c f n ρ'
    | .ct ρ' => whileN c f n ρ'
    | .bk ρ' => .nx ρ'
    | r => r) else .nx ρ) ρ
open Classical in
noncomputable def sWhile (c : En → R Bool) (f : En → Fl) : En → Fl := fun ρ => if h : ∃ n, whileN c f n ρ ≠ .no then whileN c f (Classical.choose h) ρ else .no
theorem whileN_more {c : En → R Bool} {f : En → Fl} : ∀ {n m : Nat} {ρ : En}, n ≤ m → whileN c f n ρ ≠ .no → whileN c f m ρ = whileN c f n ρ
  | 0, _, _, _, h => absurd rfl h
  | n + 1, 0, _, h, _ => absurd h (by omega)
  | n + 1, m + 1, ρ, hl, h => by
    have ih : ∀ ρ', whileN c f n ρ' ≠ .no → whileN c f m ρ' = whileN c f n ρ' := fun ρ' => whileN_more (by omega)
    unfold whileN sE at h ⊢
    cases q : c ρ with
    | ok b =>
      rw [q] at h
      cases b with
      | true =>
        simp only [if_true] at h ⊢
        cases q2 : f ρ with
        | nx ρ' => rw [q2] at h; exact ih ρ' h
        | ct ρ' => rw [q2] at h; exact ih ρ' h
        | bk ρ' => rfl
        | rt d => rfl
        | rm d ρ' => rfl
        | rv x => rfl
        | ex c ρ' => rfl
        | no => rfl
      | false => rfl
    | ex c => rfl
    | no => rfl
theorem sWhile_of {c : En → R Bool} {f : En → Fl} {ρ : En} (n : Nat) {r : Fl} (h : whileN c f n ρ = r) (hr : r ≠ .no) : sWhile c f ρ = r := by
  have hx : ∃ n, whileN c f n ρ ≠ .no := ⟨n, by rw [h]; exact hr⟩
  unfold sWhile
  rw [dif_pos hx]
  have h1 := Classical.choose_spec hx
  have h2 : whileN c f n ρ ≠ .no := by rw [h]; exact hr
  rcases Nat.le_total n (Classical.choose hx) with z | z
  · rw [whileN_more z h2, h]
  · rw [← whileN_more z h1, h]
theorem sWhile_at {c : En → R Bool} {f : En → Fl} {ρ : En} (h : sWhile c f ρ ≠ .no) : ∃ n, whileN c f n ρ = sWhile c f ρ := by
  by_cases hx : ∃ n, whileN c f n ρ ≠ .no
  · exact ⟨Classical.choose hx, by unfold sWhile; rw [dif_pos hx]⟩
  · unfold sWhile at h
    rw [dif_neg hx] at h
    exact absurd rfl h
/-- one turn more -/
theorem sWhile_eq {c : En → R Bool} {f : En → Fl} {ρ : En} : sWhile c f ρ = sE c (fun b ρ => if b = true then (match f ρ with
    | .nx ρ' => sWhile c f ρ'
    | .ct ρ' => sWhile c f ρ'
    | .bk ρ' => .nx ρ'
    | r => r) else .nx ρ) ρ := by
  have key : ∀ n, whileN c f (n + 1) ρ ≠ .no → whileN c f (n + 1) ρ = sE c (fun b ρ => if b = true then (match f ρ with
    | .nx ρ' => sWhile c f ρ'
    | .ct ρ' => sWhile c f ρ'
    | .bk ρ' => .nx ρ'
    | r => r) else .nx ρ) ρ := by
    intro n h
    unfold whileN sE at h ⊢
    cases q : c ρ with
    | ok b =>
      rw [q] at h
      cases b with
      | true =>
        simp only [if_true] at h ⊢
        cases q2 : f ρ with
        | nx ρ' => rw [q2] at h; exact (sWhile_of n rfl h).symm
        | ct ρ' => rw [q2] at h; exact (sWhile_of n rfl h).symm
        | bk ρ' => rfl
        | rt d => rfl
        | rm d ρ' => rfl
        | rv x => rfl
        | ex c ρ' => rfl
        | no => rfl
      | false => rfl
    | ex c => rfl
    | no => rfl
  by_cases h : sWhile c f ρ = .no
  · -- neither runs
    rw [h]
    cases q : sE c (fun b ρ => if b = true then (match f ρ with
      | .nx ρ' => sWhile c f ρ'
      | .ct ρ' => sWhile c f ρ'
      | .bk ρ' => .nx ρ'
      | r => r) else .nx ρ) ρ with
    | no => rfl
    | _ =>
      exfalso
      have hx : ∃ n, whileN c f (n + 1) ρ ≠ .no := by
        unfold sE at q
        cases q1 : c ρ with
        | ok b =>
          rw [q1] at q
          cases b with
          | true =>
            simp only [if_true] at q
            cases q2 : f ρ with
            | nx ρ' =>
              rw [q2] at q
              dsimp only at q
              obtain ⟨n, hn⟩ := sWhile_at (c := c) (f := f) (ρ := ρ') (by rw [q]; intro z; cases z)
              refine ⟨n, ?_⟩
              unfold whileN sE
              rw [q1]
              simp only [if_true, q2]
              rw [hn, q]
              intro z; cases z
            | ct ρ' =>
              rw [q2] at q
              dsimp only at q
              obtain ⟨n, hn⟩ := sWhile_at (c := c) (f := f) (ρ := ρ') (by rw [q]; intro z; cases z)
              refine ⟨n, ?_⟩
              unfold whileN sE
              rw [q1]
              simp only [if_true, q2]
              rw [hn, q]
              intro z; cases z
            | bk ρ' => exact ⟨0, by unfold whileN sE; rw [q1]; simp only [if_true, q2]; intro z; cases z⟩
            | rt d => exact ⟨0, by unfold whileN sE; rw [q1]; simp only [if_true, q2]; intro z; cases z⟩
            | rm d ρ' => exact ⟨0, by unfold whileN sE; rw [q1]; simp only [if_true, q2]; intro z; cases z⟩
            | rv x => exact ⟨0, by unfold whileN sE; rw [q1]; simp only [if_true, q2]; intro z; cases z⟩
            | ex c ρ' => exact ⟨0, by unfold whileN sE; rw [q1]; simp only [if_true, q2]; intro z; cases z⟩
            | no => rw [q2] at q; cases q
          | false => exact ⟨0, by unfold whileN sE; rw [q1]; intro z; cases z⟩
        | ex c => exact ⟨0, by unfold whileN sE; rw [q1]; intro z; cases z⟩
        | no => rw [q1] at q; cases q
      obtain ⟨n, hn⟩ := hx
      rw [sWhile_of (n + 1) rfl hn] at h
      exact hn h
  · obtain ⟨n, hn⟩ := sWhile_at h
    cases n with
    | zero => exact absurd hn.symm h
    | succ n => rw [← hn]; exact key n (by rw [hn]; exact h)
section
variable {X : Cx} {W : WX} {f f1 f2 : En → R PD} {c e e2 : Expr} {pos pos' : Pos} {t : En → R Bool} {g h : En → Fl} {st : Stmt} {sts a b : List Stmt} {i j : Nat} {x y : Str}
theorem sd_nil : PSs X [] (tS X.K X.mg W sNx) := PSsimp pss_nil fun D σ H ⟨G, ρ, S, r, q⟩ => q σ S H (Same.refl _) r
theorem tSeq_of {t1 t2 : TS} (i1 : ∀ D σ H, tS X.K X.mg W g D σ H → t1 D σ H) (i2 : ∀ D σ H, tS X.K X.mg W h D σ H → t2 D σ H) : ∀ D σ H, tS X.K X.mg W (sSeq g h) D σ H → tSeq t1 t2 D σ H := by
  rintro D σ H ⟨G, ρ, S, r, q⟩
  refine i1 _ σ H ⟨G, ρ, S, r, ?_⟩
  unfold sSeq at q
  cases z : g ρ with
  | nx ρ' => rw [z] at q; exact fun σ' S' H' s r' => i2 D σ' H' ⟨G, ρ', S', r', q.mono s⟩
  | bk ρ' => rw [z] at q; exact q
  | ct ρ' => rw [z] at q; exact q
  | rt d => rw [z] at q; exact q
  | rm d ρ' => rw [z] at q; exact q
  | rv x => rw [z] at q; exact q
  | ex c ρ' => rw [z] at q; exact q
  | no => rw [z] at q; exact q
theorem sd_cons (h1 : PS X st (tS X.K X.mg W g)) (h2 : PSs X sts (tS X.K X.mg W h)) : PSs X (st :: sts) (tS X.K X.mg W (sSeq g h)) := PSsimp (pss_cons h1 h2) (tSeq_of (fun _ _ _ q => q) fun _ _ _ q => q)
theorem sd_one (h1 : PS X st (tS X.K X.mg W g)) : PSs X [st] (tS X.K X.mg W g) := pss_one h1
theorem sd_set (i : Nat) (hN : X.N.Nodup) (hi : X.N[i]? = some x) (hx : Loc X.env.scope x) (he : PE X e (tD X.K X.mg W f)) (hs : swapsWith e (some (.Name x pos')) pos.line X.env = pure false := by rfl) (hf : X.fn x = true ∨ X.env.scope.names.lookup x = some .local := by first | exact .inl rfl | exact .inr rfl | assumption)
    (hw : swappedStores [.Name x pos'] e X.env = pure none := by rfl) :
    PS X (.Assign [.Name x pos'] e pos) (tS X.K X.mg W (sSet i f)) := PSimp (ps_asg he (pg_name hN hi hx hf) hs hw) fun D σ H ⟨G, ρ, S, r, q⟩ =>
  tG.mk r (wG.imp (fun v H1 ⟨S1, a, e1, ra, r1, q1⟩ => q1 _ S1 H1 (Same.refl _) (r1.setD ra i)) (wS.ofE (rp := Rp X.K) r q))
theorem sd_ret (he : PE X e (tD X.K X.mg W f)) : PS X (.Return (some e) pos) (tS X.K X.mg W (sRet f)) := PSimp (ps_ret he) fun D σ H ⟨G, ρ, S, r, q⟩ =>
  tG.mk r (wG.imp (fun v H1 ⟨S1, a, e1, ra, r1, q1⟩ => q1 v S1 H1 r1.fin ra) (wS.ofE (rp := Rp X.K) r q))
theorem sd_expr (he : PE X e (tD X.K X.mg W f)) (hs : swapsWith e none pos.line X.env = pure false := by rfl) : PS X (.Expr e pos) (tS X.K X.mg W (sDrop f)) := PSimp (ps_expr he hs) fun D σ H ⟨G, ρ, S, r, q⟩ =>
  tG.mk r (wG.imp (fun v H1 ⟨S1, a, e1, ra, r1, q1⟩ => q1 σ S1 H1 (Same.refl _) r1) (wS.ofE (rp := Rp X.K) r q))
theorem sd_if (hc : PT X c (tDT X.K X.mg W t)) (ha : PSs X a (tS X.K X.mg W g)) (hb : PSs X b (tS X.K X.mg W h)) : PS X (.If c a b pos) (tS X.K X.mg W (sIf t g h)) := PSimp (ps_if hc ha hb) fun D σ H ⟨G, ρ, S, r, q⟩ =>
  tG.mk r (wG.imp (fun v H1 ⟨S1, a, e1, ra, r1, q1⟩ => by
    cases ra
    cases v with
    | true => exact ⟨G, ρ, S1, r1, q1⟩
    | false => exact ⟨G, ρ, S1, r1, q1⟩) (wS.ofE (rp := rpB) r q))
/-- a, b = e, e2 -/
theorem sd_par {px py pt : Pos} {kt k2 pt2} (i j : Nat) (hc : X.calm = true) (hN : X.N.Nodup) (hi : X.N[i]? = some x) (hj : X.N[j]? = some y) (hij : i ≠ j) (hx : X.env.scope.names.lookup x = some .local) (hy : X.env.scope.names.lookup y = some .local)
    (ha : PE X e (tD X.K X.mg W f1)) (hb : PE X e2 (tD X.K X.mg W f2)) (hw : swappedStores [.Tuple [.Name x px, .Name y py] kt pt] (.Tuple [e, e2] k2 pt2) X.env = pure (some [x, y]))
    (hs : swapsWithSole [.Tuple [.Name x px, .Name y py] kt pt] (.Tuple [e, e2] k2 pt2) pos.line X.env = pure false := by rfl)
    (hse : starEach [e, e2] X.env = (false, eval e X.env) :: starEach [e2] X.env := by rfl) (hse2 : starEach [e2] X.env = (false, eval e2 X.env) :: starEach [] X.env := by rfl) :
    PS X (.Assign [.Tuple [.Name x px, .Name y py] kt pt] (.Tuple [e, e2] k2 pt2) pos) (tS X.K X.mg W (sPar i j f1 f2)) := PSimp (ps_par hc hN hi hj hij hx hy (pa_cons ha (pa_cons hb pa_nil hse2) hse) hw hs) fun D σ H ⟨G, ρ, S, r, q⟩ => by
  refine tG.mk r (wG.imp ?_ (wS.ofE (rp := Rp X.K) r q))
  rintro v H1 ⟨S1, a, e1, ra, r1, q1⟩
  refine tG.mk r1 (wG.imp ?_ (wS.ofE (rp := Rp X.K) r1 q1))
  rintro v2 H2 ⟨S2, b, e2, rb, r2, q2⟩
  exact ⟨v, v2, rfl, q2 _ S2 H2 (Same.refl _) ((r2.setD (Rp.mono e2.sub _ _ ra) i).setD rb j)⟩
theorem sd_while (hp : PassesOwn (model X.prog X.w) X.A X.env X.xe) (hc : PT X c (tDT X.K X.mg W t)) (hb : PSs X a (tS X.K X.mg W g)) : PS X (.While c a [] pos) (tS X.K X.mg W (sWhile t g)) := PSimp (ps_while hp hc hb) fun D σ H ⟨G, ρ, S, r, q⟩ => by
  by_cases hn : sWhile t g ρ = .no
  · rw [hn] at q; exact q.elim
  · obtain ⟨n, en⟩ := sWhile_at hn
    refine ⟨fun m σ H => ∃ ρ S', Same S S' ∧ Rel X.K G S' σ ρ H ∧ wS X.K X.mg W G S' D (whileN t g m ρ), ⟨n, ρ, S, Same.refl _, r, by rw [en]; exact q⟩, ?_⟩
    rintro m σ H ⟨ρ, S', s, r, q⟩
    cases m with
    | zero => exact q.elim
    | succ m =>
      unfold whileN at q
      refine tG.mk r (wG.imp ?_ (wS.ofE (rp := rpB) r q))
      rintro v H1 ⟨S1, a, e1, ra, r1, q1⟩
      cases ra
      cases v with
      | true =>
        simp only [if_true] at q1 ⊢
        refine ⟨fun σ' H' => ∃ ρ S', Same S S' ∧ Rel X.K G S' σ' ρ H' ∧ wS X.K X.mg W G S' D (whileN t g m ρ), fun σ' H' h => ⟨m, Nat.lt_succ_self m, h⟩, G, ρ, S1, r1, ?_⟩
        cases z : g ρ with
        | nx ρ' => rw [z] at q1; exact fun σ' S2 H2 s2 r2 => ⟨ρ', S2, s.trans (e1.sub.trans s2), r2, q1.mono s2⟩
        | ct ρ' => rw [z] at q1; exact fun σ' S2 H2 s2 r2 => ⟨ρ', S2, s.trans (e1.sub.trans s2), r2, q1.mono s2⟩
        | bk ρ' => rw [z] at q1; exact q1
        | rt d => rw [z] at q1; exact q1
        | rm d ρ' => rw [z] at q1; exact q1
        | rv x => rw [z] at q1; exact q1
        | ex c ρ' => rw [z] at q1; exact q1
        | no => rw [z] at q1; exact q1
      | false =>
        simp only [Bool.false_eq_true, if_false] at q1 ⊢
        exact q1 σ S1 H1 (Same.refl _) r1
end
end DL

set_option Elab.async false
set_option linter.all false
set_option maxRecDepth 100000
set_option maxHeartbeats 4000000
set_option autoImplicit false
/-! the data layer 4: targets, loops, comprehensions -/
namespace DL
open PySem L2

/-! ### targets -/
inductive Tg where
  | one (i : Nat)
  | many (is : List Nat)
  | manyL (is : List Nat)
def Tg.slots : Tg → List Nat
  | .one i => [i]
  | .many is => is
  | .manyL is => is
def putAll : List Nat → List PD → En → En
  | i :: is, d :: ds, ρ => putAll is ds (ρ.set i (some (.d d)))
  | _, _, ρ => ρ
def Tg.put : Tg → PD → En → Option En
  | .one i, d, ρ => some (ρ.set i (some (.d d)))
  | .many is, .tuple ds, ρ => if ds.length = is.length then some (putAll is ds ρ) else none
  | .manyL is, .list ds, ρ => if ds.length = is.length then some (putAll is ds ρ) else none
  | _, _, _ => none
def gNames : List Nat → TGs
  | [] => gNil
  | i :: is => gCons (gName i) (gNames is)
def gOf (K : PySem.W.Frag) : Tg → TG
  | .one i => gName i
  | .many is => gTup K is.length (gNames is)
  | .manyL is => gLst K is.length (gNames is)
theorem wipe_at : ∀ {vs : List Nat} {σ : St} {i : Nat}, (wipe σ vs)[i]? = if i ∈ vs then (if i < σ.length then some none else none) else σ[i]?
  | [], σ, i => by simp [wipe]
  | v :: vs, σ, i => by
    unfold wipe
    by_cases h : v = i
    · subst h
      by_cases hl : v < σ.length
      · rw [List.getElem?_set_self (by rw [wipe_length]; exact hl), if_pos (List.mem_cons_self), if_pos hl]
      · rw [List.getElem?_eq_none (by rw [List.length_set, wipe_length]; omega), if_pos (List.mem_cons_self), if_neg hl]
    · rw [List.getElem?_set_ne h, wipe_at]
      by_cases hm : i ∈ vs
      · rw [if_pos hm, if_pos (List.mem_cons_of_mem _ hm)]
      · rw [if_neg hm, if_neg (by simp only [List.mem_cons, not_or]; exact ⟨fun e => h e.symm, hm⟩)]
theorem wipe_set {vs : List Nat} {σ : St} {i : Nat} {w : Option V} (h : i ∈ vs) : wipe (σ.set i w) vs = wipe σ vs := by
  apply List.ext_getElem?
  intro j
  rw [wipe_at, wipe_at, List.length_set]
  by_cases hm : j ∈ vs
  · rw [if_pos hm, if_pos hm]
  · rw [if_neg hm, if_neg hm]
    exact List.getElem?_set_ne (fun e => hm (by rw [← e]; exact h))
section
variable {K : PySem.W.Frag} {G : F} {S H : Hp} {σ : St} {ρ ρ' : En}
theorem gNames_ok : ∀ {is : List Nat} {vs : List V} {ds : List PD} {σ : St} {ρ : En} {Q : St → Hp → Prop}, RpA K S vs ds → ds.length = is.length → Rel K G S σ ρ H →
    (∀ σ', Rel K G S σ' (putAll is ds ρ) H → (∀ us : List Nat, (∀ i ∈ is, i ∈ us) → wipe σ' us = wipe σ us) → Q σ' H) → gNames is vs σ H Q
  | [], _, [], σ, ρ, Q, h, hl, r, q => by
    cases h
    exact ⟨rfl, q σ r fun _ _ => rfl⟩
  | i :: is, _, d :: ds, σ, ρ, Q, h, hl, r, q => by
    cases h with
    | cons h1 h2 =>
      refine ⟨_, _, rfl, ?_⟩
      refine gNames_ok h2 (by simpa using hl) (r.setD h1 i) fun σ' r' w' => ?_
      refine q σ' r' fun us hu => ?_
      rw [w' us fun j hj => hu j (List.mem_cons_of_mem _ hj), wipe_set (hu i List.mem_cons_self)]
  | [], _, _ :: _, _, _, _, _, hl, _, _ => by cases hl
  | _ :: _, _, [], _, _, _, _, hl, _, _ => by cases hl
theorem gOf_ok {tg : Tg} {v : V} {d : PD} {Q : St → Hp → Prop} (r : Rel K G S σ ρ H) (h : Rp K S v d) (hp : tg.put d ρ = some ρ') (q : ∀ σ', Rel K G S σ' ρ' H → (∀ us : List Nat, (∀ i ∈ tg.slots, i ∈ us) → wipe σ' us = wipe σ us) → Q σ' H) : gOf K tg v σ H Q := by
  cases tg with
  | one i =>
    have e : some (ρ.set i (some (.d d))) = some ρ' := hp
    cases e
    exact q _ (r.setD h i) fun us hu => wipe_set (hu i (by simp [Tg.slots]))
  | many is =>
    cases d with
    | tuple ds =>
      have e : (if ds.length = is.length then some (putAll is ds ρ) else none) = some ρ' := hp
      by_cases hl : ds.length = is.length
      · rw [if_pos hl] at e
        cases e
        cases h with
        | tup hs ha =>
          exact ⟨_, _, rfl, Same.seqT r.inn hs, by rw [ha.length]; exact hl, gNames_ok ha hl r q⟩
      · rw [if_neg hl] at e; cases e
    | _ => cases hp
  | manyL is =>
    cases d with
    | list ds =>
      have e : (if ds.length = is.length then some (putAll is ds ρ) else none) = some ρ' := hp
      by_cases hl : ds.length = is.length
      · rw [if_pos hl] at e
        cases e
        cases h with
        | lst hs ha =>
          exact ⟨_, _, rfl, Same.seq r.inn hs, by rw [ha.length]; exact hl, gNames_ok ha hl r q⟩
      · rw [if_neg hl] at e; cases e
    | _ => cases hp
end

/-! ### what is walked -/
def ItOk (K : PySem.W.Frag) (S : Hp) (J : It) (ds : List PD) : Prop := ∀ S1 H1, Same S S1 → Same S1 H1 → ∀ i : Nat,
  (∀ d, ds[i]? = some d → J.go i H1 ∧ ∀ x H2, J.yld i H1 x H2 → ∃ S2, Ext S1 H1 S2 H2 ∧ Rp K S2 x d) ∧ (ds.length ≤ i → J.stop i H1)
abbrev tI (K : PySem.W.Frag) (mg : MG) (W : WX) (f : En → R (List PD)) : TI := tG (ItOk K) K mg W f
theorem ItOk.mono {K : PySem.W.Frag} {S S' : Hp} {J : It} {ds : List PD} (e : Same S S') (h : ItOk K S J ds) : ItOk K S' J ds := fun S1 H1 s1 s2 => h S1 H1 (e.trans s1) s2

/-- a list's items, a tuple's -/
def asL : PD → R (List PD)
  | .list ds => .ok ds
  | _ => .no
def asT : PD → R (List PD)
  | .tuple ds => .ok ds
  | _ => .no
def iL (f : En → R PD) : En → R (List PD) := fun ρ => (f ρ).bind asL
def iT (f : En → R PD) : En → R (List PD) := fun ρ => (f ρ).bind asT
theorem itl_ok {K : PySem.W.Frag} {S : Hp} {a : Addr} {xs : List V} {ds : List PD} (hs : SqL K S a xs) (ha : RpA K S xs ds) : ItOk K S (Itl K a) ds := by
  intro S1 H1 s1 s2 i
  have h1 : SqL K H1 a xs := Same.seq (s1.trans s2) hs
  refine ⟨fun d hd => ?_, fun hl => ⟨xs, h1, by rw [ha.length]; exact hl⟩⟩
  obtain ⟨v, hv, hr⟩ := ha.get hd
  exact ⟨⟨xs, v, h1, hv⟩, fun x H2 ⟨e, y⟩ => by
    subst e
    have := y xs h1
    rw [hv] at this
    cases this
    exact ⟨S1, Ext.refl s2, Rp.mono s1 _ _ hr⟩⟩
section
variable {X : Cx} {W : WX} {tg l : Expr} {f f1 f2 : En → R PD} {p pos : Pos}
theorem pi_l (hl : PE X l (tD X.K X.mg W f)) : PI X tg l (tI X.K X.mg W (iL f)) := PIimp (pi_list hl) fun σ H Q ⟨G, ρ, S, rel, h⟩ => by
  refine tG.mk rel (wG.imp ?_ (wG.bind (rp := Rp X.K) h))
  rintro x H1 ⟨S1, a, e1, ra, h1⟩
  cases a with
  | list ds =>
    cases ra with
    | lst hs ha => exact ⟨_, rfl, ⟨_, Same.seq e1.inn hs⟩, h1 _ S1 H1 (Ext.refl e1.inn) (itl_ok hs ha)⟩
  | _ => exact h1.elim
/-- range(n), range(a, b) -/
def rng (lo : Int) (n : Nat) : List PD := (List.range n).map fun i => .int (lo + (i : Nat))
def gR1 : List PD → R (List PD)
  | [.int j] => if -(2 ^ 62) ≤ j ∧ j < 2 ^ 62 then .ok (rng 0 j.toNat) else .no
  | _ => .no
def gR2 : List PD → R (List PD)
  | [.int i, .int j] => if -(2 ^ 62) ≤ i ∧ i < 2 ^ 62 ∧ -(2 ^ 62) ≤ j ∧ j < 2 ^ 62 then .ok (rng i (j - i).toNat) else .no
  | _ => .no
def iA (g : List PD → R (List PD)) (f : En → R (List PD)) : En → R (List PD) := fun ρ => (f ρ).bind g
theorem itr_ok {K : PySem.W.Frag} {S : Hp} {lo : Int} {n : Nat} : ItOk K S (Itr lo n) (rng lo n) := by
  intro S1 H1 s1 s2 i
  refine ⟨fun d hd => ?_, fun hl => by show n ≤ i; simpa [rng] using hl⟩
  unfold rng at hd
  rw [List.getElem?_map] at hd
  by_cases h : i < n
  · rw [List.getElem?_range h] at hd
    cases hd
    exact ⟨h, fun x H2 ⟨e, y⟩ => by subst e y; exact ⟨S1, Ext.refl s2, .int _⟩⟩
  · rw [List.getElem?_eq_none (by simpa using h)] at hd
    cases hd
theorem pi_r2 {a b : Expr} {fs : En → R (List PD)} (hg : Gl X "range") (hm : X.mg "range" = none) (ha : PA X [a, b] (tDA X.K X.mg W fs)) (hs : starEach [a, b] X.env = [(false, eval a X.env), (false, eval b X.env)] := by rfl)
    (hs2 : starEach [b] X.env = [(false, eval b X.env)] := by rfl) : PI X tg (.Call (.Name "range" p) [a, b] [] pos) (tI X.K X.mg W (iA gR2 fs)) :=
  PIimp (pi_range2 hg hm ha hs hs2) fun σ H Q ⟨G, ρ, S, rel, h⟩ => by
    refine tG.mk rel (wG.imp ?_ (wG.bind (rp := RpA X.K) h))
    rintro xs H1 ⟨S1, as, e1, ra, h1⟩
    unfold gR2 at h1
    split at h1
    · rename_i i j
      cases ra with
      | cons r1 r2 =>
        cases r2 with
        | cons r2 r3 =>
          cases r3
          cases r1
          cases r2
          split at h1
          · rename_i hb
            exact ⟨i, j, rfl, hb, h1 _ S1 H1 (Ext.refl e1.inn) itr_ok⟩
          · exact h1.elim
    · exact h1.elim
/-- enumerate(list) -/
def enumFrom (n : Nat) : List PD → List PD
  | [] => []
  | d :: ds => .tuple [.int (n : Nat), d] :: enumFrom (n + 1) ds
def gEn : List PD → R (List PD)
  | [.list ds] => .ok (enumFrom 0 ds)
  | _ => .no
/-- zip of two lists, of two tuples -/
def zipD : List PD → List PD → List PD
  | a :: as, b :: bs => .tuple [a, b] :: zipD as bs
  | _, _ => []
def gZip : List PD → R (List PD)
  | [.list as, .list bs] => .ok (zipD as bs)
  | [.tuple as, .tuple bs] => .ok (zipD as bs)
  | _ => .no
end

/-! ### for -/
def sForL (tg : Tg) (body : En → Fl) : List PD → En → Fl
  | [], ρ => .nx ρ
  | d :: ds, ρ => match tg.put d ρ with
    | none => .no
    | some ρ1 => match body ρ1 with
      | .nx ρ2 => sForL tg body ds ρ2
      | .ct ρ2 => sForL tg body ds ρ2
      | .bk ρ2 => .nx ρ2
      | r => r
def sFor (it : En → R (List PD)) (tg : Tg) (body : En → Fl) : En → Fl := sE it fun ds ρ => sForL tg body ds ρ
section
variable {X : Cx} {W : WX} {tg iter : Expr} {it : En → R (List PD)} {T : Tg} {g : En → Fl} {body : List Stmt} {pos : Pos}
theorem sd_for (hp : PassesOwn (model X.prog X.w) X.A X.env X.xe) (hc : X.calm = true) (hi : PI X tg iter (tI X.K X.mg W it)) (hg : PG X tg (gOf X.K T)) (hb : PSs X body (tS X.K X.mg W g)) (hs : ∀ x, foldedSetIterable iter X.env x = pure x := by intro _; rfl) :
    PS X (.For tg iter body [] pos) (tS X.K X.mg W (sFor it T g)) := PSimp (ps_for hp hc hi hg hb hs) fun D σ H ⟨G, ρ, S, r, q⟩ => by
  refine tG.mk r (wG.imp ?_ (wS.ofE (rp := ItOk X.K) r q))
  rintro J H1 ⟨S1, ds, e1, hJ, r1, q1⟩
  refine ⟨fun i m σ H => m = ds.length - i ∧ i ≤ ds.length ∧ ∃ ρ S2, Same S1 S2 ∧ Rel X.K G S2 σ ρ H ∧ wS X.K X.mg W G S2 D (sForL T g (ds.drop i) ρ), ⟨ds.length, by simp, Nat.zero_le _, ρ, S1, Same.refl _, r1, by simpa using q1⟩, ?_⟩
  rintro i m σ H ⟨rfl, hi, ρ, S2, s2, r2, q2⟩
  obtain ⟨go, stop⟩ := hJ S2 H s2 r2.inn i
  by_cases hlt : i < ds.length
  · have hd : ds[i]? = some ds[i] := List.getElem?_eq_getElem hlt
    obtain ⟨g1, g2⟩ := go _ hd
    refine .inr ⟨g1, fun σ H => i + 1 ≤ ds.length ∧ ∃ ρ S2, Same S1 S2 ∧ Rel X.K G S2 σ ρ H ∧ wS X.K X.mg W G S2 D (sForL T g (ds.drop (i + 1)) ρ), fun σ' H' h => ⟨ds.length - (i + 1), by omega, rfl, h⟩, ?_⟩
    intro x H3 y
    obtain ⟨S3, e3, rx⟩ := g2 x H3 y
    have r3 := r2.ext e3
    rw [List.drop_eq_getElem_cons hlt] at q2
    unfold sForL at q2
    cases z : T.put ds[i] ρ with
    | none => rw [z] at q2; exact q2.elim
    | some ρ1 =>
      rw [z] at q2
      refine gOf_ok r3 rx z fun σ' r' _ => ⟨G, ρ1, S3, r', ?_⟩
      dsimp only at q2
      cases z2 : g ρ1 with
      | nx ρ2 => rw [z2] at q2; exact fun σ'' S4 H4 s4 r4 => ⟨hlt, ρ2, S4, s2.trans (e3.sub.trans s4), r4, q2.mono (e3.sub.trans s4)⟩
      | ct ρ2 => rw [z2] at q2; exact fun σ'' S4 H4 s4 r4 => ⟨hlt, ρ2, S4, s2.trans (e3.sub.trans s4), r4, q2.mono (e3.sub.trans s4)⟩
      | bk ρ2 => rw [z2] at q2; exact q2.mono (r := .nx ρ2) e3.sub
      | rt d => rw [z2] at q2; exact q2
      | rm d ρ2 => rw [z2] at q2; exact q2.mono (r := .rm d ρ2) e3.sub
      | rv x => rw [z2] at q2; exact q2.mono (r := .rv x) e3.sub
      | ex c ρ2 => rw [z2] at q2; exact q2.mono (r := .ex c ρ2) e3.sub
      | no => rw [z2] at q2; exact q2
  · have e : i = ds.length := by omega
    subst e
    rw [List.drop_length] at q2
    exact .inl ⟨stop (Nat.le_refl _), q2 σ S2 H (Same.refl _) r2⟩
end

/-! ### comprehensions -/
def wipeE (ρ : En) : List Nat → En
  | [] => ρ
  | v :: vs => (wipeE ρ vs).set v none
theorem Rel.wipe {K : PySem.W.Frag} {G : F} {S H : Hp} {σ : St} {ρ : En} (r : Rel K G S σ ρ H) : ∀ vs : List Nat, Rel K G S (wipe σ vs) (wipeE ρ vs) H
  | [] => r
  | v :: vs => (Rel.wipe r vs).forget v none
def lcL (tg : Tg) (tt : En → R Bool) (te : En → R PD) (ρ : En) : List PD → R (List PD)
  | [] => .ok []
  | d :: ds => match tg.put d ρ with
    | none => .no
    | some ρ1 => match tt ρ1 with
      | .ok true => (match te ρ1 with
        | .ok y => (match lcL tg tt te ρ ds with
          | .ok ys => .ok (y :: ys)
          | _ => .no)
        | _ => .no)
      | .ok false => lcL tg tt te ρ ds
      | _ => .no
def dLcL (it : En → R (List PD)) (tg : Tg) (vs : List Nat) (tt : En → R Bool) (te : En → R PD) : En → R (List PD) := fun ρ => (it ρ).bind fun ds => if ds.length ≤ 1000000 then lcL tg tt te (wipeE ρ vs) ds else .no
def dLc (it : En → R (List PD)) (tg : Tg) (vs : List Nat) (tt : En → R Bool) (te : En → R PD) : En → R PD := fun ρ => (dLcL it tg vs tt te ρ).bind fun ds => .ok (.list ds)
def bYes : En → R Bool := fun _ => .ok true
abbrev W0 : WX := fun _ _ _ _ => False
theorem tYes_of {K : PySem.W.Frag} {mg : MG} : ∀ σ H Q, tDT K mg W0 bYes σ H Q → tYes σ H Q := fun σ H Q ⟨G, ρ, S, rel, h⟩ => h true S H (Ext.refl rel.inn) rfl
theorem ptd_nil {X : Cx} : PTs X [] (tDT X.K X.mg W0 bYes) := ⟨fun pins s σ H Q I q => pts_nil.run pins s σ H Q I (tYes_of σ H Q q)⟩
/-- what a comprehension leaves: a new list at D, not yet known -/
theorem lc_of {K : PySem.W.Frag} {mg : MG} {W : WX} {it : En → R (List PD)} {T : Tg} {vs : List Nat} {tt : En → R Bool} {te : En → R PD} (hT : ∀ i ∈ T.slots, i ∈ vs) {σ : St} {H : Hp} {Q : VK} {G : F} {ρ : En} {S : Hp} (rel : Rel K G S σ ρ H)
    (h : match dLcL it T vs tt te ρ with
      | .ok ds => ∀ D S' H' xs, Ext S H S' H' → H D = none → S' D = none → H' D = some (.lst xs) → RpA K S' xs ds → Q (.ref D) H'
      | .ex c => ∀ cls S' H', mg c = some cls → Ext S H S' H' → W cls none σ H'
      | .no => False) : tLc (tI K mg W it) (gOf K T) (tDT K mg W0 tt) (tD K mg W0 te) vs σ H Q := by
  unfold dLcL at h
  have h2 : wG (ItOk K) mg W σ S H (fun J H1 => ∃ S1 ds, Ext S H S1 H1 ∧ ItOk K S1 J ds ∧ ds.length ≤ 1000000 ∧ ∃ ys, lcL T tt te (wipeE ρ vs) ds = .ok ys ∧ ∀ D S' H' xs, Ext S1 H1 S' H' → H1 D = none → S' D = none → H' D = some (.lst xs) → RpA K S' xs ys → Q (.ref D) H') (it ρ) := by
    cases q : it ρ with
    | ok ds =>
      rw [q] at h
      intro J S1 H1 e1 hJ
      simp only [R.bind_ok] at h
      by_cases hl : ds.length ≤ 1000000
      · rw [if_pos hl] at h
        cases q2 : lcL T tt te (wipeE ρ vs) ds with
        | ok ys =>
          rw [q2] at h
          exact ⟨S1, ds, e1, hJ, hl, ys, q2, fun D S' H' xs e a b c d => h D S' H' xs (e1.trans e) (e1.all.free a) b c d⟩
        | ex c =>
          exfalso
          have : ∀ ds, lcL T tt te (wipeE ρ vs) ds ≠ .ex c := by
            intro ds
            induction ds with
            | nil => unfold lcL; intro z; cases z
            | cons d ds ih =>
              unfold lcL
              intro z
              split at z
              · cases z
              · split at z
                · split at z
                  · split at z <;> cases z
                  · cases z
                · exact ih z
                · cases z
          exact this ds q2
        | no => rw [q2] at h; exact h.elim
      · rw [if_neg hl] at h; exact h.elim
    | ex c => rw [q] at h; exact h
    | no => rw [q] at h; exact h
  refine tG.mk rel (wG.imp ?_ h2)
  rintro J H1 ⟨S1, ds, e1, hJ, hlen, ys, hys, hq⟩ D hD
  have rel1 := rel.ext e1
  have hS1D : S1 D = none := e1.inn.free hD
  refine ⟨fun i m H => m = ds.length - i ∧ i ≤ ds.length ∧ ∃ S2 acc accd rest, Ext S1 H1 S2 H ∧ S2 D = none ∧ H D = some (.lst acc) ∧ RpA K S2 acc accd ∧ acc.length ≤ i ∧ lcL T tt te (wipeE ρ vs) (ds.drop i) = .ok rest ∧ accd ++ rest = ys,
    ⟨ds.length, by simp, Nat.zero_le _, S1, [], [], ys, Ext.fresh e1.inn hD, hS1D, upd_same, .nil, Nat.le_refl _, by simpa using hys, rfl⟩, ?_⟩
  rintro i m H2 ⟨rfl, hi, S2, acc, accd, rest, e2, hD2, hacc, racc, hal, hrest, htot⟩
  have rel2 := rel1.ext e2
  obtain ⟨go, stop⟩ := hJ S2 H2 e2.sub e2.inn i
  by_cases hlt : i < ds.length
  · have hd : ds[i]? = some ds[i] := List.getElem?_eq_getElem hlt
    obtain ⟨g1, g2⟩ := go _ hd
    refine .inr ⟨g1, fun H => i + 1 ≤ ds.length ∧ ∃ S2 acc accd rest, Ext S1 H1 S2 H ∧ S2 D = none ∧ H D = some (.lst acc) ∧ RpA K S2 acc accd ∧ acc.length ≤ i + 1 ∧ lcL T tt te (wipeE ρ vs) (ds.drop (i + 1)) = .ok rest ∧ accd ++ rest = ys,
      fun H' h => ⟨ds.length - (i + 1), by omega, rfl, h⟩, ?_⟩
    intro x H3 y
    obtain ⟨S3, e3, rx⟩ := g2 x H3 y
    have rel3 := (rel2.ext e3).wipe vs
    have new3 : ∀ {S4 H4 : Hp}, Ext S2 H2 S4 H4 → S4 D = none := fun {S4 H4} e => by
      cases q : S4 D with
      | none => rfl
      | some o =>
        rcases e.new D o q with z | z
        · rw [hD2] at z; cases z
        · rw [hacc] at z; cases z
    rw [List.drop_eq_getElem_cons hlt] at hrest
    unfold lcL at hrest
    cases z : T.put ds[i] (wipeE ρ vs) with
    | none => rw [z] at hrest; cases hrest
    | some ρ1 =>
      rw [z] at hrest
      dsimp only at hrest
      refine gOf_ok rel3 rx z fun σ' r' hw => ⟨?_, ?_⟩
      · rw [hw vs hT]
        apply List.ext_getElem?
        intro j
        rw [wipe_at, wipe_at, wipe_length]
        by_cases hm : j ∈ vs
        · rw [if_pos hm, if_pos hm]
        · rw [if_neg hm, if_neg hm]
      · refine tG.mk r' ?_
        cases zt : tt ρ1 with
        | ok b =>
          rw [zt] at hrest
          rintro b' S4 H4 e4 rfl
          cases b' with
          | true =>
            dsimp only at hrest
            rw [if_pos rfl]
            refine tG.mk (r'.ext e4) ?_
            cases ze : te ρ1 with
            | ok yd =>
              rw [ze] at hrest
              dsimp only at hrest
              cases zr : lcL T tt te (wipeE ρ vs) (ds.drop (i + 1)) with
              | ok rest' =>
                rw [zr] at hrest
                cases hrest
                intro yv S5 H5 e5 ry
                have e25 := (e3.trans e4).trans e5
                have hn := new3 e25
                refine ⟨acc, e25.all _ _ hacc, Nat.lt_of_le_of_lt (Nat.le_trans hal (Nat.le_trans (Nat.le_of_lt hlt) hlen)) (by decide), hlt, S5, acc ++ [yv], accd ++ [yd], rest', ?_, hn, upd_same, (RpA.mono e25.sub _ _ racc).snoc ry, by simp; omega, rfl, by rw [← htot]; simp⟩
                have e15 := e2.trans e25
                refine ⟨e15.sub, fun a o h => ?_, fun a o h => ?_, e15.new⟩
                · rw [upd_ne (ne_of_none h hD)]; exact e15.all a o h
                · rw [upd_ne (ne_of_none h hn)]; exact e15.inn a o h
              | ex c => rw [zr] at hrest; cases hrest
              | no => rw [zr] at hrest; cases hrest
            | ex c => rw [ze] at hrest; cases hrest
            | no => rw [ze] at hrest; cases hrest
          | false =>
            dsimp only at hrest
            rw [if_neg Bool.false_ne_true]
            have e24 := e3.trans e4
            exact ⟨hlt, S4, acc, accd, rest, e2.trans e24, new3 e24, e24.all _ _ hacc, RpA.mono e24.sub _ _ racc, by omega, hrest, htot⟩
        | ex c => rw [zt] at hrest; cases hrest
        | no => rw [zt] at hrest; cases hrest
  · have e : i = ds.length := by omega
    subst e
    rw [List.drop_length] at hrest
    have : (R.ok [] : R (List PD)) = .ok rest := hrest
    cases this
    refine .inl ⟨stop (Nat.le_refl _), hq D S2 H2 acc e2 hD hD2 hacc ?_⟩
    rw [← htot]
    simpa using racc
section
variable {X : Cx} {W : WX} {elt tg iter : Expr} {ifs : List Expr} {scope : Scope} {own : List (Str × Nat)} {pos : Pos} {it : En → R (List PD)} {T : Tg} {tt : En → R Bool} {te : En → R PD}
theorem pd_lc (own : List (Str × Nat)) (hc : X.calm = true) (hN : X.N.Nodup) (hi : PI X tg iter (tI X.K X.mg W it)) (ok : BlkOk X.N X.env.scope scope own) (hT : ∀ i ∈ T.slots, i ∈ own.map (·.2))
    (hg : ∀ (s : Shared) (H : Hp) (C : Addr) (cl : List (Str × Addr)) (fp : List Addr), PG (X.blk s H scope (compEnvC scope cl C X.env) fp) tg (gOf X.K T)) (ht : ∀ (s : Shared) (H : Hp) (C : Addr) (cl : List (Str × Addr)) (fp : List Addr), PTs (X.blk s H scope (compEnvC scope cl C X.env) fp) ifs (tDT X.K X.mg W0 tt))
    (he : ∀ (s : Shared) (H : Hp) (C : Addr) (cl : List (Str × Addr)) (fp : List Addr), PE (X.blk s H scope (compEnvC scope cl C X.env) fp) elt (tD X.K X.mg W0 te)) (hs : ∀ x, foldedSetIterable iter X.env x = pure x := by intro _; rfl) :
    PE X (.ListComp elt [⟨tg, iter, ifs, 0⟩] scope pos) (tD X.K X.mg W (dLc it T (own.map (·.2)) tt te)) := PEimp (pe_lc hc hN hi ok hg ht he hs) fun σ H Q ⟨G, ρ, S, rel, h⟩ => by
  refine lc_of hT rel ?_
  unfold dLc at h
  cases q : dLcL it T (own.map (·.2)) tt te ρ with
  | ok ds =>
    rw [q] at h
    intro D S' H' xs e hD hS hH hr
    have e2 : Ext S H (upd S' D (.lst xs)) H' := ⟨fun a o z => by rw [upd_ne (ne_of_none (e.sub _ _ z) hS)]; exact e.sub _ _ z, e.all, fun a o z => by
      by_cases ha : a = D
      · subst ha; rw [upd_same] at z; rw [hH]; exact z
      · rw [upd_ne ha] at z; exact e.inn a o z, fun a o z => by
      by_cases ha : a = D
      · subst ha; exact .inr hD
      · rw [upd_ne ha] at z; exact e.new a o z⟩
    refine h (.ref D) _ H' e2 (.lst (SqL.of upd_same) (RpA.mono (fun a o z => ?_) _ _ hr))
    rw [upd_ne (ne_of_none z hS)]; exact z
  | ex c => rw [q] at h; exact h
  | no => rw [q] at h; exact h
end
end DL

set_option Elab.async false
set_option linter.all false
set_option maxRecDepth 100000
set_option maxHeartbeats 4000000
set_option autoImplicit false
/-! the data layer 5: operators, built-ins, subscripts; raise; a def's promise -/
namespace DL
open PySem L2
abbrev ib (i : Int) : Nat := Builtin.Int.intBits i

/-! ### operators -/
theorem Rp.newL {K : PySem.W.Frag} {S H : Hp} {p : Addr} {vs : List V} {ds : List PD} (hS : Same S H) (hp : H p = none) (r : RpA K S vs ds) : Ext S H (upd S p (.lst vs)) (upd H p (.lst vs)) ∧ Rp K (upd S p (.lst vs)) (.ref p) (.list ds) := by
  have e : Ext S H (upd S p (.lst vs)) (upd H p (.lst vs)) := Ext.known hS hp
  exact ⟨e, .lst (SqL.of upd_same) (RpA.mono e.sub _ _ r)⟩
theorem Rp.newT {K : PySem.W.Frag} {S H : Hp} {p : Addr} {vs : List V} {ds : List PD} (hS : Same S H) (hp : H p = none) (r : RpA K S vs ds) : Ext S H (upd S p (.tup vs)) (upd H p (.tup vs)) ∧ Rp K (upd S p (.tup vs)) (.ref p) (.tuple ds) := by
  have e : Ext S H (upd S p (.tup vs)) (upd H p (.tup vs)) := Ext.known hS hp
  exact ⟨e, .tup (SqT.of upd_same) (RpA.mono e.sub _ _ r)⟩
theorem OpD_of {X : Cx} {fn : Value → Value → Sem Value} {g : PD → PD → R PD} (k : ∀ (pins : List (Addr × Obj)) (s : Shared) (σ : St) (H : Hp) (x y : V) (v u : Value) (Q : VK) (S : Hp) (a b d : PD), Inv X pins σ H s → RelV x v → RelV y u → Same S H → Rp X.K S x a → Rp X.K S y b → g a b = .ok d →
    (∀ v S' H', Ext S H S' H' → Rp X.K S' v d → Q v H') → wpAny (model X.prog X.w) X.A (fn v u) (EP X pins σ Q) X.xe s) : OpD X fn g := by
  intro pins s σ H x y v u Q I rx ry h
  obtain ⟨S, a, b, hS, ra, rb, h⟩ := h
  cases q : g a b with
  | ok d => rw [q] at h; exact k pins s σ H x y v u Q S a b d I rx ry hS ra rb q h
  | ex c => rw [q] at h; exact h.elim
  | no => rw [q] at h; exact h.elim
theorem CallD_ofX {X : Cx} {fv : Value} {g : List PD → R PD} (k : ∀ (pins : List (Addr × Obj)) (s : Shared) (σ : St) (H : Hp) (vs : List V) (us : List Value) (Q : VK) (S : Hp) (ds : List PD) (d : PD), Inv X pins σ H s → Vals vs us → Same S H → RpA X.K S vs ds → g ds = .ok d →
    (∀ v S' H', Ext S H S' H' → Rp X.K S' v d → Q v H') → wpAny (model X.prog X.w) X.A (call fv us) (EP X pins σ Q) X.xe s) : CallR X fv fun vs H Q => ∃ S ds, Same S H ∧ RpA X.K S vs ds ∧ match g ds with
  | .ok d => ∀ v S' H', Ext S H S' H' → Rp X.K S' v d → Q v H'
  | _ => False := by
  intro pins s σ H vs us Q I r h
  obtain ⟨S, ds, hS, ra, h⟩ := h
  cases q : g ds with
  | ok d => rw [q] at h; exact k pins s σ H vs us Q S ds d I r hS ra q h
  | ex c => rw [q] at h; exact h.elim
  | no => rw [q] at h; exact h.elim
def gAdd : PD → PD → R PD
  | .int i, .int j => .ok (.int (i + j))
  | .str x, .str y => if x.length + y.length ≤ 16777216 then .ok (.str (x.append y)) else .no
  | .list xs, .list ys => if xs.length + ys.length ≤ 16777216 then .ok (.list (xs ++ ys)) else .no
  | .tuple xs, .tuple ys => if xs.length + ys.length ≤ 16777216 then .ok (.tuple (xs ++ ys)) else .no
  | _, _ => .no
def gSub : PD → PD → R PD
  | .int i, .int j => .ok (.int (i - j))
  | _, _ => .no
def gMul : PD → PD → R PD
  | .int i, .int j => if ib i + ib j ≤ 134217728 then .ok (.int (i * j)) else .no
  | _, _ => .no
def gDiv : PD → PD → R PD
  | .int i, .int j => if j ≠ 0 ∧ Builtin.divisionGoesByPylong i j = false then .ok (.int (i.fdiv j)) else .no
  | _, _ => .no
def gMod : PD → PD → R PD
  | .int i, .int j => if j ≠ 0 then .ok (.int (i.fmod j)) else .no
  | _, _ => .no
def gPow : PD → PD → R PD
  | .int i, .int j => if 0 ≤ j ∧ (ib i : Int) * j ≤ 134217728 then .ok (.int (i ^ j.toNat)) else .no
  | _, _ => .no
def gShl : PD → PD → R PD
  | .int i, .int j => if 0 ≤ j ∧ (ib i : Int) + j ≤ 134217728 then .ok (.int (i * 2 ^ j.toNat)) else .no
  | _, _ => .no
def gShr : PD → PD → R PD
  | .int i, .int j => if 0 ≤ j then .ok (.int (i / 2 ^ j.toNat)) else .no
  | _, _ => .no
theorem noEx_add : NoEx gAdd := fun a b c h => by unfold gAdd at h; split at h <;> first | (split at h <;> cases h) | cases h
theorem noEx_sub : NoEx gSub := fun a b c h => by unfold gSub at h; split at h <;> cases h
theorem noEx_mul : NoEx gMul := fun a b c h => by unfold gMul at h; split at h <;> first | (split at h <;> cases h) | cases h
theorem noEx_div : NoEx gDiv := fun a b c h => by unfold gDiv at h; split at h <;> first | (split at h <;> cases h) | cases h
theorem noEx_mod : NoEx gMod := fun a b c h => by unfold gMod at h; split at h <;> first | (split at h <;> cases h) | cases h
theorem noEx_pow : NoEx gPow := fun a b c h => by unfold gPow at h; split at h <;> first | (split at h <;> cases h) | cases h
section
variable {X : Cx}
/-- list + list, whatever the lists are -/
theorem op_catL : OpR X (binaryOp .Add) (fun x y H Q => ∃ a b xs ys, x = .ref a ∧ y = .ref b ∧ SqL X.K H a xs ∧ SqL X.K H b ys ∧ xs.length + ys.length ≤ sizeLine ∧ ∀ p, H p = none → Q (.ref p) (upd H p (.lst (xs ++ ys)))) := by
  intro pins s σ H x y v u Q I rx ry h
  obtain ⟨a, b, xs, ys, rfl, rfl, ha, hb, hz, q⟩ := h
  cases rx
  cases ry
  obtain ⟨its, r1, ⟨⟨c1, d1, dt1, sl1⟩, n1, e1, q1, w1, z1⟩, _⟩ := I.list ha
  obtain ⟨its2, r2, ⟨⟨c2, d2, dt2, sl2⟩, n2, e2, q2, w2, z2⟩, _⟩ := I.list hb
  simp only at q1 z1 q2 z2
  subst q1 z1 q2 z2
  have l1 := r1.length
  have l2 := r2.length
  refine PySem.concat_meets ⟨_, e1, rfl⟩ ⟨_, e2, rfl⟩ PySem.noFill_list_add PySem.seq_list_add F.slot_list_add F.entry_list_add (F.args_list_add_2 _ _) (PyProof.Rows.list_addW a b its.toArray its2.toArray n1 n2 d1 d2 sl1 sl2 (by rw [List.size_toArray, List.size_toArray, ← l1, ← l2]; exact hz)) ⟨e1, e2, ?_⟩
  have ea : its.toArray ++ its2.toArray = (its ++ its2).toArray := by simp
  rw [ea]
  exact ⟨.ref _, _, I.lnew (t' := s.toks) (r1.append r2) (by rw [List.length_append]; exact hz), rfl, q _ I.fresh⟩
theorem od_add : OpD X (binaryOp .Add) gAdd := by
  refine OpD_of fun pins s σ H x y v u Q S a b d I rx ry hS ra rb q h => ?_
  unfold gAdd at q
  split at q
  · cases ra; cases rb
    cases q
    exact op_add pins s σ H _ _ v u Q I rx ry ⟨_, _, rfl, rfl, h _ S H (Ext.refl hS) (.int _)⟩
  · cases ra; cases rb
    split at q
    · rename_i hl
      cases q
      exact op_add_str pins s σ H _ _ v u Q I rx ry ⟨_, _, rfl, rfl, hl, h _ S H (Ext.refl hS) (.str _)⟩
    · cases q
  · cases ra with
    | lst h1 a1 =>
      cases rb with
      | lst h2 a2 =>
        split at q
        · rename_i hl
          cases q
          refine op_catL pins s σ H _ _ v u Q I rx ry ⟨_, _, _, _, rfl, rfl, Same.seq hS h1, Same.seq hS h2, by rw [a1.length, a2.length]; exact hl, fun p hp => ?_⟩
          have z := Rp.newL hS hp (a1.append a2)
          exact h _ _ _ z.1 z.2
        · cases q
  · cases ra with
    | tup h1 a1 =>
      cases rb with
      | tup h2 a2 =>
        split at q
        · rename_i hl
          cases q
          refine op_catA pins s σ H _ _ v u Q I rx ry ⟨_, _, _, _, rfl, rfl, Same.seqT hS h1, Same.seqT hS h2, by rw [a1.length, a2.length]; exact hl, fun e => ?_, fun _ e => ?_, fun _ _ p hp => ?_⟩
          · subst e
            cases a1
            exact h _ S H (Ext.refl hS) (.tup h2 a2)
          · subst e
            cases a2
            rw [List.append_nil] at h
            exact h _ S H (Ext.refl hS) (.tup h1 a1)
          · have z := Rp.newT hS hp (a1.append a2)
            exact h _ _ _ z.1 z.2
        · cases q
  · cases q
theorem od_sub : OpD X (binaryOp .Sub) gSub := by
  refine OpD_of fun pins s σ H x y v u Q S a b d I rx ry hS ra rb q h => ?_
  unfold gSub at q
  split at q
  · cases ra; cases rb
    cases q
    exact op_sub pins s σ H _ _ v u Q I rx ry ⟨_, _, rfl, rfl, h _ S H (Ext.refl hS) (.int _)⟩
  · cases q
theorem od_mul : OpD X (binaryOp .Mult) gMul := by
  refine OpD_of fun pins s σ H x y v u Q S a b d I rx ry hS ra rb q h => ?_
  unfold gMul at q
  split at q
  · cases ra; cases rb
    split at q
    · rename_i hl
      cases q
      exact op_mulX pins s σ H _ _ v u Q I rx ry ⟨_, _, rfl, rfl, by unfold CMulX; have h2 : Builtin.Int.intBits _ + Builtin.Int.intBits _ ≤ 134217728 := hl; omega, h _ S H (Ext.refl hS) (.int _)⟩
    · cases q
  · cases q
theorem op_fdivP : OpR X (binaryOp .FloorDiv) (rI (fun i j => j ≠ 0 ∧ Builtin.divisionGoesByPylong i j = false) fun i j => .int (i.fdiv j)) := opI fun _ _ _ _ _ _ _ hc q => PyProof.Rows.floordiv_int hc.1 q (.inl hc.2)
theorem op_powP : OpR X (binaryOp .Pow) (rI (fun i j => 0 ≤ j ∧ (ib i : Int) * j ≤ 134217728) fun i j => .int (i ^ j.toNat)) := opI fun _ _ _ _ _ _ _ hc q => PyProof.Rows.pow_int hc.1 (by
  have h2 := hc.2
  have e : (2 : Int) ^ 27 = 134217728 := by decide
  rw [e]
  exact h2) q
theorem od_div : OpD X (binaryOp .FloorDiv) gDiv := by
  refine OpD_of fun pins s σ H x y v u Q S a b d I rx ry hS ra rb q h => ?_
  unfold gDiv at q
  split at q
  · cases ra; cases rb
    split at q
    · rename_i hl
      cases q
      exact op_fdivP pins s σ H _ _ v u Q I rx ry ⟨_, _, rfl, rfl, hl, h _ S H (Ext.refl hS) (.int _)⟩
    · cases q
  · cases q
theorem od_mod : OpD X (binaryOp .Mod) gMod := by
  refine OpD_of fun pins s σ H x y v u Q S a b d I rx ry hS ra rb q h => ?_
  unfold gMod at q
  split at q
  · cases ra; cases rb
    split at q
    · rename_i hl
      cases q
      exact op_modN pins s σ H _ _ v u Q I rx ry ⟨_, _, rfl, rfl, hl, h _ S H (Ext.refl hS) (.int _)⟩
    · cases q
  · cases q
theorem od_pow : OpD X (binaryOp .Pow) gPow := by
  refine OpD_of fun pins s σ H x y v u Q S a b d I rx ry hS ra rb q h => ?_
  unfold gPow at q
  split at q
  · cases ra; cases rb
    split at q
    · rename_i hl
      cases q
      exact op_powP pins s σ H _ _ v u Q I rx ry ⟨_, _, rfl, rfl, hl, h _ S H (Ext.refl hS) (.int _)⟩
    · cases q
  · cases q
/-! ### comparisons -/
def cI (p : Int → Int → Bool) : PD → PD → R PD
  | .int i, .int j => .ok (.bool (p i j))
  | _, _ => .no
def gLt : PD → PD → R PD := cI fun i j => decide (i < j)
def gLe : PD → PD → R PD := cI fun i j => decide (i ≤ j)
def gGt : PD → PD → R PD := cI fun i j => decide (j < i)
def gGe : PD → PD → R PD := cI fun i j => decide (j ≤ i)
theorem noEx_cI {p : Int → Int → Bool} : NoEx (cI p) := fun a b c h => by unfold cI at h; split at h <;> cases h
theorem od_cI {op : CmpOp} {p : Int → Int → Bool} (ho : OpR X (compareOp op) (rI0 fun i j => .bl (p i j))) : OpD X (compareOp op) (cI p) := by
  refine OpD_of fun pins s σ H x y v u Q S a b d I rx ry hS ra rb q h => ?_
  unfold cI at q
  split at q
  · cases ra; cases rb
    cases q
    exact ho pins s σ H _ _ v u Q I rx ry ⟨_, _, rfl, rfl, h _ S H (Ext.refl hS) (.bl _)⟩
  · cases q
theorem od_lt : OpD X (compareOp .Lt) gLt := od_cI op_lt
theorem od_le : OpD X (compareOp .LtE) gLe := od_cI op_le
theorem od_gt : OpD X (compareOp .Gt) gGt := od_cI op_gt
def gEq : PD → PD → R PD
  | .int i, .int j => .ok (.bool (decide (i = j)))
  | .str x, .str y => .ok (.bool (decide (x = y)))
  | a, b => if SeqAt.shaped a = true ∧ SeqAt.shaped b = true then .ok (.bool (PyData.eqv a b)) else .no
def gNe : PD → PD → R PD
  | .int i, .int j => .ok (.bool (!decide (i = j)))
  | .str x, .str y => .ok (.bool (!decide (x = y)))
  | a, b => if SeqAt.shaped a = true ∧ SeqAt.shaped b = true then .ok (.bool (!PyData.eqv a b)) else .no
theorem noEx_eq : NoEx gEq := fun a b c h => by unfold gEq at h; split at h <;> first | (split at h <;> cases h) | cases h
theorem noEx_ne : NoEx gNe := fun a b c h => by unfold gNe at h; split at h <;> first | (split at h <;> cases h) | cases h
theorem decV_int {i j : Int} : decide (V.int i = V.int j) = decide (i = j) := by
  by_cases h : i = j
  · subst h; simp
  · rw [decide_eq_false h, decide_eq_false (fun e => h (by cases e; rfl))]
theorem decV_str {i j : Str} : decide (V.str i = V.str j) = decide (i = j) := by
  by_cases h : i = j
  · subst h; simp
  · rw [decide_eq_false h, decide_eq_false (fun e => h (by cases e; rfl))]
theorem od_eq (hu : X.A.units + 64 < cLine) : OpD X (compareOp .Eq) gEq := by
  refine OpD_of fun pins s σ H x y v u Q S a b d I rx ry hS ra rb q h => ?_
  unfold gEq at q
  split at q
  · cases ra; cases rb
    cases q
    exact op_eq pins s σ H _ _ v u Q I rx ry ⟨rfl, by rw [decV_int]; exact h _ S H (Ext.refl hS) (.bl _)⟩
  · cases ra; cases rb
    cases q
    exact op_eq pins s σ H _ _ v u Q I rx ry ⟨rfl, by rw [decV_str]; exact h _ S H (Ext.refl hS) (.bl _)⟩
  · split at q
    · rename_i hl
      cases q
      exact op_eqD hu pins s σ H _ _ v u Q I rx ry ⟨a, b, Rp.dp _ _ (SeqAt.canLay_of_shaped hl.1) (Rp.mono hS _ _ ra), Rp.dp _ _ (SeqAt.canLay_of_shaped hl.2) (Rp.mono hS _ _ rb), hl.1, hl.2, h _ S H (Ext.refl hS) (.bl _)⟩
    · cases q
theorem od_ne (hu : X.A.units + 64 < cLine) : OpD X (compareOp .NotEq) gNe := by
  refine OpD_of fun pins s σ H x y v u Q S a b d I rx ry hS ra rb q h => ?_
  unfold gNe at q
  split at q
  · cases ra; cases rb
    cases q
    exact op_ne pins s σ H _ _ v u Q I rx ry ⟨rfl, by rw [decV_int]; exact h _ S H (Ext.refl hS) (.bl _)⟩
  · cases ra; cases rb
    cases q
    exact op_ne pins s σ H _ _ v u Q I rx ry ⟨rfl, by rw [decV_str]; exact h _ S H (Ext.refl hS) (.bl _)⟩
  · split at q
    · rename_i hl
      cases q
      exact op_neD hu pins s σ H _ _ v u Q I rx ry ⟨a, b, Rp.dp _ _ (SeqAt.canLay_of_shaped hl.1) (Rp.mono hS _ _ ra), Rp.dp _ _ (SeqAt.canLay_of_shaped hl.2) (Rp.mono hS _ _ rb), hl.1, hl.2, h _ S H (Ext.refl hS) (.bl _)⟩
    · cases q
end

/-! ### unary -/
def gNeg : PD → R PD
  | .int i => .ok (.int (-i))
  | _ => .no
section
variable {X : Cx} {W : WX} {f f1 f2 : En → R PD} {fs : En → R (List PD)} {a b e : Expr} {es : List Expr} {pos p : Pos} {x : Str}
theorem pd_neg (ha : PE X a (tD X.K X.mg W f)) : PE X (.UnaryOp .USub a pos) (tD X.K X.mg W (d1 gNeg f)) := PEimp (pe_un un_neg ha) fun σ H Q ⟨G, ρ, S, rel, h⟩ => by
  refine tG.mk rel (wG.imp ?_ (wG.bind (rp := Rp X.K) h))
  rintro v H1 ⟨S1, d, e1, ra, h1⟩
  cases d with
  | int i => cases ra; exact ⟨i, rfl, h1 _ S1 H1 (Ext.refl e1.inn) (.int _)⟩
  | _ => exact h1.elim

/-! ### subscripts -/
def gIx : PD → PD → R PD
  | .list ds, .int i => (match atI ds i with
    | some d => .ok d
    | none => .no)
  | .tuple ds, .int i => (match atI ds i with
    | some d => .ok d
    | none => .no)
  | .str z, .int i => if z.length ≤ 16777216 then (match atI z.cps.toList i with
    | some c => .ok (.str ⟨#[c]⟩)
    | none => .no) else .no
  | _, _ => .no
theorem noEx_ix : NoEx gIx := fun a b c h => by
  unfold gIx at h
  split at h
  · split at h <;> cases h
  · split at h <;> cases h
  · split at h
    · split at h <;> cases h
    · cases h
  · cases h
theorem atI_rp {K : PySem.W.Frag} {S : Hp} {vs : List V} {ds : List PD} {i : Int} {d : PD} (h : RpA K S vs ds) (e : atI ds i = some d) : ∃ v, atI vs i = some v ∧ Rp K S v d := by
  unfold atI at e ⊢
  rw [h.length]
  cases q : ixN ds.length i with
  | none => rw [q] at e; cases e
  | some j =>
    rw [q] at e
    exact h.get e
theorem pd_ix (ha : PE X a (tD X.K X.mg W f1)) (hb : PE X b (tD X.K X.mg W f2)) (hs : PlainIx b := by exact fun _ _ => rfl) : PE X (.Subscript a b pos) (tD X.K X.mg W (d2 gIx f1 f2)) :=
  PEimp (pe_ix (ix_seq (X := X)) ha hb hs) (d2_of (fun x y H Q ⟨S, a, b, hS, ra, rb, h⟩ => by
    cases q : gIx a b with
    | ex c => rw [q] at h; exact h.elim
    | no => rw [q] at h; exact h.elim
    | ok d =>
      rw [q] at h
      dsimp only at h
      unfold gIx at q
      split at q
      · cases rb
        cases ra with
        | lst h1 a1 =>
          split at q
          · rename_i d e
            cases q
            obtain ⟨v, hv, hr⟩ := atI_rp a1 e
            exact .inl ⟨_, _, _, v, rfl, rfl, Same.seq hS h1, hv, h v S H (Ext.refl hS) hr⟩
          · cases q
      · cases rb
        cases ra with
        | tup h1 a1 =>
          split at q
          · rename_i d e
            cases q
            obtain ⟨v, hv, hr⟩ := atI_rp a1 e
            exact .inr (.inl ⟨_, _, _, v, rfl, rfl, Same.seqT hS h1, hv, h v S H (Ext.refl hS) hr⟩)
          · cases q
      · cases rb
        cases ra
        split at q
        · rename_i hl
          split at q
          · rename_i c e
            cases q
            exact .inr (.inr ⟨_, _, c, rfl, rfl, hl, e, h _ S H (Ext.refl hS) (.str _)⟩)
          · cases q
        · cases q
      · cases q) noEx_ix)
def cutD {α : Type} (xs : List α) (lo hi : Option Int) : List α := (xs.drop (HT.sIx xs.length 0 lo)).take (HT.sIx xs.length xs.length hi - HT.sIx xs.length 0 lo)
def gSl (d : PD) (lo hi : Option Int) : R PD := match d with
  | .list ds => .ok (.list (cutD ds lo hi))
  | .tuple ds => .ok (.tuple (cutD ds lo hi))
  | .str z => if z.length ≤ 16777216 then .ok (.str (cutS z lo hi)) else .no
  | _ => .no
def toI : PD → R (Option Int)
  | .int i => .ok (some i)
  | _ => .no
def dP (f : En → R PD) : En → R (Option Int) := fun ρ => (f ρ).bind toI
def dP0 : En → R (Option Int) := fun _ => .ok none
def dSl (f : En → R PD) (lo hi : En → R (Option Int)) : En → R PD := fun ρ => (f ρ).bind fun d => (lo ρ).bind fun l => (hi ρ).bind fun h => gSl d l h
def rpO : Hp → Option Int → Option Int → Prop := fun _ b a => b = a
abbrev tDO (K : PySem.W.Frag) (mg : MG) (W : WX) (f : En → R (Option Int)) : TO := tG rpO K mg W f
theorem POimp {o : Option Expr} {t t' : TO} (h : PO X o t) (i : ∀ σ H Q, t' σ H Q → t σ H Q) : PO X o t' := ⟨fun pins s σ H Q I q => h.run pins s σ H Q I (i σ H Q q)⟩
theorem po_d0 : PO X none (tDO X.K X.mg W dP0) := POimp po_none fun σ H Q ⟨G, ρ, S, rel, h⟩ => h none S H (Ext.refl rel.inn) rfl
theorem po_d (he : PE X e (tD X.K X.mg W f)) : PO X (some e) (tDO X.K X.mg W (dP f)) := POimp (po_some he) fun σ H Q ⟨G, ρ, S, rel, h⟩ => by
  refine tG.mk rel (wG.imp ?_ (wG.bind (rp := Rp X.K) h))
  rintro v H1 ⟨S1, d, e1, ra, h1⟩
  cases d with
  | int i => cases ra; exact ⟨i, rfl, h1 (some i) S1 H1 (Ext.refl e1.inn) rfl⟩
  | _ => exact h1.elim
theorem cut_rp {K : PySem.W.Frag} {S : Hp} {vs : List V} {ds : List PD} {lo hi : Option Int} (h : RpA K S vs ds) : RpA K S (cutV vs lo hi) (cutD ds lo hi) := by
  unfold cutV cutD
  rw [h.length]
  exact (h.drop _).take _
theorem cut_all {α : Type} {xs : List α} {lo hi : Option Int} (h : HT.sIx xs.length 0 lo = 0 ∧ HT.sIx xs.length xs.length hi = xs.length) : cutD xs lo hi = xs := by
  unfold cutD
  rw [h.1, h.2]
  simp
theorem pd_sl {lo hi : Option Expr} {p2 : Pos} {l h : En → R (Option Int)} (ha : PE X a (tD X.K X.mg W f)) (hl : PO X lo (tDO X.K X.mg W l)) (hh : PO X hi (tDO X.K X.mg W h)) : PE X (.Subscript a (.Slice lo hi none p2) pos) (tD X.K X.mg W (dSl f l h)) :=
  PEimp (pe_slice (sl_list.or (sl_tupA.or sl_str)) ha hl hh) fun σ H Q ⟨G, ρ, S, rel, q⟩ => by
    refine tG.mk rel (wG.imp ?_ (wG.bind (rp := Rp X.K) q))
    rintro v H1 ⟨S1, d, e1, ra, q1⟩
    refine tG.mk (rel.ext e1) (wG.imp ?_ (wG.bind (rp := rpO) q1))
    rintro l H2 ⟨S2, l', e2, rl, q2⟩
    refine tG.mk ((rel.ext e1).ext e2) (wG.imp ?_ (wG.bind (rp := rpO) q2))
    rintro h H3 ⟨S3, h', e3, rh, q3⟩
    cases rl
    cases rh
    have ra3 := Rp.mono (e2.sub.trans e3.sub) _ _ ra
    have hS := e3.inn
    cases d with
    | list ds =>
      cases ra3 with
      | lst h1 a1 =>
        refine .inl ⟨_, _, rfl, Same.seq hS h1, fun p hp => ?_⟩
        have z := Rp.newL hS hp (cut_rp (lo := l) (hi := h) a1)
        exact q3 _ _ _ z.1 z.2
    | tuple ds =>
      cases ra3 with
      | tup h1 a1 =>
        refine .inr (.inl ⟨_, _, rfl, Same.seqT hS h1, fun hw => ?_, fun _ p hp => ?_⟩)
        · rw [a1.length] at hw
          have q4 : wG (Rp X.K) X.mg W σ S3 H3 Q (.ok (.tuple (cutD ds l h))) := q3
          rw [cut_all hw] at q4
          exact q4 _ S3 H3 (Ext.refl hS) (.tup h1 a1)
        · have z := Rp.newT hS hp (cut_rp (lo := l) (hi := h) a1)
          exact q3 _ _ _ z.1 z.2
    | str z =>
      cases ra3
      have q4 : wG (Rp X.K) X.mg W σ S3 H3 Q (if z.length ≤ 16777216 then .ok (.str (cutS z l h)) else .no) := q3
      by_cases hz : z.length ≤ 16777216
      · rw [if_pos hz] at q4
        exact .inr (.inr ⟨_, rfl, hz, q4 _ S3 H3 (Ext.refl hS) (.str _)⟩)
      · rw [if_neg hz] at q4
        exact q4.elim
    | _ => exact q3.elim

/-! ### built-ins by name -/
def CallD (X : Cx) (fv : Value) (g : List PD → R PD) : Prop := CallR X fv fun vs H Q => ∃ S ds, Same S H ∧ RpA X.K S vs ds ∧ match g ds with
  | .ok d => ∀ v S' H', Ext S H S' H' → Rp X.K S' v d → Q v H'
  | _ => False
def NoExL (g : List PD → R PD) : Prop := ∀ a c, g a ≠ .ex c
theorem cd_of {fv : Value} {g : List PD → R PD} (hn : NoExL g) : ∀ σ H Q, tD X.K X.mg W (dA g fs) σ H Q → tCB (fun vs H Q => ∃ S ds, Same S H ∧ RpA X.K S vs ds ∧ match g ds with
  | .ok d => ∀ v S' H', Ext S H S' H' → Rp X.K S' v d → Q v H'
  | _ => False) (tDA X.K X.mg W fs) σ H Q := by
  rintro σ H Q ⟨G, ρ, S, rel, h⟩
  refine tG.mk rel (wG.imp ?_ (wG.bind (rp := RpA X.K) h))
  rintro vs H1 ⟨S1, ds, e1, ra, h1⟩
  refine ⟨S1, ds, e1.inn, ra, ?_⟩
  cases q : g ds with
  | ok d => rw [q] at h1; exact h1
  | ex c => exact absurd q (hn ds c)
  | no => rw [q] at h1; exact h1
theorem pd_b {id : String} {g : List PD → R PD} (hc : CallD X (.builtin id) g) (hn : NoExL g) (hm : X.mg x = none) (hv : bootBuiltins x = some (.builtin id)) (ha : PA X (e :: es) (tDA X.K X.mg W fs)) (hg : Gl X x := by rfl) (hnn : x ≠ "__name__" := by decide) (hdb : (x == ("__debug__" : Str)) = false := by decide)
    (he : starEach (e :: es) X.env = (false, eval e X.env) :: starEach es X.env := by rfl) (hpl : (backTo pos (starEach es X.env)).any (·.1) = false := by rfl) : PE X (.Call (.Name x p) (e :: es) [] pos) (tD X.K X.mg W (dA g fs)) :=
  PEimp (pe_callB hc hg hm hv ha hnn hdb he hpl) (cd_of (fv := .builtin id) hn)
theorem pd_bt {T : String} {g : List PD → R PD} (hc : CallD X (.type T) g) (hn : NoExL g) (hm : X.mg x = none) (hv : bootBuiltins x = some (.type T)) (ha : PA X (e :: es) (tDA X.K X.mg W fs)) (hg : Gl X x := by rfl) (hnn : x ≠ "__name__" := by decide) (hdb : (x == ("__debug__" : Str)) = false := by decide)
    (he : starEach (e :: es) X.env = (false, eval e X.env) :: starEach es X.env := by rfl) (hpl : (backTo pos (starEach es X.env)).any (·.1) = false := by rfl) : PE X (.Call (.Name x p) (e :: es) [] pos) (tD X.K X.mg W (dA g fs)) :=
  PEimp (pe_callTy hc hg hm hv ha hnn hdb he hpl) (cd_of (fv := .type T) hn)
def gLen : List PD → R PD
  | [.list ds] => .ok (.int ds.length)
  | [.tuple ds] => .ok (.int ds.length)
  | [.str z] => if z.length ≤ 16777216 then .ok (.int z.length) else .no
  | _ => .no
theorem nx_len : NoExL gLen := fun a c h => by unfold gLen at h; split at h <;> first | (split at h <;> cases h) | cases h
theorem cd_len : CallD X (.builtin "len") gLen := by
  refine CallD_ofX fun pins s σ H vs us Q S ds d I r hS ra q h => ?_
  unfold gLen at q
  split at q
  · cases ra with
    | cons r1 r2 =>
      cases r2
      cases r1 with
      | lst h1 a1 =>
        cases q
        exact call_len pins s σ H _ us Q I r ⟨_, _, rfl, .inl ⟨_, Same.seq hS h1, rfl⟩, by rw [a1.length]; exact h _ S H (Ext.refl hS) (.int _)⟩
  · cases ra with
    | cons r1 r2 =>
      cases r2
      cases r1 with
      | tup h1 a1 =>
        cases q
        exact call_len pins s σ H _ us Q I r ⟨_, _, rfl, .inr ⟨_, Same.seqT hS h1, rfl⟩, by rw [a1.length]; exact h _ S H (Ext.refl hS) (.int _)⟩
  · cases ra with
    | cons r1 r2 =>
      cases r2
      cases r1
      split at q
      · rename_i hl
        cases q
        exact call_len pins s σ H _ us Q I r ⟨_, _, rfl, ⟨hl, rfl⟩, h _ S H (Ext.refl hS) (.int _)⟩
      · cases q
  · cases q
def gAbs : List PD → R PD
  | [.int i] => .ok (.int (if i < 0 then -i else i))
  | _ => .no
theorem nx_abs : NoExL gAbs := fun a c h => by unfold gAbs at h; split at h <;> cases h
theorem cd_abs : CallD X (.builtin "abs") gAbs := by
  refine CallD_ofX fun pins s σ H vs us Q S ds d I r hS ra q h => ?_
  unfold gAbs at q
  split at q
  · cases ra with
    | cons r1 r2 =>
      cases r2
      cases r1
      cases q
      exact call_abs pins s σ H _ us Q I r ⟨_, rfl, h _ S H (Ext.refl hS) (.int _)⟩
  · cases q
def gInt : List PD → R PD
  | [.int i] => .ok (.int i)
  | [.bool b] => .ok (.int (if b then 1 else 0))
  | _ => .no
theorem nx_int : NoExL gInt := fun a c h => by unfold gInt at h; split at h <;> cases h
theorem cd_int : CallD X (.type "int") gInt := by
  refine CallD_ofX fun pins s σ H vs us Q S ds d I r hS ra q h => ?_
  unfold gInt at q
  split at q
  · cases ra with
    | cons r1 r2 =>
      cases r2
      cases r1
      cases q
      exact call_int1 pins s σ H _ us Q I r (.inl ⟨_, rfl, h _ S H (Ext.refl hS) (.int _)⟩)
  · cases ra with
    | cons r1 r2 =>
      cases r2
      cases r1
      cases q
      exact call_int1 pins s σ H _ us Q I r (.inr ⟨_, rfl, h _ S H (Ext.refl hS) (.int _)⟩)
  · cases q
def gMax : List PD → R PD
  | [.int i, .int j] => .ok (.int (if j > i then j else i))
  | _ => .no
def gMin : List PD → R PD
  | [.int i, .int j] => .ok (.int (if j < i then j else i))
  | _ => .no
theorem nx_max : NoExL gMax := fun a c h => by unfold gMax at h; split at h <;> cases h
theorem nx_min : NoExL gMin := fun a c h => by unfold gMin at h; split at h <;> cases h
theorem cd_max (hc : X.calm = true) : CallD X (.builtin "max") gMax := by
  refine CallD_ofX fun pins s σ H vs us Q S ds d I r hS ra q h => ?_
  unfold gMax at q
  split at q
  · cases ra with
    | cons r1 r2 =>
      cases r2 with
      | cons r2 r3 =>
        cases r3
        cases r1
        cases r2
        cases q
        exact call_max2 hc pins s σ H _ us Q I r ⟨_, _, rfl, h _ S H (Ext.refl hS) (.int _)⟩
  · cases q
theorem cd_min (hc : X.calm = true) : CallD X (.builtin "min") gMin := by
  refine CallD_ofX fun pins s σ H vs us Q S ds d I r hS ra q h => ?_
  unfold gMin at q
  split at q
  · cases ra with
    | cons r1 r2 =>
      cases r2 with
      | cons r2 r3 =>
        cases r3
        cases r1
        cases r2
        cases q
        exact call_min2 hc pins s σ H _ us Q I r ⟨_, _, rfl, h _ S H (Ext.refl hS) (.int _)⟩
  · cases q
def gTupOf : List PD → R PD
  | [.list ds] => .ok (.tuple ds)
  | [.tuple ds] => .ok (.tuple ds)
  | _ => .no
def intsOf : List PD → Option (List Int)
  | [] => some []
  | .int i :: r => (intsOf r).map (i :: ·)
  | _ :: _ => none
/-! isinstance(x, T), T a built-in type -/
def tyD : PD → String
  | .none => "NoneType"
  | .bool _ => "bool"
  | .int _ => "int"
  | .str _ => "str"
  | .list _ => "list"
  | .tuple _ => "tuple"
  | .dict _ => "dict"
def isExc : PD → Bool
  | .dict ((.none, _) :: _) => true
  | _ => false
theorem tyx_rp {K : PySem.W.Frag} {S H : Hp} {v : V} {d : PD} (hS : Same S H) (r : Rp K S v d) (hx : isExc d = false) : TyX K H v (.type (tyD d)) := by
  cases r with
  | non => exact .base .non
  | bl b => exact .base (.bl b)
  | int i => exact .base (.int i)
  | str x => exact .base (.str x)
  | lst h a =>
    rcases h with (h | ⟨o, h⟩) | ⟨o, its, n, h1, h2, _⟩
    · exact .base (.lst (hS _ _ h))
    · exact .base (.frz (hS _ _ h))
    · exact .kList h1 h2
  | tup h a =>
    rcases h with (h | ⟨o, h⟩) | ⟨o, its, n, h1, h2, _⟩
    · exact .base (.tup (hS _ _ h))
    · exact .fTuple (hS _ _ h)
    · exact .kTuple h1 h2
  | exc h => cases hx
  | dct h _ => exact .fDict (hS _ _ h)
def gIsi (T : String) (d : PD) : R PD := if isExc d = true then .no else match kitB (tyD d) T with
  | some b => .ok (.bool b)
  | none => .no
theorem pd_isi {T : String} {t : Str} {pt : Pos} (hm : X.mg "isinstance" = none) (hmt : X.mg t = none) (hv : bootBuiltins t = some (.type T)) (ha : PE X e (tD X.K X.mg W f)) (hg : Gl X "isinstance" := by rfl) (hgt : Gl X t := by rfl) (hnn : t ≠ "__name__" := by decide) (hdb : (t == ("__debug__" : Str)) = false := by decide)
    (he : starEach [e, .Name t pt] X.env = (false, eval e X.env) :: starEach [.Name t pt] X.env := by rfl) (he2 : starEach [.Name t pt] X.env = (false, eval (.Name t pt) X.env) :: starEach [] X.env := by rfl) (hpl : (backTo pos (starEach [.Name t pt] X.env)).any (·.1) = false := by rfl) :
    PE X (.Call (.Name "isinstance" p) [e, .Name t pt] [] pos) (tD X.K X.mg W (d1 (gIsi T) f)) :=
  PEimp (pe_callB call_isi hg hm (by decide +kernel) (pa_cons ha (pa_cons (pe_bltn (v := .ty T) hgt hmt hv rfl hnn hdb) pa_nil he2) he) (by decide) (by decide) he hpl) fun σ H Q ⟨G, ρ, S, rel, h⟩ => by
    refine tG.mk rel (wG.imp ?_ (wG.bind (rp := Rp X.K) h))
    rintro v H1 ⟨S1, d, e1, ra, h1⟩
    unfold gIsi at h1
    split at h1
    · exact h1.elim
    · rename_i hx
      split at h1
      · rename_i b hb
        exact ⟨v, .ty T, _, _, b, rfl, .ty T, tyx_rp e1.inn ra (by simpa using hx), kit_ty hb, h1 _ S1 H1 (Ext.refl e1.inn) (.bl b)⟩
      · exact h1.elim
end

/-! ### raise -/
structure ExAt (K : PySem.W.Frag) (mg : MG) (x : Str) : Prop where
  ex : ∃ C, mg x = some (.ref C) ∧ PySem.W.excIn K C He.veBase "ValueError.__new__" = true ∧ PySem.W.keepIn K (.ref C) = true ∧ PySem.W.subIn K (.ref C) (.type "BaseException") = some true ∧ PySem.W.typeIn K (.ref C) = some (.type "type")
section
variable {X : Cx} {W : WX} {x m : Str} {p p2 pos pos' : Pos} {j : Nat}
theorem sd_raise (hc : X.calm = true) (tk : Takes X W) (E : ExAt X.K X.mg x) (hg : Gl X x := by rfl) (hdb : (x == ("__debug__" : Str)) = false := by decide) : PS X (.Raise (some (.Call (.Name x p) [.Constant (.str m) j p2] [] pos)) none pos') (tS X.K X.mg W (sRaise x)) := by
  obtain ⟨C, h1, h2, h3, h4, h5⟩ := E.ex
  exact PSimp (ps_raise hc tk (pmk_own PySem.F.excBase_ValueError h2 h1 h3 (raises_own h4 h5) hg hdb)) fun D σ H ⟨G, ρ, S, r, q⟩ => q _ σ S H h1 (Same.refl _) r
end

/-! ### a def -/
def fnD (m : Nat) (den : En → Fl) (ds : List PD) : R PD := match den (ds.map (fun d => some (.d d)) ++ List.replicate (m - ds.length) none) with
  | .rt d => .ok d
  | .nx _ => .ok .none
  | .ex c _ => .ex c
  | _ => .no
theorem getL {α β : Type} {f : α → β} {l : List α} {m : Nat} {i : Nat} {b : β} {c : β} (h : (l.map f ++ List.replicate m c)[i]? = some b) (hb : b ≠ c) : ∃ a, l[i]? = some a ∧ b = f a := by
  by_cases hi : i < l.length
  · rw [List.getElem?_append_left (by simpa using hi), List.getElem?_map] at h
    cases e : l[i]? with
    | none => rw [e] at h; cases h
    | some a => rw [e] at h; cases h; exact ⟨a, rfl, rfl⟩
  · rw [List.getElem?_append_right (by simpa using hi), List.getElem?_replicate] at h
    split at h
    · cases h; exact absurd rfl hb
    · cases h
theorem Rel.start {K : PySem.W.Frag} {S H : Hp} {vs : List V} {ds : List PD} {N : List Str} (hS : Same S H) (r : RpA K S vs ds) : Rel K ⟨S, H, 0, [], []⟩ S (start N vs) (ds.map (fun d => some (.d d)) ++ List.replicate (N.length - ds.length) none) H := by
  refine ⟨fun _ => [], ⟨?_, hS, Same.refl _, Same.refl _, fun _ _ h => .inl h, (fun _ h => nomatch h), fun i x h => ?_, (fun _ _ h => nomatch h), (fun _ _ _ _ h => nomatch h), (fun _ _ h => nomatch h)⟩⟩
  · unfold L2.start; simp [r.length]
  · obtain ⟨d, h1, h2⟩ := getL h (by intro z; cases z)
    cases h2
    obtain ⟨v, hv, hr⟩ := r.get h1
    refine ⟨v, ?_, hr⟩
    unfold L2.start
    have hi : i < vs.length := (List.getElem?_eq_some_iff.mp hv).1
    rw [List.getElem?_append_left (by simpa using hi), List.getElem?_map, hv]
    rfl
section
variable {P : Program} {w : World} {K : PySem.W.Frag} {mg : MG} {base : Heap}
theorem okD {x qual : Str} {params : Arguments} {body : List Stmt} {scope : Scope} {dvs : List V} {kws : List (Str × V)} {f : Addr} {fd : FuncData} {N ps : List Str} {k n : Nat} {den : En → Fl} (F : FunD K x qual params body scope dvs kws f fd) (S : FnScope N ps scope) (hn : ps.length = n)
    (hb : ∀ (cdv : Value) (A : Around) (outer : List Env) (s : Shared) (H : Hp) (E : XK), Room k (A.deeper (PyProof.Rows.envOfC qual scope s.heap.objs.size f cdv)) → PSs (cxOf (L2.CX P w) P w K mg base N qual scope f cdv A outer s H E) body (tS K mg (fun cls d _ H => E cls d H) den)) :
    FnOk P w K mg base (L2.CX P w) (k + 1) f fd ps (spD K mg n (fnD N.length den)) := by
  refine F.ok S (fun vs H Q E h => ?_) (fun cdv A outer s H vs Q E hr h => ⟨_, hb cdv A outer s H E hr, ?_⟩)
  · obtain ⟨S', ds, _, hr, hl, _⟩ := h
    rw [hr.length, hl, hn]
  · obtain ⟨S', ds, hS, hr2, hl, h⟩ := h
    refine ⟨⟨S', H, 0, [], []⟩, _, S', Rel.start hS hr2, ?_⟩
    unfold fnD at h
    cases q : den (ds.map (fun d => some (.d d)) ++ List.replicate (N.length - ds.length) none) with
    | nx ρ => rw [q] at h; exact fun σ S2 H2 s2 r => h .non S2 H2 r.fin .non
    | rt d => rw [q] at h; exact fun v S2 H2 e r => h v S2 H2 e r
    | rm d ρ => rw [q] at h; exact h.elim
    | rv x => rw [q] at h; exact h.elim
    | ex c ρ => rw [q] at h; exact fun cls σ S2 H2 m s2 r => h cls S2 H2 m r.fin
    | bk ρ => rw [q] at h; exact h.elim
    | ct ρ => rw [q] at h; exact h.elim
    | no => rw [q] at h; exact h.elim
theorem FnAt.imp {x : Str} {k n : Nat} {Bs : List (List PD)} {g g' : List PD → R PD} (F : FnAt P w K mg base x k n Bs g) (h : ∀ ds, g' ds = .no ∨ g' ds = g ds) : FnAt P w K mg base x k n Bs g' := by
  obtain ⟨f, fd, ps, h1, h2, h3, h4⟩ := F.ex
  refine ⟨f, fd, ps, h1.imp fun vs H Q E q => ?_, h2, h3, h4⟩
  obtain ⟨S, ds, a, b, c, q⟩ := q
  refine ⟨S, ds, a, b, c, ?_⟩
  rcases h ds with e | e
  · rw [e] at q; exact q.elim
  · rw [e] at q; exact q
end
end DL

set_option Elab.async false
set_option linter.all false
set_option maxRecDepth 100000
set_option maxHeartbeats 4000000
set_option autoImplicit false
/-! the data layer 6: in, is None, chains; lists of one's own; keyword calls; targets of an assignment -/
namespace DL
open PySem L2

/-! ### in, not in -/
def flatD : PD → Bool
  | .none => true
  | .bool _ => true
  | .int _ => true
  | .str _ => true
  | _ => false
def inL (d : PD) (ds : List PD) : R Bool := if flatD d = true ∧ ds.all flatD = true then .ok (ds.any fun y => PyData.eqv y d) else
  if SeqAt.shaped d = true ∧ SeqAt.shaped (.list ds) = true then .ok (ds.any fun y => PyData.eqv y d) else .no
def gIn (neg : Bool) : PD → PD → R PD
  | d, .list ds => (inL d ds).bind fun b => .ok (.bool (b != neg))
  | d, .tuple ds => (inL d ds).bind fun b => .ok (.bool (b != neg))
  | .str x, .str z => .ok (.bool ((!(Builtin.Str.occurrences z x 0 z.length 1).isEmpty) != neg))
  | _, _ => .no
theorem noEx_in {neg : Bool} : NoEx (gIn neg) := fun a b c h => by
  have no : ∀ d ds c, inL d ds ≠ .ex c := fun d ds c h => by
    unfold inL at h
    split at h
    · cases h
    · split at h <;> cases h
  unfold gIn at h
  split at h
  · rename_i ds
    cases q : inL a ds with
    | ok b => rw [q] at h; cases h
    | ex c => exact no _ _ _ q
    | no => rw [q] at h; cases h
  · rename_i ds
    cases q : inL a ds with
    | ok b => rw [q] at h; cases h
    | ex c => exact no _ _ _ q
    | no => rw [q] at h; cases h
  · cases h
  · cases h
theorem flat_rp {K : PySem.W.Frag} {S : Hp} {v : V} {d : PD} (r : Rp K S v d) (h : flatD d = true) : flatV v = true := by
  cases r <;> first | rfl | cases h
theorem eqv_rp {K : PySem.W.Frag} {S : Hp} {v u : V} {d e : PD} (r : Rp K S v d) (r2 : Rp K S u e) (h : flatD d = true) (h2 : flatD e = true) : eqV v u = PyData.eqv d e := by
  cases r <;> first | (cases h; done) | (cases r2 <;> first | (cases h2; done) | simp only [eqV, PyData.eqv])
theorem flatA_rp {K : PySem.W.Frag} {S : Hp} : ∀ {ds : List PD} {vs : List V}, RpA K S vs ds → ds.all flatD = true → vs.all flatV = true
  | [], _, h, _ => by cases h; rfl
  | d :: ds, _, h, f => by
    cases h with
    | cons h1 h2 =>
      rw [List.all_cons, Bool.and_eq_true] at f ⊢
      exact ⟨flat_rp h1 f.1, flatA_rp h2 f.2⟩
theorem inV_rp {K : PySem.W.Frag} {S : Hp} {v : V} {d : PD} (r : Rp K S v d) (hd : flatD d = true) : ∀ {ds : List PD} {vs : List V}, RpA K S vs ds → ds.all flatD = true → inV v vs = ds.any fun y => PyData.eqv y d
  | [], _, h, _ => by cases h; rfl
  | e :: ds, _, h, f => by
    cases h with
    | cons h1 h2 =>
      rw [List.all_cons, Bool.and_eq_true] at f
      have := inV_rp r hd h2 f.2
      unfold inV at this ⊢
      rw [List.any_cons, List.any_cons, eqv_rp h1 r f.1 hd, this]
section
variable {X : Cx}
def rInT (K : PySem.W.Frag) (neg : Bool) : R2 := fun x y H Q => ∃ d ds, Dp K H x d ∧ Dp K H y (.tuple ds) ∧ SeqAt.shaped d = true ∧ SeqAt.shaped (.list ds) = true ∧ Q (.bl ((ds.any fun z => PyData.eqv z d) != neg)) H
theorem op_inT (hu : X.A.units + 65 < cLine) : OpR X (compareOp .In) (rInT X.K false) := by
  intro pins s σ H x y v u Q I rx ry h
  obtain ⟨d, ds, hd, he, sd, se, q⟩ := h
  obtain ⟨as, r1⟩ := Dp.reads I d x v hd rx
  obtain ⟨bs, r2⟩ := Dp.reads I (.tuple ds) y u he ry
  refine SeqAt.in_tuple_reads r2 r1 (SeqAt.canLay_of_shaped se) (SeqAt.canLay_of_shaped sd) (PyProof.Rows.room_in_shaped sd hu) ⟨.bl _, H, I, rfl, ?_⟩
  simpa using q
theorem op_notInT (hu : X.A.units + 65 < cLine) : OpR X (compareOp .NotIn) (rInT X.K true) := by
  intro pins s σ H x y v u Q I rx ry h
  obtain ⟨d, ds, hd, he, sd, se, q⟩ := h
  obtain ⟨as, r1⟩ := Dp.reads I d x v hd rx
  obtain ⟨bs, r2⟩ := Dp.reads I (.tuple ds) y u he ry
  refine SeqAt.notIn_tuple_reads r2 r1 (SeqAt.canLay_of_shaped se) (SeqAt.canLay_of_shaped sd) (PyProof.Rows.room_in_shaped sd hu) ⟨.bl _, H, I, rfl, ?_⟩
  simpa using q
theorem inL_cases {d : PD} {ds : List PD} {b : Bool} (h : inL d ds = .ok b) : b = (ds.any fun y => PyData.eqv y d) ∧ ((flatD d = true ∧ ds.all flatD = true) ∨ (SeqAt.shaped d = true ∧ SeqAt.shaped (.list ds) = true)) := by
  unfold inL at h
  split at h
  · rename_i hf
    cases h
    exact ⟨rfl, .inl hf⟩
  · split at h
    · rename_i hf
      cases h
      exact ⟨rfl, .inr hf⟩
    · cases h
theorem od_in (hu : X.A.units + 65 < cLine) : OpD X (compareOp .In) (gIn false) := by
  refine OpD_of fun pins s σ H x y v u Q S a b d I rx ry hS ra rb q h => ?_
  unfold gIn at q
  split at q
  · rename_i ds
    cases e : inL a ds with
    | ok k =>
      rw [e] at q
      cases q
      obtain ⟨rfl, hc⟩ := inL_cases e
      cases rb with
      | lst h1 a1 =>
        rcases hc with ⟨f1, f2⟩ | ⟨f1, f2⟩
        · exact op_in_seq pins s σ H _ _ v u Q I rx ry ⟨_, _, rfl, .inl (Same.seq hS h1), flat_rp ra f1, flatA_rp a1 f2, by rw [if_neg Bool.false_ne_true, inV_rp ra f1 a1 f2]; exact h _ S H (Ext.refl hS) (by simpa using Rp.bl _)⟩
        · exact op_inD hu pins s σ H _ _ v u Q I rx ry ⟨_, _, Rp.dp _ _ (SeqAt.canLay_of_shaped f1) (Rp.mono hS _ _ ra), Rp.dp _ _ (SeqAt.canLay_of_shaped f2) (Rp.mono hS _ _ (.lst h1 a1)), f1, f2, h _ S H (Ext.refl hS) (by simpa using Rp.bl _)⟩
    | ex c => rw [e] at q; cases q
    | no => rw [e] at q; cases q
  · rename_i ds
    cases e : inL a ds with
    | ok k =>
      rw [e] at q
      cases q
      obtain ⟨rfl, hc⟩ := inL_cases e
      cases rb with
      | tup h1 a1 =>
        rcases hc with ⟨f1, f2⟩ | ⟨f1, f2⟩
        · exact op_in_seq pins s σ H _ _ v u Q I rx ry ⟨_, _, rfl, .inr (Same.seqT hS h1), flat_rp ra f1, flatA_rp a1 f2, by rw [if_neg Bool.false_ne_true, inV_rp ra f1 a1 f2]; exact h _ S H (Ext.refl hS) (by simpa using Rp.bl _)⟩
        · exact op_inT hu pins s σ H _ _ v u Q I rx ry ⟨_, _, Rp.dp _ _ (SeqAt.canLay_of_shaped f1) (Rp.mono hS _ _ ra), Rp.dp _ _ (SeqAt.canLay_of_shaped f2) (Rp.mono hS _ _ (.tup h1 a1)), f1, f2, h _ S H (Ext.refl hS) (.bl _)⟩
    | ex c => rw [e] at q; cases q
    | no => rw [e] at q; cases q
  · cases ra
    cases rb
    cases q
    exact op_in_str pins s σ H _ _ v u Q I rx ry ⟨_, _, rfl, rfl, h _ S H (Ext.refl hS) (by simpa using Rp.bl _)⟩
  · cases q
theorem od_notin (hu : X.A.units + 65 < cLine) : OpD X (compareOp .NotIn) (gIn true) := by
  refine OpD_of fun pins s σ H x y v u Q S a b d I rx ry hS ra rb q h => ?_
  unfold gIn at q
  split at q
  · rename_i ds
    cases e : inL a ds with
    | ok k =>
      rw [e] at q
      cases q
      obtain ⟨rfl, hc⟩ := inL_cases e
      cases rb with
      | lst h1 a1 =>
        rcases hc with ⟨f1, f2⟩ | ⟨f1, f2⟩
        · exact op_notIn_seq pins s σ H _ _ v u Q I rx ry ⟨_, _, rfl, .inl (Same.seq hS h1), flat_rp ra f1, flatA_rp a1 f2, by rw [if_pos rfl, inV_rp ra f1 a1 f2]; exact h _ S H (Ext.refl hS) (by simpa using Rp.bl _)⟩
        · exact op_notInD hu pins s σ H _ _ v u Q I rx ry ⟨_, _, Rp.dp _ _ (SeqAt.canLay_of_shaped f1) (Rp.mono hS _ _ ra), Rp.dp _ _ (SeqAt.canLay_of_shaped f2) (Rp.mono hS _ _ (.lst h1 a1)), f1, f2, h _ S H (Ext.refl hS) (by simpa using Rp.bl _)⟩
    | ex c => rw [e] at q; cases q
    | no => rw [e] at q; cases q
  · rename_i ds
    cases e : inL a ds with
    | ok k =>
      rw [e] at q
      cases q
      obtain ⟨rfl, hc⟩ := inL_cases e
      cases rb with
      | tup h1 a1 =>
        rcases hc with ⟨f1, f2⟩ | ⟨f1, f2⟩
        · exact op_notIn_seq pins s σ H _ _ v u Q I rx ry ⟨_, _, rfl, .inr (Same.seqT hS h1), flat_rp ra f1, flatA_rp a1 f2, by rw [if_pos rfl, inV_rp ra f1 a1 f2]; exact h _ S H (Ext.refl hS) (by simpa using Rp.bl _)⟩
        · exact op_notInT hu pins s σ H _ _ v u Q I rx ry ⟨_, _, Rp.dp _ _ (SeqAt.canLay_of_shaped f1) (Rp.mono hS _ _ ra), Rp.dp _ _ (SeqAt.canLay_of_shaped f2) (Rp.mono hS _ _ (.tup h1 a1)), f1, f2, h _ S H (Ext.refl hS) (.bl _)⟩
    | ex c => rw [e] at q; cases q
    | no => rw [e] at q; cases q
  · cases ra
    cases rb
    cases q
    exact op_notIn_str pins s σ H _ _ v u Q I rx ry ⟨_, _, rfl, rfl, h _ S H (Ext.refl hS) (by simpa using Rp.bl _)⟩
  · cases q
end

/-! ### is None; chains -/
def isNone : PD → Bool
  | .none => true
  | _ => false
def gIsN (neg : Bool) (d : PD) : R PD := .ok (.bool (isNone d != neg))
section
variable {X : Cx} {W : WX} {f f1 f2 f3 : En → R PD} {a b c e : Expr} {pos pos' p : Pos} {j : Nat}
end

/-! ### tuple targets -/
def sAsg (tg : Tg) (f : En → R PD) : En → Fl := sE f fun d ρ => match tg.put d ρ with
  | some ρ' => .nx ρ'
  | none => .no
section
variable {X : Cx} {W : WX} {f : En → R PD} {tg e : Expr} {T : Tg} {pos : Pos}
theorem sd_asg (hg : PG X tg (gOf X.K T)) (he : PE X e (tD X.K X.mg W f)) (hs : swapsWithSole [tg] e pos.line X.env = pure false := by rfl) (hw : swappedStores [tg] e X.env = pure none := by rfl) (h1 : (assignEach [tg] X.env).map (·.2) = [assign tg X.env] := by rfl) : PS X (.Assign [tg] e pos) (tS X.K X.mg W (sAsg T f)) :=
  PSimp (ps_asg he hg hs hw h1) fun D σ H ⟨G, ρ, S, r, q⟩ => tG.mk r (wG.imp (fun v H1 ⟨S1, a, e1, ra, r1, q1⟩ => by
    cases z : T.put a ρ with
    | none => rw [z] at q1; exact q1.elim
    | some ρ' => rw [z] at q1; exact gOf_ok r1 ra z fun σ' r' _ => q1 σ' S1 H1 (Same.refl _) r') (wS.ofE (rp := Rp X.K) r q))
end

/-! ### lists of one's own -/
def sSetL (i : Nat) (f : En → R (List PD)) : En → Fl := sE f fun ds ρ => .nx (ρ.set i (some (.l ds)))
section
variable {X : Cx} {W : WX} {f f1 f2 : En → R PD} {fl : En → R (List PD)} {e : Expr} {es : List Expr} {pos pos' : Pos} {x : Str} {g : En → Fl} {sts : List Stmt}
/-- a display -/
def lDisp (fl : En → R (List PD)) : En → R (List PD) := fun ρ => (fl ρ).bind fun ds => if ds.length ≤ 1000 then .ok ds else .no
/-- it is known from here on -/
def sFrz (i : Nat) (g : En → Fl) : En → Fl := fun ρ => match ρ[i]? with
  | some (some (.l xs)) => g (ρ.set i (some (.d (.list xs))))
  | _ => g ρ
/-- an expression that looks at a list of one's own, its value no list or tuple -/
def atomD : PD → R PD
  | .none => .ok .none
  | .bool b => .ok (.bool b)
  | .int i => .ok (.int i)
  | .str x => .ok (.str x)
  | _ => .no
def dLend (i : Nat) (f : En → R PD) : En → R PD := fun ρ => match ρ[i]? with
  | some (some (.l xs)) => (f (ρ.set i (some (.d (.list xs))))).bind atomD
  | _ => f ρ
def dLendB (i : Nat) (f : En → R Bool) : En → R Bool := fun ρ => match ρ[i]? with
  | some (some (.l xs)) => f (ρ.set i (some (.d (.list xs))))
  | _ => f ρ
/-- its item -/
def dIxO (i : Nat) (f : En → R PD) : En → R PD := fun ρ => match ρ[i]? with
  | some (some (.l xs)) => (f ρ).bind fun d => match d with
    | .int k => (match atI xs k with
      | some d => .ok d
      | none => .no)
    | _ => .no
  | some (some (.d d)) => (f ρ).bind fun k => gIx d k
  | _ => .no
/-- x.append(e) -/
def sApp (i : Nat) (f : En → R PD) : En → Fl := fun ρ => match ρ[i]? with
  | some (some (.l xs)) => sE f (fun d ρ => if xs.length < 16777216 then .nx (ρ.set i (some (.l (xs ++ [d])))) else .no) ρ
  | _ => .no
end
end DL

set_option Elab.async false
set_option linter.all false
set_option maxRecDepth 100000
set_option maxHeartbeats 4000000
set_option autoImplicit false
/-! the data layer 7: a comprehension given to a name; keyword calls; the end of a law -/
namespace DL
open PySem L2
section
variable {X : Cx} {W : WX} {elt tg iter : Expr} {ifs : List Expr} {scope : Scope} {pos spos py : Pos} {it : En → R (List PD)} {T : Tg} {tt : En → R Bool} {te : En → R PD} {y : Str}
end

/-! ### f(e, .., k = v, ..) -/
/-- called by np positional values and keywords ks: arr puts them (data) in the parameters' order -/
structure KwAt (P : Program) (w : World) (K : PySem.W.Frag) (mg : MG) (base : Heap) (x : Str) (k n : Nat) (np : Nat) (ks : List Str) (arr : List PD → List PD → List PD) (g : List PD → R PD) : Prop where
  ex : ∃ (f : Addr) (fd : FuncData) (ps : List Str) (gv : List Value → List Value → List Value) (gV : List V → List V → List V), FnOk P w K mg base (L2.CX P w) k f fd ps (spD K mg n g) ∧ mg x = some (.ref f) ∧ PySem.W.keepIn K (.ref f) = true ∧ KBn K fd ps np ks gv gV ∧
    ∀ S vs zs ds es, RpA K S vs ds → RpA K S zs es → RpA K S (gV vs zs) (arr ds es)
section
variable {X : Cx} {fs gs : En → R (List PD)} {e : Expr} {es : List Expr} {kws : List Keyword} {pos p kpos : Pos} {x : Str} {k n np : Nat} {ks : List Str} {arr : List PD → List PD → List PD} {g : List PD → R PD} {E : XK} {nm : Option Str} {f : En → R PD} {W : WX}
end

/-! ### the end of a law -/
theorem scr_rp {K : PySem.W.Frag} {S : Hp} : ∀ ns : List Int, RpA K S (ns.map V.int) (ns.map PyData.int)
  | [] => .nil
  | n :: ns => .cons (.int n) (scr_rp ns)
theorem walkD {l : PySem.W.OpenLaw} {n k : Nat} {q : Program} {loose : List Str} {XP : (Str → Option Value) → Heap → Prop} {YP : World → Heap → Prop} {d : DefRec} {x : Str} {g : List PD → R PD}
    (hn : l.most = some n) (hn2 : n ≤ sizeLine) (hdf : d.params.defaults = []) (hr : Room k PySem.callerA)
    (F : ∀ (w : World) (mg : Str → Option Value) (fa : Addr) (h : Heap), YP w h → h.Ns mainGlobals mg → mg d.name = some (.ref fa) →
      ∃ (K : PySem.W.Frag) (fd : FuncData), K.In h ∧ (∀ (s : Shared) (u : Value), BindsTo s fd ⟨[u], []⟩ [(x, u)]) ∧
        ∀ base : Heap, K.In base → base.Ns mainGlobals mg → FnOk l.prog w K mg base (L2.CX l.prog w) k fa fd [x] (spD K mg 1 g))
    (hg : ∀ ns : List Int, ns.length ≤ n → (∀ z ∈ ns, Builtin.Int.intBits z ≤ 1048576) → g [.list (ns.map PyData.int)] = .ok (.bool true)) :
    PySem.W.WalkO q loose XP YP l.row.toRowW d [] (fun f vs => PySem.call f vs) := by
  refine Att.attach_callB hn hdf fun w s₀ s₁ mg mb fa o pm cd doc a vs ns G Y ho hd hcd hmg hobj hints hlen hbits hgen => ?_
  obtain ⟨K, fd, KX, hb, hF⟩ := F w mg fa _ Y G.T.g hmg
  refine law_call KX G.T.g G.T.b G.T.builtins G.T.nolimit hgen hobj hints (Nat.le_trans hlen hn2) hr hF hb (fun H hO hS => ?_) fun H e s' z => ?_
  · refine ⟨H, [.list (ns.map PyData.int)], Same.refl _, .cons (.lst hS (scr_rp ns)) .nil, rfl, ?_⟩
    rw [hg ns hlen hbits]
    intro v S' H' _ r
    cases r
    rfl
  · obtain ⟨_, _, _, _, _, _, _, _, _, _, _, _, z⟩ := z
    exact z
end DL
namespace DL
open PySem L2
theorem mem0 {α : Type} {a : α} {l : List α} : a ∈ a :: l := List.mem_cons_self
theorem mem1 {α : Type} {a b : α} {l : List α} : b ∈ a :: b :: l := List.mem_cons_of_mem _ List.mem_cons_self
theorem mem2 {α : Type} {a b c : α} {l : List α} : c ∈ a :: b :: c :: l := List.mem_cons_of_mem _ (List.mem_cons_of_mem _ List.mem_cons_self)
theorem un65 {k : Nat} {A : Around} (r : Room k A) : A.units + 65 < cLine := by have := r.un; omega
end DL

set_option Elab.async false
set_option linter.all false
set_option maxRecDepth 100000
set_option maxHeartbeats 4000000
set_option autoImplicit false
/-! the data layer 8: ranges with a step, bit_length, a store into a list of one's own, str -/
namespace DL
open PySem L2
section
variable {X : Cx} {W : WX} {tg : Expr} {f f1 f2 : En → R PD} {fs : En → R (List PD)} {p pos apos : Pos} {e o : Expr} {x : Str}
def gm_bit_length : PD → R PD
  | .int i => .ok (.int (Builtin.Int.intBits i : Nat))
  | _ => .no
def gStr : List PD → R PD
  | [.int i] => if i.natAbs.log2 < 1920 then .ok (.str (toString i)) else .no
  | _ => .no
theorem nx_str : NoExL gStr := fun a c h => by unfold gStr at h; split at h <;> first | (split at h <;> cases h) | cases h
theorem cd_str : CallD X (.type "str") gStr := by
  refine CallD_ofX fun pins s σ H vs us Q S ds d I r hS ra q h => ?_
  unfold gStr at q
  split at q
  · cases ra with
    | cons r1 r2 =>
      cases r2
      cases r1
      split at q
      · rename_i hl
        cases q
        exact call_str_int pins s σ H _ us Q I r ⟨_, rfl, hl, h _ S H (Ext.refl hS) (.str _)⟩
      · cases q
  · cases q
/-- x[k] = e, x a list of one's own -/
def sPut (i : Nat) (fk fe : En → R PD) : En → Fl := fun ρ => match ρ[i]? with
  | some (some (.l xs)) => sE fe (fun d => sE fk fun k ρ => match k with
    | .int z => (match ixN xs.length z with
      | some j => .nx (ρ.set i (some (.l (xs.set j d))))
      | none => .no)
    | _ => .no) ρ
  | _ => .no
end
end DL

set_option Elab.async false
set_option linter.all false
set_option maxRecDepth 100000
set_option maxHeartbeats 4000000
set_option autoImplicit false
/-! the data layer 9: a list times a number -/
namespace DL
open PySem L2 PySem.Spec PyProof.Rows
section
variable {X : Cx}
end
end DL

set_option Elab.async false
set_option linter.all false
set_option maxRecDepth 100000
set_option maxHeartbeats 4000000
set_option autoImplicit false
/-! the data layer 10: lists of lists of one's own -/
namespace DL
open PySem L2
section
variable {K : PySem.W.Frag} {G : F} {S S' H H' : Hp} {σ : St} {ρ : En}
theorem LLs.length : ∀ {bs : List Addr} {xss : List (List PD)}, LLs K S H bs xss → bs.length = xss.length
  | [], [], _ => rfl
  | b :: bs, xs :: xss, ⟨_, h⟩ => by simp [LLs.length h]
  | [], _ :: _, h => h.elim
  | _ :: _, [], h => h.elim
theorem LLs.get : ∀ {bs : List Addr} {xss : List (List PD)} {k : Nat} {xs : List PD}, LLs K S H bs xss → xss[k]? = some xs → ∃ b vs, bs[k]? = some b ∧ H b = some (.lst vs) ∧ RpA K S vs xs
  | [], [], _, _, _, e => by simp at e
  | b :: bs, xs :: xss, 0, ys, ⟨⟨vs, h1, h2⟩, h⟩, e => by
    simp at e
    subst e
    exact ⟨b, vs, rfl, h1, h2⟩
  | b :: bs, xs :: xss, k + 1, ys, ⟨_, h⟩, e => by simpa using LLs.get h (by simpa using e)
  | [], _ :: _, _, _, h, _ => h.elim
  | _ :: _, [], _, _, h, _ => h.elim
theorem LLs.set {vs : List V} {ys : List PD} (hr : RpA K S vs ys) : ∀ {bs : List Addr} {xss : List (List PD)} {k : Nat} {b : Addr}, bs.Nodup → LLs K S H bs xss → bs[k]? = some b → LLs K S (upd H b (.lst vs)) bs (xss.set k ys)
  | [], [], _, _, _, h, _ => trivial
  | c :: bs, xs :: xss, 0, b, nd, ⟨_, h⟩, e => by
    simp at e
    subst e
    have hn := List.nodup_cons.mp nd
    refine ⟨⟨vs, upd_same, hr⟩, LLs.keep (Same.refl _) (fun a ha o q => ?_) h⟩
    rw [upd_ne (fun z => hn.1 (by rw [← z]; exact ha))]; exact q
  | c :: bs, xs :: xss, k + 1, b, nd, ⟨⟨us, h1, h2⟩, h⟩, e => by
    have hn := List.nodup_cons.mp nd
    have e' : bs[k]? = some b := by simpa using e
    refine ⟨⟨us, ?_, h2⟩, LLs.set hr hn.2 h e'⟩
    rw [upd_ne (fun z => hn.1 (by rw [z]; exact List.mem_of_getElem? e'))]; exact h1
  | [], _ :: _, _, _, _, h, _ => h.elim
  | _ :: _, [], _, _, _, h, _ => h.elim
/-- what is known once the lists at addresses are known -/
def updAll (S H : Hp) (as : List Addr) : Hp := fun b => if b ∈ as then H b else S b
end
section
variable {X : Cx} {W : WX} {f f1 f2 : En → R PD} {fl fl1 fl2 : En → R (List PD)} {e : Expr} {es es1 es2 : List Expr} {pos pos' : Pos} {x : Str} {g : En → Fl} {sts : List Stmt}
def sSetLL (i : Nat) (f : En → R (List (List PD))) : En → Fl := sE f fun ds ρ => .nx (ρ.set i (some (.ll ds)))
def lDisp2 (fl1 fl2 : En → R (List PD)) : En → R (List (List PD)) := fun ρ => (fl1 ρ).bind fun xs => if xs.length ≤ 1000 then (fl2 ρ).bind fun ys => if ys.length ≤ 1000 then .ok [xs, ys] else .no else .no
def sFrzLL (i : Nat) (g : En → Fl) : En → Fl := fun ρ => match ρ[i]? with
  | some (some (.ll xss)) => g (ρ.set i (some (.d (.list (xss.map .list)))))
  | _ => g ρ
theorem atI_nth {α : Type} {xs : List α} {k : Int} {y : α} (h : atI xs k = some y) : ∃ j, ixN xs.length k = some j ∧ xs[j]? = some y := by
  unfold atI at h
  cases e : ixN xs.length k with
  | none => rw [e] at h; cases h
  | some j =>
    rw [e] at h
    exact ⟨j, rfl, h⟩
theorem LLs.at {K : PySem.W.Frag} {S H : Hp} {bs : List Addr} {xss : List (List PD)} {k : Int} {xs : List PD} (h : LLs K S H bs xss) (e : atI xss k = some xs) : ∃ j b vs, ixN xss.length k = some j ∧ bs[j]? = some b ∧ atI (bs.map V.ref) k = some (.ref b) ∧ H b = some (.lst vs) ∧ RpA K S vs xs := by
  obtain ⟨j, h1, h2⟩ := atI_nth e
  obtain ⟨b, vs, q1, q2, q3⟩ := h.get h2
  refine ⟨j, b, vs, h1, q1, ?_, q2, q3⟩
  unfold atI
  rw [List.length_map, h.length, h1]
  simp only [Option.bind_some, List.getElem?_map, q1]
  rfl
/-- x[k][j] -/
def dIx2 (i : Nat) (fk fj : En → R PD) : En → R PD := fun ρ => match ρ[i]? with
  | some (some (.ll xss)) => (fk ρ).bind fun k => match k with
    | .int k => (match atI xss k with
      | some xs => (fj ρ).bind fun j => match j with
        | .int j => (match atI xs j with
          | some d => .ok d
          | none => .no)
        | _ => .no
      | none => .no)
    | _ => .no
  | _ => .no
/-- x[k][j] = e -/
def sPut2 (i : Nat) (fk fj fe : En → R PD) : En → Fl := fun ρ => match ρ[i]? with
  | some (some (.ll xss)) => sE fe (fun d => sE fk fun k => match k with
    | .int k => (match atI xss k with
      | some xs => sE fj fun j ρ => (match j with
        | .int j => (match ixN xs.length j with
          | some j => .nx (ρ.set i (some (.ll (xss.set ((ixN xss.length k).getD 0) (xs.set j d)))))
          | none => .no)
        | _ => .no)
      | none => fun _ => .no)
    | _ => fun _ => .no) ρ
  | _ => .no
end
end DL

set_option Elab.async false
set_option linter.all false
set_option maxRecDepth 100000
set_option maxHeartbeats 4000000
set_option autoImplicit false
/-! the data layer 11: exceptions that are caught and kept -/
namespace DL
open PySem L2
/-- whether a class of the program's errors is, or is under, T -/
structure XAt (K : PySem.W.Frag) (mg : MG) (es : List Str) (T : Str) : Prop where
  nm : mg T = some (.ref (He.ga K T))
  ex : ∀ c ∈ es, mg c = some (.ref (He.ga K c)) ∧ PySem.W.exmOne K (.ref (He.ga K c)) (.ref (He.ga K T)) = some (subX c T)
def sTryK (es : List Str) (T : Str) (i j : Nat) (f : En → Fl) : En → Fl := fun ρ => match f ρ with
  | .ex c ρ' => if c ∈ es ∧ i < ρ'.length then (if subX c T = true then .nx (((ρ'.set i none).set j (some (.d (exD c)))).set i none) else .ex c ρ') else .no
  | r => r
section
variable {X : Cx} {W : WX} {f : En → Fl} {g : En → Fl} {es : List Str} {T n y : Str} {i j : Nat} {body suite : List Stmt} {b₀ : Stmt} {np py pn' pa pos pos' : Pos}
theorem sd_tryK (F : XAt X.K X.mg es T) (hs : X.stack = X.env :: X.outer) (hf : X.env.frame = some X.env.locals) (hex : X.ex = []) (hN : X.N.Nodup) (hi : X.N[i]? = some n) (hln : X.env.kindOf n = some .local) (hj : X.N[j]? = some y) (hlj : X.env.scope.names.lookup y = some .local)
    (hgl : Gl X T) (tk : Takes X W) (hB : ∀ (W : WX) (pn : List (Addr × Obj)) (xe : Value → Shared → Prop), Takes (X.tr pn xe) W → PassesOwn (model X.prog X.w) X.A X.env xe → PSs (X.tr pn xe) body (tS X.K X.mg W f))
    (hd : (n == ("__debug__" : Str)) = false := by decide) (hcd : (n == ("__classdict__" : Str)) = false := by decide) (hdT : (T == ("__debug__" : Str)) = false := by decide) (hv : Vis X.env.scope n := by exact Or.inl rfl)
    (hsw : swapsWith (.Name n pn') (some (.Name y py)) pa.line X.env = pure false := by rfl) (hw : swappedStores [.Name y py] (.Name n pn') X.env = pure none := by rfl) :
    PS X (.Try body [.ExceptHandler (some (.Name T np)) (some n) [.Assign [.Name y py] (.Name n pn') pa] pos'] [] [] pos) (tS X.K X.mg W (sTryK es T i j f)) := by
  refine PSimp (ps_try_keep (c := .ref (He.ga X.K T)) (i := i) hex hs hf hN hi hln ⟨hgl, hdT, .inl F.nm⟩ tk (tb := fun W => tS X.K X.mg W f) hB
    (fun a oe cls d pn hz hf => pss_one (ps_asg (X := X.suite a ((a, oe) :: pn)) (pe_var (X := X.suite a ((a, oe) :: pn)) hi hv hd hcd) (pg_name (X := X.suite a ((a, oe) :: pn)) hN hj (.inl hlj) (.inr hlj)) hsw hw))) ?_
  rintro D σ H ⟨G, ρ, S, r, q⟩
  refine ⟨G, ρ, S, r, ?_⟩
  unfold sTryK at q
  cases z : f ρ with
  | nx ρ' => rw [z] at q; exact q
  | rt d => rw [z] at q; exact q
  | rm d ρ' => rw [z] at q; exact q
  | rv x => rw [z] at q; exact q
  | bk ρ' => rw [z] at q; exact q
  | ct ρ' => rw [z] at q; exact q
  | no => rw [z] at q; exact q
  | ex c ρ' =>
    rw [z] at q
    dsimp only at q
    intro cls σ' S' H' hm s rel
    by_cases hc : c ∈ es ∧ i < ρ'.length
    · rw [if_pos hc] at q
      obtain ⟨f1, f2⟩ := F.ex c hc.1
      rw [f1] at hm
      cases hm
      refine ⟨_, f2, fun hb => ⟨rfl, fun a ha => ?_⟩, fun hb => ?_⟩
      · rw [if_pos hb] at q
        refine ⟨.ref a, List.getElem?_set_self (by rw [rel.len]; exact hc.2), fun _ => ?_⟩
        have e := Ext.known (o := ExK (.ref (He.ga X.K c)) a) rel.inn ha
        have r1 := ((rel.ext e).forget i (some (.ref a))).setD (.exc (K := X.K) (c := c) upd_same) j
        exact q _ _ _ (s.trans e.sub) (r1.forget i none)
      · rw [if_neg (by rw [hb]; exact Bool.false_ne_true)] at q
        exact q _ σ' S' H' f1 s rel
    · rw [if_neg hc] at q; exact q.elim
end
/-! isinstance(e, T) of a kept error -/
structure XIs (K : PySem.W.Frag) (es : List Str) (T : Str) (cv : Value) : Prop where
  ex : ∀ c ∈ es, ExcC K (He.ga K c) ∧ PySem.W.kitOne K (.ref (He.ga K c)) cv = some (subX c T)
theorem keyD_none {k : L2.Key} (h : KeyD k .none) : False := by cases k <;> exact h
def gIsE (es : List Str) (T : Str) : PD → R PD
  | .dict [(.none, .str c)] => if c ∈ es then .ok (.bool (subX c T)) else .no
  | _ => .no
theorem call_isK {X : Cx} : CallR X (.builtin "isinstance") (fun xs H Q => ∃ (a : Addr) (c : V) (cv : Value) (b : Bool) (D : Addr), xs = [.ref a, c] ∧ H a = some (ExK (.ref D) a) ∧ ExcC X.K D ∧ (∀ u, RelV c u → u = cv) ∧ PySem.W.kitOne X.K (.ref D) cv = some b ∧ Q (.bl b) H) := by
  intro pins s σ H xs us Q I r h
  obtain ⟨a, c, cv, b, D, rfl, ha, C, hcv, e, q⟩ := h
  cases r with
  | cons rx rr =>
    cases rr with
    | cons rt rr =>
      cases rr
      cases rx
      have ec := hcv _ rt
      subst ec
      obtain ⟨⟨oe, vs, hget, hz, hv⟩, _, _⟩ := I.hok a _ ha
      have J : PySem.W.InstAt s.heap a oe D none := by
        obtain ⟨oc, od, oda, osl⟩ := oe
        obtain ⟨h1, h2⟩ := hz
        dsimp only at h1 h2 hv
        subst h1 h2 hv
        exact ⟨hget, rfl, rfl, trivial⟩
      exact PySem.W.kia_one (PySem.W.handS_kitx_exc C.hg C.hk C.hs C.hd C.ha C.hn C.ht C.hm) I.kIn J e (fun z => nomatch z) fun tk => ⟨.bl b, H, I.kept (t' := tk) fun _ _ z => z, rfl, q⟩
theorem excC_ok {K : PySem.W.Frag} {D : Addr} (h : excCB K D = true) : ExcC K D := by
  unfold excCB at h
  simp only [Bool.and_eq_true, decide_eq_true_eq] at h
  obtain ⟨h1, h2, h3, h4, h5, h6, h7, h8⟩ := h
  exact ⟨h1, h2, h3, h4, h5, h6, h7, h8⟩
theorem xis_ok {K : PySem.W.Frag} {es : List Str} {T : Str} {cv : Value} (h : xisB K es T cv = true) : XIs K es T cv := ⟨fun c hc => by
  have := List.all_eq_true.mp h c hc
  simp only [Bool.and_eq_true, decide_eq_true_eq] at this
  exact ⟨excC_ok this.1, this.2⟩⟩
theorem xat_ok {K : PySem.W.Frag} {mg : MG} {es : List Str} {T : Str} (h : xatB K es T = true) (hT : mg T = some (.ref (He.ga K T))) (hc : ∀ c ∈ es, mg c = some (.ref (He.ga K c))) : XAt K mg es T := ⟨hT, fun c hm => by
  have := List.all_eq_true.mp h c hm
  exact ⟨hc c hm, by simpa using this⟩⟩
section
variable {X : Cx} {W : WX} {f : En → R PD} {es : List Str} {T : Str} {e : Expr} {p pt pos : Pos}
theorem isE_of {cv : Value} {c : V} (F : XIs X.K es T cv) (hc : ∀ u, RelV c u → u = cv) {te : TE} (ht : ∀ σ H Q, Q c H → te σ H Q) : ∀ σ H Q, tD X.K X.mg W (d1 (gIsE es T) f) σ H Q → (tD X.K X.mg W f) σ H fun x H1 => te σ H1 fun y H2 => (fun xs H Q => ∃ (a : Addr) (c : V) (cv : Value) (b : Bool) (D : Addr), xs = [V.ref a, c] ∧ H a = some (ExK (.ref D) a) ∧ ExcC X.K D ∧ (∀ u, RelV c u → u = cv) ∧ PySem.W.kitOne X.K (.ref D) cv = some b ∧ Q (V.bl b) H) [x, y] H2 Q := by
  rintro σ H Q ⟨G, ρ, S, rel, h⟩
  refine tG.mk rel (wG.imp ?_ (wG.bind (rp := Rp X.K) h))
  rintro v H1 ⟨S1, d, e1, ra, h1⟩
  refine ht _ _ _ ?_
  unfold gIsE at h1
  split at h1
  · rename_i c'
    cases ra with
    | exc hh =>
      split at h1
      · rename_i hm
        obtain ⟨f1, f2⟩ := F.ex _ hm
        exact ⟨_, c, cv, _, _, rfl, e1.inn _ _ hh, f1, hc, f2, h1 _ S1 H1 (Ext.refl e1.inn) (.bl _)⟩
      · exact h1.elim
    | dct hh hk =>
      cases hk with
      | cons hkd _ _ => exact (keyD_none hkd).elim
  · exact h1.elim
theorem pd_isE (F : XIs X.K es T (.ref (He.ga X.K T))) (hm : X.mg "isinstance" = none) (hT : X.mg T = some (.ref (He.ga X.K T))) (ha : PE X e (tD X.K X.mg W f)) (hg : Gl X "isinstance" := by rfl) (hgt : Gl X T := by rfl) (hdb : (T == ("__debug__" : Str)) = false := by decide)
    (he : starEach [e, .Name T pt] X.env = (false, eval e X.env) :: starEach [.Name T pt] X.env := by rfl) (he2 : starEach [.Name T pt] X.env = (false, eval (.Name T pt) X.env) :: starEach [] X.env := by rfl) (hpl : (backTo pos (starEach [.Name T pt] X.env)).any (·.1) = false := by rfl) :
    PE X (.Call (.Name "isinstance" p) [e, .Name T pt] [] pos) (tD X.K X.mg W (d1 (gIsE es T) f)) :=
  PEimp (pe_callB call_isK hg hm (by decide +kernel) (pa_cons ha (pa_cons (pe_glob (v := .ref (He.ga X.K T)) hgt hT rfl hdb) pa_nil he2) he) (by decide) (by decide) he hpl) fun σ H Q h => isE_of (c := .ref (He.ga X.K T)) (te := fun σ H Q => Q (.ref (He.ga X.K T)) H) F (fun u hu => hu) (fun _ _ _ q => q) σ H Q h
theorem pd_isV {B : String} (F : XIs X.K es T (.type B)) (hm : X.mg "isinstance" = none) (hmt : X.mg T = none) (hv : bootBuiltins T = some (.type B)) (ha : PE X e (tD X.K X.mg W f)) (hg : Gl X "isinstance" := by rfl) (hgt : Gl X T := by rfl) (hnn : T ≠ "__name__" := by decide) (hdb : (T == ("__debug__" : Str)) = false := by decide)
    (he : starEach [e, .Name T pt] X.env = (false, eval e X.env) :: starEach [.Name T pt] X.env := by rfl) (he2 : starEach [.Name T pt] X.env = (false, eval (.Name T pt) X.env) :: starEach [] X.env := by rfl) (hpl : (backTo pos (starEach [.Name T pt] X.env)).any (·.1) = false := by rfl) :
    PE X (.Call (.Name "isinstance" p) [e, .Name T pt] [] pos) (tD X.K X.mg W (d1 (gIsE es T) f)) :=
  PEimp (pe_callB call_isK hg hm (by decide +kernel) (pa_cons ha (pa_cons (pe_bltn (v := .ty B) hgt hmt hv rfl hnn hdb) pa_nil he2) he) (by decide) (by decide) he hpl) fun σ H Q h => isE_of (c := .ty B) (te := fun σ H Q => Q (.ty B) H) F (fun u hu => hu) (fun _ _ _ q => q) σ H Q h
end
end DL

set_option Elab.async false
set_option linter.all false
set_option maxRecDepth 100000
set_option maxHeartbeats 4000000
set_option autoImplicit false
/-! list(reversed(a list)) -/
namespace DXb
open PySem PySem.Spec PyProof.Rows RT
section
variable {prog : Program} {w : World} {A : Around} {E : Value → Shared → Prop} {s : Shared}
end
end DXb
namespace DL
open PySem PySem.Spec PyProof.Rows L2 DXb
section
variable {X : Cx}
end
end DL

set_option Elab.async false
set_option linter.all false
set_option maxRecDepth 100000
set_option maxHeartbeats 4000000
set_option autoImplicit false
/-! the data layer 12: dict displays, list.count, list.index, list(reversed(x)), x[::-1] -/
namespace DL
open PySem L2
section
variable {X : Cx} {W : WX} {f f1 f2 : En → R PD} {o e : Expr} {p p2 pk pos pos2 apos cpos : Pos} {j : Nat}
theorem upd_upd {H : Hp} {p : Addr} {o o' : HO} : upd (upd H p o) p o' = upd H p o' := by
  funext a
  by_cases h : a = p
  · subst h; rw [upd_same, upd_same]
  · rw [upd_ne h, upd_ne h, upd_ne h]
/-- a new dict is locked: it is known from then on -/
def tFrz (t : TE) : TE := fun σ H Q => t σ H fun v H1 => ∃ d kvs, v = .ref d ∧ H1 d = some (.dK kvs) ∧ ∀ od, Q (.ref d) (upd H1 d (.frz od (.dK kvs)))
theorem pe_frz {t : TE} (h : PE X e t) : PE X e (tFrz t) := by
  refine ⟨fun pins s σ H Q I hw => thn (h.run pins s σ H _ I hw) fun u s1 ⟨x, H1, I1, rx, d, kvs, ex, hd, q⟩ => ?_⟩
  subst ex
  obtain ⟨od, I2⟩ := I1.lock hd trivial
  exact ⟨.ref d, _, I2, rx, q od⟩
theorem pd_dict0 : PE X (.Dict [] [] pos) (tD X.K X.mg W (dC (.dict []))) := PEimp (pe_frz pe_dnewK) fun σ H Q ⟨G, ρ, S, r, h⟩ => fun p hp => ⟨p, [], rfl, upd_same, fun od => by
  rw [upd_upd]
  exact h (.ref p) _ _ (Ext.known r.inn hp) (.dct upd_same .nil)⟩
/-! methods of lists -/
/-- o.m(e): o is looked at first -/
def dM (k : PD → Bool) (g : PD → PD → R PD) (f1 f2 : En → R PD) : En → R PD := fun ρ => (f1 ρ).bind fun a => if k a = true then (f2 ρ).bind (g a) else .no
def isL : PD → Bool
  | .list _ => true
  | _ => false
def isS : PD → Bool
  | .str _ => true
  | _ => false
def fstEq (d : PD) : List PD → Option Nat
  | [] => none
  | z :: ds => if PyData.eqv z d = true then some 0 else (fstEq d ds).map (· + 1)
def gm_index : PD → PD → R PD
  | .list ds, d => if SeqAt.shaped (.list ds) = true ∧ SeqAt.shaped d = true then (match fstEq d ds with
    | some j => .ok (.int (j : Nat))
    | none => .no) else .no
  | _, _ => .no
/-! turned about -/
end
/-! max, min of a list of ints -/
section
open PyProof.Rows
variable {prog : Program} {w : World} {A : Around} {E : Value → Shared → Prop} {s : Shared} {l : Addr} {xs : Array (Int × Tok)} {its : List Value} {ns : List Int} {Q : Value → Shared → Prop}
end
end DL

set_option Elab.async false
set_option linter.all false
set_option maxRecDepth 100000
set_option maxHeartbeats 4000000
set_option autoImplicit false
/-! the data layer 13: dicts of one's own, dicts that are known; sorted -/
namespace DL
open PySem PySem.Spec PyProof.Rows L2
/-! ### dicts as lists of keys and data -/
abbrev Kv := List (L2.Key × PD)
def kGet (m : Kv) (k : L2.Key) : Option PD := (m.find? fun kv => decide (kv.1 = k)).map (·.2)
def kPut (m : Kv) (k : L2.Key) (d : PD) : Kv := if (m.any fun kv => decide (kv.1 = k)) = true then m.map (fun kv => if kv.1 = k then (kv.1, d) else kv) else m ++ [(k, d)]
def kDrop (m : Kv) (k : L2.Key) : Kv := m.filter fun kv => decide (kv.1 ≠ k)
def keyOf : PD → Option L2.Key
  | .int i => some (.inl i)
  | .str x => some (.inr x)
  | _ => none
def keyD : L2.Key → PD
  | .inl i => .int i
  | .inr x => .str x
def kvD (m : Kv) : List (PD × PD) := m.map fun p => (keyD p.1, p.2)
def kvOf : List (PD × PD) → Option Kv
  | [] => some []
  | (k, d) :: r => (keyOf k).bind fun k => (kvOf r).map ((k, d) :: ·)
theorem keyOf_keyD (k : L2.Key) : keyOf (keyD k) = some k := by cases k <;> rfl
theorem kvOf_kvD : ∀ m : Kv, kvOf (kvD m) = some m
  | [] => rfl
  | (k, d) :: m => by
    show (keyOf (keyD k)).bind _ = _
    rw [keyOf_keyD, Option.bind_some]
    show (kvOf (kvD m)).map _ = _
    rw [kvOf_kvD m]; rfl
section
variable {K : PySem.W.Frag} {S S' H H' : Hp}
theorem KeyD.eq {k : L2.Key} {d : PD} (h : KeyD k d) : d = keyD k := by
  cases k <;> cases d <;> first | (exact h.elim) | (have e := h; subst e; rfl)
theorem KeyD.of (k : L2.Key) : KeyD k (keyD k) := by cases k <;> exact rfl
theorem RpK.kv : ∀ {l : List (L2.Key × V)} {ds : List (PD × PD)}, RpK K S l ds → ∃ m : Kv, kvRel K S l m ∧ ds = kvD m
  | _, _, .nil => ⟨[], trivial, rfl⟩
  | _, _, .cons hk hr h => by
    obtain ⟨m, h1, h2⟩ := RpK.kv h
    exact ⟨(_, _) :: m, ⟨rfl, hr, h1⟩, by rw [h2, hk.eq]; rfl⟩
theorem kvRel.rp : ∀ {l : List (L2.Key × V)} {m : Kv}, kvRel K S l m → RpK K S l (kvD m)
  | [], [], _ => .nil
  | (a, v) :: r, (b, d) :: q, ⟨h1, h2, h3⟩ => by
    subst h1
    exact .cons (KeyD.of _) h2 (kvRel.rp h3)
  | [], _ :: _, h => h.elim
  | _ :: _, [], h => h.elim
theorem kvRel.length : ∀ {l : List (L2.Key × V)} {m : Kv}, kvRel K S l m → l.length = m.length
  | [], [], _ => rfl
  | _ :: r, _ :: q, ⟨_, _, h⟩ => by simp [kvRel.length h]
  | [], _ :: _, h => h.elim
  | _ :: _, [], h => h.elim
theorem kvRel.get {k : L2.Key} : ∀ {l : List (L2.Key × V)} {m : Kv} {d : PD}, kvRel K S l m → kGet m k = some d → ∃ v, valV l k = some v ∧ Rp K S v d
  | [], [], _, _, h => by cases h
  | (a, v) :: r, (b, e) :: q, d, ⟨h1, h2, h3⟩, h => by
    subst h1
    by_cases c : a = k
    · unfold kGet at h
      rw [List.find?_cons_of_pos (by simpa using c)] at h
      cases h
      exact ⟨v, valV_pos c, h2⟩
    · unfold kGet at h
      rw [List.find?_cons_of_neg (by simpa using c)] at h
      obtain ⟨u, e1, e2⟩ := kvRel.get h3 h
      exact ⟨u, by rw [valV_neg c]; exact e1, e2⟩
  | [], _ :: _, _, h, _ => h.elim
  | _ :: _, [], _, h, _ => h.elim
theorem kvRel.none {k : L2.Key} : ∀ {l : List (L2.Key × V)} {m : Kv}, kvRel K S l m → kGet m k = Option.none → valV l k = Option.none
  | [], [], _, _ => rfl
  | (a, v) :: r, (b, e) :: q, ⟨h1, h2, h3⟩, h => by
    subst h1
    by_cases c : a = k
    · unfold kGet at h
      rw [List.find?_cons_of_pos (by simpa using c)] at h
      cases h
    · unfold kGet at h
      rw [List.find?_cons_of_neg (by simpa using c)] at h
      rw [valV_neg c]; exact kvRel.none h3 h
  | [], _ :: _, h, _ => h.elim
  | _ :: _, [], h, _ => h.elim
theorem kvRel.is {k : L2.Key} {l : List (L2.Key × V)} {m : Kv} (h : kvRel K S l m) : (valV l k).isSome = (kGet m k).isSome := by
  cases e : kGet m k with
  | none => rw [h.none e]; rfl
  | some d => obtain ⟨v, e1, _⟩ := h.get e; rw [e1]; rfl
theorem kvRel.any {k : L2.Key} : ∀ {l : List (L2.Key × V)} {m : Kv}, kvRel K S l m → (l.any fun kv => decide (kv.1 = k)) = (m.any fun kv => decide (kv.1 = k))
  | [], [], _ => rfl
  | (a, v) :: r, (b, e) :: q, ⟨h1, _, h3⟩ => by rw [List.any_cons, List.any_cons, kvRel.any h3, h1]
  | [], _ :: _, h => h.elim
  | _ :: _, [], h => h.elim
theorem kvRel.app : ∀ {l l' : List (L2.Key × V)} {m m' : Kv}, kvRel K S l m → kvRel K S l' m' → kvRel K S (l ++ l') (m ++ m')
  | [], _, [], _, _, h => h
  | (a, v) :: r, _, (b, e) :: q, _, ⟨h1, h2, h3⟩, h => ⟨h1, h2, kvRel.app h3 h⟩
  | [], _, _ :: _, _, h, _ => h.elim
  | _ :: _, _, [], _, h, _ => h.elim
theorem kvRel.upd {k : L2.Key} {v : V} {d : PD} (r : Rp K S v d) : ∀ {l : List (L2.Key × V)} {m : Kv}, kvRel K S l m → kvRel K S (l.map fun kv => if kv.1 = k then (kv.1, v) else kv) (m.map fun kv => if kv.1 = k then (kv.1, d) else kv)
  | [], [], _ => trivial
  | (a, u) :: l, (b, e) :: q, ⟨h1, h2, h3⟩ => by
    subst h1
    rw [List.map_cons, List.map_cons]
    by_cases c : a = k
    · rw [if_pos c, if_pos c]; exact ⟨rfl, r, kvRel.upd r h3⟩
    · rw [if_neg c, if_neg c]; exact ⟨rfl, h2, kvRel.upd r h3⟩
  | [], _ :: _, h => h.elim
  | _ :: _, [], h => h.elim
theorem kvRel.put {k : L2.Key} {v : V} {d : PD} (r : Rp K S v d) {l : List (L2.Key × V)} {m : Kv} (h : kvRel K S l m) : kvRel K S (putK l k v) (kPut m k d) := by
  unfold putK kPut
  rw [kvRel.any h]
  split
  · exact h.upd r
  · exact h.app ⟨rfl, r, trivial⟩
theorem kvRel.drop {k : L2.Key} : ∀ {l : List (L2.Key × V)} {m : Kv}, kvRel K S l m → kvRel K S (dropK l k) (kDrop m k)
  | [], [], _ => trivial
  | (a, u) :: l, (b, e) :: q, ⟨h1, h2, h3⟩ => by
    subst h1
    unfold dropK kDrop
    by_cases c : a = k
    · rw [List.filter_cons_of_neg (by simpa using c), List.filter_cons_of_neg (by simpa using c)]; exact kvRel.drop h3
    · rw [List.filter_cons_of_pos (by simpa using c), List.filter_cons_of_pos (by simpa using c)]; exact ⟨rfl, h2, kvRel.drop h3⟩
  | [], _ :: _, h => h.elim
  | _ :: _, [], h => h.elim
end
/-! ### the slots -/
/-- the dict at a slot: one's own, or a known one -/
def kAt : Option (Option SV) → Option Kv
  | some (some (.k m)) => some m
  | some (some (.d (.dict ds))) => kvOf ds
  | _ => none
section
variable {K : PySem.W.Frag} {G : F} {S H : Hp} {σ : L2.St} {ρ : En}
end
/-! ### rules -/
def kGetR (m : Kv) (d : PD) : R PD := match keyOf d with
  | some k => (match kGet m k with
    | some d => .ok d
    | none => .no)
  | none => .no
def kInR (neg : Bool) (m : Kv) (d : PD) : R PD := match keyOf d with
  | some k => .ok (.bool ((kGet m k).isSome != neg))
  | none => .no
def dGetK (i : Nat) (f : En → R PD) : En → R PD := fun ρ => match kAt ρ[i]? with
  | some m => (f ρ).bind (kGetR m)
  | none => .no
def dInK (neg : Bool) (i : Nat) (f : En → R PD) : En → R PD := fun ρ => match kAt ρ[i]? with
  | some m => (f ρ).bind (kInR neg m)
  | none => .no
def dLenK (i : Nat) : En → R PD := fun ρ => match kAt ρ[i]? with
  | some m => .ok (.int m.length)
  | none => .no
def sSetK (i : Nat) : En → Fl := fun ρ => .nx (ρ.set i (some (.k [])))
def sPutK (i : Nat) (fk fe : En → R PD) : En → Fl := fun ρ => match ρ[i]? with
  | some (some (.k m)) => sE fe (fun d => sE fk fun k ρ => match keyOf k with
    | some k => if m.length < 16777216 then .nx (ρ.set i (some (.k (kPut m k d)))) else .no
    | none => .no) ρ
  | _ => .no
/-- x.pop(k), and what is done with it -/
def sPopK (i : Nat) (fk : En → R PD) (g : PD → En → Fl) : En → Fl := fun ρ => match ρ[i]? with
  | some (some (.k m)) => sE fk (fun k ρ => match keyOf k with
    | some k => (match kGet m k with
      | some d => g d (ρ.set i (some (.k (kDrop m k))))
      | none => .no)
    | none => .no) ρ
  | _ => .no
def sFrzK (i : Nat) (g : En → Fl) : En → Fl := fun ρ => match ρ[i]? with
  | some (some (.k m)) => g (ρ.set i (some (.d (.dict (kvD m)))))
  | _ => g ρ
section
variable {X : Cx} {W : WX} {f f1 f2 fk fe : En → R PD} {e ek : Expr} {pos pos' p : Pos} {x : Str} {g : En → Fl} {sts : List Stmt}
/-- x = dict(e) -/
def sSetKD (i : Nat) (f : En → R PD) : En → Fl := sE f fun d ρ => match d with
  | .dict ds => (match kvOf ds with
    | some m => .nx (ρ.set i (some (.k m)))
    | none => .no)
  | _ => .no
theorem Rp.dict {K : PySem.W.Frag} {S : Hp} {v : V} {ds : List (PD × PD)} {m : Kv} (h : Rp K S v (.dict ds)) (hk : kvOf ds = some m) : ∃ a o vs, v = .ref a ∧ S a = some (.frz o (.dK vs)) ∧ kvRel K S vs m := by
  cases h with
  | exc _ => cases hk
  | dct hs hr =>
    obtain ⟨m', q1, q2⟩ := hr.kv
    rw [q2, kvOf_kvD] at hk
    cases hk
    exact ⟨_, _, _, rfl, hs, q1⟩
def sPopE (i : Nat) (fk : En → R PD) : En → Fl := sPopK i fk fun _ ρ => .nx ρ
/-! known dicts: data -/
/-- its keys -/
def iK (f : En → R PD) : En → R (List PD) := fun ρ => (f ρ).bind fun d => match d with
  | .dict ds => (match kvOf ds with
    | some m => .ok (m.map fun kv => keyD kv.1)
    | none => .no)
  | _ => .no
/-! dict(pairs), dict(d): new, known -/
def pairsOf : List PD → Option Kv
  | [] => some []
  | .tuple [k, d] :: r => (keyOf k).bind fun k => (pairsOf r).map ((k, d) :: ·)
  | _ :: _ => none
def gDictP : List PD → R PD
  | [.list ds] => (match pairsOf ds with
    | some m => .ok (.dict (kvD (m.foldl (fun acc kv => kPut acc kv.1 kv.2) [])))
    | none => .no)
  | _ => .no
end
/-! ### sorted -/
def insI (n : Int) : List Int → List Int
  | [] => [n]
  | m :: l => if n ≤ m then n :: m :: l else m :: insI n l
def srtI : List Int → List Int
  | [] => []
  | n :: l => insI n (srtI l)
theorem insI_perm (n : Int) : ∀ l : List Int, (insI n l).Perm (n :: l)
  | [] => .refl _
  | m :: l => by
    unfold insI
    split
    · exact .refl _
    · exact ((insI_perm n l).cons m).trans (.swap n m l)
theorem srtI_perm : ∀ l : List Int, (srtI l).Perm l
  | [] => .refl _
  | n :: l => (insI_perm n (srtI l)).trans ((srtI_perm l).cons n)
theorem insI_sorted (n : Int) : ∀ {l : List Int}, l.Pairwise (· ≤ ·) → (insI n l).Pairwise (· ≤ ·)
  | [], _ => by simp [insI]
  | m :: l, h => by
    unfold insI
    obtain ⟨h1, h2⟩ := List.pairwise_cons.mp h
    split
    · rename_i c
      refine List.pairwise_cons.mpr ⟨fun y hy => ?_, h⟩
      rcases List.mem_cons.mp hy with rfl | hy
      · exact c
      · exact Int.le_trans c (h1 y hy)
    · rename_i c
      refine List.pairwise_cons.mpr ⟨fun y hy => ?_, insI_sorted n h2⟩
      rcases List.mem_cons.mp ((insI_perm n l).mem_iff.mp hy) with rfl | hy
      · omega
      · exact h1 y hy
theorem srtI_sorted : ∀ l : List Int, (srtI l).Pairwise (· ≤ ·)
  | [] => .nil
  | n :: l => insI_sorted n (srtI_sorted l)
theorem sorted_uniq : ∀ {l m : List Int}, l.Pairwise (· ≤ ·) → m.Pairwise (· ≤ ·) → l.Perm m → l = m
  | [], m, _, _, p => by rw [p.nil_eq]
  | a :: l, [], _, _, p => by cases p.symm.nil_eq
  | a :: l, b :: m, h1, h2, p => by
    obtain ⟨a1, a2⟩ := List.pairwise_cons.mp h1
    obtain ⟨b1, b2⟩ := List.pairwise_cons.mp h2
    have e1 : a ≤ b := by
      rcases List.mem_cons.mp (p.mem_iff.mpr (List.mem_cons_self (a := b) (l := m))) with z | z
      · omega
      · exact a1 _ z
    have e2 : b ≤ a := by
      rcases List.mem_cons.mp (p.mem_iff.mp (List.mem_cons_self (a := a) (l := l))) with z | z
      · omega
      · exact b1 _ z
    have e : a = b := by omega
    subst e
    rw [sorted_uniq a2 b2 (List.perm_cons a |>.mp p)]
theorem srtI_eq {l m : List Int} (h1 : m.Pairwise (· ≤ ·)) (h2 : m.Perm l) : m = srtI l := sorted_uniq h1 (srtI_sorted l) (h2.trans (srtI_perm l).symm)
def intKeys : Kv → Option (List Int)
  | [] => some []
  | (.inl i, _) :: r => (intKeys r).map (i :: ·)
  | _ :: _ => none
section
variable {X : Cx} {W : WX} {f : En → R PD} {e : Expr} {pos p : Pos} {x : Str}
/-- sorted of a list of ints -/
def gSorted : List PD → R PD
  | [.list ds] => (match intsOf ds with
    | some ns => .ok (.list ((srtI ns).map .int))
    | none => .no)
  | _ => .no
end
end DL

set_option Elab.async false
set_option linter.all false
set_option maxRecDepth 100000
set_option maxHeartbeats 4000000
set_option autoImplicit false
/-! the data layer 14: fields of objects -/
namespace DL
open PySem L2
def fPut (f : Str) (x : FV) : Fs → Fs
  | [] => [(f, x)]
  | (g, y) :: r => if g = f then (g, x) :: r else (g, y) :: fPut f x r
def fGet (f : Str) : Fs → Option FV
  | [] => none
  | (g, y) :: r => if g = f then some y else fGet f r
/-- the object at a slot -/
def oGet : Option (Option SV) → Option (Str × Fs)
  | some (some (.o c fs)) => some (c, fs)
  | some (some (.me c fs)) => some (c, fs)
  | some (some (.ro c fs)) => some (c, fs)
  | _ => none
/-- .. that is one's own, or the running method's -/
def oOwn : Option (Option SV) → Option (Str × Fs)
  | some (some (.o c fs)) => some (c, fs)
  | some (some (.me c fs)) => some (c, fs)
  | _ => none
def oPut (ρ : En) (i : Nat) (fs : Fs) : En := match ρ[i]? with
  | some (some (.o c _)) => ρ.set i (some (.o c fs))
  | some (some (.me c _)) => ρ.set i (some (.me c fs))
  | _ => ρ
section
variable {K : PySem.W.Frag} {G : F} {S S' H H' : Hp} {σ : L2.St} {ρ : En}
theorem lookup_cons {α : Type} {f g : Str} {v : α} {r : List (Str × α)} : List.lookup f ((g, v) :: r) = if g = f then some v else List.lookup f r := by
  by_cases h : g = f
  · subst h
    rw [if_pos rfl]
    simp [List.lookup]
  · rw [if_neg h]
    have : (f == g) = false := by simpa using fun e => h e.symm
    simp [List.lookup, this]
theorem FldR.len : ∀ {vs : List (Str × V)} {fs : Fs} {bs : List Addr}, FldR K S H vs fs bs → vs.length = fs.length
  | [], [], _, _ => rfl
  | (n, v) :: vs, (m, x) :: fs, bs, ⟨_, b1, b2, _, _, h⟩ => by simp [FldR.len h]
  | [], _ :: _, _, h => h.elim
  | _ :: _, [], _, h => h.elim
theorem FldR.none {f : Str} : ∀ {vs : List (Str × V)} {fs : Fs} {bs : List Addr}, FldR K S H vs fs bs → fGet f fs = Option.none → vs.lookup f = Option.none
  | [], [], _, _, _ => rfl
  | (n, v) :: vs, (m, x) :: fs, bs, ⟨h1, b1, b2, _, _, h⟩, e => by
    subst h1
    unfold fGet at e
    rw [lookup_cons]
    by_cases c : n = f
    · rw [if_pos c] at e; cases e
    · rw [if_neg c] at e ⊢; exact FldR.none h e
  | [], _ :: _, _, h, _ => h.elim
  | _ :: _, [], _, h, _ => h.elim
/-- a field: its value, and what becomes of the fields where it alone changes -/
theorem FldR.get {f : Str} : ∀ {vs : List (Str × V)} {fs : Fs} {bs : List Addr} {x : FV}, FldR K S H vs fs bs → fGet f fs = some x → ∃ v b1, vs.lookup f = some v ∧ FldV K S H v b1 x ∧ (∀ b ∈ b1, b ∈ bs) ∧
    ∀ (S' H' : Hp) (x' : FV), bs.Nodup → Same S S' → (∀ b o, b ∈ bs → b ∉ b1 → H b = some o → H' b = some o) → (FldV K S' H' v b1 x' → FldR K S' H' vs (fPut f x' fs) bs) ∧ (∀ v', b1 = [] → FldV K S' H' v' [] x' → FldR K S' H' (putF f v' vs) (fPut f x' fs) bs)
  | [], [], _, _, _, e => by cases e
  | (n, v) :: vs, (m, y) :: fs, bs, x, ⟨h1, b1, b2, h2, h3, h⟩, e => by
    subst h1
    unfold fGet at e
    rw [lookup_cons]
    by_cases c : n = f
    · rw [if_pos c] at e
      cases e
      rw [if_pos c]
      refine ⟨v, b1, rfl, h3, fun b hb => by rw [h2]; exact List.mem_append_left _ hb, fun S' H' x' nd s k => ⟨fun h3' => ?_, fun v' hb h3' => ?_⟩⟩
      · unfold fPut
        rw [if_pos c]
        refine ⟨rfl, b1, b2, h2, h3', FldR.keep s (fun a ha o q => k a o (by rw [h2]; exact List.mem_append_right _ ha) (fun z => ?_) q) h⟩
        rw [h2] at nd
        exact (List.nodup_append.mp nd).2.2 a z a ha rfl
      · unfold fPut putF
        rw [if_pos c, if_pos c]
        subst hb
        exact ⟨rfl, [], b2, h2, h3', FldR.keep s (fun a ha o q => k a o (by rw [h2]; exact List.mem_append_right _ ha) (fun z => by cases z) q) h⟩
    · rw [if_neg c] at e
      rw [if_neg c]
      obtain ⟨u, c1, q1, q2, q3, q4⟩ := FldR.get h e
      refine ⟨u, c1, q1, q2, fun b hb => by rw [h2]; exact List.mem_append_right _ (q3 b hb), fun S' H' x' nd s k => ?_⟩
      have nd' := nd
      rw [h2] at nd'
      obtain ⟨n1, n2, n3⟩ := List.nodup_append.mp nd'
      obtain ⟨z1, z2⟩ := q4 S' H' x' n2 s (fun b o hb hn q => k b o (by rw [h2]; exact List.mem_append_right _ hb) hn q)
      have hk : FldV K S' H' v b1 y := FldV.keep s (fun a ha o q => k a o (by rw [h2]; exact List.mem_append_left _ ha) (fun z => n3 a ha a (q3 a z) rfl) q) h3
      refine ⟨fun h3' => ?_, fun v' hb h3' => ?_⟩
      · unfold fPut
        rw [if_neg c]
        exact ⟨rfl, b1, b2, h2, hk, z1 h3'⟩
      · unfold fPut putF
        rw [if_neg c, if_neg c]
        exact ⟨rfl, b1, b2, h2, hk, z2 v' hb h3'⟩
  | [], _ :: _, _, _, h, _ => h.elim
  | _ :: _, [], _, _, h, _ => h.elim
/-- a new field -/
theorem FldR.new {f : Str} {v : V} {b1 : List Addr} {x : FV} (s : Same S S') : ∀ {vs : List (Str × V)} {fs : Fs} {bs : List Addr}, FldR K S H vs fs bs → fGet f fs = Option.none → (∀ b ∈ bs, ∀ o, H b = some o → H' b = some o) → FldV K S' H' v b1 x → FldR K S' H' (putF f v vs) (fPut f x fs) (bs ++ b1)
  | [], [], bs, h, _, _, hx => by
    have h' : bs = [] := h
    subst h'
    exact ⟨rfl, b1, [], by simp, hx, rfl⟩
  | (n, u) :: vs, (m, y) :: fs, bs, ⟨h1, c1, c2, h2, h3, h⟩, e, k, hx => by
    subst h1
    unfold fGet at e
    by_cases c : n = f
    · rw [if_pos c] at e; cases e
    · rw [if_neg c] at e
      unfold fPut putF
      rw [if_neg c, if_neg c]
      exact ⟨rfl, c1, c2 ++ b1, by rw [h2, List.append_assoc], FldV.keep s (fun a ha => k a (by rw [h2]; exact List.mem_append_left _ ha)) h3, FldR.new s h e (fun a ha => k a (by rw [h2]; exact List.mem_append_right _ ha)) hx⟩
  | [], _ :: _, _, h, _, _, _ => h.elim
  | _ :: _, [], _, h, _, _, _ => h.elim
theorem FldR.there : ∀ {vs : List (Str × V)} {fs : Fs} {bs : List Addr}, FldR K S H vs fs bs → ∀ b ∈ bs, H b ≠ Option.none
  | [], [], bs, h, b, hb => by
    have h' : bs = [] := h
    subst h'
    cases hb
  | (n, v) :: vs, (m, x) :: fs, bs, ⟨_, b1, b2, h2, h3, h⟩, b, hb => by
    rw [h2] at hb
    rcases List.mem_append.mp hb with hb | hb
    · cases x with
      | d x => rw [h3.1] at hb; cases hb
      | l x => obtain ⟨c, us, _, e, q, _⟩ := h3; rw [e, List.mem_singleton] at hb; subst hb; exact ne_some q
      | k x => obtain ⟨c, us, _, e, q, _⟩ := h3; rw [e, List.mem_singleton] at hb; subst hb; exact ne_some q
    · exact FldR.there h b hb
  | [], _ :: _, _, h, _, _ => h.elim
  | _ :: _, [], _, h, _, _ => h.elim
/-- an object of one's own (or the running method's) changes within its footprint -/
theorem Rel.setO (r : Rel K G S σ ρ H) {i : Nat} {c : Str} {fs : Fs} (hi : oOwn ρ[i]? = some (c, fs)) : ∃ a fp, σ[i]? = some (some (.ref a)) ∧ OwnI K S H a fp c fs ∧ (∀ b ∈ fp, S b = none ∧ H b ≠ none) ∧
    ∀ (S' H' : Hp) (fs' : Fs), (∀ b o, b ∉ fp → H b = some o → H' b = some o) → Same S S' → Same S' H' → (∀ b o, S' b = some o → S b = some o ∨ H b = none) → (∀ b ∈ fp, H' b ≠ none) → OwnI K S' H' a fp c fs' → Rel K G S' σ (oPut ρ i fs') H' := by
  obtain ⟨φ, r⟩ := r
  unfold oOwn at hi
  split at hi
  · rename_i c' fs0 e
    cases hi
    obtain ⟨v, h1, a, rfl, h2⟩ := r.slot i _ e
    refine ⟨a, φ i, h1, h2, fun b hb => ⟨(r.fr i b hb).1, (r.fr i b hb).2.2⟩, fun S' H' fs' k s inn new there own => ?_⟩
    have z := r.set (i := i) (x := .o c fs') (v := .ref a) (fp := φ i) (S' := S') (H' := H') k s inn (fun b o q => by
        rcases new b o q with w | w
        · exact .inl w
        · exact .inr (.inl ⟨w, fun hm => (r.fr i b hm).2.2 w⟩)) there (fun b hb => ⟨by
          cases q : S' b with
          | none => rfl
          | some o =>
            rcases new b o q with w | w
            · rw [(r.fr i b hb).1] at w; cases w
            · exact absurd w (r.fr i b hb).2.2, there b hb, .inl hb⟩) (fun b hb hP => absurd hP (r.nop e rfl b hb)) ⟨a, rfl, own⟩
    rw [set_self h1] at z
    unfold oPut
    rw [e]
    exact ⟨_, z⟩
  · rename_i c' fs0 e
    cases hi
    obtain ⟨v, h1, rfl, h2⟩ := r.slot i _ e
    refine ⟨_, φ i, h1, h2, fun b hb => ⟨(r.fr i b hb).1, (r.fr i b hb).2.2⟩, fun S' H' fs' k s inn new there own => ?_⟩
    have z := r.set (i := i) (x := .me c fs') (v := .ref G.a) (fp := φ i) (S' := S') (H' := H') k s inn (fun b o q => by
        rcases new b o q with w | w
        · exact .inl w
        · exact .inr (.inl ⟨w, fun hm => (r.fr i b hm).2.2 w⟩)) there (fun b hb => ⟨by
          cases q : S' b with
          | none => rfl
          | some o =>
            rcases new b o q with w | w
            · rw [(r.fr i b hb).1] at w; cases w
            · exact absurd w (r.fr i b hb).2.2, there b hb, .inl hb⟩) (fun b hb _ => ⟨(List.getElem?_eq_some_iff.mp e).1, rfl⟩) ⟨rfl, own⟩
    rw [set_self h1] at z
    unfold oPut
    rw [e]
    exact ⟨_, z⟩
  · cases hi
end
/-! ### class facts -/
structure ClsF (K : PySem.W.Frag) (c : Str) (fl : List Str) : Prop where
  cls : Cls K (He.ga K c)
  no : ∀ f ∈ fl, NoAttr K (He.ga K c) f
/-! ### reading fields -/
def dFld (c : Str) (i : Nat) (f : Str) : En → R PD := fun ρ => match oGet ρ[i]? with
  | some (c', fs) => if c' = c then (match fGet f fs with
    | some (.d x) => .ok x
    | _ => .no) else .no
  | none => .no
def fkAt (c : Str) (f : Str) : Option (Str × Fs) → Option Kv
  | some (c', fs) => if c' = c then (match fGet f fs with
    | some (.k m) => some m
    | _ => none) else none
  | none => none
def dFldGet (c : Str) (i : Nat) (f : Str) (fk : En → R PD) : En → R PD := fun ρ => match fkAt c f (oGet ρ[i]?) with
  | some m => (fk ρ).bind (kGetR m)
  | none => .no
def dFldIn (c : Str) (neg : Bool) (i : Nat) (f : Str) (fk : En → R PD) : En → R PD := fun ρ => match fkAt c f (oGet ρ[i]?) with
  | some m => (fk ρ).bind (kInR neg m)
  | none => .no
def dFldSort (c : Str) (i : Nat) (f : Str) : En → R PD := fun ρ => match fkAt c f (oGet ρ[i]?) with
  | some m => (match intKeys m with
    | some ns => .ok (.list ((srtI ns).map .int))
    | none => .no)
  | none => .no
section
variable {K : PySem.W.Frag} {G : F} {S H : Hp} {σ : L2.St} {ρ : En} {c f : Str} {i : Nat} {fl : List Str}
end
section
variable {X : Cx} {W : WX} {fk fe : En → R PD} {e ek : Expr} {pos pos' p pf : Pos} {x c f : Str} {fl : List Str} {i : Nat}
end
/-! ### storing -/
/-- o.f = e: data -/
def sFld (c : Str) (i : Nat) (f : Str) (fe : En → R PD) : En → Fl := sE fe fun d ρ => match oOwn ρ[i]? with
  | some (c', fs) => if c' = c ∧ fs.length < 1000 then (match fGet f fs with
    | some (.d _) => .nx (oPut ρ i (fPut f (.d d) fs))
    | none => .nx (oPut ρ i (fPut f (.d d) fs))
    | _ => .no) else .no
  | none => .no
/-- o.f = {}, o.f = [], where o is new -/
def sFldK (c : Str) (i : Nat) (f : Str) (x : FV) : En → Fl := fun ρ => match oOwn ρ[i]? with
  | some (c', fs) => if c' = c ∧ fs.length < 1000 then (match fGet f fs with
    | none => .nx (oPut ρ i (fPut f x fs))
    | _ => .no) else .no
  | _ => .no
def fOwn (c : Str) (f : Str) : Option (Str × Fs) → Option (FV × Fs)
  | some (c', fs) => if c' = c then (fGet f fs).map fun x => (x, fs) else none
  | none => none
def sFldPut (c : Str) (i : Nat) (f : Str) (fk fe : En → R PD) : En → Fl := fun ρ => match fOwn c f (oOwn ρ[i]?) with
  | some (.k m, fs) => sE fe (fun d => sE fk fun k ρ => match keyOf k with
    | some k => if m.length < 16777216 then .nx (oPut ρ i (fPut f (.k (kPut m k d)) fs)) else .no
    | none => .no) ρ
  | _ => .no
def sFldPop (c : Str) (i : Nat) (f : Str) (fk : En → R PD) : En → Fl := fun ρ => match fOwn c f (oOwn ρ[i]?) with
  | some (.k m, fs) => sE fk (fun k ρ => match keyOf k with
    | some k => if (kGet m k).isSome = true then .nx (oPut ρ i (fPut f (.k (kDrop m k)) fs)) else .no
    | none => .no) ρ
  | _ => .no
def sFldApp (c : Str) (i : Nat) (f : Str) (fe : En → R PD) : En → Fl := fun ρ => match fOwn c f (oOwn ρ[i]?) with
  | some (.l xs, fs) => sE fe (fun d ρ => if xs.length < 16777216 then .nx (oPut ρ i (fPut f (.l (xs ++ [d])) fs)) else .no) ρ
  | _ => .no
section
variable {K : PySem.W.Frag} {S S' H H' : Hp} {a : Addr} {fp : List Addr} {c : Str} {fs : Fs}
/-- a data field is stored -/
theorem OwnI.setD {f : Str} {v : V} {d : PD} (h : OwnI K S H a fp c fs) (r : Rp K S v d) (hg : (∃ x, fGet f fs = some (.d x)) ∨ fGet f fs = none) : ∃ dx vs, H a = some (.ins (He.ga K c) dx vs) ∧ OwnI K S (upd H a (.ins (He.ga K c) dx (putF f v vs))) a fp c (fPut f (.d d) fs) := by
  obtain ⟨dx, vs, bs, h1, h2, h3, h4, h5⟩ := h
  have nd := h2
  rw [h1] at nd
  obtain ⟨n1, n2⟩ := List.nodup_cons.mp nd
  obtain ⟨n3, n4⟩ := List.nodup_cons.mp n2
  have ne : ∀ b ∈ bs, b ≠ a := fun b hb e => n1 (by rw [← e]; exact .tail _ hb)
  have nx : dx ≠ a := fun e => n1 (by rw [← e]; exact .head _)
  refine ⟨dx, vs, h3, dx, _, bs, h1, h2, upd_same, by rw [upd_ne nx]; exact h4, ?_⟩
  rcases hg with ⟨x, hg⟩ | hg
  · obtain ⟨u, b1, q1, q2, q3, q4⟩ := h5.get hg
    obtain ⟨rfl, q2⟩ := q2
    exact (q4 S (upd H a (.ins (He.ga K c) dx (putF f v vs))) (.d d) n4 (Same.refl _) (fun b o hb _ q => by rw [upd_ne (ne b hb)]; exact q)).2 v rfl ⟨rfl, r⟩
  · have z := FldR.new (f := f) (v := v) (b1 := []) (x := .d d) (S' := S) (H' := upd H a (.ins (He.ga K c) dx (putF f v vs))) (Same.refl _) h5 hg (fun b hb o q => by rw [upd_ne (ne b hb)]; exact q) ⟨rfl, r⟩
    rw [List.append_nil] at z
    exact z
/-- a dict's, a list's field changes -/
theorem OwnI.setF {f : Str} {x x' : FV} (h : OwnI K S H a fp c fs) (hg : fGet f fs = some x) : ∃ dx vs v b1, H a = some (.ins (He.ga K c) dx vs) ∧ vs.lookup f = some v ∧ FldV K S H v b1 x ∧ (∀ b ∈ b1, b ∈ fp) ∧
    ∀ (b : Addr) (o : HO), b1 = [b] → FldV K S (upd H b o) v b1 x' → OwnI K S (upd H b o) a fp c (fPut f x' fs) := by
  obtain ⟨dx, vs, bs, h1, h2, h3, h4, h5⟩ := h
  have nd := h2
  rw [h1] at nd
  obtain ⟨n1, n2⟩ := List.nodup_cons.mp nd
  obtain ⟨n3, n4⟩ := List.nodup_cons.mp n2
  obtain ⟨v, b1, q1, q2, q3, q4⟩ := h5.get hg
  refine ⟨dx, vs, v, b1, h3, q1, q2, fun b hb => by rw [h1]; exact .tail _ (.tail _ (q3 b hb)), fun b o hb hx => ?_⟩
  subst hb
  have hbm := q3 b (.head _)
  have na : a ≠ b := fun e => n1 (by rw [e]; exact .tail _ hbm)
  have nx : dx ≠ b := fun e => n3 (by rw [e]; exact hbm)
  exact ⟨dx, vs, bs, h1, h2, by rw [upd_ne na]; exact h3, by rw [upd_ne nx]; exact h4, (q4 S (upd H b o) x' n4 (Same.refl _) (fun b' o' hb' hn q => by
    rw [upd_ne (fun e => hn (by rw [e]; exact .head _))]; exact q)).1 hx⟩
theorem OwnI.there (h : OwnI K S H a fp c fs) : ∀ b ∈ fp, H b ≠ none := by
  obtain ⟨dx, vs, bs, h1, h2, h3, h4, h5⟩ := h
  intro b hb
  rw [h1] at hb
  rcases List.mem_cons.mp hb with rfl | hb
  · exact ne_some h3
  · rcases List.mem_cons.mp hb with rfl | hb
    · exact ne_some h4
    · exact h5.there b hb
theorem OwnI.mem (h : OwnI K S H a fp c fs) : a ∈ fp := by
  obtain ⟨dx, vs, bs, h1, _⟩ := h
  rw [h1]; exact .head _
theorem OwnI.fl (h : OwnI K S H a fp c fs) : ∃ dx vs, H a = some (.ins (He.ga K c) dx vs) ∧ vs.length = fs.length ∧ (∀ f, fGet f fs = none → vs.lookup f = none) := by
  obtain ⟨dx, vs, bs, h1, h2, h3, h4, h5⟩ := h
  exact ⟨dx, vs, h3, h5.len, fun f hf => h5.none hf⟩
end
section
variable {X : Cx} {W : WX} {fk fe : En → R PD} {e ek : Expr} {pos pos' p pf : Pos} {x c f : Str} {fl : List Str} {i : Nat}
/-- a field of an object of one's own: what it is, and how it changes -/
theorem Rel.fOwn {K : PySem.W.Frag} {G : F} {S H : Hp} {σ : L2.St} {ρ : En} {fs : Fs} {y : FV} (r : Rel K G S σ ρ H) (h : DL.fOwn c f (oOwn ρ[i]?) = some (y, fs)) : ∃ a dx vs v b1, σ[i]? = some (some (.ref a)) ∧ H a = some (.ins (He.ga K c) dx vs) ∧ vs.lookup f = some v ∧ FldV K S H v b1 y ∧ (∀ b ∈ b1, S b = none) := by
  unfold DL.fOwn at h
  split at h
  · rename_i c' fs' eo
    split at h
    · rename_i hc
      subst hc
      cases hg : fGet f fs' with
      | none => rw [hg] at h; cases h
      | some y' =>
        rw [hg] at h
        cases h
        obtain ⟨a, fp, z1, z2, z3, z4⟩ := r.setO eo
        obtain ⟨dx, vs, v, b1, w1, w2, w3, w4, w5⟩ := z2.setF (x' := y) hg
        exact ⟨a, dx, vs, v, b1, z1, w1, w2, w3, fun b hb => (z3 b (w4 b hb)).1⟩
    · cases h
  · cases h
end
end DL

set_option Elab.async false
set_option linter.all false
set_option maxRecDepth 100000
set_option maxHeartbeats 4000000
set_option autoImplicit false
/-! the data layer 15: objects' methods; defs that get an object; what is new is told -/
namespace DL
open PySem L2
/-! ### promises -/
inductive RM where
  | ok (d : PD) (fs : Fs)
  | ex (c : Str) (fs : Fs)
  | no
structure ExtM (fp : List Addr) (S H S' H' : Hp) : Prop where
  sub : Same S S'
  all : ∀ a o, a ∉ fp → H a = some o → H' a = some o
  inn : Same S' H'
  new : ∀ a o, S' a = some o → S a = some o ∨ H a = none
  there : ∀ a ∈ fp, H' a ≠ none
/-- what is new and one's own -/
def NewV (K : PySem.W.Frag) (S H S' H' : Hp) (v : V) (x : SV) : Prop := ∃ fp a, (∀ b ∈ fp, H b = none ∧ S' b = none ∧ H' b ≠ none) ∧ v = .ref a ∧ Own K S' H' a fp x
/-! ### what is one's own as data -/
def tpD : List TP → List PD
  | [] => []
  | .d d :: r => d :: tpD r
  | .l xs :: r => .list xs :: tpD r
  | .o _ _ :: r => .none :: tpD r
def noObj : List TP → Bool
  | [] => true
  | .o _ _ :: _ => false
  | _ :: r => noObj r
def frzV : SV → R PD
  | .l xs => .ok (.list xs)
  | .k m => .no
  | .tp ps => if noObj ps = true then .ok (.tuple (tpD ps)) else .no
  | _ => .no
theorem tpR_rp {K : PySem.W.Frag} {S H : Hp} (A : List Addr) (hA : ∀ b ∈ A, S b = none) : ∀ {vs : List V} {ps : List TP} {bs : List Addr}, noObj ps = true → (∀ b ∈ bs, b ∈ A) → TpR K S H vs ps bs → RpA K (updAll S H A) vs (tpD ps)
  | [], [], _, _, _, _ => .nil
  | v :: vs, .d d :: ps, bs, n, k, ⟨h1, h2⟩ => .cons (Rp.mono (fun b o e => by
      unfold updAll
      split
      · rename_i hb; rw [hA b hb] at e; cases e
      · exact e) _ _ h1) (tpR_rp A hA n k h2)
  | v :: vs, .l xs :: ps, bs, n, k, ⟨b, b2, us, h1, h2, h3, h4, h5⟩ => by
    subst h2
    refine .cons (.lst (SqL.of ?_) (RpA.mono (fun b o e => by
      unfold updAll
      split
      · rename_i hb; rw [hA b hb] at e; cases e
      · exact e) _ _ h4)) (tpR_rp A hA n (fun c hc => k c (by rw [h1]; exact .tail _ hc)) h5)
    unfold updAll
    rw [if_pos (k b (by rw [h1]; exact .head _))]
    exact h3
  | _ :: _, .o _ _ :: _, _, n, _, _ => by cases n
  | [], .d _ :: _, _, _, _, h => h.elim
  | [], .l _ :: _, _, _, _, h => h.elim
  | [], .o _ _ :: _, _, _, _, h => h.elim
  | _ :: _, [], _, _, _, h => h.elim
theorem NewV.frz {K : PySem.W.Frag} {S H S' H' : Hp} {v : V} {x : SV} {d : PD} (e : Ext S H S' H') (h : NewV K S H S' H' v x) (hd : frzV x = .ok d) : ∃ S2, Ext S H S2 H' ∧ Rp K S2 v d := by
  obtain ⟨fp, a, hfp, rfl, ho⟩ := h
  have ext : Ext S H (updAll S' H' fp) H' := ⟨fun b o w => by
      unfold updAll
      split
      · rename_i hb; exact e.all _ _ (by rw [← w]; have := (hfp b hb).1; cases z : S b with
        | none => rw [z] at w; cases w
        | some o' => exact absurd (e.inn _ _ (e.sub _ _ z)) (by intro q; have q2 := (hfp b hb).2.1; rw [e.sub _ _ z] at q2; cases q2))
      · exact e.sub _ _ w, e.all, fun b o w => by
      unfold updAll at w
      split at w
      · exact w
      · exact e.inn _ _ w, fun b o w => by
      unfold updAll at w
      split at w
      · rename_i hb; exact .inr (hfp b hb).1
      · exact e.new _ _ w⟩
  have sub : Same S' (updAll S' H' fp) := fun b o w => by
    unfold updAll
    split
    · rename_i hb; rw [(hfp b hb).2.1] at w; cases w
    · exact w
  refine ⟨_, ext, ?_⟩
  cases x with
  | l xs =>
    cases hd
    obtain ⟨rfl, vs, h1, h2⟩ := ho
    refine .lst (SqL.of ?_) (RpA.mono sub _ _ h2)
    unfold updAll
    rw [if_pos (.head _)]
    exact h1
  | tp ps =>
    have hd' : (if noObj ps = true then R.ok (PyData.tuple (tpD ps)) else .no) = .ok d := hd
    by_cases hn : noObj ps = true
    · rw [if_pos hn] at hd'
      cases hd'
      obtain ⟨bs, vs, rfl, _, h1, h2⟩ := ho
      refine .tup (SqT.of ?_) (tpR_rp (a :: bs) (fun b hb => (hfp b hb).2.1) hn (fun b hb => .tail _ hb) h2)
      unfold updAll
      rw [if_pos (.head _)]
      exact h1
    · rw [if_neg hn] at hd'; cases hd'
  | _ => cases hd
/-! ### bodies -/
def stE (m : Nat) (ds : List PD) : En := ds.map (fun d => some (.d d)) ++ List.replicate (m - ds.length) none
def fnV (m : Nat) (den : En → Fl) (ds : List PD) : R SV := match den (stE m ds) with
  | .rv x => .ok x
  | .ex c _ => .ex c
  | _ => .no
def meAt (c : Str) (j : Nat) (ρ : En) (k : Fs → RM) : RM := match ρ[j]? with
  | some (some (.me c' fs)) => if c' = c then k fs else .no
  | _ => .no
def fnM (m j : Nat) (c : Str) (den : En → Fl) (fs : Fs) (ds : List PD) : RM := match den ((stE m ds).set j (some (.me c fs))) with
  | .rm d ρ => meAt c j ρ (.ok d)
  | .nx ρ => meAt c j ρ (.ok .none)
  | .ex cc ρ => meAt c j ρ (.ex cc)
  | _ => .no
def fnPV (m j : Nat) (c : Str) (den : En → Fl) (fs : Fs) (ds : List PD) : R SV := match den ((stE m ds).set j (some (.ro c fs))) with
  | .rv x => .ok x
  | .ex cc _ => .ex cc
  | _ => .no
section
variable {K : PySem.W.Frag} {S H : Hp} {vs : List V} {ds : List PD} {N : List Str}
end
section
variable {P : Program} {w : World} {K : PySem.W.Frag} {mg : MG} {base : Heap}
end
/-! ### expressions whose value is new and one's own -/
def vL (f : En → R (List PD)) : En → R SV := fun ρ => (f ρ).bind fun xs => .ok (.l xs)
def sRetV (f : En → R SV) : En → Fl := sE f fun x _ => .rv x
def notMe : SV → Bool
  | .me _ _ => false
  | .mk _ => false
  | _ => true
def sSetV (i : Nat) (f : En → R SV) : En → Fl := sE f fun x ρ => if notMe x = true then .nx (ρ.set i (some x)) else .no
section
variable {X : Cx} {W : WX} {f f1 f2 : En → R SV} {fl : En → R (List PD)} {e a b c : Expr} {pos pos' : Pos} {x : Str} {t1 : En → R Bool}
theorem Own.sl {K : PySem.W.Frag} {G : F} {S H : Hp} {a : Addr} {fp : List Addr} {x : SV} (h : Own K S H a fp x) (hm : x.isMe = false) : Sl K G S H (.ref a) fp x := by
  cases x with
  | d _ => exact h.elim
  | ro _ _ => exact h.elim
  | me c fs => cases hm
  | mk c => cases hm
  | l _ => exact ⟨a, rfl, h⟩
  | k _ => exact ⟨a, rfl, h⟩
  | ll _ => exact ⟨a, rfl, h⟩
  | o _ _ => exact ⟨a, rfl, h⟩
  | tp _ => exact ⟨a, rfl, h⟩
  | pl _ => exact h.elim
end
/-! ### calls -/
structure FnAtG (P : Program) (w : World) (K : PySem.W.Frag) (mg : MG) (base : Heap) (x : Str) (k : Nat) (Bs : List (List PD)) (sp : Sp) : Prop where
  ex : ∃ (f : Addr) (fd : FuncData) (ps : List Str), FnOk P w K mg base (L2.CX P w) k f fd ps sp ∧ mg x = some (.ref f) ∧ PySem.W.keepIn K (.ref f) = true ∧
    ∀ ds, ds ∈ Bs → ∃ (us : List Value) (dvs : List V), Binds K fd ps us ∧ Vals dvs us ∧ ∀ S, RpA K S dvs ds
structure MethAt (P : Program) (w : World) (K : PySem.W.Frag) (mg : MG) (base : Heap) (c m : Str) (k : Nat) (Bs : List (List PD)) (sp : Sp) : Prop where
  ex : ∃ (f : Addr) (fd : FuncData) (ps : List Str), FnOk P w K mg base (L2.CX P w) k f fd ps sp ∧ Meth K (He.ga K c) m f ∧
    ∀ ds, ds ∈ Bs → ∃ (us : List Value) (dvs : List V), Binds K fd ps us ∧ Vals dvs us ∧ ∀ S, RpA K S dvs ds
structure MkAt (P : Program) (w : World) (K : PySem.W.Frag) (mg : MG) (base : Heap) (c : Str) (k : Nat) (Bs : List (List PD)) (sp : Sp) : Prop where
  ex : ∃ (f : Addr) (fd : FuncData) (ps : List Str), FnOk P w K mg base (L2.CX P w) k f fd ps sp ∧ Mk K (He.ga K c) f ∧ mg c = some (.ref (He.ga K c)) ∧
    ∀ ds, ds ∈ Bs → ∃ (us : List Value) (dvs : List V), Binds K fd ps us ∧ Vals dvs us ∧ ∀ S, RpA K S dvs ds
def gCallV (n : Nat) (ds : List PD) (g : List PD → R SV) (as : List PD) : R SV := if (as ++ ds).length = n then g (as ++ ds) else .no
def dAV (g : List PD → R SV) (f : En → R (List PD)) : En → R SV := fun ρ => (f ρ).bind g
/-- a method's arguments: the object stands ahead -/
def gMeV (n : Nat) (ds : List PD) (g : Fs → List PD → R SV) (fs : Fs) (as : List PD) : R SV := if (as ++ ds).length + 1 = n then g fs (.none :: (as ++ ds)) else .no
def gMeP (n : Nat) (ds : List PD) (g : Fs → List PD → R PD) (fs : Fs) (as : List PD) : R PD := if (as ++ ds).length + 1 = n then g fs (.none :: (as ++ ds)) else .no
def gMeM (n : Nat) (ds : List PD) (g : Fs → List PD → RM) (fs : Fs) (as : List PD) : RM := if (as ++ ds).length + 1 = n then g fs (.none :: (as ++ ds)) else .no
def dMth (c : Str) (i : Nat) (m : Str) (g : Fs → List PD → R PD) (fa : En → R (List PD)) : En → R PD := fun ρ => match oGet ρ[i]? with
  | some (c', fs) => if c' = c ∧ fGet m fs = none then (fa ρ).bind (g fs) else .no
  | none => .no
def vMth (c : Str) (i : Nat) (m : Str) (g : Fs → List PD → R SV) (fa : En → R (List PD)) : En → R SV := fun ρ => match oGet ρ[i]? with
  | some (c', fs) => if c' = c ∧ fGet m fs = none then (fa ρ).bind (g fs) else .no
  | none => .no
/-- a method that changes its object, and what is done with its value -/
def sM (c : Str) (i : Nat) (m : Str) (g : Fs → List PD → RM) (fa : En → R (List PD)) (k : PD → En → Fl) : En → Fl := fun ρ => match oOwn ρ[i]? with
  | some (c', fs) => if c' = c ∧ fGet m fs = none then sE fa (fun ds ρ => match g fs ds with
    | .ok d fs' => k d (oPut ρ i fs')
    | .ex cc fs' => .ex cc (oPut ρ i fs')
    | .no => .no) ρ else .no
  | none => .no
def sMe (c : Str) (i : Nat) (m : Str) (g : Fs → List PD → RM) (fa : En → R (List PD)) : En → Fl := sM c i m g fa fun _ ρ => .nx ρ
def sMs (c : Str) (i : Nat) (m : Str) (g : Fs → List PD → RM) (fa : En → R (List PD)) (j : Nat) : En → Fl := sM c i m g fa fun d ρ => .nx (ρ.set j (some (.d d)))
def sMr (c : Str) (i : Nat) (m : Str) (g : Fs → List PD → RM) (fa : En → R (List PD)) : En → Fl := sM c i m g fa fun d ρ => .rm d ρ
def vMake (c : Str) (n : Nat) (ds : List PD) (g : Fs → List PD → RM) (fa : En → R (List PD)) : En → R SV := fun ρ => (fa ρ).bind fun as => match gMeM n ds g [] as with
  | .ok .none fs => .ok (.o c fs)
  | _ => .no
section
variable {X : Cx} {W : WX} {f : En → R PD} {fs0 fa : En → R (List PD)} {e o : Expr} {es : List Expr} {pos p apos : Pos} {x c m : Str} {k n i : Nat} {Bs : List (List PD)} {ds : List PD}
/-! the readings of a method's call -/
end
section
variable {X : Cx} {W : WX} {f : En → R PD} {fs0 fa : En → R (List PD)} {e o : Expr} {es : List Expr} {pos p apos spos py : Pos} {x y c m : Str} {k n i : Nat} {Bs : List (List PD)} {ds : List PD} {fl : List Str}
/-! o.m(..), a look -/
/-! o.m(..), a change: as a statement, given to a name, returned -/
/-! f(..), what is new is told -/
/-! C(..) -/
end
end DL

set_option Elab.async false
set_option linter.all false
set_option maxRecDepth 100000
set_option maxHeartbeats 4000000
set_option autoImplicit false
/-! the data layer 16: defs that are handed an object -/
namespace DL
open PySem L2
/-- arguments, the object at a stands at the place j -/
def RpO (K : PySem.W.Frag) (a : Addr) (j : Nat) : Hp → List V → List PD → Prop := fun S vs ds => vs[j]? = some (.ref a) ∧ RpA K S (vs.set j .non) ds
def dObj (fa : En → R (List PD)) : En → R (List PD) := fun ρ => (fa ρ).bind fun ds => .ok (.none :: ds)
def gObjM (n : Nat) (ds : List PD) (g : Fs → List PD → RM) (fs : Fs) (as : List PD) : RM := if (as ++ ds).length = n then g fs (as ++ ds) else .no
def sF (c : Str) (i : Nat) (g : Fs → List PD → RM) (fa : En → R (List PD)) (k : PD → En → Fl) : En → Fl := fun ρ => match oOwn ρ[i]? with
  | some (c', fs) => if c' = c then sE fa (fun ds ρ => match g fs ds with
    | .ok d fs' => k d (oPut ρ i fs')
    | .ex cc fs' => .ex cc (oPut ρ i fs')
    | .no => .no) ρ else .no
  | none => .no
def sFe (c : Str) (i : Nat) (g : Fs → List PD → RM) (fa : En → R (List PD)) : En → Fl := sF c i g fa fun _ ρ => .nx ρ
section
variable {X : Cx} {W : WX} {f : En → R PD} {fa : En → R (List PD)} {e : Expr} {es : List Expr} {pos p spos py : Pos} {x y o c : Str} {k n i j : Nat} {Bs : List (List PD)} {ds : List PD}
theorem RpO.app {K : PySem.W.Frag} {a : Addr} {S : Hp} {vs dvs : List V} {as : List PD} (h : RpO K a j S vs as) (hd : RpA K S dvs ds) : (vs ++ dvs)[j]? = some (.ref a) ∧ RpA K S ((vs ++ dvs).set j .non) (as ++ ds) := by
  have hj : j < vs.length := (List.getElem?_eq_some_iff.mp h.1).1
  refine ⟨by rw [List.getElem?_append_left hj]; exact h.1, ?_⟩
  rw [List.set_append_left _ _ hj]
  exact h.2.append hd
/-! f(.., o, ..), a look -/
/-! .., a change -/
end
/-! ### what is new is told, called by keywords -/
structure KwAtG (P : Program) (w : World) (K : PySem.W.Frag) (mg : MG) (base : Heap) (x : Str) (k : Nat) (np : Nat) (ks : List Str) (arr : List PD → List PD → List PD) (sp : Sp) : Prop where
  ex : ∃ (f : Addr) (fd : FuncData) (ps : List Str) (gv : List Value → List Value → List Value) (gV : List V → List V → List V), FnOk P w K mg base (L2.CX P w) k f fd ps sp ∧ mg x = some (.ref f) ∧ PySem.W.keepIn K (.ref f) = true ∧ KBn K fd ps np ks gv gV ∧
    ∀ S vs zs ds es, RpA K S vs ds → RpA K S zs es → RpA K S (gV vs zs) (arr ds es)
section
variable {X : Cx} {fs gs : En → R (List PD)} {e : Expr} {es : List Expr} {kws : List Keyword} {pos p : Pos} {x : Str} {k n np : Nat} {ks : List Str} {arr : List PD → List PD → List PD} {g : List PD → R SV} {E : XK}
end
/-! ### {"s": e} -/
section
variable {X : Cx} {W : WX} {f : En → R PD} {e : Expr} {pos pk : Pos} {j : Nat}
end
/-! ### if f(.., o, ..): with a change -/
section
variable {X : Cx} {W : WX} {fa : En → R (List PD)} {e : Expr} {es : List Expr} {pos p spos npos : Pos} {x c : Str} {k n i j : Nat} {Bs : List (List PD)} {ds : List PD} {a b : List Stmt} {h1 h2 : En → Fl}
end
end DL

set_option Elab.async false
set_option linter.all false
set_option maxRecDepth 100000
set_option maxHeartbeats 4000000
set_option autoImplicit false
/-! the data layer 17: a list of one's own that stands still while a statement runs; clear; what is made and dropped; C(.., k = v); if o.m(..) is not None -/
namespace DL
open PySem L2
/-! ### a list that stands still -/
def pinned : Option SV → Bool
  | some (.me _ _) => true
  | some (.mk _) => true
  | some (.pl _) => true
  | _ => false
def noPin (ρ : En) : Bool := ρ.all fun o => !pinned o
theorem noPin_at {ρ : En} (h : noPin ρ = true) {j : Nat} {o : Option SV} (hj : ρ[j]? = some o) : pinned o = false := by
  have := List.all_eq_true.mp h o (List.mem_of_getElem? hj)
  simpa using this
section
variable {K : PySem.W.Frag} {G : F} {S H : Hp} {σ : L2.St} {ρ : En}
/-- in -/
theorem Rel.pin (r : Rel K G S σ ρ H) {i : Nat} {xs : List PD} (hi : ρ[i]? = some (some (.l xs))) (hn : noPin ρ = true) : ∃ a vs, G.H a = none ∧ S a = none ∧ H a = some (.lst vs) ∧ Rel K ⟨G.S, upd G.H a (.lst vs), G.a, G.P, a :: G.q⟩ S σ (ρ.set i (some (.pl xs))) H := by
  obtain ⟨φ, r⟩ := r
  obtain ⟨v, h1, a, rfl, hf, vs, ha, hr⟩ := r.slot i _ hi
  have hm : a ∈ φ i := by rw [hf]; exact .head _
  obtain ⟨f1, f2, f3⟩ := r.fr i a hm
  have hP := r.nop hi rfl a hm
  have hl : i < ρ.length := (List.getElem?_eq_some_iff.mp hi).1
  refine ⟨a, vs, f2, f1, ha, φset φ i [], ?_, r.inn, ?_, r.entS, ?_, ?_, ?_, ?_, ?_, ?_⟩
  · rw [List.length_set]; exact r.len
  · intro b o e
    by_cases hb : b = a
    · subst hb
      have e' : upd G.H b (.lst vs) b = some o := e
      rw [upd_same] at e'; rw [← e']; exact ha
    · have e' : upd G.H a (.lst vs) b = some o := e
      rw [upd_ne hb] at e'; exact r.ent b o e'
  · intro b o e
    rcases r.new b o e with w | ⟨w, w2⟩
    · exact .inl w
    · refine .inr ⟨?_, w2⟩
      show upd G.H a (.lst vs) b = none
      rw [upd_ne (fun z => by subst z; rw [f1] at e; cases e)]; exact w
  · intro b hb
    obtain ⟨g1, g2⟩ := r.gp b hb
    refine ⟨?_, g2⟩
    show upd G.H a (.lst vs) b = none
    rw [upd_ne (fun z => by subst z; exact hP hb)]; exact g1
  · intro j y hj
    by_cases e : i = j
    · subst e
      rw [List.getElem?_set_self hl] at hj
      cases hj
      exact ⟨_, h1, φset_same, a, vs, rfl, rfl, f1, upd_same, hr⟩
    · rw [List.getElem?_set_ne e] at hj
      rw [φset_ne e]
      obtain ⟨u, w1, w2⟩ := r.slot j y hj
      refine ⟨u, w1, ?_⟩
      have np := noPin_at hn hj
      cases y with
      | me c fs => cases np
      | mk _ => cases np
      | pl _ => cases np
      | ro c fs =>
        obtain ⟨q0, a0, f0, q1, q2, q3⟩ := w2
        have hne : ∀ b ∈ f0, b ≠ a := fun b hb z => by subst z; exact (q3 b hb).2.1 f2
        exact ⟨q0, a0, f0, q1, OwnI.keep (Same.refl _) (fun b hb o z => by show upd G.H a (.lst vs) b = some o; rw [upd_ne (hne b hb)]; exact z) q2,
          fun b hb => ⟨(q3 b hb).1, by show upd G.H a (.lst vs) b ≠ none; rw [upd_ne (hne b hb)]; exact (q3 b hb).2.1, fun z => by
            rcases List.mem_cons.mp z with z | z
            · exact hne b hb z
            · exact (q3 b hb).2.2 z⟩⟩
      | d _ => exact w2
      | l _ => exact w2
      | k _ => exact w2
      | ll _ => exact w2
      | o _ _ => exact w2
      | tp _ => exact w2
  · intro j b hb
    by_cases e : i = j
    · subst e; rw [φset_same] at hb; cases hb
    · rw [φset_ne e] at hb
      obtain ⟨q1, q2, q3⟩ := r.fr j b hb
      refine ⟨q1, ?_, q3⟩
      show upd G.H a (.lst vs) b = none
      rw [upd_ne (fun z => by subst z; exact r.dj j i b (fun z => e z.symm) hb hm)]; exact q2
  · intro j l b hjl hj hl'
    by_cases e1 : i = j
    · subst e1; rw [φset_same] at hj; cases hj
    · by_cases e2 : i = l
      · subst e2; rw [φset_same] at hl'; cases hl'
      · rw [φset_ne e1] at hj; rw [φset_ne e2] at hl'
        exact r.dj j l b hjl hj hl'
  · intro j b hb hp
    by_cases e : i = j
    · subst e; rw [φset_same] at hb; cases hb
    · rw [φset_ne e] at hb
      rw [List.getElem?_set_ne e]
      exact r.pp j b hb hp
end
section
variable {X : Cx} {W : WX} {g : En → Fl} {st : Stmt}
/-! ### walks over it -/
variable {tg e : Expr} {x : Str} {p pos tpos : Pos} {f : En → R PD} {elts : List Expr} {kk : Nat}
end
/-! ### x.clear() -/
section
variable {X : Cx} {W : WX} {x : Str} {p apos cpos pos : Pos}
end
/-! ### (a new list).append(e), dropped -/
section
variable {X : Cx} {W : WX} {fv : En → R SV} {fe : En → R PD} {o e : Expr} {apos cpos pos : Pos}
end
/-! ### if o.m(..) is not None: (a change) -/
section
variable {X : Cx} {W : WX} {fa : En → R (List PD)} {e : Expr} {es : List Expr} {pos p apos spos cpos npos : Pos} {x c m : Str} {k n i : Nat} {Bs : List (List PD)} {ds : List PD} {fl : List Str} {a b : List Stmt} {h1 h2 : En → Fl} {jj : Option Str}
end
/-! ### C(e, .., k = v, ..) -/
structure MkKw (P : Program) (w : World) (K : PySem.W.Frag) (mg : MG) (base : Heap) (c : Str) (k np : Nat) (ks : List Str) (arr : List PD → List PD → List PD) (sp : Sp) : Prop where
  ex : ∃ (f : Addr) (fd : FuncData) (ps : List Str) (gv : List Value → List Value → List Value) (gV : List V → List V → List V), FnOk P w K mg base (L2.CX P w) k f fd ps sp ∧ Mk K (He.ga K c) f ∧ mg c = some (.ref (He.ga K c)) ∧ KBn K fd ps (np + 1) ks gv gV ∧
    ∀ S a vs zs ds es, RpA K S vs ds → RpA K S zs es → ∃ r, gV (.ref a :: vs) zs = .ref a :: r ∧ RpA K S (.non :: r) (arr (.none :: ds) es)
section
variable {X : Cx} {W : WX} {fa fb : En → R (List PD)} {e : Expr} {es : List Expr} {kws : List Keyword} {pos p : Pos} {c : Str} {k n np : Nat} {ks : List Str} {arr : List PD → List PD → List PD}
end
/-! ### a list of one's own is looked at while something without a list in it is made -/
section
variable {K : PySem.W.Frag} {S : Hp} {a : Addr} {vs : List V}
end
section
variable {X : Cx} {W : WX} {e : Expr}
end
end DL

set_option Elab.async false
set_option linter.all false
set_option maxRecDepth 100000
set_option maxHeartbeats 4000000
set_option autoImplicit false
/-! the data layer 18: told tuples with parts of one's own; x = a + b of lists; constant dicts; in range -/
namespace DL
open PySem L2
/-! ### parts -/
def tpNil : En → R (List TP) := fun _ => .ok []
def tpD1 (f : En → R PD) (g : En → R (List TP)) : En → R (List TP) := fun ρ => (f ρ).bind fun d => (g ρ).bind fun ps => .ok (.d d :: ps)
def slotP : Option (Option SV) → Option TP
  | some (some (.d x)) => some (.d x)
  | some (some (.l xs)) => some (.l xs)
  | some (some (.o c fs)) => some (.o c fs)
  | _ => none
def tpS (i : Nat) (g : En → R (List TP)) : En → R (List TP) := fun ρ => match slotP ρ[i]? with
  | some p => (g ρ).bind fun ps => .ok (p :: ps)
  | none => .no
def newP : SV → Option TP
  | .l xs => some (.l xs)
  | .o c fs => some (.o c fs)
  | _ => none
def tpV (f : En → R SV) (g : En → R (List TP)) : En → R (List TP) := fun ρ => (f ρ).bind fun x => match newP x with
  | some p => (g ρ).bind fun ps => .ok (p :: ps)
  | none => .no
section
variable {K : PySem.W.Frag} {S H : Hp}
/-- a part ahead of others -/
theorem TpR.app {a : Addr} {fp bs : List Addr} {x : SV} {p : TP} {vs : List V} {ps : List TP} (hp : newP x = some p) (h : Own K S H a fp x) (t : TpR K S H vs ps bs) : TpR K S H (.ref a :: vs) (p :: ps) (fp ++ bs) := by
  cases x with
  | l xs => cases hp; obtain ⟨rfl, us, h1, h2⟩ := h; exact ⟨a, bs, us, rfl, rfl, h1, h2, t⟩
  | o c fs => cases hp; exact ⟨a, fp, bs, rfl, rfl, h, t⟩
  | _ => cases hp
theorem Sl.own {G : F} {v : V} {fp : List Addr} {x : SV} {p : TP} (hp : newP x = some p) (h : Sl K G S H v fp x) : ∃ a, v = .ref a ∧ Own K S H a fp x := by
  cases x with
  | l xs => exact h
  | o c fs => exact h
  | _ => cases hp
end
section
variable {X : Cx} {W : WX} {f : En → R PD} {fv : En → R SV} {g : En → R (List TP)} {e : Expr} {es : List Expr} {is : List Nat} {x : Str} {pos p : Pos}
/-- return (a, b, ..) -/
def sRetTp (f : En → R (List TP)) : En → Fl := sE f fun ps _ => if ps.length ≤ 1000 then .rv (.tp ps) else .no
theorem TpR.length {K : PySem.W.Frag} {S H : Hp} : ∀ {vs : List V} {ps : List TP} {bs : List Addr}, TpR K S H vs ps bs → vs.length = ps.length
  | [], [], _, _ => rfl
  | v :: vs, .d _ :: ps, bs, ⟨_, h⟩ => congrArg Nat.succ (TpR.length h)
  | v :: vs, .l _ :: ps, bs, ⟨_, _, _, _, _, _, _, h⟩ => congrArg Nat.succ (TpR.length h)
  | v :: vs, .o _ _ :: ps, bs, ⟨_, _, _, _, _, _, h⟩ => congrArg Nat.succ (TpR.length h)
  | [], .d _ :: _, _, h => h.elim
  | [], .l _ :: _, _, h => h.elim
  | [], .o _ _ :: _, _, h => h.elim
  | _ :: _, [], _, h => h.elim
end
/-! ### a, b = (what is told) -/
def TP.sv : TP → SV
  | .d x => .d x
  | .l xs => .l xs
  | .o c fs => .o c fs
def putTp : List Nat → List TP → En → En
  | i :: is, p :: ps, ρ => putTp is ps (ρ.set i (some p.sv))
  | _, _, ρ => ρ
def sAsgTp (is : List Nat) (f : En → R SV) : En → Fl := sE f fun x ρ => match x with
  | .tp ps => if ps.length = is.length then .nx (putTp is ps ρ) else .no
  | _ => .no
section
variable {K : PySem.W.Frag} {G : F} {S H : Hp} {σ : L2.St} {ρ : En} {φ : Nat → List Addr}
/-- a slot gets what is there and nobody's -/
theorem RelF.put (r : RelF K G φ S σ ρ H) {i : Nat} {x : SV} {v : V} {fp : List Addr} (hfp : ∀ a ∈ fp, S a = none ∧ H a ≠ none ∧ G.H a = none ∧ a ∉ G.P ∧ ∀ j, a ∉ φ j) (hs : Sl K G S H v fp x) : RelF K G (φset φ i fp) S (σ.set i (some v)) (ρ.set i (some x)) H where
  len := by simp only [List.length_set]; exact r.len
  inn := r.inn
  ent := r.ent
  entS := r.entS
  new := r.new
  gp := r.gp
  slot := fun j y hj => by
    by_cases e : i = j
    · subst e
      by_cases hl : i < ρ.length
      · rw [List.getElem?_set_self hl] at hj
        cases hj
        exact ⟨v, List.getElem?_set_self (by rw [r.len]; exact hl), by rw [φset_same]; exact hs⟩
      · rw [List.getElem?_eq_none (by simpa using hl)] at hj; cases hj
    · rw [List.getElem?_set_ne e] at hj ⊢
      rw [φset_ne e]
      exact r.slot j y hj
  fr := fun j a ha => by
    by_cases e : i = j
    · subst e
      rw [φset_same] at ha
      exact ⟨(hfp a ha).1, (hfp a ha).2.2.1, (hfp a ha).2.1⟩
    · rw [φset_ne e] at ha
      exact r.fr j a ha
  dj := fun j l a hjl hj hl => by
    by_cases e1 : i = j
    · subst e1
      rw [φset_same] at hj
      rw [φset_ne hjl] at hl
      exact (hfp a hj).2.2.2.2 l hl
    · by_cases e2 : i = l
      · subst e2
        rw [φset_same] at hl
        rw [φset_ne e1] at hj
        exact (hfp a hl).2.2.2.2 j hj
      · rw [φset_ne e1] at hj
        rw [φset_ne e2] at hl
        exact r.dj j l a hjl hj hl
  pp := fun j a hj hp => by
    by_cases e1 : i = j
    · subst e1
      rw [φset_same] at hj
      exact absurd hp (hfp a hj).2.2.2.1
    · rw [φset_ne e1] at hj
      rw [List.getElem?_set_ne e1]
      exact r.pp j a hj hp
end
section
variable {X : Cx} {W : WX} {f : En → R SV} {e tg : Expr} {pos : Pos} {is : List Nat}
end
/-! ### a told tuple is looked at -/
section
variable {K : PySem.W.Frag} {G : F} {S H : Hp} {σ : L2.St} {ρ : En}
end
section
variable {X : Cx} {W : WX} {e : Expr}
end
/-! ### x[k].clear() of a told tuple's list -/
section
variable {K : PySem.W.Frag} {S H : Hp}
theorem FldR.mem {vs : List (Str × V)} {fs : Fs} {bs : List Addr} (_ : FldR K S H vs fs bs) : True := trivial
/-- a list among a tuple's parts, and the tuple when it changes -/
theorem TpR.at : ∀ {vs : List V} {ps : List TP} {bs : List Addr} {k : Nat} {xs : List PD}, bs.Nodup → TpR K S H vs ps bs → ps[k]? = some (.l xs) → ∃ b us, vs[k]? = some (.ref b) ∧ b ∈ bs ∧ H b = some (.lst us) ∧ TpR K S (upd H b (.lst [])) vs (ps.set k (.l [])) bs
  | [], [], _, _, _, _, _, e => by simp at e
  | v :: vs, .d d :: ps, bs, k, xs, nd, ⟨h1, h2⟩, e => by
    cases k with
    | zero => simp at e
    | succ k =>
      obtain ⟨b, us, q1, q2, q3, q4⟩ := TpR.at nd h2 (k := k) (by simpa using e)
      exact ⟨b, us, by simpa using q1, q2, q3, h1, q4⟩
  | v :: vs, .l ys :: ps, bs, k, xs, nd, ⟨b0, b2, us0, h1, h2, h3, h4, h5⟩, e => by
    subst h1 h2
    obtain ⟨nd1, nd2⟩ := List.nodup_cons.mp nd
    cases k with
    | zero =>
      refine ⟨b0, us0, rfl, .head _, h3, b0, b2, [], rfl, rfl, upd_same, .nil, TpR.keep (Same.refl _) (fun a ha o q => ?_) h5⟩
      rw [upd_ne (fun w => nd1 (by rw [← w]; exact ha))]; exact q
    | succ k =>
      obtain ⟨b, us, q1, q2, q3, q4⟩ := TpR.at nd2 h5 (k := k) (by simpa using e)
      refine ⟨b, us, by simpa using q1, .tail _ q2, q3, b0, b2, us0, rfl, rfl, ?_, h4, q4⟩
      rw [upd_ne (fun w => nd1 (by rw [w]; exact q2))]; exact h3
  | v :: vs, .o c fs :: ps, bs, k, xs, nd, ⟨b0, b1, b2, h1, h2, h3, h4⟩, e => by
    subst h1 h2
    obtain ⟨nd1, nd2, nd3⟩ := List.nodup_append.mp nd
    cases k with
    | zero => simp at e
    | succ k =>
      obtain ⟨b, us, q1, q2, q3, q4⟩ := TpR.at nd2 h4 (k := k) (by simpa using e)
      refine ⟨b, us, by simpa using q1, List.mem_append_right _ q2, q3, b0, b1, b2, rfl, rfl, OwnI.keep (Same.refl _) (fun a ha o q => ?_) h3, q4⟩
      rw [upd_ne (fun w => nd3 a ha b q2 w)]; exact q
  | [], .d _ :: _, _, _, _, _, h, _ => h.elim
  | [], .l _ :: _, _, _, _, _, h, _ => h.elim
  | [], .o _ _ :: _, _, _, _, _, h, _ => h.elim
  | _ :: _, [], _, _, _, _, h, _ => h.elim
end
section
variable {X : Cx} {W : WX} {x : Str} {p apos cpos pos spos ipos : Pos}
end
/-! ### x = a + b, a list of one's own -/
def lCat (f1 f2 : En → R PD) : En → R (List PD) := fun ρ => (f1 ρ).bind fun a => (f2 ρ).bind fun b => match a, b with
  | .list xs, .list ys => if xs.length + ys.length ≤ 16777216 then .ok (xs ++ ys) else .no
  | _, _ => .no
/-- .., a being a list of one's own -/
def lCatO (i : Nat) (f : En → R PD) : En → R (List PD) := fun ρ => match ρ[i]? with
  | some (some (.l xs)) => (f ρ).bind fun b => (match b with
    | .list ys => if xs.length + ys.length ≤ 16777216 then .ok (xs ++ ys) else .no
    | _ => .no)
  | _ => .no
section
variable {X : Cx} {W : WX} {f1 f2 : En → R PD} {a b : Expr} {pos p : Pos} {x : Str}
end
/-- .., a being a list, of one's own or not -/
def lCatA (i : Nat) (f : En → R PD) : En → R (List PD) := fun ρ => match ρ[i]? with
  | some (some (.d d)) => lCat (fun _ => .ok d) f ρ
  | _ => lCatO i f ρ
section
variable {X : Cx} {W : WX} {f2 : En → R PD} {b : Expr} {pos p : Pos} {x : Str}
end
/-! ### (what is told)[k] -/
section
variable {X : Cx} {W : WX} {f : En → R SV} {e : Expr} {pos ipos : Pos}
end
/-! ### a constant dict of texts -/
def gCD (kvs : List (Str × Str)) : PD → R PD
  | .str z => (match kvs.lookup z with
    | some v => .ok (.str v)
    | none => .no)
  | _ => .no
section
variable {X : Cx} {W : WX} {f : En → R PD} {e : Expr} {p pos : Pos} {x : Str} {kvs : List (Str × Str)} {ks : List Str}
end
/-! ### in range(n) -/
def dInR (f g : En → R PD) : En → R PD := fun ρ => (f ρ).bind fun a => (g ρ).bind fun b => match a, b with
  | .int i, .int n => .ok (.bool (decide (0 ≤ i ∧ i < n)))
  | _, _ => .no
section
variable {X : Cx} {W : WX} {f g : En → R PD} {a b : Expr} {p pos pos2 : Pos}
end
/-! ### list(range(..)) -/
def lRg1 (f : En → R PD) : En → R (List PD) := fun ρ => (f ρ).bind fun a => match a with
  | .int n => if 0 ≤ n ∧ n ≤ 16777216 then .ok (rng 0 n.toNat) else .no
  | _ => .no
def lRg2 (f g : En → R PD) : En → R (List PD) := fun ρ => (f ρ).bind fun a => (g ρ).bind fun b => match a, b with
  | .int m, .int n => if 0 ≤ m ∧ n ≤ 16777216 ∧ m ≤ 16777216 ∧ 0 ≤ n then .ok (rng m (n - m).toNat) else .no
  | _, _ => .no
section
variable {X : Cx} {W : WX} {f g : En → R PD} {a b : Expr} {p pos p2 pos2 : Pos}
end
/-! ### reversed(xs) -/
def revL : PD → R (List PD)
  | .list ds => .ok ds.reverse
  | _ => .no
def iRv (f : En → R PD) : En → R (List PD) := fun ρ => (f ρ).bind revL
section
variable {X : Cx} {W : WX} {f : En → R PD} {e tg : Expr} {p pos : Pos}
end
end DL

set_option Elab.async false
set_option linter.all false
set_option maxRecDepth 100000
set_option maxHeartbeats 4000000
set_option autoImplicit false
/-! the data layer 19: x[k].append(o.m(..)) -/
namespace DL
open PySem L2
section
variable {K : PySem.W.Frag} {G : F} {S H : Hp} {σ : L2.St} {ρ : En}
end
section
variable {X : Cx} {W : WX} {fa : En → R (List PD)} {c m : Str} {n i : Nat} {ds : List PD}
end
/-- x[k].append(o.m(..)), o at the slot j -/
def sApp2M (i : Nat) (fk : En → R PD) (c : Str) (j : Nat) (m : Str) (g : Fs → List PD → RM) (fa : En → R (List PD)) : En → Fl := fun ρ => if i = j then .no else match ρ[i]? with
  | some (some (.ll xss)) => sE fk (fun k => match k with
    | .int k => (match atI xss k with
      | some xs => sM c j m g fa fun d ρ => if xs.length < 16777216 then .nx (ρ.set i (some (.ll (xss.set ((ixN xss.length k).getD 0) (xs ++ [d]))))) else .no
      | none => fun _ => .no)
    | _ => fun _ => .no) ρ
  | _ => .no
section
variable {X : Cx} {W : WX} {f : En → R PD} {fs0 fa : En → R (List PD)} {e o : Expr} {es : List Expr} {pos p p2 px apos mpos cpos : Pos} {x y c m : Str} {k n : Nat} {Bs : List (List PD)} {ds : List PD} {fl : List Str}
end
/-! ### return o.f, a list of an object of one's own, as one's own -/
def sRetFl (c : Str) (i : Nat) (f : Str) : En → Fl := fun ρ => match ρ[i]? with
  | some (some (.o c' fs)) => if c' = c then (match fGet f fs with
    | some (.l xs) => .rv (.l xs)
    | _ => .no) else .no
  | _ => .no
section
variable {X : Cx} {W : WX} {pos p pf : Pos} {x c f : Str} {fl : List Str}
end
end DL

set_option Elab.async false
set_option linter.all false
set_option maxRecDepth 100000
set_option maxHeartbeats 4000000
set_option autoImplicit false
/-! the data layer 20: x.reverse() -/
namespace DL
open PySem L2
section
variable {X : Cx} {W : WX} {x : Str} {p apos cpos pos : Pos}
end
end DL

set_option Elab.async false
set_option linter.all false
set_option maxRecDepth 100000
set_option maxHeartbeats 4000000
set_option autoImplicit false
/-! the data layer 21: a, b, c = x, y, z -/
namespace DL
open PySem L2
section
variable {X : Cx} {W : WX} {x y z : Str} {pos : Pos} {e e2 e3 : Expr} {f1 f2 f3 : En → R PD}
end
end DL

set_option Elab.async false
set_option linter.all false
set_option maxRecDepth 100000
set_option maxHeartbeats 4000000
set_option autoImplicit false
/-! the data layer 22: x.remove(e), x.extend(new list) -/
namespace DL
open PySem L2
def intsD : List PD → Option (List Int)
  | [] => some []
  | .int n :: ds => (intsD ds).map (n :: ·)
  | _ => none
def kRem (i : Nat) (xs : List PD) (d : PD) (ρ : En) : Fl := match d with
  | .int k => (match intsD xs with
    | some ns => if k ∈ ns then .nx (ρ.set i (some (.l ((ns.erase k).map PyData.int)))) else .no
    | none => .no)
  | _ => .no
def sRem (i : Nat) (f : En → R PD) : En → Fl := fun ρ => match ρ[i]? with
  | some (some (.l xs)) => sE f (kRem i xs) ρ
  | _ => .no
def sExtL (i : Nat) (fl : En → R (List PD)) : En → Fl := fun ρ => match ρ[i]? with
  | some (some (.l xs)) => sE fl (fun ds ρ => if xs.length + ds.length ≤ 16777216 then .nx (ρ.set i (some (.l (xs ++ ds)))) else .no) ρ
  | _ => .no
section
variable {X : Cx} {W : WX} {x : Str} {e : Expr} {f : En → R PD} {fl : En → R (List PD)} {p apos cpos pos : Pos}
end
end DL

set_option Elab.async false
set_option linter.all false
set_option maxRecDepth 100000
set_option maxHeartbeats 1000000
set_option autoImplicit false
/-! isinstance(e, (T1, .., Tn)) of a kept error -/
namespace DL
open PySem L2
def gIsEs (es Ts : List Str) : PD → R PD
  | .dict [(.none, .str c)] => if c ∈ es then .ok (.bool (Ts.any fun T => subX c T)) else .no
  | _ => .no
theorem call_isKT {X : Cx} : CallR X (.builtin "isinstance") (fun xs H Q => ∃ (a tp : Addr) (cs : List V) (us : List Value) (b : Bool) (D : Addr), xs = [.ref a, .ref tp] ∧ H a = some (ExK (.ref D) a) ∧ ExcC X.K D ∧ H tp = some (.tup cs) ∧ Paired ClsV cs us ∧ PySem.W.kitAny X.K (.ref D) us = some b ∧ Q (.bl b) H) := by
  intro pins s σ H xs us Q I r h
  obtain ⟨a, tp, cs, ws, b, D, rfl, ha, C, hT, k, e, q⟩ := h
  cases r with
  | cons rx rr =>
    cases rr with
    | cons rt rr =>
      cases rr
      cases rx
      cases rt
      obtain ⟨⟨oe, vs, hget, hz, hv⟩, _, _⟩ := I.hok a _ ha
      have J : PySem.W.InstAt s.heap a oe D none := by
        obtain ⟨oc, od, oda, osl⟩ := oe
        obtain ⟨h1, h2⟩ := hz
        dsimp only at h1 h2 hv
        subst h1 h2 hv
        exact ⟨hget, rfl, rfl, trivial⟩
      obtain ⟨_, its, rv, o, h1, h2, n, h3⟩ := (show ObjOk X.prog X.w H s.heap tp (.tup cs) from I.hok tp _ hT)
      have e3 := ClsV.all k rv
      subst e3
      obtain ⟨oc, od, dt, sl⟩ := o
      simp only at h2 h3
      subst h2 h3
      exact PySem.W.kia_tup (PySem.W.handS_kitx_exc C.hg C.hk C.hs C.hd C.ha C.hn C.ht C.hm) I.kIn J h1 e (fun z => nomatch z) fun tk => ⟨.bl b, H, I.kept (t' := tk) fun _ _ z => z, rfl, q⟩
/-- names of classes -/
inductive Nms (X : Cx) : List Str → List Expr → Prop where
  | nil : Nms X [] []
  | cons {T : Str} {p : Pos} {Ts : List Str} {xs : List Expr} (hg : Gl X T) (hT : X.mg T = some (.ref (He.ga X.K T))) (hd : (T == ("__debug__" : Str)) = false) (h : Nms X Ts xs) : Nms X (T :: Ts) (.Name T p :: xs)
def gaV (K : PySem.W.Frag) (Ts : List Str) : List V := Ts.map fun T => .ref (He.ga K T)
def gaU (K : PySem.W.Frag) (Ts : List Str) : List Value := Ts.map fun T => .ref (He.ga K T)
theorem gaP {K : PySem.W.Frag} : ∀ Ts : List Str, Paired ClsV (gaV K Ts) (gaU K Ts)
  | [] => .nil
  | _ :: Ts => .cons (.own _) (gaP Ts)
theorem Nms.pa {X : Cx} {Ts : List Str} {xs : List Expr} (h : Nms X Ts xs) : PA X xs (fun σ H Q => Q (gaV X.K Ts) H) := by
  induction h with
  | nil => exact pa_nil
  | cons hg hT hd h ih => exact pa_cons (pe_glob (v := .ref (He.ga X.K _)) hg hT rfl hd) ih
/-- each of a row -/
inductive AllT {α : Type} (P : α → Prop) : List α → Prop where
  | nil : AllT P []
  | cons {x : α} {xs : List α} (h : P x) (t : AllT P xs) : AllT P (x :: xs)
theorem allT {α : Type} {P : α → Prop} {xs : List α} (h : AllT P xs) : ∀ x ∈ xs, P x := by
  induction h with
  | nil => exact fun x hx => nomatch hx
  | cons h t ih =>
    intro y hy
    rcases List.mem_cons.mp hy with rfl | hy
    · exact h
    · exact ih y hy
theorem kitAny_subX {K : PySem.W.Frag} {es : List Str} {c : Str} (hc : c ∈ es) : ∀ Ts : List Str, (∀ T ∈ Ts, XIs K es T (.ref (He.ga K T))) → PySem.W.kitAny K (.ref (He.ga K c)) (gaU K Ts) = some (Ts.any fun T => subX c T)
  | [], _ => rfl
  | T :: Ts, h => by
    refine kitAny_cons ((h T (.head _)).ex c hc).2 (fun hb => ?_) fun hb => ?_
    · refine (kitAny_subX hc Ts fun T hT => h T (.tail _ hT)).trans ?_
      rw [List.any_cons, hb]
      rfl
    · rw [List.any_cons, hb]
      rfl
section
variable {X : Cx} {W : WX} {f : En → R PD} {es Ts : List Str} {e : Expr} {p pt pos : Pos} {xs : List Expr}
theorem isEs_of (hx : ∀ T ∈ Ts, XIs X.K es T (.ref (He.ga X.K T))) (hn : Ts ≠ []) (hl : Ts.length ≤ sizeLine) : ∀ σ H Q, tD X.K X.mg W (d1 (gIsEs es Ts) f) σ H Q → (tD X.K X.mg W f) σ H fun x H1 => tTup (fun σ H Q => Q (gaV X.K Ts) H) σ H1 fun y H2 => (fun xs H Q => ∃ (a tp : Addr) (cs : List V) (us : List Value) (b : Bool) (D : Addr), xs = [.ref a, .ref tp] ∧ H a = some (ExK (.ref D) a) ∧ ExcC X.K D ∧ H tp = some (.tup cs) ∧ Paired ClsV cs us ∧ PySem.W.kitAny X.K (.ref D) us = some b ∧ Q (.bl b) H) [x, y] H2 Q := by
  rintro σ H Q ⟨G, ρ, S, rel, h⟩
  refine tG.mk rel (wG.imp ?_ (wG.bind (rp := Rp X.K) h))
  rintro v H1 ⟨S1, d, e1, ra, h1⟩
  unfold gIsEs at h1
  split at h1
  · rename_i c'
    cases ra with
    | exc hh =>
      split at h1
      · rename_i hm
        obtain ⟨T0, Ts0, rfl⟩ := List.exists_cons_of_ne_nil hn
        obtain ⟨f1, _⟩ := (hx T0 (.head _)).ex _ hm
        refine ⟨by unfold gaV; rw [List.length_map]; exact hl, fun tp htp => ?_⟩
        have hh1 := e1.inn _ _ hh
        have ne : ∀ {a : Addr} {o : HO}, H1 a = some o → upd H1 tp (.tup (gaV X.K (T0 :: Ts0))) a = some o := fun {a o} z => by
          unfold upd
          rw [if_neg (fun q => by rw [q, htp] at z; cases z)]
          exact z
        exact ⟨_, tp, _, gaU X.K (T0 :: Ts0), _, _, rfl, ne hh1, f1, by unfold upd; rw [if_pos rfl], gaP _, kitAny_subX hm _ hx, h1 _ S1 _ (Ext.fresh e1.inn htp) (.bl _)⟩
      · exact h1.elim
    | dct hh hk =>
      cases hk with
      | cons hkd _ _ => exact (keyD_none hkd).elim
  · exact h1.elim
theorem pd_isEs {x1} (hx : ∀ T ∈ Ts, XIs X.K es T (.ref (He.ga X.K T))) (nm : Nms X Ts xs) (hm : X.mg "isinstance" = none) (ha : PE X e (tD X.K X.mg W f)) (hn : Ts ≠ [] := by intro z; cases z) (hl : Ts.length ≤ sizeLine := by decide) (hg : Gl X "isinstance" := by rfl)
    (he : starEach [e, .Tuple xs x1 pt] X.env = (false, eval e X.env) :: starEach [.Tuple xs x1 pt] X.env := by rfl) (he2 : starEach [.Tuple xs x1 pt] X.env = (false, eval (.Tuple xs x1 pt) X.env) :: starEach [] X.env := by rfl) (hpl : (backTo pos (starEach [.Tuple xs x1 pt] X.env)).any (·.1) = false := by rfl) :
    PE X (.Call (.Name "isinstance" p) [e, .Tuple xs x1 pt] [] pos) (tD X.K X.mg W (d1 (gIsEs es Ts) f)) :=
  PEimp (pe_callB call_isKT hg hm (by decide +kernel) (pa_cons ha (pa_cons (pe_tup nm.pa) pa_nil he2) he) (by decide) (by decide) he hpl) fun σ H Q h => isEs_of hx hn hl σ H Q h
end
end DL

set_option Elab.async false
set_option linter.all false
set_option maxRecDepth 100000
set_option maxHeartbeats 1000000
set_option autoImplicit false
/-! the data layer 24: a dict of one's own, handed to a def that takes from it -/
namespace DL
open PySem L2
inductive RK where
  | ok (d : PD) (m : Kv)
  | ex (c : Str) (m : Kv)
  | no
section
variable {K : PySem.W.Frag} {S H : Hp} {vs : List V} {ds : List PD} {N : List Str}
end
section
variable {P : Program} {w : World} {K : PySem.W.Frag} {mg : MG} {base : Heap}
end
/-! ### x.pop(k), x handed in -/
section
variable {K : PySem.W.Frag} {G : F} {S H : Hp} {σ : L2.St} {ρ : En}
end
section
variable {X : Cx} {W : WX} {fk : En → R PD} {ek : Expr} {pos : Pos} {x : Str}
end
/-! ### y = f(.., x, ..), x a dict of one's own -/
section
variable {K : PySem.W.Frag} {G : F} {S H : Hp} {σ : L2.St} {ρ : En}
end
section
variable {X : Cx} {W : WX} {fa : En → R (List PD)} {e : Expr} {es : List Expr} {pos p spos py : Pos} {x y : Str} {k n i j : Nat} {Bs : List (List PD)} {ds : List PD}
end
end DL

set_option Elab.async false
set_option linter.all false
set_option maxRecDepth 100000
set_option maxHeartbeats 1000000
set_option autoImplicit false
/-! the data layer 25: a, b = x.pop(i) of a list of one's own; return x, x one's own -/
namespace DL
open PySem L2
section
variable {X : Cx} {W : WX} {x : Str} {e : Expr} {f : En → R PD} {p apos cpos pos : Pos}
end
end DL

set_option Elab.async false
set_option linter.all false
set_option maxRecDepth 100000
set_option maxHeartbeats 1000000
set_option autoImplicit false
/-! the data layer 26: list(x), x a dict -/
namespace DL
open PySem L2
section
variable {X : Cx} {W : WX} {pos p : Pos} {x : Str}
end
end DL

set_option Elab.async false
set_option linter.all false
set_option maxRecDepth 100000
set_option maxHeartbeats 1000000
set_option autoImplicit false
/-! the data layer 27: sorted(x) of boards (pairs of triples of ints) -/
namespace DL
open PySem L2
open PySem.W (EachIs AllAlike Sortable alike alikeAll)
section
variable {X : Cx}
end
end DL

set_option Elab.async false
set_option linter.all false
set_option maxRecDepth 100000
set_option maxHeartbeats 4000000
set_option autoImplicit false
/-! the data layer 28: list(zip(x, y)) of two lists -/
namespace DLZ
open PySem PySem.Spec PyProof.Rows RT L2
/-- where a zip stands whose tuples are kept; the new list lies behind it -/
def ZSt (h : Heap) (lo l1 l2 : Addr) (xs ys : Array Value) (i : Nat) : Prop :=
  IsPair h (lo + 2) (.ref lo) (.ref (lo + 1)) ∧ h.IsListIter lo l1 i ∧ h.IsListIter (lo + 1) l2 i ∧ h.IsList l1 xs ∧ h.IsList l2 ys ∧
    ((IsZip h (lo + 4) (lo + 2) (lo + 3) .none ∧ ∃ a b, IsPair h (lo + 3) a b) ∨ ∃ T f oT, IsZipHeld h (lo + 4) (lo + 2) (lo + 3) T f ∧ h.get? T = some oT ∧ lo + 5 < T)
theorem ZSt.keep {h h' : Heap} {lo l1 l2 : Addr} {xs ys : Array Value} {i : Nat} (z : ZSt h lo l1 l2 xs ys i) (h1 : l1 < lo) (h2 : l2 < lo) (hk : ∀ b o, b ≠ lo + 5 → h.get? b = some o → h'.get? b = some o) : ZSt h' lo l1 l2 xs ys i := by
  obtain ⟨a1, a2, a3, a4, a5, a6⟩ := z
  have e1 : l1 ≠ lo + 5 := fun e => by rw [e] at h1; exact absurd h1 (by show ¬ (_ : Nat) < _; omega)
  have e2 : l2 ≠ lo + 5 := fun e => by rw [e] at h2; exact absurd h2 (by show ¬ (_ : Nat) < _; omega)
  have n0 : lo ≠ lo + 5 := Nat.ne_of_lt (Nat.lt_add_of_pos_right (by decide))
  have nk : ∀ k, k < 5 → lo + k ≠ lo + 5 := fun k hk => Nat.ne_of_lt (Nat.add_lt_add_left hk lo)
  refine ⟨hk _ _ (nk 2 (by decide)) a1, a2.at fun o e => hk _ o n0 e, a3.at fun o e => hk _ o (nk 1 (by decide)) e, a4.at fun o e => hk _ o e1 e, a5.at fun o e => hk _ o e2 e, ?_⟩
  rcases a6 with ⟨z, a, b, p⟩ | ⟨T, f, oT, z, q, r⟩
  · exact .inl ⟨hk _ _ (nk 4 (by decide)) z, a, b, hk _ _ (nk 3 (by decide)) p⟩
  · exact .inr ⟨T, f, oT, hk _ _ (nk 4 (by decide)) z, hk _ _ (Nat.ne_of_gt r) q, r⟩
abbrev mk2 (u v : Value) : Obj := { cls := .type "tuple", data := .seq #[u, v] }
structure ZG (xs ys : Array Value) (lo : Addr) (h : Heap) (as : List Addr) : Prop where
  rise : as.Pairwise (· < ·)
  above : ∀ a ∈ as, lo + 5 < a
  pairs : ∀ (j : Nat) (a : Addr), as[j]? = some a → ∃ u v, xs[j]? = some u ∧ ys[j]? = some v ∧ h.get? a = some (mk2 u v)
theorem ZG.there {xs ys : Array Value} {lo : Addr} {h : Heap} {as : List Addr} (g : ZG xs ys lo h as) {a : Addr} (ha : a ∈ as) : a < h.objs.size := by
  obtain ⟨j, hj⟩ := List.mem_iff_getElem?.mp ha
  obtain ⟨_, _, _, _, e⟩ := g.pairs j a hj
  exact Heap.lt_size e
section
variable {prog : Program} {w : World} {A : Around} {E : Value → Shared → Prop} {s : Shared} {lo l1 l2 : Addr} {xs ys : Array Value}
end
section
variable {prog : Program} {w : World} {A : Around} {s : Shared} {R : Result → Shared → Prop} {lo l1 l2 : Addr} {xs ys : Array Value}
end
end DLZ
namespace DL
open PySem PySem.Spec PyProof.Rows L2 DLZ
/-- pairs laid one after the other, as tuples at as -/
inductive LayT : Hp → List Addr → List (V × V) → Hp → Prop
  | nil {H : Hp} : LayT H [] [] H
  | cons {H H2 : Hp} {a : Addr} {as : List Addr} {x y : V} {ps : List (V × V)} : H a = none → LayT (upd H a (.tup [x, y])) as ps H2 → LayT H (a :: as) ((x, y) :: ps) H2
section
variable {X : Cx}
end
section
variable {X : Cx} {W : WX}
end
end DL

set_option Elab.async false
set_option linter.all false
set_option maxRecDepth 100000
set_option maxHeartbeats 4000000
set_option autoImplicit false
/-! the data layer 29: texts: for over a text, partition, rfind, count, split, join, int of a text, replace of written texts -/
namespace DL
open PySem L2 PySem.Spec PyProof.Rows
/-! ### sign by sign -/
def asS : PD → R (List PD)
  | .str x => .ok (x.cps.toList.map fun c => .str ⟨#[c]⟩)
  | _ => .no
def iS (f : En → R PD) : En → R (List PD) := fun ρ => (f ρ).bind asS
theorem its_ok {K : PySem.W.Frag} {S : Hp} {x : Str} : ItOk K S (Its x) (x.cps.toList.map fun c => .str ⟨#[c]⟩) := by
  intro S1 H1 s1 s2 i
  refine ⟨fun d hd => ?_, fun hl => ?_⟩
  · rw [List.getElem?_map] at hd
    cases q : x.cps.toList[i]? with
    | none => rw [q] at hd; cases hd
    | some c =>
      rw [q] at hd
      cases hd
      have hi : i < x.cps.size := by
        have := (List.getElem?_eq_some_iff.mp q).1
        simpa using this
      refine ⟨hi, fun v H2 ⟨e, c', hc, hv⟩ => ?_⟩
      subst e hv
      rw [← Array.getElem?_toList, q] at hc
      cases hc
      exact ⟨S1, Ext.refl s2, .str _⟩
  · rw [List.length_map] at hl
    show x.cps.size ≤ i
    simpa using hl
section
variable {X : Cx} {W : WX} {tg l o e : Expr} {f f1 f2 : En → R PD} {fs : En → R (List PD)} {p pos apos : Pos} {x : Str}
theorem pi_s (hl : PE X l (tD X.K X.mg W f)) : PI X tg l (tI X.K X.mg W (iS f)) := PIimp (pi_str hl) fun σ H Q ⟨G, ρ, S, rel, h⟩ => by
  refine tG.mk rel (wG.imp ?_ (wG.bind (rp := Rp X.K) h))
  rintro v H1 ⟨S1, a, e1, ra, h1⟩
  cases a with
  | str x =>
    cases ra
    exact ⟨_, rfl, h1 _ S1 H1 (Ext.refl e1.inn) its_ok⟩
  | _ => exact h1.elim
/-! ### methods of a text -/
theorem pd_sm {id : String} {name : Str} {r : V → List V → Hp → VK → Prop} {g : PD → PD → R PD} (slot : Slot "str" name id) (ty : typeOf (.builtin id) = pure (.type "method_descriptor")) (rule : MtR X id r)
    (hg : ∀ (a : Str) (u : V) (b : PD) (S H : Hp) (Q : VK), Same S H → Rp X.K S u b → (match g (.str a) b with
      | .ok d => ∀ v S' H', Ext S H S' H' → Rp X.K S' v d → Q v H'
      | _ => False) → r (.str a) [u] H Q) (hn : NoEx g)
    (ho : PE X o (tD X.K X.mg W f1)) (he : PE X e (tD X.K X.mg W f2)) (hs : starEach [e] X.env = [(false, eval e X.env)] := by rfl) (hbase : attributeBase o name X.env (eval o X.env) = eval o X.env := by rfl)
    (hline : (apos.endLine == pos.line) = true := by rfl) : PE X (.Call (.Attribute o name apos) [e] [] pos) (tD X.K X.mg W (dM isS g f1 f2)) := PEimp (pe_m1 slot ty rule ho he hs hbase hline) fun σ H Q ⟨G, ρ, S, rel, h⟩ => by
  refine tG.mk rel (wG.imp ?_ (wG.bind (rp := Rp X.K) h))
  rintro v H1 ⟨S1, a, e1, ra, h1⟩
  cases a with
  | str z =>
    cases ra
    rw [if_pos (show isS (.str z) = true from rfl)] at h1
    refine ⟨⟨_, rfl⟩, tG.mk (rel.ext e1) (wG.imp ?_ (wG.bind (rp := Rp X.K) h1))⟩
    rintro y H2 ⟨S2, b, e2, rb, h2⟩
    refine hg z y b S2 H2 Q e2.inn rb ?_
    cases q : g (.str z) b with
    | ok d => rw [q] at h2; exact h2
    | ex c => exact absurd q (hn _ _ _)
    | no => rw [q] at h2; exact h2
  | _ => rw [if_neg (by intro z; cases z)] at h1; exact h1.elim
def gm_partition : PD → PD → R PD
  | .str a, .str b => if (b.length == 0) = false ∧ a.length ≤ sizeLine then .ok (.tuple [.str (Txt.partition a b).1, .str (Txt.partition a b).2.1, .str (Txt.partition a b).2.2]) else .no
  | _, _ => .no
theorem nx_partition : NoEx gm_partition := fun a b c h => by
  unfold gm_partition at h
  split at h
  · split at h <;> cases h
  · cases h
theorem pd_m_partition (ho : PE X o (tD X.K X.mg W f1)) (he : PE X e (tD X.K X.mg W f2)) (hs : starEach [e] X.env = [(false, eval e X.env)] := by rfl) (hbase : attributeBase o "partition" X.env (eval o X.env) = eval o X.env := by rfl)
    (hline : (apos.endLine == pos.line) = true := by rfl) : PE X (.Call (.Attribute o "partition" apos) [e] [] pos) (tD X.K X.mg W (dM isS gm_partition f1 f2)) :=
  pd_sm F.slot_str_partition F.type_str_partition mt_partition (fun a u b S H Q hS rb h => by
    cases b with
    | str b =>
      cases rb
      unfold gm_partition at h
      dsimp only at h
      by_cases c : (b.length == 0) = false ∧ a.length ≤ sizeLine
      · rw [if_pos c] at h
        refine ⟨a, b, rfl, rfl, c.1, c.2, fun p hp => ?_⟩
        have e := Ext.known (S := S) (o := .tup [.str (Txt.partition a b).1, .str (Txt.partition a b).2.1, .str (Txt.partition a b).2.2]) hS hp
        exact h _ _ _ e (.tup (SqT.of upd_same) (.cons (.str _) (.cons (.str _) (.cons (.str _) .nil))))
      · rw [if_neg c] at h; exact h.elim
    | _ => exact h.elim) nx_partition ho he hs hbase hline
def gm_rfind : PD → PD → R PD
  | .str a, .str b => .ok (.int (Txt.rfind a b))
  | _, _ => .no
theorem nx_rfind : NoEx gm_rfind := fun a b c h => by
  unfold gm_rfind at h
  split at h <;> cases h
theorem pd_m_rfind (ho : PE X o (tD X.K X.mg W f1)) (he : PE X e (tD X.K X.mg W f2)) (hs : starEach [e] X.env = [(false, eval e X.env)] := by rfl) (hbase : attributeBase o "rfind" X.env (eval o X.env) = eval o X.env := by rfl)
    (hline : (apos.endLine == pos.line) = true := by rfl) : PE X (.Call (.Attribute o "rfind" apos) [e] [] pos) (tD X.K X.mg W (dM isS gm_rfind f1 f2)) :=
  pd_sm F.slot_str_rfind F.type_str_rfind mt_rfind (fun a u b S H Q hS rb h => by
    cases b with
    | str b =>
      cases rb
      exact ⟨a, b, rfl, rfl, h _ S H (Ext.refl hS) (.int _)⟩
    | _ => exact h.elim) nx_rfind ho he hs hbase hline
def gm_countS : PD → PD → R PD
  | .str a, .str b => .ok (.int (Txt.count a b))
  | _, _ => .no
theorem nx_countS : NoEx gm_countS := fun a b c h => by
  unfold gm_countS at h
  split at h <;> cases h
theorem pd_m_countS (ho : PE X o (tD X.K X.mg W f1)) (he : PE X e (tD X.K X.mg W f2)) (hs : starEach [e] X.env = [(false, eval e X.env)] := by rfl) (hbase : attributeBase o "count" X.env (eval o X.env) = eval o X.env := by rfl)
    (hline : (apos.endLine == pos.line) = true := by rfl) : PE X (.Call (.Attribute o "count" apos) [e] [] pos) (tD X.K X.mg W (dM isS gm_countS f1 f2)) :=
  pd_sm F.slot_str_count F.type_str_count mt_count (fun a u b S H Q hS rb h => by
    cases b with
    | str b =>
      cases rb
      exact ⟨a, b, rfl, rfl, h _ S H (Ext.refl hS) (.int _)⟩
    | _ => exact h.elim) nx_countS ho he hs hbase hline
/-! ### int of a text -/
def gIntT : List PD → R PD
  | [.str a] => (match PySem.intText? a with
    | some n => if a.length ≤ 640 then .ok (.int n) else .no
    | none => .no)
  | _ => .no
theorem nx_intT : NoExL gIntT := fun a c h => by
  unfold gIntT at h
  split at h
  · split at h
    · split at h <;> cases h
    · cases h
  · cases h
theorem cd_intT : CallD X (.type "int") gIntT := by
  refine CallD_ofX fun pins s σ H vs us Q S ds d I r hS ra q h => ?_
  unfold gIntT at q
  split at q
  · rename_i a
    cases ra with
    | cons r1 r2 =>
      cases r2
      cases r1
      cases z : PySem.intText? a with
      | none => rw [z] at q; cases q
      | some n =>
        rw [z] at q
        dsimp only at q
        by_cases c : a.length ≤ 640
        · rw [if_pos c] at q
          cases q
          exact call_int_str pins s σ H _ us Q I r ⟨a, n, rfl, z, c, h _ S H (Ext.refl hS) (.int _)⟩
        · rw [if_neg c] at q; cases q
  · cases q
/-! ### replace: a token is out -/
def gm_replace (y z : Str) : PD → R PD
  | .str x => if x.length + (x.length + 1) * z.length ≤ 16777216 then .ok (.str (Txt.replace x y z)) else .no
  | _ => .no
theorem PETimp {t t' : TE} (h : PET X e t) (i : ∀ σ H Q, t' σ H Q → t σ H Q) : PET X e t' := fun pins s σ H Q h0 I q => h pins s σ H Q h0 I (i σ H Q q)
theorem PSTimp {st : Stmt} {t t' : TS} (h : PST X st t) (i : ∀ D σ H, t' D σ H → t D σ H) : PST X st t' := fun pins s σ H D h0 I q => h pins s σ H D h0 I (i D σ H q)
theorem PSsTimp {st : List Stmt} {t t' : TS} (h : PSsT X st t) (i : ∀ D σ H, t' D σ H → t D σ H) : PSsT X st t' := fun pins s σ H D h0 I q => h pins s σ H D h0 I (i D σ H q)
theorem pdt_replace {y z : Str} {j k : Nat} {c0 c1 : Pos} (ho : PE X o (tD X.K X.mg W f)) (hyz : (y == z) = false := by decide)
    (hst : starEach [.Constant (.str y) j c0, .Constant (.str z) k c1] X.env = [(false, eval (.Constant (.str y) j c0) X.env), (false, eval (.Constant (.str z) k c1) X.env)] := by rfl)
    (hbase : attributeBase o "replace" X.env (eval o X.env) = eval o X.env := by rfl) (hline : (apos.endLine == pos.line) = true := by rfl) :
    PET X (.Call (.Attribute o "replace" apos) [.Constant (.str y) j c0, .Constant (.str z) k c1] [] pos) (tD X.K X.mg W (d1 (gm_replace y z) f)) :=
  PETimp (CwR.pet_replC ho hyz hst hbase hline) fun σ H Q ⟨G, ρ, S, rel, h⟩ => by
    refine tG.mk rel (wG.imp ?_ (wG.bind (rp := Rp X.K) h))
    rintro v H1 ⟨S1, a, e1, ra, h1⟩
    cases a with
    | str x =>
      cases ra
      unfold gm_replace at h1
      dsimp only at h1
      by_cases c : x.length + (x.length + 1) * z.length ≤ 16777216
      · rw [if_pos c] at h1
        exact ⟨x, rfl, c, h1 _ S1 H1 (Ext.refl e1.inn) (.str _)⟩
      · rw [if_neg c] at h1; exact h1.elim
    | _ => exact h1.elim
theorem pdt_of (h : PE X e (tD X.K X.mg W f)) : PET X e (tD X.K X.mg W f) := CwR.PET.of h
theorem pdt_bin {a b : Expr} {op : Operator} {g : PD → PD → R PD} (ho : OpD X (binaryOp op) g) (hn : NoEx g) (ha : PET X a (tD X.K X.mg W f1)) (hb : PET X b (tD X.K X.mg W f2)) : PET X (.BinOp a op b pos) (tD X.K X.mg W (d2 g f1 f2)) :=
  PETimp (CwR.pet_op ho ha hb) (d2_of (fun _ _ _ _ h => h) hn)
section
variable {st : Stmt} {sts a b : List Stmt} {g h : En → Fl} {t : En → R Bool} {c : Expr}
theorem sdt_of (h : PS X st (tS X.K X.mg W g)) : PST X st (tS X.K X.mg W g) := PST.of h
theorem sdt_ret (he : PET X e (tD X.K X.mg W f)) : PST X (.Return (some e) pos) (tS X.K X.mg W (sRet f)) := PSTimp (CwR.pst_ret he) fun D σ H ⟨G, ρ, S, r, q⟩ =>
  tG.mk r (wG.imp (fun v H1 ⟨S1, a, e1, ra, r1, q1⟩ => q1 v S1 H1 r1.fin ra) (wS.ofE (rp := Rp X.K) r q))
theorem sdt_if (hc : PT X c (tDT X.K X.mg W t)) (ha : PSsT X a (tS X.K X.mg W g)) (hb : PSsT X b (tS X.K X.mg W h)) : PST X (.If c a b pos) (tS X.K X.mg W (sIf t g h)) := PSTimp (CwR.pst_if hc ha hb) fun D σ H ⟨G, ρ, S, r, q⟩ =>
  tG.mk r (wG.imp (fun v H1 ⟨S1, a, e1, ra, r1, q1⟩ => by
    cases ra
    cases v with
    | true => exact ⟨G, ρ, S1, r1, q1⟩
    | false => exact ⟨G, ρ, S1, r1, q1⟩) (wS.ofE (rp := rpB) r q))
theorem sdt_nil : PSsT X [] (tS X.K X.mg W sNx) := PSsT.of sd_nil
theorem sdt_cons (h1 : PST X st (tS X.K X.mg W g)) (h2 : PSsT X sts (tS X.K X.mg W h)) : PSsT X (st :: sts) (tS X.K X.mg W (sSeq g h)) := PSsTimp (psst_cons h1 h2) (tSeq_of (fun _ _ _ q => q) fun _ _ _ q => q)
theorem sdt_one (h1 : PST X st (tS X.K X.mg W g)) : PSsT X [st] (tS X.K X.mg W g) := CwR.psst_one h1
end
end
section
variable {P : Program} {w : World} {K : PySem.W.Frag} {mg : MG} {base : Heap}
/-- a promise of nothing -/
theorem fnok_no {k n : Nat} {f : Addr} {fd : FuncData} {ps : List Str} : FnOk P w K mg base (L2.CX P w) k f fd ps (spD K mg n fun _ => .no) :=
  ⟨fun vs H Q E h => by obtain ⟨_, _, _, _, _, h⟩ := h; exact h.elim, fun A outer s H args us vs Q E _ _ _ _ h => by obtain ⟨_, _, _, _, _, h⟩ := h; exact h.elim⟩
/-- a def in whose body a token is out -/
theorem okDT {x qual : Str} {params : Arguments} {body : List Stmt} {scope : Scope} {dvs : List V} {kws : List (Str × V)} {f : Addr} {fd : FuncData} {N ps : List Str} {k n : Nat} {den : En → Fl} (F : FunD K x qual params body scope dvs kws f fd) (S : FnScope N ps scope) (hn : ps.length = n)
    (hnc : ∀ y ∈ scope.names, y.2 ≠ .cell) (hps : 1 ≤ ps.length)
    (hb : ∀ (cdv : Value) (A : Around) (outer : List Env) (s : Shared) (H : Hp) (E : XK), Room k (A.deeper (PyProof.Rows.envOfC qual scope s.heap.objs.size f cdv)) → PSsT (cxOf (L2.CX P w) P w K mg base N qual scope f cdv A outer s H E) body (tS K mg (fun cls d _ H => E cls d H) den)) :
    FnOk P w K mg base (L2.CX P w) (k + 1) f fd ps (spD K mg n (fnD N.length den)) := by
  obtain ⟨oc, od, dV, kV, doc, pm, an, cdv, ct, osl, rfl, lk, hcd, _, _⟩ := F.ex
  refine fn_ofT lk hcd S hnc hps (fun vs H Q E h => ?_) (fun A outer s H vs Q E hr h => ⟨_, hb cdv A outer s H E hr, ?_⟩)
  · obtain ⟨S', ds, _, hr, hl, _⟩ := h
    rw [hr.length, hl, hn]
  · obtain ⟨S', ds, hS, hr2, hl, h⟩ := h
    refine ⟨⟨S', H, 0, [], []⟩, _, S', Rel.start hS hr2, ?_⟩
    unfold fnD at h
    cases q : den (ds.map (fun d => some (.d d)) ++ List.replicate (N.length - ds.length) none) with
    | nx ρ => rw [q] at h; exact fun σ S2 H2 s2 r => h .non S2 H2 r.fin .non
    | rt d => rw [q] at h; exact fun v S2 H2 e r => h v S2 H2 e r
    | rm d ρ => rw [q] at h; exact h.elim
    | rv x => rw [q] at h; exact h.elim
    | ex c ρ => rw [q] at h; exact fun cls σ S2 H2 m s2 r => h cls S2 H2 m r.fin
    | bk ρ => rw [q] at h; exact h.elim
    | ct ρ => rw [q] at h; exact h.elim
    | no => rw [q] at h; exact h.elim
end
end DL

set_option Elab.async false
set_option linter.all false
set_option maxRecDepth 100000
set_option maxHeartbeats 4000000
set_option autoImplicit false
/-! reckoning of dens by simp -/
namespace DL
open PySem L2

/-! ### bounds -/
class Bd (i : Int) (n : outParam Nat) : Prop where
  h : i.natAbs < 2 ^ n
theorem Bd.le {i : Int} {n m : Nat} [b : Bd i n] (h : n ≤ m) : i.natAbs < 2 ^ m := Nat.lt_of_lt_of_le b.h (Nat.pow_le_pow_right (by decide) h)
theorem ib_le {i : Int} {n : Nat} (h : i.natAbs < 2 ^ n) : ib i ≤ n := by
  unfold DL.ib Builtin.Int.intBits
  by_cases e : i = 0
  · subst e; simp
  · have : (i == 0) = false := by simpa using e
    rw [this]
    have h2 : i.natAbs ≠ 0 := by omega
    have := (Nat.log2_lt h2).mpr h
    simp only [Bool.false_eq_true, if_false]
    omega
theorem Bd.ib {i : Int} {n : Nat} [b : Bd i n] : ib i ≤ n := ib_le b.h
instance bd_mul {i j : Int} {n m : Nat} [a : Bd i n] [b : Bd j m] : Bd (i * j) (n + m) := ⟨by
  rw [Int.natAbs_mul, Nat.pow_add]
  exact Nat.mul_lt_mul'' a.h b.h⟩
theorem two_pow_max {n m : Nat} : 2 ^ n ≤ 2 ^ (max n m) ∧ 2 ^ m ≤ 2 ^ (max n m) := ⟨Nat.pow_le_pow_right (by decide) (Nat.le_max_left _ _), Nat.pow_le_pow_right (by decide) (Nat.le_max_right _ _)⟩
instance bd_add {i j : Int} {n m : Nat} [a : Bd i n] [b : Bd j m] : Bd (i + j) (max n m + 1) := ⟨by
  have h1 := a.h
  have h2 := b.h
  have h3 := @two_pow_max n m
  rw [Nat.pow_succ]
  omega⟩
instance bd_sub {i j : Int} {n m : Nat} [a : Bd i n] [b : Bd j m] : Bd (i - j) (max n m + 1) := ⟨by
  have h1 := a.h
  have h2 := b.h
  have h3 := @two_pow_max n m
  rw [Nat.pow_succ]
  omega⟩
instance bd_neg {i : Int} {n : Nat} [a : Bd i n] : Bd (-i) n := ⟨by rw [Int.natAbs_neg]; exact a.h⟩
instance bd_lit {k : Nat} : Bd (no_index (OfNat.ofNat k : Int)) ((OfNat.ofNat k : Nat).log2 + 1) := ⟨by
  show (Int.natAbs ((k : Nat) : Int)) < _
  rw [Int.natAbs_natCast]
  exact Nat.lt_log2_self⟩
theorem natAbs_fdiv_le (i j : Int) : (i.fdiv j).natAbs ≤ i.natAbs := by
  match i, j with
  | 0, j => simp
  | .ofNat (m+1), .ofNat n =>
    show ((m+1)/n : Nat) ≤ m+1
    exact Nat.div_le_self _ _
  | .ofNat (m+1), .negSucc n =>
    show m / (n+1) + 1 ≤ m + 1
    exact Nat.succ_le_succ (Nat.div_le_self _ _)
  | .negSucc m, .ofNat 0 => simp
  | .negSucc m, .ofNat (n+1) =>
    show m / (n+1) + 1 ≤ m + 1
    exact Nat.succ_le_succ (Nat.div_le_self _ _)
  | .negSucc m, .negSucc n =>
    show (m+1)/(n+1) ≤ m+1
    exact Nat.div_le_self _ _
theorem natAbs_fmod_lt (a : Int) {b : Int} (hb : b ≠ 0) : (a.fmod b).natAbs < b.natAbs := by
  have h1 := Int.emod_nonneg a hb
  have h2 := Int.emod_lt a hb
  rw [Int.fmod_eq_emod]
  split
  · omega
  · rename_i h
    have h3 : ¬ b ∣ a := fun z => h (.inr z)
    have h4 : a % b ≠ 0 := fun z => h3 (Int.dvd_of_emod_eq_zero z)
    have h5 : ¬ 0 ≤ b := fun z => h (.inl z)
    omega
instance bd_fdiv {i j : Int} {n : Nat} [a : Bd i n] : Bd (i.fdiv j) n := ⟨Nat.lt_of_le_of_lt (natAbs_fdiv_le i j) a.h⟩
class NZ (j : Int) : Prop where
  h : j ≠ 0
instance nz_lit {k : Nat} [h : NeZero k] : NZ (no_index (OfNat.ofNat k : Int)) := ⟨by
  have := h.out
  show ((k : Nat) : Int) ≠ 0
  omega⟩
instance bd_fmod {i j : Int} {m : Nat} [b : Bd j m] [z : NZ j] : Bd (i.fmod j) m := ⟨Nat.lt_trans (natAbs_fmod_lt i z.h) b.h⟩
instance bd_emod {i j : Int} {m : Nat} [b : Bd j m] [z : NZ j] : Bd (i % j) m := ⟨by
  have h1 := Int.emod_nonneg i z.h
  have h2 := Int.emod_lt i z.h
  have h3 := b.h
  omega⟩
instance bd_ediv {i j : Int} {n : Nat} [a : Bd i n] : Bd (i / j) n := ⟨Nat.lt_of_le_of_lt (Int.natAbs_ediv_le_natAbs i j) a.h⟩
instance bd_pow {i : Int} {n k : Nat} [a : Bd i n] : Bd (i ^ k) (n * k + 1) := ⟨by
  rw [Int.natAbs_pow]
  have h := a.h
  have : i.natAbs ^ k ≤ (2 ^ n) ^ k := Nat.pow_le_pow_left (Nat.le_of_lt h) k
  rw [← Nat.pow_mul] at this
  rw [Nat.pow_succ]
  have := Nat.two_pow_pos (n * k)
  omega⟩
theorem Bd.mono {i : Int} {n m : Nat} (b : Bd i n) (h : n ≤ m) : Bd i m := ⟨Bd.le h⟩
theorem pylong_of {i j : Int} {m : Nat} [b : Bd j m] (h : m ≤ 9000) : Builtin.divisionGoesByPylong i j = false := by
  unfold Builtin.divisionGoesByPylong
  have hd : (if (j == 0) = true then 0 else j.natAbs.log2 / 30 + 1) ≤ 300 := by
    by_cases e : j = 0
    · subst e; simp
    · have h1 : (j == 0) = false := by simpa using e
      rw [h1]
      simp only [Bool.false_eq_true, if_false]
      have h2 : j.natAbs ≠ 0 := by omega
      have := (Nat.log2_lt h2).mpr (Bd.le (i := j) h)
      omega
  simp only [Bool.and_eq_false_iff, decide_eq_false_iff_not]
  exact .inl (by omega)
/-! ### operators on numbers -/
section
variable {i j : Int} {n m : Nat}
theorem gAdd_i : gAdd (.int i) (.int j) = .ok (.int (i + j)) := rfl
theorem gSub_i : gSub (.int i) (.int j) = .ok (.int (i - j)) := rfl
theorem gMul_i [a : Bd i n] [b : Bd j m] (h : n + m ≤ 134217728) : gMul (.int i) (.int j) = .ok (.int (i * j)) := by
  have h1 := Bd.ib (i := i)
  have h2 := Bd.ib (i := j)
  unfold gMul
  exact if_pos (by omega)
theorem gDiv_i [b : Bd j m] (hj : j ≠ 0) (h : m ≤ 9000) : gDiv (.int i) (.int j) = .ok (.int (i.fdiv j)) := by
  unfold gDiv
  exact if_pos ⟨hj, pylong_of h⟩
theorem gMod_i (hj : j ≠ 0) : gMod (.int i) (.int j) = .ok (.int (i.fmod j)) := by
  unfold gMod
  exact if_pos hj
theorem gDiv_p [b : Bd j m] (hj : 0 < j) (h : m ≤ 9000) : gDiv (.int i) (.int j) = .ok (.int (i / j)) := by
  rw [gDiv_i (by omega) h, Int.fdiv_eq_ediv_of_nonneg _ (by omega)]
theorem gMod_p (hj : 0 < j) : gMod (.int i) (.int j) = .ok (.int (i % j)) := by
  rw [gMod_i (by omega), Int.fmod_eq_emod_of_nonneg _ (by omega)]
theorem gPow_i [a : Bd i n] (hj : 0 ≤ j) (h : (n : Int) * j ≤ 134217728) : gPow (.int i) (.int j) = .ok (.int (i ^ j.toNat)) := by
  unfold gPow
  have h1 := Bd.ib (i := i)
  exact if_pos ⟨hj, Int.le_trans (Int.mul_le_mul_of_nonneg_right (by omega) hj) h⟩
theorem gPow_l {k : Nat} [a : Bd i n] (h : n * k ≤ 134217728) : gPow (.int i) (.int (no_index (OfNat.ofNat k : Int))) = .ok (.int (i ^ (OfNat.ofNat k : Nat))) := by
  rw [gPow_i (j := (OfNat.ofNat k : Int)) (by show (0 : Int) ≤ ((k : Nat) : Int); omega) (by
    show (n : Int) * ((k : Nat) : Int) ≤ 134217728
    have : ((n * k : Nat) : Int) = (n : Int) * (k : Int) := Int.natCast_mul n k
    omega)]
  rfl
theorem gShl_l {k : Nat} [a : Bd i n] (h : n + k ≤ 134217728) : gShl (.int i) (.int (no_index (OfNat.ofNat k : Int))) = .ok (.int (i * 2 ^ (OfNat.ofNat k : Nat))) := by
  have h1 := Bd.ib (i := i)
  unfold gShl
  exact if_pos ⟨(by show (0 : Int) ≤ ((k : Nat) : Int); omega), (by show (DL.ib i : Int) + ((k : Nat) : Int) ≤ _; omega)⟩
theorem gShr_l {k : Nat} : gShr (.int i) (.int (no_index (OfNat.ofNat k : Int))) = .ok (.int (i / 2 ^ (OfNat.ofNat k : Nat))) := by
  unfold gShr
  exact if_pos (by show (0 : Int) ≤ ((k : Nat) : Int); omega)
theorem gLt_i : gLt (.int i) (.int j) = .ok (.bool (decide (i < j))) := rfl
theorem gLe_i : gLe (.int i) (.int j) = .ok (.bool (decide (i ≤ j))) := rfl
theorem gGt_i : gGt (.int i) (.int j) = .ok (.bool (decide (j < i))) := rfl
theorem gGe_i : gGe (.int i) (.int j) = .ok (.bool (decide (j ≤ i))) := rfl
theorem gEq_i : gEq (.int i) (.int j) = .ok (.bool (decide (i = j))) := rfl
theorem gNe_i : gNe (.int i) (.int j) = .ok (.bool (!decide (i = j))) := rfl
theorem gNeg_i : gNeg (.int i) = .ok (.int (-i)) := rfl
theorem gAbs_i : gAbs [.int i] = .ok (.int (i.natAbs : Int)) := by
  show R.ok (PyData.int (if i < 0 then -i else i)) = _
  congr 2
  split <;> omega
theorem gInt_i : gInt [.int i] = .ok (.int i) := rfl
theorem gInt_b {b : Bool} : gInt [.bool b] = .ok (.int (if b = true then 1 else 0)) := rfl
theorem gEq_s {x y : Str} : gEq (.str x) (.str y) = .ok (.bool (decide (x = y))) := rfl
theorem gNe_s {x y : Str} : gNe (.str x) (.str y) = .ok (.bool (!decide (x = y))) := rfl
theorem gEq_b {x y : Bool} : gEq (.bool x) (.bool y) = .ok (.bool (x == y)) := rfl
theorem gNe_b {x y : Bool} : gNe (.bool x) (.bool y) = .ok (.bool (!(x == y))) := rfl
instance bd_abs [a : Bd i n] : Bd ((i.natAbs : Nat) : Int) n := ⟨by rw [Int.natAbs_natCast]; exact a.h⟩
instance bd_ite {p : Prop} [Decidable p] [a : Bd i n] [b : Bd j m] : Bd (if p then i else j) (max n m) := ⟨by
  have h1 := a.h
  have h2 := b.h
  have h3 := @two_pow_max n m
  split <;> omega⟩
end

/-! ### flow -/
def Fl.seq (r : Fl) (g : En → Fl) : Fl := match r with
  | .nx ρ => g ρ
  | r => r
def R.fl {A : Type} (r : R A) (ρ : En) (k : A → Fl) : Fl := match r with
  | .ok a => k a
  | .ex c => .ex c ρ
  | .no => .no
def R.bind2 {A B C : Type} (g : A → B → R C) (x : R A) (y : R B) : R C := match x with
  | .ok a => (match y with
    | .ok b => g a b
    | .ex c => .ex c
    | .no => .no)
  | .ex c => .ex c
  | .no => .no
def kSet (i : Nat) (ρ : En) (d : PD) : Fl := .nx (ρ.set i (some (.d d)))
def kIf (f g : En → Fl) (ρ : En) (b : Bool) : Fl := if b = true then f ρ else g ρ
def kPar (i j : Nat) (ρ : En) (a b : PD) : R Fl := .ok (.nx ((ρ.set i (some (.d a))).set j (some (.d b))))
def kAsg (tg : Tg) (ρ : En) (d : PD) : Fl := match tg.put d ρ with
  | some ρ' => .nx ρ'
  | none => .no
def kFor (tg : Tg) (body : En → Fl) (ρ : En) (ds : List PD) : Fl := sForL tg body ds ρ
def kNx (ρ : En) (_ : PD) : Fl := .nx ρ
def kId (x : Fl) : Fl := x
section
variable {A B : Type} {f f1 f2 : En → R PD} {fl : En → R (List PD)} {t t1 t2 : En → R Bool} {g h : En → Fl} {ρ : En} {i j : Nat} {r : Fl} {d e : PD} {ds : List PD} {c : Str} {b : Bool}
theorem ev_seq : sSeq g h ρ = (g ρ).seq h := rfl
theorem seq_nx : (Fl.nx ρ).seq h = h ρ := rfl
theorem seq_rt : (Fl.rt d).seq h = .rt d := rfl
theorem seq_ex : (Fl.ex c ρ).seq h = .ex c ρ := rfl
theorem seq_bk : (Fl.bk ρ).seq h = .bk ρ := rfl
theorem seq_ct : (Fl.ct ρ).seq h = .ct ρ := rfl
theorem seq_ite {p : Prop} [Decidable p] {x y : Fl} : (if p then x else y).seq h = if p then x.seq h else y.seq h := by split <;> rfl
theorem fl_ok {a : A} {k : A → Fl} : (R.ok a).fl ρ k = k a := rfl
theorem fl_ex {k : A → Fl} : (R.ex c : R A).fl ρ k = .ex c ρ := rfl
theorem fl_ite {p : Prop} [Decidable p] {x y : R A} {k : A → Fl} : (if p then x else y).fl ρ k = if p then x.fl ρ k else y.fl ρ k := by split <;> rfl
theorem ev_set : sSet i f ρ = (f ρ).fl ρ (kSet i ρ) := rfl
theorem kSet_ev : kSet i ρ d = .nx (ρ.set i (some (.d d))) := rfl
theorem ev_ret : sRet f ρ = (f ρ).fl ρ Fl.rt := rfl
theorem ev_nx : sNx ρ = .nx ρ := rfl
theorem ev_raise : sRaise c ρ = .ex c ρ := rfl
theorem ev_if : sIf t g h ρ = (t ρ).fl ρ (kIf g h ρ) := rfl
theorem kIf_ev : kIf g h ρ b = if b = true then g ρ else h ρ := rfl
theorem ev_drop : sDrop f ρ = (f ρ).fl ρ (kNx ρ) := rfl
theorem kNx_ev : kNx ρ d = .nx ρ := rfl
theorem ev_par : sPar i j f1 f2 ρ = (R.bind2 (kPar i j ρ) (f1 ρ) (f2 ρ)).fl ρ kId := by
  unfold sPar sE R.bind2 R.fl
  cases e1 : f1 ρ with
  | ok a => cases e2 : f2 ρ <;> simp only [e2] <;> rfl
  | ex c => rfl
  | no => rfl
theorem kPar_ev : kPar i j ρ d e = .ok (.nx ((ρ.set i (some (.d d))).set j (some (.d e)))) := rfl
theorem kId_ev : kId r = r := rfl
theorem ev_asg {tg : Tg} : sAsg tg f ρ = (f ρ).fl ρ (kAsg tg ρ) := rfl
theorem kAsg_ev {tg : Tg} : kAsg tg ρ d = match tg.put d ρ with
  | some ρ' => .nx ρ'
  | none => .no := rfl
theorem ev_for {it : En → R (List PD)} {tg : Tg} : sFor it tg g ρ = (it ρ).fl ρ (kFor tg g ρ) := rfl
theorem kFor_ev {tg : Tg} : kFor tg g ρ ds = sForL tg g ds ρ := rfl
/-! values -/
def dVg : Option (Option SV) → R PD
  | some (some (.d d)) => .ok d
  | _ => .no
theorem ev_V : dV i ρ = dVg ρ[i]? := rfl
theorem dVg_ok : dVg (some (some (.d d))) = .ok d := rfl
theorem ev_C : dC d ρ = .ok d := rfl
theorem ev_1 {g : PD → R PD} : d1 g f ρ = (f ρ).bind g := rfl
theorem ev_2 {g : PD → PD → R PD} : d2 g f1 f2 ρ = R.bind2 g (f1 ρ) (f2 ρ) := by
  unfold d2 R.bind2 R.bind
  cases f1 ρ with
  | ok a => cases f2 ρ <;> rfl
  | ex c => rfl
  | no => rfl
theorem bind2_ok {C : Type} {g : A → B → R C} {a : A} {b : B} : R.bind2 g (.ok a) (.ok b) = g a b := rfl
theorem bind2_ite1 {C : Type} {g : A → B → R C} {p : Prop} [Decidable p] {x y : R A} {z : R B} : R.bind2 g (if p then x else y) z = if p then R.bind2 g x z else R.bind2 g y z := by split <;> rfl
theorem bind2_ite2 {C : Type} {g : A → B → R C} {p : Prop} [Decidable p] {x y : R B} {a : A} : R.bind2 g (.ok a) (if p then x else y) = if p then R.bind2 g (.ok a) x else R.bind2 g (.ok a) y := by split <;> rfl
theorem bind_ite {C : Type} {g : A → R C} {p : Prop} [Decidable p] {x y : R A} : R.bind (if p then x else y) g = if p then x.bind g else y.bind g := by split <;> rfl
theorem ev_A {g : List PD → R PD} : dA g fl ρ = (fl ρ).bind g := rfl
theorem ev_nil : dNil ρ = .ok [] := rfl
def kCons (d : PD) (ds : List PD) : R (List PD) := .ok (d :: ds)
theorem ev_cons : dCons f fl ρ = R.bind2 kCons (f ρ) (fl ρ) := by
  unfold dCons R.bind2 R.bind kCons
  cases f ρ with
  | ok a => cases fl ρ <;> rfl
  | ex c => rfl
  | no => rfl
theorem kCons_ev : kCons d ds = .ok (d :: ds) := rfl
theorem ev_T : dT f ρ = (f ρ).bind toB := rfl
theorem toB_ev : toB (.bool b) = .ok b := rfl
def kAnd (t : En → R Bool) (ρ : En) (a : Bool) : R Bool := if a = true then t ρ else .ok false
def kOr (t : En → R Bool) (ρ : En) (a : Bool) : R Bool := if a = true then .ok true else t ρ
def kNot (a : Bool) : R Bool := .ok (!a)
theorem ev_and : dAnd t1 t2 ρ = (t1 ρ).bind (kAnd t2 ρ) := rfl
theorem ev_or : dOr t1 t2 ρ = (t1 ρ).bind (kOr t2 ρ) := rfl
theorem ev_not : dNot t ρ = (t ρ).bind kNot := rfl
theorem kAnd_ev : kAnd t ρ b = if b = true then t ρ else .ok false := rfl
theorem kOr_ev : kOr t ρ b = if b = true then .ok true else t ρ := rfl
theorem kNot_ev : kNot b = .ok (!b) := rfl
def kAndV (f : En → R PD) (ρ : En) (a : PD) : R PD := (toB a).bind fun c => if c = true then f ρ else .ok (.bool false)
def kOrV (f : En → R PD) (ρ : En) (a : PD) : R PD := (toB a).bind fun c => if c = true then .ok (.bool true) else f ρ
def kNotV (a : PD) : R PD := (toB a).bind fun c => .ok (.bool (!c))
theorem ev_andV : dAndV f1 f2 ρ = (f1 ρ).bind (kAndV f2 ρ) := rfl
theorem ev_orV : dOrV f1 f2 ρ = (f1 ρ).bind (kOrV f2 ρ) := rfl
theorem ev_notV : dNotV f ρ = (f ρ).bind kNotV := rfl
theorem kAndV_ev : kAndV f ρ (.bool b) = if b = true then f ρ else .ok (.bool false) := rfl
theorem kOrV_ev : kOrV f ρ (.bool b) = if b = true then .ok (.bool true) else f ρ := rfl
theorem kNotV_ev : kNotV (.bool b) = .ok (.bool (!b)) := rfl
theorem tup_ev (h : ds.length ≤ 1000) : gTupD ds = .ok (.tuple ds) := if_pos h
theorem lst_ev (h : ds.length ≤ 1000) : gLstD ds = .ok (.list ds) := if_pos h
theorem call_ev {n : Nat} {es : List PD} {m : List PD → R PD} (h : (ds ++ es).length = n) : gCall n es m ds = m (ds ++ es) := if_pos h
/-! a def -/
def startE : Nat → List PD → En
  | 0, _ => []
  | m + 1, [] => none :: startE m []
  | m + 1, d :: ds => some (.d d) :: startE m ds
def Fl.fin : Fl → R PD
  | .rt d => .ok d
  | .nx _ => .ok .none
  | .ex c _ => .ex c
  | _ => .no
theorem startE_nil : ∀ m, startE m [] = List.replicate m none
  | 0 => rfl
  | m + 1 => by show none :: startE m [] = _; rw [startE_nil m]; rfl
theorem startE_eq : ∀ (m : Nat) (ds : List PD), ds.length ≤ m → ds.map (fun d => some (SV.d d)) ++ List.replicate (m - ds.length) none = startE m ds
  | m, [], _ => by rw [startE_nil]; simp
  | 0, _ :: _, h => by simp at h
  | m + 1, d :: ds, h => by
    show some (SV.d d) :: (ds.map (fun d => some (SV.d d)) ++ List.replicate (m + 1 - (ds.length + 1)) none) = some (.d d) :: startE m ds
    rw [← startE_eq m ds (by simpa using h)]
    congr 3
    omega
theorem ev_fn {m : Nat} {den : En → Fl} (h : ds.length ≤ m) : fnD m den ds = (den (startE m ds)).fin := by
  unfold fnD
  rw [startE_eq m ds h]
  rfl
theorem startE_0 {ds : List PD} : startE 0 ds = [] := by cases ds <;> rfl
theorem startE_s {m : Nat} : startE (m + 1) [] = none :: startE m [] := rfl
theorem startE_c {m : Nat} : startE (m + 1) (d :: ds) = some (.d d) :: startE m ds := rfl
theorem fin_rt : (Fl.rt d).fin = .ok d := rfl
theorem fin_nx : (Fl.nx ρ).fin = .ok .none := rfl
theorem fin_ex : (Fl.ex c ρ).fin = .ex c := rfl
theorem fin_ite {p : Prop} [Decidable p] {x y : Fl} : (if p then x else y).fin = if p then x.fin else y.fin := by split <;> rfl
/-! subscripts -/
theorem ix_t {k : Nat} (h : ds[k]? = some d) : gIx (.tuple ds) (.int (k : Int)) = .ok d := by
  unfold gIx atI
  have hk : k < ds.length := (List.getElem?_eq_some_iff.mp h).1
  have : ixN ds.length (k : Int) = some k := by
    unfold ixN
    rw [if_pos (by omega), if_pos (by omega)]
    rfl
  simp only [this, Option.bind_some, h]
theorem ix_l {k : Nat} (h : ds[k]? = some d) : gIx (.list ds) (.int (k : Int)) = .ok d := by
  unfold gIx atI
  have hk : k < ds.length := (List.getElem?_eq_some_iff.mp h).1
  have : ixN ds.length (k : Int) = some k := by
    unfold ixN
    rw [if_pos (by omega), if_pos (by omega)]
    rfl
  simp only [this, Option.bind_some, h]
variable {x0 x1 x2 x3 : PD}
theorem ix_t0 : gIx (.tuple (x0 :: ds)) (.int 0) = .ok x0 := ix_t (k := 0) rfl
theorem ix_t1 : gIx (.tuple (x0 :: x1 :: ds)) (.int 1) = .ok x1 := ix_t (k := 1) rfl
theorem ix_t2 : gIx (.tuple (x0 :: x1 :: x2 :: ds)) (.int 2) = .ok x2 := ix_t (k := 2) rfl
theorem ix_t3 : gIx (.tuple (x0 :: x1 :: x2 :: x3 :: ds)) (.int 3) = .ok x3 := ix_t (k := 3) rfl
theorem ix_l0 : gIx (.list (x0 :: ds)) (.int 0) = .ok x0 := ix_l (k := 0) rfl
theorem ix_l1 : gIx (.list (x0 :: x1 :: ds)) (.int 1) = .ok x1 := ix_l (k := 1) rfl
theorem ix_l2 : gIx (.list (x0 :: x1 :: x2 :: ds)) (.int 2) = .ok x2 := ix_l (k := 2) rfl
theorem ix_ints {zs : List Int} {k : Int} (h0 : 0 ≤ k) (h1 : k < zs.length) : gIx (.list (zs.map PyData.int)) (.int k) = .ok (.int (zs.getD k.toNat 0)) := by
  obtain ⟨n, rfl⟩ := Int.eq_ofNat_of_zero_le h0
  refine ix_l ?_
  have : n < zs.length := by omega
  rw [List.getElem?_map, List.getElem?_eq_getElem this]
  simp [this]
theorem len_l : gLen [.list ds] = .ok (.int ds.length) := rfl
/-! iteration -/
theorem ev_iL : iL f ρ = (f ρ).bind asL := rfl
theorem ev_iT : iT f ρ = (f ρ).bind asT := rfl
theorem asL_ev : asL (.list ds) = .ok ds := rfl
theorem asT_ev : asT (.tuple ds) = .ok ds := rfl
theorem ev_iA {g : List PD → R (List PD)} : iA g fl ρ = (fl ρ).bind g := rfl
theorem ev_P : dP f ρ = (f ρ).bind toI := rfl
theorem toI_ev {k : Int} : toI (.int k) = .ok (some k) := rfl
theorem ev_P0 : dP0 ρ = .ok none := rfl
def kSl (hi : R (Option Int)) (d : PD) (lo : Option Int) : R PD := hi.bind (gSl d lo)
theorem ev_sl {lo hi : En → R (Option Int)} : dSl f lo hi ρ = R.bind2 (kSl (hi ρ)) (f ρ) (lo ρ) := by
  unfold dSl R.bind2 kSl R.bind
  cases f ρ with
  | ok a => cases lo ρ <;> rfl
  | ex c => rfl
  | no => rfl
theorem kSl_ev {hi lo : Option Int} : kSl (.ok hi) d lo = gSl d lo hi := rfl
theorem add_l {xs ys : List PD} (h : xs.length + ys.length ≤ 16777216) : gAdd (.list xs) (.list ys) = .ok (.list (xs ++ ys)) := if_pos h
theorem put_1 : (Tg.one i).put d ρ = some (ρ.set i (some (.d d))) := rfl
/-! a while's turn -/
def Fl.turn (r : Fl) (g : En → Fl) : Fl := match r with
  | .nx ρ => g ρ
  | .ct ρ => g ρ
  | .bk ρ => .nx ρ
  | r => r
noncomputable def kWh (t : En → R Bool) (g : En → Fl) (ρ : En) (b : Bool) : Fl := if b = true then (g ρ).turn (sWhile t g) else .nx ρ
theorem ev_while : sWhile t g ρ = (t ρ).fl ρ (kWh t g ρ) := by
  rw [sWhile_eq]
  unfold sE R.fl kWh Fl.turn
  cases t ρ with
  | ok b => cases b <;> simp only [if_true, if_false, Bool.false_eq_true] <;> cases g ρ <;> rfl
  | ex c => rfl
  | no => rfl
theorem kWh_ev : kWh t g ρ b = if b = true then (g ρ).turn (sWhile t g) else .nx ρ := rfl
theorem turn_nx : (Fl.nx ρ).turn h = h ρ := rfl
theorem turn_ct : (Fl.ct ρ).turn h = h ρ := rfl
theorem turn_bk : (Fl.bk ρ).turn h = .nx ρ := rfl
theorem turn_rt : (Fl.rt d).turn h = .rt d := rfl
theorem turn_ite {p : Prop} [Decidable p] {x y : Fl} : (if p then x else y).turn h = if p then x.turn h else y.turn h := by split <;> rfl
/-! kinds -/
theorem isi_ev {T : String} {b : Bool} (h : kitB (tyD d) T = some b) (hx : isExc d = false := by rfl) : gIsi T d = .ok (.bool b) := by
  unfold gIsi
  rw [if_neg (by rw [hx]; exact Bool.false_ne_true), h]
theorem isi_int_int {z : Int} : gIsi "int" (.int z) = .ok (.bool true) := isi_ev (by show kitB "int" "int" = some true; decide +kernel)
theorem isi_bool_int {z : Int} : gIsi "bool" (.int z) = .ok (.bool false) := isi_ev (by show kitB "int" "bool" = some false; decide +kernel)
theorem isi_int_bool : gIsi "int" (.bool b) = .ok (.bool true) := isi_ev (by show kitB "bool" "int" = some true; decide +kernel)
theorem isi_bool_bool : gIsi "bool" (.bool b) = .ok (.bool true) := isi_ev (by show kitB "bool" "bool" = some true; decide +kernel)
theorem isi_int_str {z : Str} : gIsi "int" (.str z) = .ok (.bool false) := isi_ev (by show kitB "str" "int" = some false; decide +kernel)
theorem isi_int_none : gIsi "int" .none = .ok (.bool false) := isi_ev (by show kitB "NoneType" "int" = some false; decide +kernel)
theorem isi_int_list : gIsi "int" (.list ds) = .ok (.bool false) := isi_ev (by show kitB "list" "int" = some false; decide +kernel)
theorem isi_int_tup : gIsi "int" (.tuple ds) = .ok (.bool false) := isi_ev (by show kitB "tuple" "int" = some false; decide +kernel)
theorem isi_bool_str {z : Str} : gIsi "bool" (.str z) = .ok (.bool false) := isi_ev (by show kitB "str" "bool" = some false; decide +kernel)
theorem isi_bool_none : gIsi "bool" .none = .ok (.bool false) := isi_ev (by show kitB "NoneType" "bool" = some false; decide +kernel)
theorem isi_bool_list : gIsi "bool" (.list ds) = .ok (.bool false) := isi_ev (by show kitB "list" "bool" = some false; decide +kernel)
theorem isi_bool_tup : gIsi "bool" (.tuple ds) = .ok (.bool false) := isi_ev (by show kitB "tuple" "bool" = some false; decide +kernel)
theorem isi_tup_tup : gIsi "tuple" (.tuple ds) = .ok (.bool true) := isi_ev (by show kitB "tuple" "tuple" = some true; decide +kernel)
theorem isi_tup_int {z : Int} : gIsi "tuple" (.int z) = .ok (.bool false) := isi_ev (by show kitB "int" "tuple" = some false; decide +kernel)
theorem isi_tup_bool : gIsi "tuple" (.bool b) = .ok (.bool false) := isi_ev (by show kitB "bool" "tuple" = some false; decide +kernel)
theorem isi_tup_str {z : Str} : gIsi "tuple" (.str z) = .ok (.bool false) := isi_ev (by show kitB "str" "tuple" = some false; decide +kernel)
theorem isi_tup_none : gIsi "tuple" .none = .ok (.bool false) := isi_ev (by show kitB "NoneType" "tuple" = some false; decide +kernel)
theorem isi_tup_list : gIsi "tuple" (.list ds) = .ok (.bool false) := isi_ev (by show kitB "list" "tuple" = some false; decide +kernel)
theorem isi_list_list : gIsi "list" (.list ds) = .ok (.bool true) := isi_ev (by show kitB "list" "list" = some true; decide +kernel)
theorem isi_list_tup : gIsi "list" (.tuple ds) = .ok (.bool false) := isi_ev (by show kitB "tuple" "list" = some false; decide +kernel)
theorem isi_list_int {z : Int} : gIsi "list" (.int z) = .ok (.bool false) := isi_ev (by show kitB "int" "list" = some false; decide +kernel)
theorem isi_list_bool : gIsi "list" (.bool b) = .ok (.bool false) := isi_ev (by show kitB "bool" "list" = some false; decide +kernel)
theorem isi_list_str {z : Str} : gIsi "list" (.str z) = .ok (.bool false) := isi_ev (by show kitB "str" "list" = some false; decide +kernel)
theorem isi_list_none : gIsi "list" .none = .ok (.bool false) := isi_ev (by show kitB "NoneType" "list" = some false; decide +kernel)
theorem isi_str_str {z : Str} : gIsi "str" (.str z) = .ok (.bool true) := isi_ev (by show kitB "str" "str" = some true; decide +kernel)
theorem isi_str_int {z : Int} : gIsi "str" (.int z) = .ok (.bool false) := isi_ev (by show kitB "int" "str" = some false; decide +kernel)
theorem isi_str_bool : gIsi "str" (.bool b) = .ok (.bool false) := isi_ev (by show kitB "bool" "str" = some false; decide +kernel)
theorem isi_str_none : gIsi "str" .none = .ok (.bool false) := isi_ev (by show kitB "NoneType" "str" = some false; decide +kernel)
theorem isi_str_list : gIsi "str" (.list ds) = .ok (.bool false) := isi_ev (by show kitB "list" "str" = some false; decide +kernel)
theorem isi_str_tup : gIsi "str" (.tuple ds) = .ok (.bool false) := isi_ev (by show kitB "tuple" "str" = some false; decide +kernel)
/-! loops whose turns leave the first slots as they are -/
def Keeps (pre : En) (n : Nat) (r : Fl) : Prop := ∃ ys : En, ys.length = n ∧ r = .nx (pre ++ ys)
theorem for_keep {pre : En} {n : Nat} {i : Nat} (hi : pre.length ≤ i) : ∀ (ds : List PD) (ys : En), ys.length = n → (∀ d ∈ ds, ∀ ys : En, ys.length = n → Keeps pre n (g (pre ++ ys.set (i - pre.length) (some (.d d))))) → Keeps pre n (sForL (.one i) g ds (pre ++ ys))
  | [], ys, hy, _ => ⟨ys, hy, rfl⟩
  | d :: ds, ys, hy, h => by
    unfold sForL
    obtain ⟨zs, hz, e⟩ := h d List.mem_cons_self ys hy
    have e0 : (pre ++ ys).set i (some (.d d)) = pre ++ ys.set (i - pre.length) (some (.d d)) := List.set_append_right _ _ hi
    simp only [put_1, e0, e]
    exact for_keep hi ds zs hz fun d hd => h d (List.mem_cons_of_mem _ hd)
end
instance nz_pow {i : Int} {k : Nat} [h : NZ i] : NZ (i ^ k) := ⟨Int.pow_ne_zero h.h⟩
/-! equality of plain data -/
mutual
def plain : PD → Bool
  | .int _ => true
  | .str _ => true
  | .list xs => plainA xs
  | .tuple xs => plainA xs
  | _ => false
def plainA : List PD → Bool
  | [] => true
  | x :: xs => plain x && plainA xs
end
mutual
theorem eqv_plain : ∀ (d e : PD), plain d = true → plain e = true → (PyData.eqv d e = true ↔ d = e)
  | .int i, .int j, _, _ => by simp [PyData.eqv]
  | .str i, .str j, _, _ => by simp [PyData.eqv]
  | .list xs, .list ys, h, g => by
    have := eqvA_plain xs ys (by simpa [plain] using h) (by simpa [plain] using g)
    simp [PyData.eqv, this]
  | .tuple xs, .tuple ys, h, g => by
    have := eqvA_plain xs ys (by simpa [plain] using h) (by simpa [plain] using g)
    simp [PyData.eqv, this]
  | .int _, .str _, _, _ => by simp [PyData.eqv]
  | .int _, .list _, _, _ => by simp [PyData.eqv]
  | .int _, .tuple _, _, _ => by simp [PyData.eqv]
  | .str _, .int _, _, _ => by simp [PyData.eqv]
  | .str _, .list _, _, _ => by simp [PyData.eqv]
  | .str _, .tuple _, _, _ => by simp [PyData.eqv]
  | .list _, .int _, _, _ => by simp [PyData.eqv]
  | .list _, .str _, _, _ => by simp [PyData.eqv]
  | .list _, .tuple _, _, _ => by simp [PyData.eqv]
  | .tuple _, .int _, _, _ => by simp [PyData.eqv]
  | .tuple _, .str _, _, _ => by simp [PyData.eqv]
  | .tuple _, .list _, _, _ => by simp [PyData.eqv]
  | .none, _, h, _ => by simp [plain] at h
  | .bool _, _, h, _ => by simp [plain] at h
  | .dict _, _, h, _ => by simp [plain] at h
  | .int _, .none, _, g => by simp [plain] at g
  | .int _, .bool _, _, g => by simp [plain] at g
  | .int _, .dict _, _, g => by simp [plain] at g
  | .str _, .none, _, g => by simp [plain] at g
  | .str _, .bool _, _, g => by simp [plain] at g
  | .str _, .dict _, _, g => by simp [plain] at g
  | .list _, .none, _, g => by simp [plain] at g
  | .list _, .bool _, _, g => by simp [plain] at g
  | .list _, .dict _, _, g => by simp [plain] at g
  | .tuple _, .none, _, g => by simp [plain] at g
  | .tuple _, .bool _, _, g => by simp [plain] at g
  | .tuple _, .dict _, _, g => by simp [plain] at g
theorem eqvA_plain : ∀ (xs ys : List PD), plainA xs = true → plainA ys = true → (PyData.eqvAll xs ys = true ↔ xs = ys)
  | [], [], _, _ => by simp [PyData.eqvAll]
  | x :: xs, y :: ys, h, g => by
    have h1 : plain x = true ∧ plainA xs = true := by simpa [plainA] using h
    have g1 : plain y = true ∧ plainA ys = true := by simpa [plainA] using g
    simp [PyData.eqvAll, eqv_plain x y h1.1 g1.1, eqvA_plain xs ys h1.2 g1.2]
  | [], _ :: _, _, _ => by simp [PyData.eqvAll]
  | _ :: _, [], _, _ => by simp [PyData.eqvAll]
end
theorem gEq_t {xs ys : List PD} {b : Bool} (h1 : SeqAt.shaped (.tuple xs) = true) (h2 : SeqAt.shaped (.tuple ys) = true) (h3 : PyData.eqv (.tuple xs) (.tuple ys) = b) : gEq (.tuple xs) (.tuple ys) = .ok (.bool b) := by
  subst h3
  exact if_pos ⟨h1, h2⟩
theorem gNe_t {xs ys : List PD} {b : Bool} (h1 : SeqAt.shaped (.tuple xs) = true) (h2 : SeqAt.shaped (.tuple ys) = true) (h3 : PyData.eqv (.tuple xs) (.tuple ys) = b) : gNe (.tuple xs) (.tuple ys) = .ok (.bool (!b)) := by
  subst h3
  exact if_pos ⟨h1, h2⟩
theorem gEq_l {xs ys : List PD} {b : Bool} (h1 : SeqAt.shaped (.list xs) = true) (h2 : SeqAt.shaped (.list ys) = true) (h3 : PyData.eqv (.list xs) (.list ys) = b) : gEq (.list xs) (.list ys) = .ok (.bool b) := by
  subst h3
  exact if_pos ⟨h1, h2⟩
section
variable {a b c a' b' c' : Int}
theorem sh2 : SeqAt.shaped (.tuple [.int a, .int b]) = true := rfl
theorem sh3 : SeqAt.shaped (.tuple [.int a, .int b, .int c]) = true := rfl
theorem gEq_2 : gEq (.tuple [.int a, .int b]) (.tuple [.int a', .int b']) = .ok (.bool (decide (a = a' ∧ b = b'))) := gEq_t sh2 sh2 (by simp only [PyData.eqv, PyData.eqvAll, Bool.decide_and, Bool.and_true]; rfl)
theorem gNe_2 : gNe (.tuple [.int a, .int b]) (.tuple [.int a', .int b']) = .ok (.bool (!decide (a = a' ∧ b = b'))) := gNe_t sh2 sh2 (by simp only [PyData.eqv, PyData.eqvAll, Bool.decide_and, Bool.and_true]; rfl)
theorem gEq_3 : gEq (.tuple [.int a, .int b, .int c]) (.tuple [.int a', .int b', .int c']) = .ok (.bool (decide (a = a' ∧ b = b' ∧ c = c'))) := gEq_t sh3 sh3 (by simp only [PyData.eqv, PyData.eqvAll, Bool.decide_and, Bool.and_true]; rfl)
theorem gNe_3 : gNe (.tuple [.int a, .int b, .int c]) (.tuple [.int a', .int b', .int c']) = .ok (.bool (!decide (a = a' ∧ b = b' ∧ c = c'))) := gNe_t sh3 sh3 (by simp only [PyData.eqv, PyData.eqvAll, Bool.decide_and, Bool.and_true]; rfl)
end
/-! ### lists of one's own, loops, comprehensions -/
def kSetL (i : Nat) (ρ : En) (ds : List PD) : Fl := .nx (ρ.set i (some (.l ds)))
def kDisp (ds : List PD) : R (List PD) := if ds.length ≤ 1000 then .ok ds else .no
def kFrz (i : Nat) (g : En → Fl) (ρ : En) : Option (Option SV) → Fl
  | some (some (.l xs)) => g (ρ.set i (some (.d (.list xs))))
  | _ => g ρ
def kLend (i : Nat) (f : En → R PD) (ρ : En) : Option (Option SV) → R PD
  | some (some (.l xs)) => (f (ρ.set i (some (.d (.list xs))))).bind atomD
  | _ => f ρ
def kLendB (i : Nat) (f : En → R Bool) (ρ : En) : Option (Option SV) → R Bool
  | some (some (.l xs)) => f (ρ.set i (some (.d (.list xs))))
  | _ => f ρ
def kApp (i : Nat) (xs : List PD) (ρ : En) (d : PD) : Fl := if xs.length < 16777216 then .nx (ρ.set i (some (.l (xs ++ [d])))) else .no
def kAppO (i : Nat) (f : En → R PD) (ρ : En) : Option (Option SV) → Fl
  | some (some (.l xs)) => (f ρ).fl ρ (kApp i xs ρ)
  | _ => .no
def kPut2 (i : Nat) (xs : List PD) (ρ : En) (d k : PD) : R Fl := match k with
  | .int z => (match ixN xs.length z with
    | some j => .ok (.nx (ρ.set i (some (.l (xs.set j d)))))
    | none => .no)
  | _ => .no
def kPutO (i : Nat) (fk fe : En → R PD) (ρ : En) : Option (Option SV) → Fl
  | some (some (.l xs)) => (R.bind2 (kPut2 i xs ρ) (fe ρ) (fk ρ)).fl ρ kId
  | _ => .no
def kIxO (f : En → R PD) (ρ : En) : Option (Option SV) → R PD
  | some (some (.l xs)) => (f ρ).bind (gIx (.list xs))
  | some (some (.d d)) => (f ρ).bind (gIx d)
  | _ => .no
def kLst (ds : List PD) : R PD := .ok (.list ds)
def kLcL (tg : Tg) (vs : List Nat) (tt : En → R Bool) (te : En → R PD) (ρ : En) (ds : List PD) : R (List PD) := if ds.length ≤ 1000000 then lcL tg tt te (wipeE ρ vs) ds else .no
section
variable {f fk fe : En → R PD} {fl : En → R (List PD)} {t : En → R Bool} {g : En → Fl} {ρ ρ1 : En} {i : Nat} {d e : PD} {ds xs : List PD} {x : PD}
theorem ev_setL : sSetL i fl ρ = (fl ρ).fl ρ (kSetL i ρ) := rfl
theorem kSetL_ev : kSetL i ρ ds = .nx (ρ.set i (some (.l ds))) := rfl
theorem ev_lDisp : lDisp fl ρ = (fl ρ).bind kDisp := rfl
theorem kDisp_ev (h : ds.length ≤ 1000) : kDisp ds = .ok ds := if_pos h
theorem ev_frz : sFrz i g ρ = kFrz i g ρ ρ[i]? := by
  unfold sFrz kFrz
  cases h : ρ[i]? with
  | none => rfl
  | some o =>
    cases o with
    | none => rfl
    | some v => cases v <;> rfl
theorem frz_l : kFrz i g ρ (some (some (.l xs))) = g (ρ.set i (some (.d (.list xs)))) := rfl
theorem frz_d : kFrz i g ρ (some (some (.d x))) = g ρ := rfl
theorem frz_n : kFrz i g ρ (some none) = g ρ := rfl
theorem ev_lend : dLend i f ρ = kLend i f ρ ρ[i]? := by
  unfold dLend kLend
  cases h : ρ[i]? with
  | none => rfl
  | some o =>
    cases o with
    | none => rfl
    | some v => cases v <;> rfl
theorem lend_l : kLend i f ρ (some (some (.l xs))) = (f (ρ.set i (some (.d (.list xs))))).bind atomD := rfl
theorem lend_d : kLend i f ρ (some (some (.d x))) = f ρ := rfl
theorem atom_i {z : Int} : atomD (.int z) = .ok (.int z) := rfl
theorem atom_b {z : Bool} : atomD (.bool z) = .ok (.bool z) := rfl
theorem atom_s {z : Str} : atomD (.str z) = .ok (.str z) := rfl
theorem ev_lendB : dLendB i t ρ = kLendB i t ρ ρ[i]? := by
  unfold dLendB kLendB
  cases h : ρ[i]? with
  | none => rfl
  | some o =>
    cases o with
    | none => rfl
    | some v => cases v <;> rfl
theorem lendB_l : kLendB i t ρ (some (some (.l xs))) = t (ρ.set i (some (.d (.list xs)))) := rfl
theorem lendB_d : kLendB i t ρ (some (some (.d x))) = t ρ := rfl
theorem ev_app : sApp i f ρ = kAppO i f ρ ρ[i]? := by
  unfold sApp kAppO
  cases h : ρ[i]? with
  | none => rfl
  | some o =>
    cases o with
    | none => rfl
    | some v => cases v <;> rfl
theorem app_l : kAppO i f ρ (some (some (.l xs))) = (f ρ).fl ρ (kApp i xs ρ) := rfl
theorem kApp_ev (h : xs.length < 16777216) : kApp i xs ρ d = .nx (ρ.set i (some (.l (xs ++ [d])))) := if_pos h
theorem ev_put : sPut i fk fe ρ = kPutO i fk fe ρ ρ[i]? := by
  unfold sPut kPutO
  cases h : ρ[i]? with
  | none => rfl
  | some o =>
    cases o with
    | none => rfl
    | some v =>
      cases v with
      | d x => rfl
      | k x => rfl
      | ll x => rfl
      | o c x => rfl
      | me c x => rfl
      | mk c => rfl
      | ro c x => rfl
      | tp x => rfl
      | pl x => rfl
      | l xs =>
        show sE fe _ ρ = (R.bind2 (kPut2 i xs ρ) (fe ρ) (fk ρ)).fl ρ kId
        unfold sE R.bind2 R.fl kPut2
        cases h1 : fe ρ with
        | ok a =>
          cases h2 : fk ρ with
          | ok b =>
            simp only [h2]
            cases b with
            | int z =>
              show _ = _
              cases hj : ixN xs.length z with
              | none => simp only [hj]
              | some j => simp only [hj]; rfl
            | _ => rfl
          | ex c => simp only [h2]
          | no => simp only [h2]
        | ex c => rfl
        | no => rfl
theorem put_l : kPutO i fk fe ρ (some (some (.l xs))) = (R.bind2 (kPut2 i xs ρ) (fe ρ) (fk ρ)).fl ρ kId := rfl
theorem ev_ixO : dIxO i f ρ = kIxO f ρ ρ[i]? := by
  unfold dIxO kIxO
  cases h : ρ[i]? with
  | none => rfl
  | some o =>
    cases o with
    | none => rfl
    | some v =>
      cases v with
      | d x => rfl
      | k x => rfl
      | ll x => rfl
      | o c x => rfl
      | me c x => rfl
      | mk c => rfl
      | ro c x => rfl
      | tp x => rfl
      | pl x => rfl
      | l xs =>
        show R.bind (f ρ) _ = R.bind (f ρ) _
        congr 1
        funext d
        cases d <;> rfl
theorem ixO_l : kIxO f ρ (some (some (.l xs))) = (f ρ).bind (gIx (.list xs)) := rfl
theorem ixO_d : kIxO f ρ (some (some (.d x))) = (f ρ).bind (gIx x) := rfl
theorem forL_nil {tg : Tg} : sForL tg g [] ρ = .nx ρ := rfl
theorem forL_1 : sForL (.one i) g (d :: ds) ρ = (g (ρ.set i (some (.d d)))).turn (sForL (.one i) g ds) := by
  rw [sForL]
  show (match g (ρ.set i (some (.d d))) with
      | .nx ρ2 => sForL (.one i) g ds ρ2
      | .ct ρ2 => sForL (.one i) g ds ρ2
      | .bk ρ2 => .nx ρ2
      | r => r) = _
  unfold Fl.turn
  cases g (ρ.set i (some (.d d))) <;> rfl
theorem forL_m {is : List Nat} (h : xs.length = is.length) : sForL (.many is) g (.tuple xs :: ds) ρ = (g (putAll is xs ρ)).turn (sForL (.many is) g ds) := by
  rw [sForL]
  have : Tg.put (.many is) (.tuple xs) ρ = some (putAll is xs ρ) := if_pos h
  rw [this]
  show (match g (putAll is xs ρ) with
      | .nx ρ2 => sForL (.many is) g ds ρ2
      | .ct ρ2 => sForL (.many is) g ds ρ2
      | .bk ρ2 => .nx ρ2
      | r => r) = _
  unfold Fl.turn
  cases g (putAll is xs ρ) <;> rfl
theorem put_m {is : List Nat} (h : xs.length = is.length) : Tg.put (.many is) (.tuple xs) ρ = some (putAll is xs ρ) := if_pos h
theorem putAll_c {is : List Nat} : putAll (i :: is) (d :: ds) ρ = putAll is ds (ρ.set i (some (.d d))) := rfl
theorem putAll_n : putAll [] ds ρ = ρ := by cases ds <;> rfl
theorem ev_lc {it : En → R (List PD)} {tg : Tg} {vs : List Nat} : dLc it tg vs t f ρ = (dLcL it tg vs t f ρ).bind kLst := rfl
theorem kLst_ev : kLst ds = .ok (.list ds) := rfl
theorem ev_lcL {it : En → R (List PD)} {tg : Tg} {vs : List Nat} : dLcL it tg vs t f ρ = (it ρ).bind (kLcL tg vs t f ρ) := rfl
theorem kLcL_ev {tg : Tg} {vs : List Nat} (h : ds.length ≤ 1000000) : kLcL tg vs t f ρ ds = lcL tg t f (wipeE ρ vs) ds := if_pos h
theorem wipe_n : wipeE ρ [] = ρ := rfl
theorem wipe_c {vs : List Nat} : wipeE ρ (i :: vs) = (wipeE ρ vs).set i none := rfl
/-- a comprehension without a test -/
theorem lcL_map {tg : Tg} (h : PD → PD) : ∀ (ds : List PD), (∀ d ∈ ds, ∃ ρ1, tg.put d ρ = some ρ1 ∧ f ρ1 = .ok (h d)) → lcL tg bYes f ρ ds = .ok (ds.map h)
  | [], _ => rfl
  | d :: ds, k => by
    obtain ⟨ρ1, e1, e2⟩ := k d List.mem_cons_self
    rw [lcL, e1]
    show (match bYes ρ1 with
      | .ok true => (match f ρ1 with
        | .ok y => (match lcL tg bYes f ρ ds with
          | .ok ys => R.ok (y :: ys)
          | _ => .no)
        | _ => .no)
      | .ok false => lcL tg bYes f ρ ds
      | _ => .no) = _
    rw [lcL_map h ds fun d hd => k d (List.mem_cons_of_mem _ hd), e2]
    rfl
end
theorem r1_2 : gR1 [.int 2] = .ok [.int 0, .int 1] := rfl
theorem r1_3 : gR1 [.int 3] = .ok [.int 0, .int 1, .int 2] := rfl
theorem bits_ev {z : Int} : gm_bit_length (.int z) = .ok (.int (Builtin.Int.intBits z : Nat)) := rfl
section
variable {a b c d a' b' c' d' : Int}
theorem gEq_22 : gEq (.tuple [.tuple [.int a, .int b], .tuple [.int c, .int d]]) (.tuple [.tuple [.int a', .int b'], .tuple [.int c', .int d']]) = .ok (.bool (decide ((a = a' ∧ b = b') ∧ c = c' ∧ d = d'))) :=
  gEq_t rfl rfl (by simp only [PyData.eqv, PyData.eqvAll, Bool.decide_and, Bool.and_true]; rfl)
theorem gNe_22 : gNe (.tuple [.tuple [.int a, .int b], .tuple [.int c, .int d]]) (.tuple [.tuple [.int a', .int b'], .tuple [.int c', .int d']]) = .ok (.bool (!decide ((a = a' ∧ b = b') ∧ c = c' ∧ d = d'))) :=
  gNe_t rfl rfl (by simp only [PyData.eqv, PyData.eqvAll, Bool.decide_and, Bool.and_true]; rfl)
end
section
variable {a b c d e : PD}
theorem len_t2 : gLen [.tuple [a, b]] = .ok (.int 2) := rfl
theorem len_t3 : gLen [.tuple [a, b, c]] = .ok (.int 3) := rfl
theorem len_t1 : gLen [.tuple [a]] = .ok (.int 1) := rfl
theorem len_t4 : gLen [.tuple [a, b, c, d]] = .ok (.int 4) := rfl
end
/-! in, of numbers -/
theorem eqvI_any {d : Int} : ∀ zs : List Int, ((zs.map PyData.int).any fun y => PyData.eqv y (.int d)) = zs.any fun y => y == d
  | [] => rfl
  | z :: zs => by
    show (PyData.eqv (.int z) (.int d) || (zs.map PyData.int).any fun y => PyData.eqv y (.int d)) = (z == d || zs.any fun y => y == d)
    rw [eqvI_any zs]
    rfl
theorem flatI_all : ∀ zs : List Int, (zs.map PyData.int).all flatD = true
  | [] => rfl
  | z :: zs => flatI_all zs
theorem in_l {d : Int} {zs : List Int} {neg : Bool} : gIn neg (.int d) (.list (zs.map PyData.int)) = .ok (.bool ((zs.any fun y => y == d) != neg)) := by
  have : inL (.int d) (zs.map PyData.int) = .ok (zs.any fun y => y == d) := by
    unfold inL
    rw [if_pos ⟨rfl, flatI_all zs⟩, eqvI_any]
  show (inL (.int d) (zs.map PyData.int)).bind _ = _
  rw [this]
  rfl
/-- the ninety roots -/
def rootsL : List Int := ((List.range 98).map fun i => (2 : Int) + (i : Nat)).filter fun d => !([4, 9, 16, 25, 36, 49, 64, 81].any fun y => y == d)
end DL

local macro_rules
  | `(tactic| simp +decide only [$ls,*]) => do
    let es := ls.getElems
    match es.findIdx? (fun l => l.raw[2].getId == `zEV9) with
    | some i => match ← `(tactic| simp +decide only [DL.ev_seq, DL.seq_nx, DL.seq_rt, DL.seq_ex, DL.seq_bk, DL.seq_ct, DL.seq_ite, DL.fl_ok, DL.fl_ex, DL.fl_ite, DL.ev_set, DL.kSet_ev, DL.ev_ret, DL.ev_nx, DL.ev_raise, DL.ev_if, DL.kIf_ev, DL.ev_drop, DL.kNx_ev, DL.ev_par, DL.kPar_ev, DL.kId_ev, DL.ev_asg, DL.kAsg_ev, DL.ev_for, DL.kFor_ev, DL.ev_V, DL.dVg_ok, DL.ev_C, DL.ev_1, DL.ev_2, DL.bind2_ok, DL.bind2_ite1, DL.bind2_ite2, DL.bind_ite, DL.ev_A, DL.ev_nil, DL.ev_cons, DL.kCons_ev, DL.ev_T, DL.toB_ev, DL.ev_and, DL.ev_or, DL.ev_not, DL.kAnd_ev, DL.kOr_ev, DL.kNot_ev, DL.ev_andV, DL.ev_orV, DL.ev_notV, DL.kAndV_ev, DL.kOrV_ev, DL.kNotV_ev, DL.tup_ev, DL.lst_ev, DL.call_ev, DL.ev_fn, DL.startE_0, DL.startE_s, DL.startE_c, DL.fin_rt, DL.fin_nx, DL.fin_ex, DL.fin_ite, DL.ix_t0, DL.ix_t1, DL.ix_t2, DL.ix_t3, DL.ix_l0, DL.ix_l1, DL.ix_l2, DL.len_l, DL.len_t1, DL.len_t2, DL.len_t3, DL.len_t4, beq_self_eq_true, DL.ev_iL, DL.ev_iT, DL.asL_ev, DL.asT_ev, DL.ev_iA, DL.ev_P, DL.toI_ev, DL.ev_P0, DL.ev_sl, DL.kSl_ev, DL.put_1, DL.gAdd_i, DL.gSub_i, DL.gMul_i, DL.gDiv_p, DL.gMod_p, DL.gPow_l, DL.gShl_l, DL.gShr_l, DL.gLt_i, DL.gLe_i, DL.gGt_i, DL.gGe_i, DL.gEq_i, DL.gNe_i, DL.gNeg_i, DL.gAbs_i, DL.gInt_i, DL.gInt_b, DL.gEq_s, DL.gNe_s, DL.gEq_b, DL.gNe_b, DL.gEq_2, DL.gNe_2, DL.gEq_3, DL.gNe_3, DL.gEq_22, DL.gNe_22, DL.R.bind_ok, DL.R.bind_ex, DL.ev_setL, DL.kSetL_ev, DL.ev_lDisp, DL.kDisp_ev, DL.ev_frz, DL.frz_l, DL.frz_d, DL.frz_n, DL.ev_lend, DL.lend_l, DL.lend_d, DL.atom_i, DL.atom_b, DL.atom_s, DL.ev_lendB, DL.lendB_l, DL.lendB_d, DL.ev_app, DL.app_l, DL.kApp_ev, DL.ev_put, DL.put_l, DL.ev_ixO, DL.ixO_l, DL.ixO_d, DL.put_m, DL.putAll_c, DL.putAll_n, DL.ev_lc, DL.kLst_ev, DL.ev_lcL, DL.wipe_n, DL.wipe_c, DL.r1_2, DL.r1_3, DL.bits_ev, List.getElem?_cons_zero, List.getElem?_cons_succ, List.set_cons_zero, List.set_cons_succ, List.length_cons, List.length_nil, List.length_map, List.append_nil, List.cons_append, List.nil_append, DL.ev_if, DL.turn_nx, DL.turn_ct, DL.turn_bk, DL.turn_rt, DL.turn_ite, DL.kWh_ev, DL.isi_int_int, DL.isi_bool_int, DL.isi_int_bool, DL.isi_bool_bool, DL.isi_int_str, DL.isi_int_none, DL.isi_int_list, DL.isi_int_tup, DL.isi_bool_str, DL.isi_bool_none, DL.isi_bool_list, DL.isi_bool_tup, DL.isi_tup_tup, DL.isi_tup_int, DL.isi_tup_bool, DL.isi_tup_str, DL.isi_tup_none, DL.isi_tup_list, DL.isi_list_list, DL.isi_list_tup, DL.isi_list_int, DL.isi_list_bool, DL.isi_list_str, DL.isi_list_none, DL.isi_str_str, DL.isi_str_int, DL.isi_str_bool, DL.isi_str_none, DL.isi_str_list, DL.isi_str_tup, decide_true, decide_false, not_true_eq_false, not_false_eq_true, ne_eq, decide_eq_true_eq, Bool.not_eq_true', decide_eq_false_iff_not, Bool.not_true, Bool.not_false, Bool.false_eq_true, if_true, if_false, reduceIte]) with
      | `(tactic| simp +decide only [$ms,*]) =>
        let all := es.extract 0 i ++ ms.getElems ++ es.extract (i + 1) es.size
        `(tactic| simp +decide only [$all,*])
      | _ => Lean.Macro.throwUnsupported
    | none => Lean.Macro.throwUnsupported
set_option Elab.async false
set_option linter.all false
set_option maxRecDepth 100000
set_option maxHeartbeats 4000000
set_option autoImplicit false
/-! reckoning: dicts, objects, what is new -/
namespace DL
open PySem L2
section
variable {ρ : En} {f fk fe : En → R PD} {fa : En → R (List PD)} {fv : En → R SV} {h g : En → Fl} {d e : PD} {ds xs : List PD} {i j : Nat} {c m : Str} {fs : Fs} {x : SV} {mm : Kv}
/-! flow -/
theorem bind_okM {A B : Type} {a : A} {k : A → R B} : (R.ok a).bind k = k a := by rw [R.bind_ok]
theorem ev_iAM {gg : List PD → R (List PD)} : iA gg fa ρ = (fa ρ).bind gg := by rw [ev_iA]
theorem ev_forM {it : En → R (List PD)} {tg : Tg} : sFor it tg g ρ = (it ρ).fl ρ (kFor tg g ρ) := by rw [ev_for]
theorem fl_okM {A : Type} {a : A} {k : A → Fl} : (R.ok a).fl ρ k = k a := by rw [fl_ok]
theorem seq_rm : (Fl.rm d ρ).seq h = .rm d ρ := rfl
theorem seq_rv : (Fl.rv x).seq h = .rv x := rfl
theorem turn_rm : (Fl.rm d ρ).turn h = .rm d ρ := rfl
theorem turn_rv : (Fl.rv x).turn h = .rv x := rfl
theorem turn_ex {cc : Str} : (Fl.ex cc ρ).turn h = .ex cc ρ := rfl
def kRm (ρ : En) (d : PD) : Fl := .rm d ρ
theorem ev_retM : sRetM f ρ = (f ρ).fl ρ (kRm ρ) := rfl
theorem kRm_ev : kRm ρ d = .rm d ρ := rfl
theorem ev_retV : sRetV fv ρ = (fv ρ).fl ρ Fl.rv := rfl
def kVL (xs : List PD) : R SV := .ok (.l xs)
theorem ev_vL : vL fa ρ = (fa ρ).bind kVL := rfl
theorem kVL_ev : kVL xs = .ok (.l xs) := rfl
theorem frzV_l : frzV (.l xs) = .ok (.list xs) := rfl
def kSetV (i : Nat) (ρ : En) (x : SV) : Fl := if notMe x = true then .nx (ρ.set i (some x)) else .no
theorem ev_setV : sSetV i fv ρ = (fv ρ).fl ρ (kSetV i ρ) := rfl
theorem kSetV_l : kSetV i ρ (.l xs) = .nx (ρ.set i (some (.l xs))) := rfl
theorem kSetV_o : kSetV i ρ (.o c fs) = .nx (ρ.set i (some (.o c fs))) := rfl
/-! dicts -/
def kGetK (r : R PD) (o : Option (Option SV)) : R PD := match kAt o with
  | some m => r.bind (kGetR m)
  | none => .no
theorem ev_getK : dGetK i f ρ = kGetK (f ρ) ρ[i]? := rfl
theorem getK_k {r : R PD} : kGetK r (some (some (.k mm))) = r.bind (kGetR mm) := rfl
theorem getK_d {r : R PD} : kGetK r (some (some (.d (.dict (kvD mm))))) = r.bind (kGetR mm) := by
  unfold kGetK kAt
  simp only [kvOf_kvD]
def kInK (neg : Bool) (r : R PD) (o : Option (Option SV)) : R PD := match kAt o with
  | some m => r.bind (kInR neg m)
  | none => .no
theorem ev_inK {neg : Bool} : dInK neg i f ρ = kInK neg (f ρ) ρ[i]? := rfl
theorem inK_k {neg : Bool} {r : R PD} : kInK neg r (some (some (.k mm))) = r.bind (kInR neg mm) := rfl
theorem inK_d {neg : Bool} {r : R PD} : kInK neg r (some (some (.d (.dict (kvD mm))))) = r.bind (kInR neg mm) := by
  unfold kInK kAt
  simp only [kvOf_kvD]
def kLenK (o : Option (Option SV)) : R PD := match kAt o with
  | some m => .ok (.int m.length)
  | none => .no
theorem ev_lenK : dLenK i ρ = kLenK ρ[i]? := rfl
theorem lenK_k : kLenK (some (some (.k mm))) = .ok (.int mm.length) := rfl
theorem lenK_d : kLenK (some (some (.d (.dict (kvD mm))))) = .ok (.int mm.length) := by
  unfold kLenK kAt
  simp only [kvOf_kvD]
theorem ev_setK : sSetK i ρ = .nx (ρ.set i (some (.k []))) := rfl
def kSetKD (i : Nat) (ρ : En) (d : PD) : Fl := match d with
  | .dict ds => (match kvOf ds with
    | some m => .nx (ρ.set i (some (.k m)))
    | none => .no)
  | _ => .no
theorem ev_setKD : sSetKD i f ρ = (f ρ).fl ρ (kSetKD i ρ) := rfl
theorem kSetKD_ev : kSetKD i ρ (.dict (kvD mm)) = .nx (ρ.set i (some (.k mm))) := by
  unfold kSetKD
  simp only [kvOf_kvD]
def kPutK1 (i : Nat) (m : Kv) (ρ : En) (d k : PD) : R Fl := .ok (match keyOf k with
  | some k => if m.length < 16777216 then .nx (ρ.set i (some (.k (kPut m k d)))) else .no
  | none => .no)
def kPutKO (i : Nat) (fk fe : En → R PD) (ρ : En) : Option (Option SV) → Fl
  | some (some (.k m)) => (R.bind2 (kPutK1 i m ρ) (fe ρ) (fk ρ)).fl ρ kId
  | _ => .no
theorem ev_putK : sPutK i fk fe ρ = kPutKO i fk fe ρ ρ[i]? := by
  unfold sPutK kPutKO
  cases ρ[i]? with
  | none => rfl
  | some o =>
    cases o with
    | none => rfl
    | some y =>
      cases y <;> first | rfl | (dsimp only; unfold sE R.bind2 R.fl kPutK1 kId; cases fe ρ <;> first | rfl | (dsimp only; cases fk ρ <;> rfl))
theorem putK_k : kPutKO i fk fe ρ (some (some (.k mm))) = (R.bind2 (kPutK1 i mm ρ) (fe ρ) (fk ρ)).fl ρ kId := rfl
theorem kPutK1_i {z : Int} (h : mm.length < 16777216) : kPutK1 i mm ρ d (.int z) = .ok (.nx (ρ.set i (some (.k (kPut mm (.inl z) d))))) := by
  unfold kPutK1 keyOf
  simp only [if_pos h]
def kPopK1 (i : Nat) (m : Kv) (g : PD → En → Fl) (ρ : En) (k : PD) : Fl := match keyOf k with
  | some k => (match kGet m k with
    | some d => g d (ρ.set i (some (.k (kDrop m k))))
    | none => .no)
  | none => .no
def kPopKO (i : Nat) (fk : En → R PD) (g : PD → En → Fl) (ρ : En) : Option (Option SV) → Fl
  | some (some (.k m)) => (fk ρ).fl ρ (kPopK1 i m g ρ)
  | _ => .no
theorem ev_popK {g : PD → En → Fl} : sPopK i fk g ρ = kPopKO i fk g ρ ρ[i]? := by
  unfold sPopK kPopKO
  cases ρ[i]? with
  | none => rfl
  | some o =>
    cases o with
    | none => rfl
    | some y => cases y <;> rfl
theorem popK_k {g : PD → En → Fl} : kPopKO i fk g ρ (some (some (.k mm))) = (fk ρ).fl ρ (kPopK1 i mm g ρ) := rfl
theorem kPopK1_i {g : PD → En → Fl} {z : Int} (h : kGet mm (.inl z) = some d) : kPopK1 i mm g ρ (.int z) = g d (ρ.set i (some (.k (kDrop mm (.inl z))))) := by
  unfold kPopK1 keyOf
  simp only [h]
theorem ev_popE : sPopE i fk ρ = kPopKO i fk (fun _ ρ => .nx ρ) ρ ρ[i]? := ev_popK
def kFrzK (i : Nat) (g : En → Fl) (ρ : En) : Option (Option SV) → Fl
  | some (some (.k m)) => g (ρ.set i (some (.d (.dict (kvD m)))))
  | _ => g ρ
theorem ev_frzK : sFrzK i g ρ = kFrzK i g ρ ρ[i]? := by
  unfold sFrzK kFrzK
  cases ρ[i]? with
  | none => rfl
  | some o =>
    cases o with
    | none => rfl
    | some y => cases y <;> rfl
theorem frzK_k : kFrzK i g ρ (some (some (.k mm))) = g (ρ.set i (some (.d (.dict (kvD mm))))) := rfl
theorem frzK_d : kFrzK i g ρ (some (some (.d d))) = g ρ := rfl
def kKeys (d : PD) : R (List PD) := match d with
  | .dict ds => (match kvOf ds with
    | some m => .ok (m.map fun kv => keyD kv.1)
    | none => .no)
  | _ => .no
theorem ev_iK : iK f ρ = (f ρ).bind kKeys := rfl
theorem kKeys_ev : kKeys (.dict (kvD mm)) = .ok (mm.map fun kv => keyD kv.1) := by
  unfold kKeys
  simp only [kvOf_kvD]
theorem kGetR_i {z : Int} (h : kGet mm (.inl z) = some d) : kGetR mm (.int z) = .ok d := by
  unfold kGetR keyOf
  simp only [h]
theorem kInR_i {z : Int} {neg : Bool} : kInR neg mm (.int z) = .ok (.bool ((kGet mm (.inl z)).isSome != neg)) := rfl
/-! objects' fields -/
def oPutO (ρ : En) (i : Nat) (o : Option (Option SV)) (fs : Fs) : En := match o with
  | some (some (.o c _)) => ρ.set i (some (.o c fs))
  | some (some (.me c _)) => ρ.set i (some (.me c fs))
  | _ => ρ
theorem oPut_ev : oPut ρ i fs = oPutO ρ i ρ[i]? fs := rfl
theorem oPutO_o {fs' : Fs} : oPutO ρ i (some (some (.o c fs))) fs' = ρ.set i (some (.o c fs')) := rfl
theorem oPutO_me {fs' : Fs} : oPutO ρ i (some (some (.me c fs))) fs' = ρ.set i (some (.me c fs')) := rfl
theorem oGet_o : oGet (some (some (.o c fs))) = some (c, fs) := rfl
theorem oGet_me : oGet (some (some (.me c fs))) = some (c, fs) := rfl
theorem oGet_ro : oGet (some (some (.ro c fs))) = some (c, fs) := rfl
theorem oOwn_o : oOwn (some (some (.o c fs))) = some (c, fs) := rfl
theorem oOwn_me : oOwn (some (some (.me c fs))) = some (c, fs) := rfl
def kFld (c f : Str) (o : Option (Str × Fs)) : R PD := match o with
  | some (c', fs) => if c' = c then (match fGet f fs with
    | some (.d x) => .ok x
    | _ => .no) else .no
  | none => .no
theorem ev_fld {f : Str} : dFld c i f ρ = kFld c f (oGet ρ[i]?) := rfl
theorem kFld_ev {f : Str} (h : fGet f fs = some (.d d)) : kFld c f (some (c, fs)) = .ok d := by
  unfold kFld
  simp only [h, if_true]
theorem fkAt_ev {f : Str} (h : fGet f fs = some (.k mm)) : fkAt c f (some (c, fs)) = some mm := by
  unfold fkAt
  simp only [h, if_true]
theorem fOwn_ev {f : Str} {y : FV} (h : fGet f fs = some y) : fOwn c f (some (c, fs)) = some (y, fs) := by
  unfold fOwn
  simp only [h, if_true, Option.map_some]
def kFldGet (r : R PD) (o : Option Kv) : R PD := match o with
  | some m => r.bind (kGetR m)
  | none => .no
theorem ev_fldget {f : Str} : dFldGet c i f fk ρ = kFldGet (fk ρ) (fkAt c f (oGet ρ[i]?)) := rfl
theorem kFldGet_ev {r : R PD} : kFldGet r (some mm) = r.bind (kGetR mm) := rfl
def kFldIn (neg : Bool) (r : R PD) (o : Option Kv) : R PD := match o with
  | some m => r.bind (kInR neg m)
  | none => .no
theorem ev_fldin {f : Str} {neg : Bool} : dFldIn c neg i f fk ρ = kFldIn neg (fk ρ) (fkAt c f (oGet ρ[i]?)) := rfl
theorem kFldIn_ev {r : R PD} {neg : Bool} : kFldIn neg r (some mm) = r.bind (kInR neg mm) := rfl
def kFldSort (o : Option Kv) : R PD := match o with
  | some m => (match intKeys m with
    | some ns => .ok (.list ((srtI ns).map .int))
    | none => .no)
  | none => .no
theorem ev_fldsort {f : Str} : dFldSort c i f ρ = kFldSort (fkAt c f (oGet ρ[i]?)) := rfl
def kFldSet (c : Str) (i : Nat) (f : Str) (ρ : En) (d : PD) : Fl := match oOwn ρ[i]? with
  | some (c', fs) => if c' = c ∧ fs.length < 1000 then (match fGet f fs with
    | some (.d _) => .nx (oPut ρ i (fPut f (.d d) fs))
    | none => .nx (oPut ρ i (fPut f (.d d) fs))
    | _ => .no) else .no
  | none => .no
theorem ev_fldset {f : Str} : sFld c i f fe ρ = (fe ρ).fl ρ (kFldSet c i f ρ) := rfl
def kFldNew (c : Str) (i : Nat) (f : Str) (x : FV) (ρ : En) (o : Option (Str × Fs)) : Fl := match o with
  | some (c', fs) => if c' = c ∧ fs.length < 1000 then (match fGet f fs with
    | none => .nx (oPut ρ i (fPut f x fs))
    | _ => .no) else .no
  | _ => .no
theorem ev_fldnew {f : Str} {y : FV} : sFldK c i f y ρ = kFldNew c i f y ρ (oOwn ρ[i]?) := rfl
theorem kFldNew_ev {f : Str} {y : FV} (hl : fs.length < 1000) (hg : fGet f fs = none) : kFldNew c i f y ρ (some (c, fs)) = .nx (oPut ρ i (fPut f y fs)) := by
  unfold kFldNew
  dsimp only
  rw [if_pos ⟨rfl, hl⟩, hg]
def kFldPut1 (i : Nat) (f : Str) (m : Kv) (fs : Fs) (ρ : En) (d k : PD) : R Fl := .ok (match keyOf k with
  | some k => if m.length < 16777216 then .nx (oPut ρ i (fPut f (.k (kPut m k d)) fs)) else .no
  | none => .no)
def kFldPutO (i : Nat) (f : Str) (fk fe : En → R PD) (ρ : En) : Option (FV × Fs) → Fl
  | some (.k m, fs) => (R.bind2 (kFldPut1 i f m fs ρ) (fe ρ) (fk ρ)).fl ρ kId
  | _ => .no
theorem ev_fldput {f : Str} : sFldPut c i f fk fe ρ = kFldPutO i f fk fe ρ (fOwn c f (oOwn ρ[i]?)) := by
  unfold sFldPut kFldPutO
  cases fOwn c f (oOwn ρ[i]?) with
  | none => rfl
  | some yf =>
    obtain ⟨y, fs⟩ := yf
    cases y <;> first | rfl | (dsimp only; unfold sE R.bind2 R.fl kFldPut1 kId; cases fe ρ <;> first | rfl | (dsimp only; cases fk ρ <;> rfl))
theorem fldput_k {f : Str} : kFldPutO i f fk fe ρ (some (.k mm, fs)) = (R.bind2 (kFldPut1 i f mm fs ρ) (fe ρ) (fk ρ)).fl ρ kId := rfl
theorem kFldPut1_i {f : Str} {z : Int} (h : mm.length < 16777216) : kFldPut1 i f mm fs ρ d (.int z) = .ok (.nx (oPut ρ i (fPut f (.k (kPut mm (.inl z) d)) fs))) := by
  unfold kFldPut1 keyOf
  simp only [if_pos h]
def kFldPop1 (i : Nat) (f : Str) (m : Kv) (fs : Fs) (ρ : En) (k : PD) : Fl := match keyOf k with
  | some k => if (kGet m k).isSome = true then .nx (oPut ρ i (fPut f (.k (kDrop m k)) fs)) else .no
  | none => .no
def kFldPopO (i : Nat) (f : Str) (fk : En → R PD) (ρ : En) : Option (FV × Fs) → Fl
  | some (.k m, fs) => (fk ρ).fl ρ (kFldPop1 i f m fs ρ)
  | _ => .no
theorem ev_fldpop {f : Str} : sFldPop c i f fk ρ = kFldPopO i f fk ρ (fOwn c f (oOwn ρ[i]?)) := by
  unfold sFldPop kFldPopO
  cases fOwn c f (oOwn ρ[i]?) with
  | none => rfl
  | some yf =>
    obtain ⟨y, fs⟩ := yf
    cases y <;> rfl
theorem fldpop_k {f : Str} : kFldPopO i f fk ρ (some (.k mm, fs)) = (fk ρ).fl ρ (kFldPop1 i f mm fs ρ) := rfl
theorem kFldPop1_i {f : Str} {z : Int} (h : (kGet mm (.inl z)).isSome = true) : kFldPop1 i f mm fs ρ (.int z) = .nx (oPut ρ i (fPut f (.k (kDrop mm (.inl z))) fs)) := by
  unfold kFldPop1 keyOf
  simp only [if_pos h]
def kFldApp1 (i : Nat) (f : Str) (xs : List PD) (fs : Fs) (ρ : En) (d : PD) : Fl := if xs.length < 16777216 then .nx (oPut ρ i (fPut f (.l (xs ++ [d])) fs)) else .no
def kFldAppO (i : Nat) (f : Str) (fe : En → R PD) (ρ : En) : Option (FV × Fs) → Fl
  | some (.l xs, fs) => (fe ρ).fl ρ (kFldApp1 i f xs fs ρ)
  | _ => .no
theorem ev_fldapp {f : Str} : sFldApp c i f fe ρ = kFldAppO i f fe ρ (fOwn c f (oOwn ρ[i]?)) := by
  unfold sFldApp kFldAppO
  cases fOwn c f (oOwn ρ[i]?) with
  | none => rfl
  | some yf =>
    obtain ⟨y, fs⟩ := yf
    cases y <;> rfl
theorem fldapp_l {f : Str} : kFldAppO i f fe ρ (some (.l xs, fs)) = (fe ρ).fl ρ (kFldApp1 i f xs fs ρ) := rfl
theorem kFldApp1_ev {f : Str} (h : xs.length < 16777216) : kFldApp1 i f xs fs ρ d = .nx (oPut ρ i (fPut f (.l (xs ++ [d])) fs)) := if_pos h
/-! methods -/
theorem gMeP_ev {n : Nat} {g : Fs → List PD → R PD} (h : (xs ++ ds).length + 1 = n) : gMeP n ds g fs xs = g fs (.none :: (xs ++ ds)) := if_pos h
theorem gMeV_ev {n : Nat} {g : Fs → List PD → R SV} (h : (xs ++ ds).length + 1 = n) : gMeV n ds g fs xs = g fs (.none :: (xs ++ ds)) := if_pos h
theorem gMeM_ev {n : Nat} {g : Fs → List PD → RM} (h : (xs ++ ds).length + 1 = n) : gMeM n ds g fs xs = g fs (.none :: (xs ++ ds)) := if_pos h
theorem gCallV_ev {n : Nat} {g : List PD → R SV} (h : (xs ++ ds).length = n) : gCallV n ds g xs = g (xs ++ ds) := if_pos h
theorem ev_AV {g : List PD → R SV} : dAV g fa ρ = (fa ρ).bind g := rfl
def kMth {A : Type} (c m : Str) (g : Fs → List PD → R A) (r : R (List PD)) (o : Option (Str × Fs)) : R A := match o with
  | some (c', fs) => if c' = c ∧ fGet m fs = none then r.bind (g fs) else .no
  | none => .no
theorem ev_mth {g : Fs → List PD → R PD} : dMth c i m g fa ρ = kMth c m g (fa ρ) (oGet ρ[i]?) := rfl
theorem ev_vmth {g : Fs → List PD → R SV} : vMth c i m g fa ρ = kMth c m g (fa ρ) (oGet ρ[i]?) := rfl
theorem kMth_ev {A : Type} {g : Fs → List PD → R A} {r : R (List PD)} (h : fGet m fs = none) : kMth c m g r (some (c, fs)) = r.bind (g fs) := by
  unfold kMth
  dsimp only
  rw [if_pos ⟨rfl, h⟩]
def kMr (i : Nat) (k : PD → En → Fl) (ρ : En) : RM → Fl
  | .ok d fs' => k d (oPut ρ i fs')
  | .ex cc fs' => .ex cc (oPut ρ i fs')
  | .no => .no
def kM1 (i : Nat) (g : Fs → List PD → RM) (k : PD → En → Fl) (fs : Fs) (ρ : En) (ds : List PD) : Fl := kMr i k ρ (g fs ds)
def kM (c : Str) (i : Nat) (m : Str) (g : Fs → List PD → RM) (fa : En → R (List PD)) (k : PD → En → Fl) (ρ : En) (o : Option (Str × Fs)) : Fl := match o with
  | some (c', fs) => if c' = c ∧ fGet m fs = none then (fa ρ).fl ρ (kM1 i g k fs ρ) else .no
  | none => .no
theorem ev_M {g : Fs → List PD → RM} {k : PD → En → Fl} : sM c i m g fa k ρ = kM c i m g fa k ρ (oOwn ρ[i]?) := by
  unfold sM kM
  cases oOwn ρ[i]? with
  | none => rfl
  | some cf =>
    obtain ⟨c', fs⟩ := cf
    dsimp only
    split
    · unfold sE R.fl kM1 kMr
      cases fa ρ with
      | ok ds => (try dsimp only) <;> (cases g fs ds <;> rfl)
      | ex cc => rfl
      | no => rfl
    · rfl
theorem ev_Me {g : Fs → List PD → RM} : sMe c i m g fa ρ = kM c i m g fa (fun _ ρ => .nx ρ) ρ (oOwn ρ[i]?) := ev_M
theorem ev_Ms {g : Fs → List PD → RM} : sMs c i m g fa j ρ = kM c i m g fa (fun d ρ => .nx (ρ.set j (some (.d d)))) ρ (oOwn ρ[i]?) := ev_M
theorem ev_Mr {g : Fs → List PD → RM} : sMr c i m g fa ρ = kM c i m g fa (fun d ρ => .rm d ρ) ρ (oOwn ρ[i]?) := ev_M
theorem kM_ev {g : Fs → List PD → RM} {k : PD → En → Fl} (h : fGet m fs = none) : kM c i m g fa k ρ (some (c, fs)) = (fa ρ).fl ρ (kM1 i g k fs ρ) := by
  unfold kM
  dsimp only
  rw [if_pos ⟨rfl, h⟩]
theorem kM1_ev {g : Fs → List PD → RM} {k : PD → En → Fl} : kM1 i g k fs ρ ds = kMr i k ρ (g fs ds) := rfl
theorem kMr_ok {k : PD → En → Fl} : kMr i k ρ (.ok d fs) = k d (oPut ρ i fs) := rfl
theorem kMr_ex {k : PD → En → Fl} {cc : Str} : kMr i k ρ (.ex cc fs) = .ex cc (oPut ρ i fs) := rfl
def kMk (c : Str) : RM → R SV
  | .ok .none fs => .ok (.o c fs)
  | _ => .no
def kMk1 (c : Str) (n : Nat) (ds : List PD) (g : Fs → List PD → RM) (as : List PD) : R SV := kMk c (gMeM n ds g [] as)
theorem ev_make {n : Nat} {g : Fs → List PD → RM} : vMake c n ds g fa ρ = (fa ρ).bind (kMk1 c n ds g) := by
  unfold vMake R.bind kMk1 kMk
  cases fa ρ with
  | ok as => (try dsimp only) <;> (cases gMeM n ds g [] as <;> first | rfl | (rename_i d fs; cases d <;> rfl))
  | ex cc => rfl
  | no => rfl
theorem kMk1_ev {n : Nat} {g : Fs → List PD → RM} : kMk1 c n ds g xs = kMk c (gMeM n ds g [] xs) := rfl
theorem kMk_ok : kMk c (.ok .none fs) = .ok (.o c fs) := rfl
/-! defs that are handed an object -/
theorem gObjM_ev {n : Nat} {g : Fs → List PD → RM} (h : (xs ++ ds).length = n) : gObjM n ds g fs xs = g fs (xs ++ ds) := if_pos h
def kObj (ds : List PD) : R (List PD) := .ok (.none :: ds)
theorem ev_obj : dObj fa ρ = (fa ρ).bind kObj := rfl
theorem kObj_ev : kObj xs = .ok (.none :: xs) := rfl
def kF (c : Str) (i : Nat) (g : Fs → List PD → RM) (fa : En → R (List PD)) (k : PD → En → Fl) (ρ : En) (o : Option (Str × Fs)) : Fl := match o with
  | some (c', fs) => if c' = c then (fa ρ).fl ρ (kM1 i g k fs ρ) else .no
  | none => .no
theorem ev_F {g : Fs → List PD → RM} {k : PD → En → Fl} : sF c i g fa k ρ = kF c i g fa k ρ (oOwn ρ[i]?) := by
  unfold sF kF
  cases oOwn ρ[i]? with
  | none => rfl
  | some cf =>
    obtain ⟨c', fs⟩ := cf
    dsimp only
    split
    · unfold sE R.fl kM1 kMr
      cases fa ρ with
      | ok ds => (try dsimp only) <;> (cases g fs ds <;> rfl)
      | ex cc => rfl
      | no => rfl
    · rfl
theorem ev_Fe {g : Fs → List PD → RM} : sFe c i g fa ρ = kF c i g fa (fun _ ρ => .nx ρ) ρ (oOwn ρ[i]?) := ev_F
theorem kF_ev {g : Fs → List PD → RM} {k : PD → En → Fl} : kF c i g fa k ρ (some (c, fs)) = (fa ρ).fl ρ (kM1 i g k fs ρ) := if_pos rfl
/-! defs -/
def Fl.finM (c : Str) (j : Nat) : Fl → RM
  | .rm d ρ => meAt c j ρ (.ok d)
  | .nx ρ => meAt c j ρ (.ok .none)
  | .ex cc ρ => meAt c j ρ (.ex cc)
  | _ => .no
def Fl.finV : Fl → R SV
  | .rv x => .ok x
  | .ex cc _ => .ex cc
  | _ => .no
theorem ev_fnM {n : Nat} {den : En → Fl} (h : ds.length ≤ n) : fnM n j c den fs ds = (den ((startE n ds).set j (some (.me c fs)))).finM c j := by
  unfold fnM stE
  rw [startE_eq n ds h]
  rfl
theorem ev_fnPV {n : Nat} {den : En → Fl} (h : ds.length ≤ n) : fnPV n j c den fs ds = (den ((startE n ds).set j (some (.ro c fs)))).finV := by
  unfold fnPV stE
  rw [startE_eq n ds h]
  rfl
theorem ev_fnV {n : Nat} {den : En → Fl} (h : ds.length ≤ n) : fnV n den ds = (den (startE n ds)).finV := by
  unfold fnV stE
  rw [startE_eq n ds h]
  rfl
theorem finM_rm : (Fl.rm d ρ).finM c j = meAt c j ρ (.ok d) := rfl
theorem finM_nx : (Fl.nx ρ).finM c j = meAt c j ρ (.ok .none) := rfl
theorem finM_ex {cc : Str} : (Fl.ex cc ρ).finM c j = meAt c j ρ (.ex cc) := rfl
theorem finV_rv : (Fl.rv x).finV = .ok x := rfl
theorem meAt_0 {k : Fs → RM} : meAt c 0 (some (.me c fs) :: ρ) k = k fs := by
  unfold meAt
  simp only [List.getElem?_cons_zero, if_true]
theorem meAt_1 {k : Fs → RM} {y : Option SV} : meAt c 1 (y :: some (.me c fs) :: ρ) k = k fs := by
  unfold meAt
  simp only [List.getElem?_cons_succ, List.getElem?_cons_zero, if_true]
/-! a list that stands still; clear; made and dropped -/
theorem noPin_c {o : Option SV} : noPin (o :: ρ) = (!pinned o && noPin ρ) := rfl
theorem noPin_n : noPin [] = true := rfl
theorem pinned_n : pinned none = false := rfl
theorem pinned_d : pinned (some (.d d)) = false := rfl
theorem pinned_l : pinned (some (.l xs)) = false := rfl
theorem pinned_k : pinned (some (.k mm)) = false := rfl
theorem pinned_o : pinned (some (.o c fs)) = false := rfl
theorem pinned_ro : pinned (some (.ro c fs)) = false := rfl
/-! DL18 -/
def kTpC (p : TP) (ps : List TP) : R (List TP) := .ok (p :: ps)
theorem kTpC_ev {p : TP} {ps : List TP} : kTpC p ps = .ok (p :: ps) := rfl
theorem ev_tpNil : tpNil ρ = .ok [] := rfl
def kTpD (d : PD) (ps : List TP) : R (List TP) := .ok (.d d :: ps)
theorem ev_tpD1 {gp : En → R (List TP)} : tpD1 f gp ρ = R.bind2 kTpD (f ρ) (gp ρ) := by
  unfold tpD1
  cases f ρ <;> rfl
theorem kTpD_ev {ps : List TP} : kTpD d ps = .ok (.d d :: ps) := rfl
def kTpS (gp : En → R (List TP)) (ρ : En) : Option TP → R (List TP)
  | some p => (gp ρ).bind (kTpC p)
  | none => .no
theorem ev_tpS {gp : En → R (List TP)} : tpS i gp ρ = kTpS gp ρ (slotP ρ[i]?) := by
  unfold tpS kTpS
  cases slotP ρ[i]? <;> rfl
theorem slotP_d : slotP (some (some (.d d))) = some (.d d) := rfl
theorem slotP_l : slotP (some (some (.l xs))) = some (.l xs) := rfl
theorem slotP_o : slotP (some (some (.o c fs))) = some (.o c fs) := rfl
theorem kTpS_ev {gp : En → R (List TP)} {p : TP} : kTpS gp ρ (some p) = (gp ρ).bind (kTpC p) := rfl
def kTpV (gp : En → R (List TP)) (ρ : En) (x : SV) : R (List TP) := kTpS gp ρ (newP x)
theorem ev_tpV {gp : En → R (List TP)} : tpV fv gp ρ = (fv ρ).bind (kTpV gp ρ) := by
  unfold tpV
  cases fv ρ with
  | ok x =>
    simp only [R.bind_ok]
    unfold kTpV kTpS
    cases newP x <;> rfl
  | ex c => rfl
  | no => rfl
theorem kTpV_l {gp : En → R (List TP)} : kTpV gp ρ (.l xs) = (gp ρ).bind (kTpC (.l xs)) := rfl
theorem kTpV_o {gp : En → R (List TP)} : kTpV gp ρ (.o c fs) = (gp ρ).bind (kTpC (.o c fs)) := rfl
def kRetTp (ps : List TP) : Fl := if ps.length ≤ 1000 then .rv (.tp ps) else .no
theorem ev_retTp {gp : En → R (List TP)} : sRetTp gp ρ = (gp ρ).fl ρ kRetTp := rfl
theorem kRetTp_ev {ps : List TP} (h : ps.length ≤ 1000) : kRetTp ps = .rv (.tp ps) := if_pos h
def kAsgTp (is : List Nat) (ρ : En) : SV → Fl
  | .tp ps => if ps.length = is.length then .nx (putTp is ps ρ) else .no
  | _ => .no
theorem ev_asgTp {is : List Nat} : sAsgTp is fv ρ = (fv ρ).fl ρ (kAsgTp is ρ) := by
  unfold sAsgTp sE
  cases fv ρ with
  | ok x => cases x <;> rfl
  | ex c => rfl
  | no => rfl
theorem kAsgTp_ev {is : List Nat} {ps : List TP} (h : ps.length = is.length) : kAsgTp is ρ (.tp ps) = .nx (putTp is ps ρ) := if_pos h
theorem putTp_c {is : List Nat} {p : TP} {ps : List TP} : putTp (i :: is) (p :: ps) ρ = putTp is ps (ρ.set i (some p.sv)) := rfl
theorem putTp_n : putTp [] [] ρ = ρ := rfl
theorem sv_d : TP.sv (.d d) = .d d := rfl
theorem sv_l : TP.sv (.l xs) = .l xs := rfl
theorem sv_o : TP.sv (.o c fs) = .o c fs := rfl
theorem tpD_d {ps : List TP} : tpD (.d d :: ps) = d :: tpD ps := rfl
theorem tpD_l {ps : List TP} : tpD (.l xs :: ps) = .list xs :: tpD ps := rfl
theorem tpD_n : tpD [] = [] := rfl
def kRg1 : PD → R (List PD)
  | .int n => if 0 ≤ n ∧ n ≤ 16777216 then .ok (rng 0 n.toNat) else .no
  | _ => .no
theorem ev_rg1 : lRg1 f ρ = (f ρ).bind kRg1 := by
  unfold lRg1
  cases f ρ with
  | ok d => cases d <;> rfl
  | ex c => rfl
  | no => rfl
theorem kRg1_ev {n : Int} (h : 0 ≤ n ∧ n ≤ 16777216) : kRg1 (.int n) = .ok (rng 0 n.toNat) := if_pos h
theorem ev_rvL : iRv f ρ = (f ρ).bind revL := rfl
theorem revL_l : revL (.list ds) = .ok ds.reverse := rfl
/-! DL19 -/
def kRetFl (c f : Str) : Option (Option SV) → Fl
  | some (some (.o c' fs)) => if c' = c then (match fGet f fs with
    | some (.l xs) => .rv (.l xs)
    | _ => .no) else .no
  | _ => .no
theorem ev_retFl {f : Str} : sRetFl c i f ρ = kRetFl c f ρ[i]? := by
  unfold sRetFl kRetFl
  cases ρ[i]? with
  | none => rfl
  | some o =>
    cases o with
    | none => rfl
    | some v => cases v <;> rfl
end
end DL

local macro_rules
  | `(tactic| simp +decide only [$ls,*]) => do
    let es := ls.getElems
    match es.findIdx? (fun l => l.raw[2].getId == `zEON9) with
    | some i => match ← `(tactic| simp +decide only [DL.ev_seq, DL.seq_nx, DL.seq_rt, DL.seq_ex, DL.seq_bk, DL.seq_ct, DL.seq_ite, DL.fl_okM, DL.fl_ex, DL.fl_ite, DL.ev_set, DL.kSet_ev, DL.ev_ret, DL.ev_nx, DL.ev_raise, DL.ev_if, DL.kIf_ev, DL.ev_drop, DL.kNx_ev, DL.ev_par, DL.kPar_ev, DL.kId_ev, DL.ev_asg, DL.kAsg_ev, DL.ev_forM, DL.kFor_ev, DL.ev_V, DL.dVg_ok, DL.ev_C, DL.ev_1, DL.ev_2, DL.bind2_ok, DL.bind2_ite1, DL.bind2_ite2, DL.bind_ite, DL.ev_A, DL.ev_nil, DL.ev_cons, DL.kCons_ev, DL.ev_T, DL.toB_ev, DL.ev_and, DL.ev_or, DL.ev_not, DL.kAnd_ev, DL.kOr_ev, DL.kNot_ev, DL.ev_andV, DL.ev_orV, DL.ev_notV, DL.kAndV_ev, DL.kOrV_ev, DL.kNotV_ev, DL.tup_ev, DL.lst_ev, DL.call_ev, DL.ev_fn, DL.startE_0, DL.startE_s, DL.startE_c, DL.fin_rt, DL.fin_nx, DL.fin_ex, DL.fin_ite, DL.ix_t0, DL.ix_t1, DL.ix_t2, DL.ix_t3, DL.ix_l0, DL.ix_l1, DL.ix_l2, DL.len_l, DL.len_t1, DL.len_t2, DL.len_t3, DL.len_t4, beq_self_eq_true, DL.ev_iL, DL.ev_iT, DL.asL_ev, DL.asT_ev, DL.ev_iAM, DL.ev_P, DL.toI_ev, DL.ev_P0, DL.ev_sl, DL.kSl_ev, DL.put_1, DL.gAdd_i, DL.gSub_i, DL.gMul_i, DL.gDiv_p, DL.gMod_p, DL.gPow_l, DL.gShl_l, DL.gShr_l, DL.gLt_i, DL.gLe_i, DL.gGt_i, DL.gGe_i, DL.gEq_i, DL.gNe_i, DL.gNeg_i, DL.gAbs_i, DL.gInt_i, DL.gInt_b, DL.gEq_s, DL.gNe_s, DL.gEq_b, DL.gNe_b, DL.gEq_2, DL.gNe_2, DL.gEq_3, DL.gNe_3, DL.gEq_22, DL.gNe_22, DL.bind_okM, DL.R.bind_ex, DL.ev_setL, DL.kSetL_ev, DL.ev_lDisp, DL.kDisp_ev, DL.ev_frz, DL.frz_l, DL.frz_d, DL.frz_n, DL.ev_lend, DL.lend_l, DL.lend_d, DL.atom_i, DL.atom_b, DL.atom_s, DL.ev_lendB, DL.lendB_l, DL.lendB_d, DL.ev_app, DL.app_l, DL.kApp_ev, DL.ev_put, DL.put_l, DL.ev_ixO, DL.ixO_l, DL.ixO_d, DL.put_m, DL.putAll_c, DL.putAll_n, DL.ev_lc, DL.kLst_ev, DL.ev_lcL, DL.wipe_n, DL.wipe_c, DL.r1_2, DL.r1_3, DL.bits_ev, List.getElem?_cons_zero, List.getElem?_cons_succ, List.set_cons_zero, List.set_cons_succ, List.length_cons, List.length_nil, List.length_map, List.append_nil, List.cons_append, List.nil_append, DL.ev_if, DL.turn_nx, DL.turn_ct, DL.turn_bk, DL.turn_rt, DL.turn_ite, DL.kWh_ev, DL.isi_int_int, DL.isi_bool_int, DL.isi_int_bool, DL.isi_bool_bool, DL.isi_int_str, DL.isi_int_none, DL.isi_int_list, DL.isi_int_tup, DL.isi_bool_str, DL.isi_bool_none, DL.isi_bool_list, DL.isi_bool_tup, DL.isi_tup_tup, DL.isi_tup_int, DL.isi_tup_bool, DL.isi_tup_str, DL.isi_tup_none, DL.isi_tup_list, DL.isi_list_list, DL.isi_list_tup, DL.isi_list_int, DL.isi_list_bool, DL.isi_list_str, DL.isi_list_none, DL.isi_str_str, DL.isi_str_int, DL.isi_str_bool, DL.isi_str_none, DL.isi_str_list, DL.isi_str_tup, decide_true, decide_false, not_true_eq_false, not_false_eq_true, ne_eq, decide_eq_true_eq, Bool.not_eq_true', decide_eq_false_iff_not, Bool.not_true, Bool.not_false, Bool.false_eq_true, if_true, if_false, reduceIte, DL.seq_rm, DL.seq_rv, DL.turn_rm, DL.turn_rv, DL.turn_ex, DL.ev_retM, DL.kRm_ev, DL.ev_retV, DL.ev_vL, DL.kVL_ev, DL.frzV_l, DL.ev_setV, DL.kSetV_l, DL.kSetV_o, DL.ev_getK, DL.getK_k, DL.getK_d, DL.ev_inK, DL.inK_k, DL.inK_d, DL.ev_lenK, DL.lenK_k, DL.lenK_d, DL.ev_setK, DL.ev_setKD, DL.kSetKD_ev, DL.ev_putK, DL.putK_k, DL.kPutK1_i, DL.ev_popE, DL.popK_k, DL.kPopK1_i, DL.ev_frzK, DL.frzK_k, DL.frzK_d, DL.ev_iK, DL.kKeys_ev, DL.kGetR_i, DL.kInR_i, DL.oPut_ev, DL.oPutO_o, DL.oPutO_me, DL.oGet_o, DL.oGet_me, DL.oGet_ro, DL.oOwn_o, DL.oOwn_me, DL.ev_fld, DL.kFld_ev, DL.fkAt_ev, DL.fOwn_ev, DL.ev_fldget, DL.kFldGet_ev, DL.ev_fldin, DL.kFldIn_ev, DL.ev_fldsort, DL.ev_fldset, DL.ev_fldnew, DL.kFldNew_ev, DL.ev_fldput, DL.fldput_k, DL.kFldPut1_i, DL.ev_fldpop, DL.fldpop_k, DL.kFldPop1_i, DL.ev_fldapp, DL.fldapp_l, DL.kFldApp1_ev, DL.gMeP_ev, DL.gMeV_ev, DL.gMeM_ev, DL.gCallV_ev, DL.ev_AV, DL.ev_mth, DL.ev_vmth, DL.kMth_ev, DL.ev_Me, DL.ev_Ms, DL.ev_Mr, DL.kM_ev, DL.kM1_ev, DL.kMr_ok, DL.kMr_ex, DL.ev_make, DL.kMk1_ev, DL.kMk_ok, DL.ev_fnM, DL.ev_fnPV, DL.ev_fnV, DL.finM_rm, DL.finM_nx, DL.finM_ex, DL.finV_rv, DL.meAt_0, DL.meAt_1, DL.gObjM_ev, DL.ev_obj, DL.kObj_ev, DL.ev_Fe, DL.kF_ev, DL.noPin_c, DL.noPin_n, DL.pinned_n, DL.pinned_d, DL.pinned_l, DL.pinned_k, DL.pinned_o, DL.pinned_ro, DL.kTpC_ev, DL.ev_tpNil, DL.ev_tpD1, DL.kTpD_ev, DL.ev_tpS, DL.slotP_d, DL.slotP_l, DL.slotP_o, DL.kTpS_ev, DL.ev_tpV, DL.kTpV_l, DL.kTpV_o, DL.ev_retTp, DL.kRetTp_ev, DL.ev_asgTp, DL.kAsgTp_ev, DL.putTp_c, DL.putTp_n, DL.sv_d, DL.sv_l, DL.sv_o, DL.tpD_d, DL.tpD_l, DL.tpD_n, DL.ev_rg1, DL.kRg1_ev, DL.ev_rvL, DL.revL_l, DL.ev_retFl]) with
      | `(tactic| simp +decide only [$ms,*]) =>
        let all := es.extract 0 i ++ ms.getElems ++ es.extract (i + 1) es.size
        `(tactic| simp +decide only [$all,*])
      | _ => Lean.Macro.throwUnsupported
    | none => Lean.Macro.throwUnsupported
local macro_rules
  | `(tactic| simp +decide only [$ls,*]) => do
    let es := ls.getElems
    match es.findIdx? (fun l => l.raw[2].getId == `zEO9) with
    | some i => match ← `(tactic| simp +decide only [DL.ev_seq, DL.seq_nx, DL.seq_rt, DL.seq_ex, DL.seq_bk, DL.seq_ct, DL.seq_ite, DL.fl_ok, DL.fl_ex, DL.fl_ite, DL.ev_set, DL.kSet_ev, DL.ev_ret, DL.ev_nx, DL.ev_raise, DL.ev_if, DL.kIf_ev, DL.ev_drop, DL.kNx_ev, DL.ev_par, DL.kPar_ev, DL.kId_ev, DL.ev_asg, DL.kAsg_ev, DL.ev_for, DL.kFor_ev, DL.ev_V, DL.dVg_ok, DL.ev_C, DL.ev_1, DL.ev_2, DL.bind2_ok, DL.bind2_ite1, DL.bind2_ite2, DL.bind_ite, DL.ev_A, DL.ev_nil, DL.ev_cons, DL.kCons_ev, DL.ev_T, DL.toB_ev, DL.ev_and, DL.ev_or, DL.ev_not, DL.kAnd_ev, DL.kOr_ev, DL.kNot_ev, DL.ev_andV, DL.ev_orV, DL.ev_notV, DL.kAndV_ev, DL.kOrV_ev, DL.kNotV_ev, DL.tup_ev, DL.lst_ev, DL.call_ev, DL.ev_fn, DL.startE_0, DL.startE_s, DL.startE_c, DL.fin_rt, DL.fin_nx, DL.fin_ex, DL.fin_ite, DL.ix_t0, DL.ix_t1, DL.ix_t2, DL.ix_t3, DL.ix_l0, DL.ix_l1, DL.ix_l2, DL.len_l, DL.len_t1, DL.len_t2, DL.len_t3, DL.len_t4, beq_self_eq_true, DL.ev_iL, DL.ev_iT, DL.asL_ev, DL.asT_ev, DL.ev_iA, DL.ev_P, DL.toI_ev, DL.ev_P0, DL.ev_sl, DL.kSl_ev, DL.put_1, DL.gAdd_i, DL.gSub_i, DL.gMul_i, DL.gDiv_p, DL.gMod_p, DL.gPow_l, DL.gShl_l, DL.gShr_l, DL.gLt_i, DL.gLe_i, DL.gGt_i, DL.gGe_i, DL.gEq_i, DL.gNe_i, DL.gNeg_i, DL.gAbs_i, DL.gInt_i, DL.gInt_b, DL.gEq_s, DL.gNe_s, DL.gEq_b, DL.gNe_b, DL.gEq_2, DL.gNe_2, DL.gEq_3, DL.gNe_3, DL.gEq_22, DL.gNe_22, DL.R.bind_ok, DL.R.bind_ex, DL.ev_setL, DL.kSetL_ev, DL.ev_lDisp, DL.kDisp_ev, DL.ev_frz, DL.frz_l, DL.frz_d, DL.frz_n, DL.ev_lend, DL.lend_l, DL.lend_d, DL.atom_i, DL.atom_b, DL.atom_s, DL.ev_lendB, DL.lendB_l, DL.lendB_d, DL.ev_app, DL.app_l, DL.kApp_ev, DL.ev_put, DL.put_l, DL.ev_ixO, DL.ixO_l, DL.ixO_d, DL.put_m, DL.putAll_c, DL.putAll_n, DL.ev_lc, DL.kLst_ev, DL.ev_lcL, DL.wipe_n, DL.wipe_c, DL.r1_2, DL.r1_3, DL.bits_ev, List.getElem?_cons_zero, List.getElem?_cons_succ, List.set_cons_zero, List.set_cons_succ, List.length_cons, List.length_nil, List.length_map, List.append_nil, List.cons_append, List.nil_append, DL.ev_if, DL.turn_nx, DL.turn_ct, DL.turn_bk, DL.turn_rt, DL.turn_ite, DL.kWh_ev, DL.isi_int_int, DL.isi_bool_int, DL.isi_int_bool, DL.isi_bool_bool, DL.isi_int_str, DL.isi_int_none, DL.isi_int_list, DL.isi_int_tup, DL.isi_bool_str, DL.isi_bool_none, DL.isi_bool_list, DL.isi_bool_tup, DL.isi_tup_tup, DL.isi_tup_int, DL.isi_tup_bool, DL.isi_tup_str, DL.isi_tup_none, DL.isi_tup_list, DL.isi_list_list, DL.isi_list_tup, DL.isi_list_int, DL.isi_list_bool, DL.isi_list_str, DL.isi_list_none, DL.isi_str_str, DL.isi_str_int, DL.isi_str_bool, DL.isi_str_none, DL.isi_str_list, DL.isi_str_tup, decide_true, decide_false, not_true_eq_false, not_false_eq_true, ne_eq, decide_eq_true_eq, Bool.not_eq_true', decide_eq_false_iff_not, Bool.not_true, Bool.not_false, Bool.false_eq_true, if_true, if_false, reduceIte, DL.seq_rm, DL.seq_rv, DL.turn_rm, DL.turn_rv, DL.turn_ex, DL.ev_retM, DL.kRm_ev, DL.ev_retV, DL.ev_vL, DL.kVL_ev, DL.frzV_l, DL.ev_setV, DL.kSetV_l, DL.kSetV_o, DL.ev_getK, DL.getK_k, DL.getK_d, DL.ev_inK, DL.inK_k, DL.inK_d, DL.ev_lenK, DL.lenK_k, DL.lenK_d, DL.ev_setK, DL.ev_setKD, DL.kSetKD_ev, DL.ev_putK, DL.putK_k, DL.kPutK1_i, DL.ev_popE, DL.popK_k, DL.kPopK1_i, DL.ev_frzK, DL.frzK_k, DL.frzK_d, DL.ev_iK, DL.kKeys_ev, DL.kGetR_i, DL.kInR_i, DL.oPut_ev, DL.oPutO_o, DL.oPutO_me, DL.oGet_o, DL.oGet_me, DL.oGet_ro, DL.oOwn_o, DL.oOwn_me, DL.ev_fld, DL.kFld_ev, DL.fkAt_ev, DL.fOwn_ev, DL.ev_fldget, DL.kFldGet_ev, DL.ev_fldin, DL.kFldIn_ev, DL.ev_fldsort, DL.ev_fldset, DL.ev_fldnew, DL.kFldNew_ev, DL.ev_fldput, DL.fldput_k, DL.kFldPut1_i, DL.ev_fldpop, DL.fldpop_k, DL.kFldPop1_i, DL.ev_fldapp, DL.fldapp_l, DL.kFldApp1_ev, DL.gMeP_ev, DL.gMeV_ev, DL.gMeM_ev, DL.gCallV_ev, DL.ev_AV, DL.ev_mth, DL.ev_vmth, DL.kMth_ev, DL.ev_Me, DL.ev_Ms, DL.ev_Mr, DL.kM_ev, DL.kM1_ev, DL.kMr_ok, DL.kMr_ex, DL.ev_make, DL.kMk1_ev, DL.kMk_ok, DL.ev_fnM, DL.ev_fnPV, DL.ev_fnV, DL.finM_rm, DL.finM_nx, DL.finM_ex, DL.finV_rv, DL.meAt_0, DL.meAt_1, DL.gObjM_ev, DL.ev_obj, DL.kObj_ev, DL.ev_Fe, DL.kF_ev, DL.noPin_c, DL.noPin_n, DL.pinned_n, DL.pinned_d, DL.pinned_l, DL.pinned_k, DL.pinned_o, DL.pinned_ro, DL.kTpC_ev, DL.ev_tpNil, DL.ev_tpD1, DL.kTpD_ev, DL.ev_tpS, DL.slotP_d, DL.slotP_l, DL.slotP_o, DL.kTpS_ev, DL.ev_tpV, DL.kTpV_l, DL.kTpV_o, DL.ev_retTp, DL.kRetTp_ev, DL.ev_asgTp, DL.kAsgTp_ev, DL.putTp_c, DL.putTp_n, DL.sv_d, DL.sv_l, DL.sv_o, DL.tpD_d, DL.tpD_l, DL.tpD_n, DL.ev_rg1, DL.kRg1_ev, DL.ev_rvL, DL.revL_l, DL.ev_retFl]) with
      | `(tactic| simp +decide only [$ms,*]) =>
        let all := es.extract 0 i ++ ms.getElems ++ es.extract (i + 1) es.size
        `(tactic| simp +decide only [$all,*])
      | _ => Lean.Macro.throwUnsupported
    | none => Lean.Macro.throwUnsupported
set_option Elab.async false
set_option linter.all false
set_option maxRecDepth 100000
set_option maxHeartbeats 4000000
set_option autoImplicit false
/-! rules for reckoning DL21 .. -/
namespace DL
open PySem L2
section
variable {i j l : Nat} {ρ : En} {f1 f2 f3 : En → R PD}
end
end DL

set_option Elab.async false
set_option linter.all false
set_option maxRecDepth 100000
set_option maxHeartbeats 4000000
set_option autoImplicit false
namespace DL
open PySem L2
noncomputable def den_is_whole : En → Fl := sRet (dAndV (d1 (gIsi "int") (dV 0)) (dNotV (d1 (gIsi "bool") (dV 0))))
noncomputable def m_is_whole : List PD → R PD := fnD 1 den_is_whole
theorem mm_is_whole : m_is_whole = fnD 1 den_is_whole := rfl
noncomputable def lt1_divisor : En → R Bool := dT (d2 gNe (dV 1) (dC (.int 0)))
noncomputable def lb1_divisor : En → Fl := sPar 0 1 (dV 1) (d2 gMod (dV 0) (dV 1))
noncomputable def den_divisor : En → Fl := sSeq (sWhile lt1_divisor lb1_divisor) (sRet (dA gAbs (dCons (dV 0) (dNil))))
noncomputable def m_divisor : List PD → R PD := fnD 2 den_divisor
theorem mm_divisor : m_divisor = fnD 2 den_divisor := rfl
noncomputable def den_lowest : En → Fl := sSeq (sSet 3 (dA (gCall 2 [] m_divisor) (dCons (dA (gCall 2 [] m_divisor) (dCons (dV 0) (dCons (dV 1) (dNil)))) (dCons (dV 2) (dNil))))) (sSeq (sIf (dT (d2 gLt (dV 2) (dC (.int 0)))) (sSet 3 (d2 gSub (dC (.int 0)) (dV 3))) (sNx)) (sRet (dA gTupD (dCons (d2 gDiv (dV 0) (dV 3)) (dCons (d2 gDiv (dV 1) (dV 3)) (dCons (d2 gDiv (dV 2) (dV 3)) (dNil)))))))
noncomputable def m_lowest : List PD → R PD := fnD 4 den_lowest
theorem mm_lowest : m_lowest = fnD 4 den_lowest := rfl
noncomputable def den_length : En → Fl := sSeq (sIf (dOr (dNot (dT (dA (gCall 1 [] m_is_whole) (dCons (dV 0) (dNil))))) (dOr (dNot (dT (dA (gCall 1 [] m_is_whole) (dCons (dV 1) (dNil))))) (dOr (dNot (dT (dA (gCall 1 [] m_is_whole) (dCons (dV 2) (dNil))))) (dT (d2 gEq (dV 2) (dC (.int 0))))))) (sRaise "NoLength") (sNx)) (sRet (dA (gCall 3 [] m_lowest) (dCons (dV 0) (dCons (dV 1) (dCons (dV 2) (dNil))))))
noncomputable def m_length : List PD → R PD := fnD 3 den_length
theorem mm_length : m_length = fnD 3 den_length := rfl
noncomputable def den_fraction : En → Fl := sSeq (sSet 2 (dA (gCall 2 [] m_divisor) (dCons (dV 0) (dCons (dV 1) (dNil))))) (sSeq (sIf (dT (d2 gLt (dV 1) (dC (.int 0)))) (sSet 2 (d2 gSub (dC (.int 0)) (dV 2))) (sNx)) (sRet (dA gTupD (dCons (d2 gDiv (dV 0) (dV 2)) (dCons (d2 gDiv (dV 1) (dV 2)) (dNil))))))
noncomputable def m_fraction : List PD → R PD := fnD 3 den_fraction
theorem mm_fraction : m_fraction = fnD 3 den_fraction := rfl
noncomputable def den_parts : En → Fl := sRet (dA gTupD (dCons (dA (gCall 2 [] m_fraction) (dCons (d2 gIx (dV 0) (dC (.int 0))) (dCons (d2 gIx (dV 0) (dC (.int 2))) (dNil)))) (dCons (dA (gCall 2 [] m_fraction) (dCons (d2 gIx (dV 0) (dC (.int 1))) (dCons (d2 gIx (dV 0) (dC (.int 2))) (dNil)))) (dNil))))
noncomputable def m_parts : List PD → R PD := fnD 1 den_parts
theorem mm_parts : m_parts = fnD 1 den_parts := rfl
noncomputable def den_by_parts : En → Fl := sRet (dA (gCall 3 [] m_lowest) (dCons (d2 gMul (d2 gIx (dV 0) (dC (.int 0))) (d2 gIx (dV 1) (dC (.int 1)))) (dCons (d2 gMul (d2 gIx (dV 1) (dC (.int 0))) (d2 gIx (dV 0) (dC (.int 1)))) (dCons (d2 gMul (d2 gIx (dV 0) (dC (.int 1))) (d2 gIx (dV 1) (dC (.int 1)))) (dNil)))))
noncomputable def m_by_parts : List PD → R PD := fnD 2 den_by_parts
theorem mm_by_parts : m_by_parts = fnD 2 den_by_parts := rfl
noncomputable def den_shown_fraction : En → Fl := sSeq (sIf (dT (d2 gEq (d2 gIx (dV 0) (dC (.int 1))) (dC (.int 1)))) (sRet (dA gStr (dCons (d2 gIx (dV 0) (dC (.int 0))) (dNil)))) (sNx)) (sRet (d2 gAdd (d2 gAdd (dA gStr (dCons (d2 gIx (dV 0) (dC (.int 0))) (dNil))) (dC (.str "/"))) (dA gStr (dCons (d2 gIx (dV 0) (dC (.int 1))) (dNil)))))
noncomputable def m_shown_fraction : List PD → R PD := fnD 1 den_shown_fraction
theorem mm_shown_fraction : m_shown_fraction = fnD 1 den_shown_fraction := rfl
noncomputable def den_shown_ahead : En → Fl := sSeq (sIf (dT (d2 gEq (dV 0) (dA gTupD (dCons (dC (.int 1)) (dCons (dC (.int 1)) (dNil)))))) (sRet (dC (.str ""))) (sNx)) (sSeq (sIf (dT (d2 gEq (dV 0) (dA gTupD (dCons (d1 gNeg (dC (.int 1))) (dCons (dC (.int 1)) (dNil)))))) (sRet (dC (.str "-"))) (sNx)) (sRet (dA (gCall 1 [] m_shown_fraction) (dCons (dV 0) (dNil)))))
noncomputable def m_shown_ahead : List PD → R PD := fnD 1 den_shown_ahead
theorem mm_shown_ahead : m_shown_ahead = fnD 1 den_shown_ahead := rfl
def c_NOUGHT : PD := (.tuple [(.int 0), (.int 1)])
noncomputable def den_shown_length : En → Fl := sSeq (sAsg (.many [2, 3]) (dA (gCall 1 [] m_parts) (dCons (dV 1) (dNil)))) (sSeq (sIf (dT (d2 gEq (dV 3) (dC c_NOUGHT))) (sRet (dA (gCall 1 [] m_shown_fraction) (dCons (dV 2) (dNil)))) (sNx)) (sSeq (sSet 4 (d2 gAdd (d2 gAdd (dA (gCall 1 [] m_shown_ahead) (dCons (dV 3) (dNil))) (dC (.str "r"))) (dA gStr (dCons (dV 0) (dNil))))) (sSeq (sIf (dT (d2 gEq (dV 2) (dC c_NOUGHT))) (sRet (dV 4)) (sNx)) (sSeq (sIf (dT (d2 gGt (d2 gIx (dV 3) (dC (.int 0))) (dC (.int 0)))) (sRet (d2 gAdd (d2 gAdd (dA (gCall 1 [] m_shown_fraction) (dCons (dV 2) (dNil))) (dC (.str "+"))) (dV 4))) (sNx)) (sRet (d2 gAdd (dA (gCall 1 [] m_shown_fraction) (dCons (dV 2) (dNil))) (dV 4)))))))
noncomputable def m_shown_length : List PD → R PD := fnD 5 den_shown_length
theorem mm_shown_length : m_shown_length = fnD 5 den_shown_length := rfl
def c_FIGURES : PD := (.str "0123456789")
noncomputable def lb1_number_in : En → Fl := sIf (dT (d2 (gIn true) (dV 1) (dC c_FIGURES))) (sRaise "NoText") (sNx)
noncomputable def den_number_in : En → Fl := sSeq (sIf (dT (d2 gEq (dV 0) (dC (.str "")))) (sRaise "NoText") (sNx)) (sSeq (sFor (iS (dV 0)) (.one 1) lb1_number_in) (sRet (dA gIntT (dCons (dV 0) (dNil)))))
noncomputable def m_number_in : List PD → R PD := fnD 2 den_number_in
theorem mm_number_in : m_number_in = fnD 2 den_number_in := rfl
def m_fraction_in__0 : List PD → R PD := fun _ => .no
noncomputable def den_fraction_in__1 : En → Fl := sSeq (sIf (dT (d2 gEq (dSl (dV 0) (dP0) (dP (dC (.int 1)))) (dC (.str "-")))) (sSeq (sAsg (.many [1, 2]) (dA (gCall 1 [] m_fraction_in__0) (dCons (dSl (dV 0) (dP (dC (.int 1))) (dP0)) (dNil)))) (sRet (dA gTupD (dCons (d2 gSub (dC (.int 0)) (dV 1)) (dCons (dV 2) (dNil)))))) (sNx)) (sSeq (sAsg (.many [1, 3, 2]) (dM isS gm_partition (dV 0) (dC (.str "/")))) (sSeq (sIf (dT (d2 gEq (dV 3) (dC (.str "")))) (sRet (dA gTupD (dCons (dA (gCall 1 [] m_number_in) (dCons (dV 1) (dNil))) (dCons (dC (.int 1)) (dNil))))) (sNx)) (sSeq (sSet 4 (dA (gCall 1 [] m_number_in) (dCons (dV 2) (dNil)))) (sSeq (sIf (dT (d2 gEq (dV 4) (dC (.int 0)))) (sRaise "NoText") (sNx)) (sRet (dA (gCall 2 [] m_fraction) (dCons (dA (gCall 1 [] m_number_in) (dCons (dV 1) (dNil))) (dCons (dV 4) (dNil)))))))))
noncomputable def m_fraction_in__1 : List PD → R PD := fnD 5 den_fraction_in__1
theorem mm_fraction_in__1 : m_fraction_in__1 = fnD 5 den_fraction_in__1 := rfl
noncomputable def den_fraction_in__2 : En → Fl := sSeq (sIf (dT (d2 gEq (dSl (dV 0) (dP0) (dP (dC (.int 1)))) (dC (.str "-")))) (sSeq (sAsg (.many [1, 2]) (dA (gCall 1 [] m_fraction_in__1) (dCons (dSl (dV 0) (dP (dC (.int 1))) (dP0)) (dNil)))) (sRet (dA gTupD (dCons (d2 gSub (dC (.int 0)) (dV 1)) (dCons (dV 2) (dNil)))))) (sNx)) (sSeq (sAsg (.many [1, 3, 2]) (dM isS gm_partition (dV 0) (dC (.str "/")))) (sSeq (sIf (dT (d2 gEq (dV 3) (dC (.str "")))) (sRet (dA gTupD (dCons (dA (gCall 1 [] m_number_in) (dCons (dV 1) (dNil))) (dCons (dC (.int 1)) (dNil))))) (sNx)) (sSeq (sSet 4 (dA (gCall 1 [] m_number_in) (dCons (dV 2) (dNil)))) (sSeq (sIf (dT (d2 gEq (dV 4) (dC (.int 0)))) (sRaise "NoText") (sNx)) (sRet (dA (gCall 2 [] m_fraction) (dCons (dA (gCall 1 [] m_number_in) (dCons (dV 1) (dNil))) (dCons (dV 4) (dNil)))))))))
noncomputable def m_fraction_in__2 : List PD → R PD := fnD 5 den_fraction_in__2
theorem mm_fraction_in__2 : m_fraction_in__2 = fnD 5 den_fraction_in__2 := rfl
noncomputable def den_fraction_in__3 : En → Fl := sSeq (sIf (dT (d2 gEq (dSl (dV 0) (dP0) (dP (dC (.int 1)))) (dC (.str "-")))) (sSeq (sAsg (.many [1, 2]) (dA (gCall 1 [] m_fraction_in__2) (dCons (dSl (dV 0) (dP (dC (.int 1))) (dP0)) (dNil)))) (sRet (dA gTupD (dCons (d2 gSub (dC (.int 0)) (dV 1)) (dCons (dV 2) (dNil)))))) (sNx)) (sSeq (sAsg (.many [1, 3, 2]) (dM isS gm_partition (dV 0) (dC (.str "/")))) (sSeq (sIf (dT (d2 gEq (dV 3) (dC (.str "")))) (sRet (dA gTupD (dCons (dA (gCall 1 [] m_number_in) (dCons (dV 1) (dNil))) (dCons (dC (.int 1)) (dNil))))) (sNx)) (sSeq (sSet 4 (dA (gCall 1 [] m_number_in) (dCons (dV 2) (dNil)))) (sSeq (sIf (dT (d2 gEq (dV 4) (dC (.int 0)))) (sRaise "NoText") (sNx)) (sRet (dA (gCall 2 [] m_fraction) (dCons (dA (gCall 1 [] m_number_in) (dCons (dV 1) (dNil))) (dCons (dV 4) (dNil)))))))))
noncomputable def m_fraction_in__3 : List PD → R PD := fnD 5 den_fraction_in__3
theorem mm_fraction_in__3 : m_fraction_in__3 = fnD 5 den_fraction_in__3 := rfl
noncomputable def den_fraction_in : En → Fl := sSeq (sIf (dT (d2 gEq (dSl (dV 0) (dP0) (dP (dC (.int 1)))) (dC (.str "-")))) (sSeq (sAsg (.many [1, 2]) (dA (gCall 1 [] m_fraction_in__3) (dCons (dSl (dV 0) (dP (dC (.int 1))) (dP0)) (dNil)))) (sRet (dA gTupD (dCons (d2 gSub (dC (.int 0)) (dV 1)) (dCons (dV 2) (dNil)))))) (sNx)) (sSeq (sAsg (.many [1, 3, 2]) (dM isS gm_partition (dV 0) (dC (.str "/")))) (sSeq (sIf (dT (d2 gEq (dV 3) (dC (.str "")))) (sRet (dA gTupD (dCons (dA (gCall 1 [] m_number_in) (dCons (dV 1) (dNil))) (dCons (dC (.int 1)) (dNil))))) (sNx)) (sSeq (sSet 4 (dA (gCall 1 [] m_number_in) (dCons (dV 2) (dNil)))) (sSeq (sIf (dT (d2 gEq (dV 4) (dC (.int 0)))) (sRaise "NoText") (sNx)) (sRet (dA (gCall 2 [] m_fraction) (dCons (dA (gCall 1 [] m_number_in) (dCons (dV 1) (dNil))) (dCons (dV 4) (dNil)))))))))
noncomputable def m_fraction_in : List PD → R PD := fnD 5 den_fraction_in
theorem mm_fraction_in : m_fraction_in = fnD 5 den_fraction_in := rfl
noncomputable def den_ahead_in : En → Fl := sSeq (sIf (dT (d2 gEq (dV 0) (dC (.str "")))) (sRet (dA gTupD (dCons (dC (.int 1)) (dCons (dC (.int 1)) (dNil))))) (sNx)) (sSeq (sIf (dT (d2 gEq (dV 0) (dC (.str "-")))) (sRet (dA gTupD (dCons (d1 gNeg (dC (.int 1))) (dCons (dC (.int 1)) (dNil))))) (sNx)) (sRet (dA (gCall 1 [] m_fraction_in) (dCons (dV 0) (dNil)))))
noncomputable def m_ahead_in : List PD → R PD := fnD 1 den_ahead_in
theorem mm_ahead_in : m_ahead_in = fnD 1 den_ahead_in := rfl
noncomputable def den_length_in : En → Fl := sSeq (sAsg (.many [1, 2, 3]) (dM isS gm_partition (dV 0) (dC (.str "r")))) (sSeq (sIf (dT (d2 gEq (dV 2) (dC (.str "")))) (sRet (dA (gCall 2 [] m_by_parts) (dCons (dA (gCall 1 [] m_fraction_in) (dCons (dV 1) (dNil))) (dCons (dC c_NOUGHT) (dNil))))) (sNx)) (sSeq (sSet 4 (dA gMax (dCons (dM isS gm_rfind (dV 1) (dC (.str "+"))) (dCons (dM isS gm_rfind (dV 1) (dC (.str "-"))) (dNil))))) (sSeq (sIf (dT (d2 gLe (dV 4) (dC (.int 0)))) (sRet (dA (gCall 2 [] m_by_parts) (dCons (dC c_NOUGHT) (dCons (dA (gCall 1 [] m_ahead_in) (dCons (dV 1) (dNil))) (dNil))))) (sNx)) (sSeq (sSet 5 (dA (gCall 1 [] m_ahead_in) (dCons (dSl (dV 1) (dP (d2 gAdd (dV 4) (dC (.int 1)))) (dP0)) (dNil)))) (sSeq (sIf (dT (d2 gEq (d2 gIx (dV 1) (dV 4)) (dC (.str "-")))) (sSet 5 (dA gTupD (dCons (d2 gSub (dC (.int 0)) (d2 gIx (dV 5) (dC (.int 0)))) (dCons (d2 gIx (dV 5) (dC (.int 1))) (dNil))))) (sNx)) (sRet (dA (gCall 2 [] m_by_parts) (dCons (dA (gCall 1 [] m_fraction_in) (dCons (dSl (dV 1) (dP0) (dP (dV 4))) (dNil))) (dCons (dV 5) (dNil))))))))))
noncomputable def m_length_in : List PD → R PD := fnD 6 den_length_in
theorem mm_length_in : m_length_in = fnD 6 den_length_in := rfl
noncomputable def den_read_length : En → Fl := sSeq (sIf (dOr (dNot (dT (d1 (gIsi "str") (dV 1)))) (dT (d2 gGt (dM isS gm_countS (dV 1) (dC (.str "-"))) (dC (.int 2))))) (sRaise "NoText") (sNx)) (sSeq (sSet 2 (dA (gCall 1 [] m_length_in) (dCons (dV 1) (dNil)))) (sSeq (sIf (dT (d2 gNe (dA (gCall 2 [] m_shown_length) (dCons (dV 0) (dCons (dV 2) (dNil)))) (dV 1))) (sRaise "NoText") (sNx)) (sRet (dV 2))))
noncomputable def m_read_length : List PD → R PD := fnD 3 den_read_length
theorem mm_read_length : m_read_length = fnD 3 den_read_length := rfl
noncomputable def den_law_cell : En → Fl := sSeq (sIf (dT (d2 gLt (dV 1) (dA gLen (dCons (dV 0) (dNil))))) (sRet (d2 gIx (dV 0) (dV 1))) (sNx)) (sRet (dC (.int 0)))
noncomputable def m_law_cell : List PD → R PD := fnD 2 den_law_cell
theorem mm_law_cell : m_law_cell = fnD 2 den_law_cell := rfl
noncomputable def den_law_mixed : En → Fl := sRet (d2 gMod (d2 gMul (d2 gAdd (d2 gMod (dV 0) (dC (.int 2147483647))) (dC (.int 11))) (d2 gAdd (dC (.int 48271)) (d2 gMul (d2 gMul (dC (.int 2)) (dV 1)) (dV 1)))) (dC (.int 2147483629)))
noncomputable def m_law_mixed : List PD → R PD := fnD 2 den_law_mixed
theorem mm_law_mixed : m_law_mixed = fnD 2 den_law_mixed := rfl
noncomputable def lt1_law_divisor_v2 : En → R Bool := dT (d2 gNe (dV 1) (dC (.int 0)))
noncomputable def lb1_law_divisor_v2 : En → Fl := sPar 0 1 (dV 1) (d2 gMod (dV 0) (dV 1))
noncomputable def den_law_divisor_v2 : En → Fl := sSeq (sWhile lt1_law_divisor_v2 lb1_law_divisor_v2) (sRet (dV 0))
noncomputable def m_law_divisor_v2 : List PD → R PD := fnD 2 den_law_divisor_v2
theorem mm_law_divisor_v2 : m_law_divisor_v2 = fnD 2 den_law_divisor_v2 := rfl
noncomputable def den_law_root_v4 : En → Fl := sSeq (sSet 1 (d2 gAdd (dC (.int 2)) (d2 gMod (dA (gCall 2 [] m_law_mixed) (dCons (dA (gCall 2 [] m_law_cell) (dCons (dV 0) (dCons (dC (.int 0)) (dNil)))) (dCons (dC (.int 0)) (dNil)))) (dC (.int 98))))) (sSeq (sIf (dT (d2 (gIn false) (dV 1) (dA gLstD (dCons (dC (.int 4)) (dCons (dC (.int 9)) (dCons (dC (.int 16)) (dCons (dC (.int 25)) (dCons (dC (.int 36)) (dCons (dC (.int 49)) (dCons (dC (.int 64)) (dCons (dC (.int 81)) (dNil)))))))))))) (sRet (d2 gAdd (dV 1) (dC (.int 1)))) (sNx)) (sRet (dV 1)))
noncomputable def m_law_root_v4 : List PD → R PD := fnD 2 den_law_root_v4
theorem mm_law_root_v4 : m_law_root_v4 = fnD 2 den_law_root_v4 := rfl
noncomputable def den_law_fraction_v2 : En → Fl := sSeq (sSet 2 (d2 gSub (d2 gMod (d2 gDiv (dV 0) (dC (.int 7))) (dC (.int 41))) (dC (.int 20)))) (sSeq (sSet 3 (d2 gIx (dA gLstD (dCons (dC (.int 1)) (dCons (dC (.int 1)) (dCons (dC (.int 2)) (dCons (dC (.int 3)) (dCons (dC (.int 4)) (dCons (dC (.int 6)) (dCons (dC (.int 12)) (dNil))))))))) (d2 gMod (dV 0) (dC (.int 7))))) (sSeq (sIf (dAnd (dT (dV 1)) (dT (d2 gEq (d2 gMod (d2 gDiv (dV 0) (dC (.int 287))) (dC (.int 3))) (dC (.int 0))))) (sSeq (sSet 2 (d2 gMul (d2 gSub (d2 gMul (dV 0) (dC (.int 465661287))) (d2 gPow (dC (.int 10)) (dC (.int 18)))) (d2 gAdd (d2 gPow (dC (.int 10)) (dC (.int 12))) (d2 gMod (dV 0) (dC (.int 7919)))))) (sSet 3 (d2 gAdd (dC (.int 1)) (d2 gMod (d2 gMul (dV 0) (dC (.int 69621))) (d2 gPow (dC (.int 10)) (dC (.int 12))))))) (sNx)) (sSeq (sSet 4 (dA (gCall 2 [] m_law_divisor_v2) (dCons (dA gAbs (dCons (dV 2) (dNil))) (dCons (dV 3) (dNil))))) (sRet (dA gTupD (dCons (d2 gDiv (dV 2) (dV 4)) (dCons (d2 gDiv (dV 3) (dV 4)) (dNil))))))))
noncomputable def m_law_fraction_v2 : List PD → R PD := fnD 5 den_law_fraction_v2
theorem mm_law_fraction_v2 : m_law_fraction_v2 = fnD 5 den_law_fraction_v2 := rfl
noncomputable def den_law_shown_fraction : En → Fl := sSeq (sIf (dT (d2 gEq (d2 gIx (dV 0) (dC (.int 1))) (dC (.int 1)))) (sRet (dA gStr (dCons (d2 gIx (dV 0) (dC (.int 0))) (dNil)))) (sNx)) (sRet (d2 gAdd (d2 gAdd (dA gStr (dCons (d2 gIx (dV 0) (dC (.int 0))) (dNil))) (dC (.str "/"))) (dA gStr (dCons (d2 gIx (dV 0) (dC (.int 1))) (dNil)))))
noncomputable def m_law_shown_fraction : List PD → R PD := fnD 1 den_law_shown_fraction
theorem mm_law_shown_fraction : m_law_shown_fraction = fnD 1 den_law_shown_fraction := rfl
noncomputable def den_law_shown : En → Fl := sSeq (sIf (dT (d2 gEq (d2 gIx (dV 2) (dC (.int 0))) (dC (.int 0)))) (sRet (dA (gCall 1 [] m_law_shown_fraction) (dCons (dV 1) (dNil)))) (sNx)) (sSeq (sSet 3 (dA (gCall 1 [] m_law_shown_fraction) (dCons (dA gTupD (dCons (dA gAbs (dCons (d2 gIx (dV 2) (dC (.int 0))) (dNil))) (dCons (d2 gIx (dV 2) (dC (.int 1))) (dNil)))) (dNil)))) (sSeq (sIf (dT (d2 gEq (dV 3) (dC (.str "1")))) (sSet 3 (dC (.str ""))) (sNx)) (sSeq (sSet 4 (d2 gIx (dA gLstD (dCons (dC (.str "+")) (dCons (dC (.str "-")) (dNil)))) (dA gInt (dCons (d2 gLt (d2 gIx (dV 2) (dC (.int 0))) (dC (.int 0))) (dNil))))) (sSeq (sIf (dT (d2 gEq (d2 gIx (dV 1) (dC (.int 0))) (dC (.int 0)))) (sRet (d2 gAdd (d2 gAdd (d2 gAdd (d1 (gm_replace "+" "") (dV 4)) (dV 3)) (dC (.str "r"))) (dA gStr (dCons (dV 0) (dNil))))) (sNx)) (sRet (d2 gAdd (d2 gAdd (d2 gAdd (d2 gAdd (dA (gCall 1 [] m_law_shown_fraction) (dCons (dV 1) (dNil))) (dV 4)) (dV 3)) (dC (.str "r"))) (dA gStr (dCons (dV 0) (dNil)))))))))
noncomputable def m_law_shown : List PD → R PD := fnD 5 den_law_shown
theorem mm_law_shown : m_law_shown = fnD 5 den_law_shown := rfl
noncomputable def den_law_odd : En → Fl := sSeq (sSet 2 (d2 gAdd (dC (.str "r")) (dA gStr (dCons (dV 0) (dNil))))) (sSeq (sSet 3 (dA gLstD (dCons (dC (.str "")) (dCons (dC (.str " ")) (dCons (dC (.str "-")) (dCons (dC (.str "+")) (dCons (dC (.str "+1")) (dCons (dC (.str "-0")) (dCons (dC (.str "--1")) (dCons (dC (.str "01")) (dCons (dC (.str "1/1")) (dCons (dC (.str "2/4")) (dCons (dC (.str "1/0")) (dCons (dC (.str "0/3")) (dCons (dC (.str "1/")) (dCons (dC (.str "/2")) (dCons (dC (.str "1/-2")) (dCons (dC (.str "-1/-2")) (dNil))))))))))))))))))) (sSeq (sSet 3 (d2 gAdd (dV 3) (dA gLstD (dCons (dC (.str "r")) (dCons (d2 gAdd (dSl (dV 2) (dP (dC (.int 1))) (dP0)) (dC (.str "r"))) (dCons (d2 gAdd (dC (.str "0")) (dV 2)) (dCons (d2 gAdd (dC (.str "1")) (dV 2)) (dCons (d2 gAdd (dC (.str "-1")) (dV 2)) (dCons (d2 gAdd (dC (.str "2*")) (dV 2)) (dCons (d2 gAdd (dV 2) (dC (.str " "))) (dCons (d2 gAdd (dC (.str " ")) (dV 2)) (dNil)))))))))))) (sSeq (sSet 3 (d2 gAdd (dV 3) (dA gLstD (dCons (d2 gAdd (dC (.str "0+")) (dV 2)) (dCons (d2 gAdd (dC (.str "3+0")) (dV 2)) (dCons (d2 gAdd (dC (.str "3+1")) (dV 2)) (dCons (d2 gAdd (dC (.str "3+-")) (dV 2)) (dCons (d2 gAdd (dC (.str "3--")) (dV 2)) (dCons (d2 gAdd (dV 2) (dC (.str "+1"))) (dCons (dC (.str "1+2")) (dCons (dC (.str "1-1/2")) (dNil)))))))))))) (sSeq (sSet 3 (d2 gAdd (dV 3) (dA gLstD (dCons (d2 gAdd (dC (.str "+")) (dV 2)) (dCons (d2 gAdd (dC (.str "r0")) (dA gStr (dCons (dV 0) (dNil)))) (dCons (d2 gAdd (dV 2) (dV 2)) (dCons (d2 gAdd (dC (.str "1 +")) (dV 2)) (dCons (d2 gAdd (dC (.str "3-1")) (dV 2)) (dCons (d2 gAdd (dC (.str "3-0")) (dV 2)) (dNil)))))))))) (sRet (d2 gIx (d2 gAdd (dV 3) (dA gLstD (dCons (d2 gAdd (dV 2) (dC (.str "1"))) (dCons (dC (.str "1_000")) (dCons (dC (.str "1_0/3")) (dCons (dC (.str "1/1_1")) (dNil))))))) (d2 gMod (dV 1) (dC (.int 42)))))))))
noncomputable def m_law_odd : List PD → R PD := fnD 4 den_law_odd
theorem mm_law_odd : m_law_odd = fnD 4 den_law_odd := rfl
noncomputable def den_law_spoiled : En → Fl := sSeq (sSet 4 (dA (gCall 3 [] m_law_shown) (dCons (dV 0) (dCons (dV 1) (dCons (dV 2) (dNil)))))) (sSeq (sSet 5 (d2 gMod (d2 gDiv (dV 3) (dC (.int 8))) (d2 gAdd (dA gLen (dCons (dV 4) (dNil))) (dC (.int 1))))) (sSeq (sSet 6 (d2 gMod (dV 3) (dC (.int 8)))) (sSeq (sIf (dT (d2 gLt (dV 6) (dC (.int 4)))) (sRet (d2 gAdd (d2 gAdd (dSl (dV 4) (dP0) (dP (dV 5))) (d2 gIx (dA gLstD (dCons (dC (.str "*")) (dCons (dC (.str "x")) (dCons (dC (.str ".")) (dCons (dC (.str " ")) (dCons (dC (.str ";")) (dCons (dC (.str "R")) (dCons (dC (.str "\n")) (dCons (dC (.str "\t")) (dCons (dC (.str "_")) (dNil))))))))))) (d2 gMod (d2 gDiv (dV 3) (dC (.int 128))) (dC (.int 9))))) (dSl (dV 4) (dP (dV 5)) (dP0)))) (sNx)) (sSeq (sIf (dT (d2 gEq (dV 6) (dC (.int 4)))) (sRet (dA (gCall 3 [] m_law_shown) (dCons (d2 gAdd (dV 0) (dC (.int 1))) (dCons (dV 1) (dCons (dA gTupD (dCons (d2 gAdd (d2 gIx (dV 2) (dC (.int 0))) (dA gInt (dCons (d2 gEq (d2 gIx (dV 2) (dC (.int 0))) (dC (.int 0))) (dNil)))) (dCons (d2 gIx (dV 2) (dC (.int 1))) (dNil)))) (dNil)))))) (sNx)) (sSeq (sIf (dT (d2 gEq (dV 6) (dC (.int 5)))) (sRet (d2 gAdd (dC (.str "0")) (d1 (gm_replace "-" "-0") (dV 4)))) (sNx)) (sSeq (sIf (dT (d2 gEq (dV 6) (dC (.int 6)))) (sSeq (sSet 7 (d2 gAdd (dC (.int 2)) (d2 gMod (d2 gDiv (dV 3) (dC (.int 8))) (dC (.int 9))))) (sRet (d2 gAdd (d2 gAdd (dA gStr (dCons (d2 gMul (d2 gIx (dV 1) (dC (.int 0))) (dV 7)) (dNil))) (dC (.str "/"))) (dA gStr (dCons (d2 gMul (d2 gIx (dV 1) (dC (.int 1))) (dV 7)) (dNil)))))) (sNx)) (sRet (d2 gAdd (dV 4) (d2 gIx (dA gLstD (dCons (dC (.str "/1")) (dCons (dC (.str "+")) (dCons (dC (.str "-")) (dCons (dC (.str "/0")) (dCons (dC (.str "r")) (dNil))))))) (d2 gMod (d2 gDiv (dV 3) (dC (.int 8))) (dC (.int 5))))))))))))
noncomputable def m_law_spoiled : List PD → R PD := fnD 8 den_law_spoiled
theorem mm_law_spoiled : m_law_spoiled = fnD 8 den_law_spoiled := rfl
noncomputable def den_law_refused_v5 : En → Fl := sSeq (sSet 2 (dC .none)) (sSeq (sTryK xl_be93e3 "YardError" 3 2 (sDrop (dA (gCall 2 [] m_read_length) (dCons (dV 0) (dCons (dV 1) (dNil)))))) (sSeq (sIf (dOr (dNot (dT (d1 (gIsE xl_be93e3 "NoText") (dV 2)))) (dNot (dT (d1 (gIsE xl_be93e3 "ValueError") (dV 2))))) (sRet (dC (.bool false))) (sNx)) (sRet (dNotV (d1 (gIsEs xl_be93e3 ["NoLength", "NoBoard", "NoDeed", "NoName", "Grain", "Unfit", "TooMany", "NoRow", "Apart"]) (dV 2))))))
noncomputable def m_law_refused_v5 : List PD → R PD := fnD 4 den_law_refused_v5
theorem mm_law_refused_v5 : m_law_refused_v5 = fnD 4 den_law_refused_v5 := rfl
noncomputable def lb1_law_k24 : En → Fl := sSeq (sSet 3 (dA (gCall 2 [] m_law_mixed) (dCons (d2 gIx (dV 0) (dV 2)) (dCons (dV 2) (dNil))))) (sSeq (sSet 4 (dA (gCall 2 [] m_law_fraction_v2) (dCons (dV 3) (dCons (dC (.bool false)) (dNil))))) (sSeq (sSet 5 (dA (gCall 2 [] m_law_fraction_v2) (dCons (d2 gMod (d2 gMul (dV 3) (dC (.int 48271))) (dC (.int 2147483587))) (dCons (dC (.bool false)) (dNil))))) (sSeq (sSet 6 (d2 gIx (dA gLstD (dCons (dC .none) (dCons (dC (.int 5)) (dCons (dC (.bool true)) (dCons (dA gLstD (dCons (dC (.str "1")) (dNil))) (dCons (dA gTupD (dCons (dC (.str "1")) (dNil))) (dCons (dA gTupD (dCons (dC (.int 1)) (dCons (dC (.int 0)) (dCons (dC (.int 1)) (dNil))))) (dCons (dC (.dict [])) (dNil))))))))) (d2 gMod (dV 3) (dC (.int 7))))) (sSeq (sIf (dOr (dNot (dT (dA (gCall 2 [] m_law_refused_v5) (dCons (dV 1) (dCons (dA (gCall 2 [] m_law_odd) (dCons (dV 1) (dCons (dV 3) (dNil)))) (dNil)))))) (dNot (dT (dA (gCall 2 [] m_law_refused_v5) (dCons (dV 1) (dCons (dV 6) (dNil))))))) (sRet (dC (.bool false))) (sNx)) (sIf (dNot (dT (dA (gCall 2 [] m_law_refused_v5) (dCons (dV 1) (dCons (dA (gCall 4 [] m_law_spoiled) (dCons (dV 1) (dCons (dV 4) (dCons (dV 5) (dCons (d2 gDiv (dV 3) (dC (.int 39))) (dNil)))))) (dNil)))))) (sRet (dC (.bool false))) (sNx))))))
noncomputable def le2_law_k24 : En → R PD := dA (gCall 2 [] m_read_length) (dCons (dV 1) (dCons (dV 9) (dNil)))
noncomputable def den_law_k24 : En → Fl := sSeq (sSet 1 (dA (gCall 1 [] m_law_root_v4) (dCons (dV 0) (dNil)))) (sSeq (sFor (iA gR2 (dCons (dC (.int 1)) (dCons (dA gMin (dCons (dA gLen (dCons (dV 0) (dNil))) (dCons (dC (.int 84)) (dNil)))) (dNil)))) (.one 2) lb1_law_k24) (sSeq (sSet 7 (dA gLstD (dCons (dC (.str "7")) (dCons (dC (.str "-7/3")) (dCons (d2 gAdd (dC (.str "r")) (dA gStr (dCons (dV 1) (dNil)))) (dCons (d2 gAdd (dC (.str "5/2-r")) (dA gStr (dCons (dV 1) (dNil)))) (dCons (d2 gAdd (dC (.str "-1/9+4/3r")) (dA gStr (dCons (dV 1) (dNil)))) (dNil)))))))) (sSeq (sSet 8 (dA gLstD (dCons (dA (gCall 3 [(.int 0), (.int 1)] m_length) (dCons (dC (.int 7)) (dNil))) (dCons (dA (gCall 3 [] m_length) (dCons (d1 gNeg (dC (.int 7))) (dCons (dC (.int 0)) (dCons (dC (.int 3)) (dNil))))) (dCons (dA (gCall 3 [(.int 1)] m_length) (dCons (dC (.int 0)) (dCons (dC (.int 1)) (dNil)))) (dCons (dA (gCall 3 [] m_length) (dCons (dC (.int 5)) (dCons (d1 gNeg (dC (.int 2))) (dCons (dC (.int 2)) (dNil))))) (dCons (dA (gCall 3 [] m_length) (dCons (d1 gNeg (dC (.int 1))) (dCons (dC (.int 12)) (dCons (dC (.int 9)) (dNil))))) (dNil)))))))) (sRet (d2 gEq (dLc (iL (dV 7)) (.one 9) [9] bYes le2_law_k24) (dV 8))))))
noncomputable def m_law_k24 : List PD → R PD := fnD 10 den_law_k24
theorem mm_law_k24 : m_law_k24 = fnD 10 den_law_k24 := rfl
noncomputable def den_law_whole : En → Fl := sRet (dAndV (d1 (gIsi "int") (dV 0)) (dNotV (d1 (gIsi "bool") (dV 0))))
noncomputable def m_law_whole : List PD → R PD := fnD 1 den_law_whole
noncomputable def lt1_law_divisor : En → R Bool := dT (d2 gGt (dV 1) (dC (.int 0)))
noncomputable def lb1_law_divisor : En → Fl := sPar 0 1 (dV 1) (d2 gMod (dV 0) (dV 1))
noncomputable def den_law_divisor : En → Fl := sSeq (sSet 0 (dA gAbs (dCons (dV 0) (dNil)))) (sSeq (sSet 1 (dA gAbs (dCons (dV 1) (dNil)))) (sSeq (sWhile lt1_law_divisor lb1_law_divisor) (sRet (dV 0))))
noncomputable def m_law_divisor : List PD → R PD := fnD 2 den_law_divisor
noncomputable def den_added : En → Fl := sSeq (sSet 2 (d2 gMul (d2 gIx (dV 0) (dC (.int 2))) (d2 gIx (dV 1) (dC (.int 2))))) (sRet (dA (gCall 3 [] m_lowest) (dCons (d2 gAdd (d2 gMul (d2 gIx (dV 0) (dC (.int 0))) (d2 gIx (dV 1) (dC (.int 2)))) (d2 gMul (d2 gIx (dV 1) (dC (.int 0))) (d2 gIx (dV 0) (dC (.int 2))))) (dCons (d2 gAdd (d2 gMul (d2 gIx (dV 0) (dC (.int 1))) (d2 gIx (dV 1) (dC (.int 2)))) (d2 gMul (d2 gIx (dV 1) (dC (.int 1))) (d2 gIx (dV 0) (dC (.int 2))))) (dCons (dV 2) (dNil))))))
noncomputable def m_added : List PD → R PD := fnD 3 den_added
noncomputable def den_taken : En → Fl := sRet (dA (gCall 2 [] m_added) (dCons (dV 0) (dCons (dA gTupD (dCons (d2 gSub (dC (.int 0)) (d2 gIx (dV 1) (dC (.int 0)))) (dCons (d2 gSub (dC (.int 0)) (d2 gIx (dV 1) (dC (.int 1)))) (dCons (d2 gIx (dV 1) (dC (.int 2))) (dNil))))) (dNil))))
noncomputable def m_taken : List PD → R PD := fnD 2 den_taken
noncomputable def den_law_lowest : En → Fl := sSeq (sSet 3 (dA (gCall 2 [] m_law_divisor) (dCons (dA (gCall 2 [] m_law_divisor) (dCons (dV 0) (dCons (dV 1) (dNil)))) (dCons (dV 2) (dNil))))) (sSeq (sIf (dT (d2 gLt (dV 2) (dC (.int 0)))) (sSet 3 (d2 gSub (dC (.int 0)) (dV 3))) (sNx)) (sRet (dA gTupD (dCons (d2 gDiv (dV 0) (dV 3)) (dCons (d2 gDiv (dV 1) (dV 3)) (dCons (d2 gDiv (dV 2) (dV 3)) (dNil)))))))
noncomputable def m_law_lowest : List PD → R PD := fnD 4 den_law_lowest
noncomputable def den_timed : En → Fl := sSeq (sSet 3 (d2 gAdd (d2 gMul (d2 gIx (dV 1) (dC (.int 0))) (d2 gIx (dV 2) (dC (.int 0)))) (d2 gMul (d2 gMul (dV 0) (d2 gIx (dV 1) (dC (.int 1)))) (d2 gIx (dV 2) (dC (.int 1)))))) (sRet (dA (gCall 3 [] m_lowest) (dCons (dV 3) (dCons (d2 gAdd (d2 gMul (d2 gIx (dV 1) (dC (.int 0))) (d2 gIx (dV 2) (dC (.int 1)))) (d2 gMul (d2 gIx (dV 1) (dC (.int 1))) (d2 gIx (dV 2) (dC (.int 0))))) (dCons (d2 gMul (d2 gIx (dV 1) (dC (.int 2))) (d2 gIx (dV 2) (dC (.int 2)))) (dNil))))))
noncomputable def m_timed : List PD → R PD := fnD 4 den_timed
noncomputable def den_parted : En → Fl := sSeq (sSet 3 (d2 gSub (d2 gMul (d2 gIx (dV 2) (dC (.int 0))) (d2 gIx (dV 2) (dC (.int 0)))) (d2 gMul (d2 gMul (dV 0) (d2 gIx (dV 2) (dC (.int 1)))) (d2 gIx (dV 2) (dC (.int 1)))))) (sSeq (sIf (dT (d2 gEq (dV 3) (dC (.int 0)))) (sRaise "NoLength") (sNx)) (sRet (dA (gCall 3 [] m_timed) (dCons (dV 0) (dCons (dV 1) (dCons (dA (gCall 3 [] m_lowest) (dCons (d2 gMul (d2 gIx (dV 2) (dC (.int 0))) (d2 gIx (dV 2) (dC (.int 2)))) (dCons (d2 gSub (dC (.int 0)) (d2 gMul (d2 gIx (dV 2) (dC (.int 1))) (d2 gIx (dV 2) (dC (.int 2))))) (dCons (dV 3) (dNil))))) (dNil)))))))
noncomputable def m_parted : List PD → R PD := fnD 4 den_parted
noncomputable def den_sign_of : En → Fl := sSeq (sIf (dOr (dT (d2 gEq (dV 1) (dC (.int 0)))) (dOr (dT (d2 gEq (dV 2) (dC (.int 0)))) (dT (d2 gEq (d2 gGt (dV 1) (dC (.int 0))) (d2 gGt (dV 2) (dC (.int 0))))))) (sRet (d2 gAdd (dV 1) (dV 2))) (sNx)) (sSeq (sIf (dT (d2 gGt (dV 1) (dC (.int 0)))) (sRet (d2 gSub (d2 gMul (dV 1) (dV 1)) (d2 gMul (d2 gMul (dV 0) (dV 2)) (dV 2)))) (sNx)) (sRet (d2 gSub (d2 gMul (d2 gMul (dV 0) (dV 2)) (dV 2)) (d2 gMul (dV 1) (dV 1)))))
noncomputable def m_sign_of : List PD → R PD := fnD 3 den_sign_of
noncomputable def den_under : En → Fl := sSeq (sSet 3 (dA (gCall 2 [] m_taken) (dCons (dV 1) (dCons (dV 2) (dNil))))) (sRet (d2 gLt (dA (gCall 3 [] m_sign_of) (dCons (dV 0) (dCons (d2 gIx (dV 3) (dC (.int 0))) (dCons (d2 gIx (dV 3) (dC (.int 1))) (dNil))))) (dC (.int 0))))
noncomputable def m_under : List PD → R PD := fnD 4 den_under
noncomputable def den_law_sign : En → Fl := sSeq (sIf (dAnd (dT (d2 gGe (dV 1) (dC (.int 0)))) (dT (d2 gGe (dV 2) (dC (.int 0))))) (sRet (dA gInt (dCons (d2 gGt (d2 gAdd (dV 1) (dV 2)) (dC (.int 0))) (dNil)))) (sNx)) (sSeq (sIf (dAnd (dT (d2 gLe (dV 1) (dC (.int 0)))) (dT (d2 gLe (dV 2) (dC (.int 0))))) (sRet (d1 gNeg (dC (.int 1)))) (sNx)) (sSeq (sIf (dT (d2 gGt (dV 1) (dC (.int 0)))) (sRet (d2 gIx (dA gLstD (dCons (d1 gNeg (dC (.int 1))) (dCons (dC (.int 1)) (dNil)))) (dA gInt (dCons (d2 gGt (d2 gMul (dV 1) (dV 1)) (d2 gMul (d2 gMul (dV 0) (dV 2)) (dV 2))) (dNil))))) (sNx)) (sRet (d2 gIx (dA gLstD (dCons (d1 gNeg (dC (.int 1))) (dCons (dC (.int 1)) (dNil)))) (dA gInt (dCons (d2 gGt (d2 gMul (d2 gMul (dV 0) (dV 2)) (dV 2)) (d2 gMul (dV 1) (dV 1))) (dNil)))))))
noncomputable def m_law_sign : List PD → R PD := fnD 3 den_law_sign
noncomputable def lb1_is_length : En → Fl := sIf (dNot (dT (dA (gCall 1 [] m_is_whole) (dCons (dV 1) (dNil))))) (sRet (dC (.bool false))) (sNx)
noncomputable def den_is_length : En → Fl := sSeq (sIf (dOr (dNot (dT (d1 (gIsi "tuple") (dV 0)))) (dT (d2 gNe (dA gLen (dCons (dV 0) (dNil))) (dC (.int 3))))) (sRet (dC (.bool false))) (sNx)) (sSeq (sFor (iT (dV 0)) (.one 1) lb1_is_length) (sRet (dAndV (d2 gGt (d2 gIx (dV 0) (dC (.int 2))) (dC (.int 0))) (d2 gEq (dA (gCall 3 [] m_length) (dCons (d2 gIx (dV 0) (dC (.int 0))) (dCons (d2 gIx (dV 0) (dC (.int 1))) (dCons (d2 gIx (dV 0) (dC (.int 2))) (dNil))))) (dV 0)))))
noncomputable def m_is_length : List PD → R PD := fnD 2 den_is_length
noncomputable def den_plus : En → Fl := sRet (dA (gCall 2 [] m_fraction) (dCons (d2 gAdd (d2 gMul (d2 gIx (dV 0) (dC (.int 0))) (d2 gIx (dV 1) (dC (.int 1)))) (d2 gMul (d2 gIx (dV 1) (dC (.int 0))) (d2 gIx (dV 0) (dC (.int 1))))) (dCons (d2 gMul (d2 gIx (dV 0) (dC (.int 1))) (d2 gIx (dV 1) (dC (.int 1)))) (dNil))))
noncomputable def m_plus : List PD → R PD := fnD 2 den_plus
noncomputable def den_minus : En → Fl := sRet (dA (gCall 2 [] m_fraction) (dCons (d2 gSub (d2 gMul (d2 gIx (dV 0) (dC (.int 0))) (d2 gIx (dV 1) (dC (.int 1)))) (d2 gMul (d2 gIx (dV 1) (dC (.int 0))) (d2 gIx (dV 0) (dC (.int 1))))) (dCons (d2 gMul (d2 gIx (dV 0) (dC (.int 1))) (d2 gIx (dV 1) (dC (.int 1)))) (dNil))))
noncomputable def m_minus : List PD → R PD := fnD 2 den_minus
noncomputable def den_times : En → Fl := sRet (dA (gCall 2 [] m_fraction) (dCons (d2 gMul (d2 gIx (dV 0) (dC (.int 0))) (d2 gIx (dV 1) (dC (.int 0)))) (dCons (d2 gMul (d2 gIx (dV 0) (dC (.int 1))) (d2 gIx (dV 1) (dC (.int 1)))) (dNil))))
noncomputable def m_times : List PD → R PD := fnD 2 den_times
noncomputable def le1_together : En → R PD := dA (gCall 2 [] m_plus) (dCons (dV 2) (dCons (dV 3) (dNil)))
noncomputable def le2_together : En → R PD := dA gTupOf (dCons (dLc (iA gZip (dCons (dV 4) (dCons (dV 5) (dNil)))) (.many [2, 3]) [2, 3] bYes le1_together) (dNil))
noncomputable def den_together : En → Fl := sRet (dA gTupOf (dCons (dLc (iA gZip (dCons (dV 0) (dCons (dV 1) (dNil)))) (.many [4, 5]) [4, 5] bYes le2_together) (dNil)))
noncomputable def m_together : List PD → R PD := fnD 6 den_together
noncomputable def den_over : En → Fl := sRet (dA gTupD (dCons (dA gTupD (dCons (d2 gIx (d2 gIx (dV 0) (dC (.int 0))) (dC (.int 0))) (dCons (d2 gIx (d2 gIx (dV 0) (dC (.int 1))) (dC (.int 0))) (dNil)))) (dCons (dA gTupD (dCons (d2 gIx (d2 gIx (dV 0) (dC (.int 0))) (dC (.int 1))) (dCons (d2 gIx (d2 gIx (dV 0) (dC (.int 1))) (dC (.int 1))) (dNil)))) (dNil))))
noncomputable def m_over : List PD → R PD := fnD 1 den_over
noncomputable def le1_table_of : En → R PD := dA (gCall 2 [] m_times) (dCons (dV 3) (dCons (dV 2) (dNil)))
noncomputable def le2_table_of : En → R PD := dA gTupOf (dCons (dLc (iT (dA (gCall 1 [] m_parts) (dCons (dV 1) (dNil)))) (.one 2) [2] bYes le1_table_of) (dNil))
noncomputable def den_table_of : En → Fl := sRet (dA gTupOf (dCons (dLc (iT (dA (gCall 1 [] m_parts) (dCons (dV 0) (dNil)))) (.one 3) [3] bYes le2_table_of) (dNil)))
noncomputable def m_table_of : List PD → R PD := fnD 4 den_table_of
noncomputable def lb1_table : En → Fl := sSet 1 (dA (gCall 2 [] m_together) (dCons (dV 1) (dCons (dA (gCall 2 [] m_table_of) (dCons (dV 2) (dCons (dV 3) (dNil)))) (dNil))))
noncomputable def den_table : En → Fl := sSeq (sSet 1 (dA gTupD (dCons (dA gTupD (dCons (dC c_NOUGHT) (dCons (dC c_NOUGHT) (dNil)))) (dCons (dA gTupD (dCons (dC c_NOUGHT) (dCons (dC c_NOUGHT) (dNil)))) (dNil))))) (sSeq (sFor (iL (dV 0)) (.many [2, 3]) lb1_table) (sRet (dV 1)))
noncomputable def m_table : List PD → R PD := fnD 4 den_table
noncomputable def lt1_law_fraction : En → R Bool := dT (d2 gNe (dV 3) (dC (.int 0)))
noncomputable def lb1_law_fraction : En → Fl := sPar 2 3 (dV 3) (d2 gMod (dV 2) (dV 3))
noncomputable def den_law_fraction : En → Fl := sSeq (sPar 2 3 (dA gAbs (dCons (dV 1) (dNil))) (dA gAbs (dCons (dV 0) (dNil)))) (sSeq (sWhile lt1_law_fraction lb1_law_fraction) (sSeq (sIf (dT (d2 gLt (dV 1) (dC (.int 0)))) (sSet 2 (d2 gSub (dC (.int 0)) (dV 2))) (sNx)) (sRet (dA gTupD (dCons (d2 gDiv (dV 0) (dV 2)) (dCons (d2 gDiv (dV 1) (dV 2)) (dNil)))))))
noncomputable def m_law_fraction : List PD → R PD := fnD 4 den_law_fraction
noncomputable def den_law_add : En → Fl := sRet (dA (gCall 2 [] m_law_fraction) (dCons (d2 gAdd (d2 gMul (d2 gIx (dV 0) (dC (.int 0))) (d2 gIx (dV 1) (dC (.int 1)))) (d2 gMul (d2 gIx (dV 1) (dC (.int 0))) (d2 gIx (dV 0) (dC (.int 1))))) (dCons (d2 gMul (d2 gIx (dV 0) (dC (.int 1))) (d2 gIx (dV 1) (dC (.int 1)))) (dNil))))
noncomputable def m_law_add : List PD → R PD := fnD 2 den_law_add
noncomputable def lb1_law_places : En → Fl := sPut2 1 (dV 4) (dV 5) (dA (gCall 2 [] m_law_add) (dCons (dIx2 1 (dV 4) (dV 5)) (dCons (dA gTupD (dCons (d2 gMul (d2 gIx (dV 2) (dV 4)) (d2 gIx (dV 3) (dV 5))) (dCons (d2 gMul (d2 gIx (dV 2) (dC (.int 2))) (d2 gIx (dV 3) (dC (.int 2)))) (dNil)))) (dNil))))
noncomputable def lb2_law_places : En → Fl := sFor (iA gR1 (dCons (dC (.int 2)) (dNil))) (.one 5) lb1_law_places
noncomputable def lb3_law_places : En → Fl := sFor (iA gR1 (dCons (dC (.int 2)) (dNil))) (.one 4) lb2_law_places
noncomputable def den_law_places : En → Fl := sSeq (sSetLL 1 (lDisp2 (dCons (dA gTupD (dCons (dC (.int 0)) (dCons (dC (.int 1)) (dNil)))) (dCons (dA gTupD (dCons (dC (.int 0)) (dCons (dC (.int 1)) (dNil)))) (dNil))) (dCons (dA gTupD (dCons (dC (.int 0)) (dCons (dC (.int 1)) (dNil)))) (dCons (dA gTupD (dCons (dC (.int 0)) (dCons (dC (.int 1)) (dNil)))) (dNil))))) (sSeq (sFor (iL (dV 0)) (.many [2, 3]) lb3_law_places) (sFrzLL 1 (sRet (dV 1))))
noncomputable def m_law_places : List PD → R PD := fnD 6 den_law_places
noncomputable def den_by : En → Fl := sRet (dA (gCall 2 [] m_fraction) (dCons (d2 gMul (d2 gIx (dV 0) (dC (.int 0))) (d2 gIx (dV 1) (dC (.int 1)))) (dCons (d2 gMul (d2 gIx (dV 0) (dC (.int 1))) (d2 gIx (dV 1) (dC (.int 0)))) (dNil))))
noncomputable def m_by : List PD → R PD := fnD 2 den_by
noncomputable def den_is_less : En → Fl := sRet (d2 gLt (d2 gMul (d2 gIx (dV 0) (dC (.int 0))) (d2 gIx (dV 1) (dC (.int 1)))) (d2 gMul (d2 gIx (dV 1) (dC (.int 0))) (d2 gIx (dV 0) (dC (.int 1)))))
noncomputable def m_is_less : List PD → R PD := fnD 2 den_is_less
noncomputable def den_law_above : En → Fl := sSeq (sSet 3 (d2 gMul (d2 gIx (dV 1) (dC (.int 0))) (d2 gIx (dV 2) (dC (.int 1))))) (sSeq (sSet 4 (d2 gMul (d2 gIx (dV 2) (dC (.int 0))) (d2 gIx (dV 1) (dC (.int 1))))) (sSeq (sIf (dAnd (dT (d2 gGe (dV 3) (dC (.int 0)))) (dT (d2 gGe (dV 4) (dC (.int 0))))) (sRet (d2 gGt (d2 gAdd (dV 3) (dV 4)) (dC (.int 0)))) (sNx)) (sSeq (sIf (dAnd (dT (d2 gLe (dV 3) (dC (.int 0)))) (dT (d2 gLe (dV 4) (dC (.int 0))))) (sRet (dC (.bool false))) (sNx)) (sRet (d2 gEq (d2 gGt (dV 3) (dC (.int 0))) (d2 gGt (d2 gMul (dV 3) (dV 3)) (d2 gMul (d2 gMul (dV 0) (dV 4)) (dV 4))))))))
noncomputable def m_law_above : List PD → R PD := fnD 5 den_law_above
noncomputable def lt1_law_digits_v3 : En → R Bool := dLendB 3 (dAnd (dT (d2 gGt (dV 4) (dC (.int 0)))) (dT (d2 gLt (dA gLen (dCons (dV 3) (dNil))) (dV 2))))
noncomputable def lb1_law_digits_v3 : En → Fl := sSeq (sApp 3 (d2 gMod (dV 4) (d2 gPow (dC (.int 10)) (dC (.int 6))))) (sSet 4 (d2 gDiv (dV 4) (d2 gPow (dC (.int 10)) (dC (.int 6)))))
noncomputable def lb2_law_digits_v3 : En → Fl := sSeq (sSet 5 (d2 gMod (d2 gAdd (d2 gAdd (d2 gMul (dV 5) (dC (.int 1181783497276652981))) (d2 gMul (dV 6) (dV 6))) (dV 1)) (dC (.int 2305843009213693951)))) (sApp 3 (d2 gMod (d2 gDiv (d2 gMod (d2 gMul (dV 5) (dV 5)) (dC (.int 2305843009213693921))) (dC (.int 1048576))) (d2 gPow (dC (.int 10)) (dC (.int 6)))))
noncomputable def den_law_digits_v3 : En → Fl := sSeq (sSetL 3 (lDisp (dNil))) (sSeq (sSet 4 (d2 gMul (d2 gDiv (dA gAbs (dCons (dV 0) (dNil))) (dC (.int 2))) (d2 gSub (dC (.int 1)) (d2 gMod (dV 0) (dC (.int 2)))))) (sSeq (sWhile lt1_law_digits_v3 lb1_law_digits_v3) (sSeq (sSet 5 (d2 gAdd (d2 gAdd (d2 gMod (dV 0) (dC (.int 2305843009213693951))) (d2 gMul (dV 1) (dV 1))) (dC (.int 7)))) (sSeq (sFor (iA gR2 (dCons (dLend 3 (dA gLen (dCons (dV 3) (dNil)))) (dCons (dV 2) (dNil)))) (.one 6) lb2_law_digits_v3) (sFrz 3 (sRet (dV 3)))))))
noncomputable def m_law_digits_v3 : List PD → R PD := fnD 7 den_law_digits_v3
noncomputable def den_law_root_v5 : En → Fl := sSeq (sSet 1 (d2 gAdd (dC (.int 2)) (d2 gMod (d2 gIx (dA (gCall 3 [] m_law_digits_v3) (dCons (dA (gCall 2 [] m_law_cell) (dCons (dV 0) (dCons (dC (.int 0)) (dNil)))) (dCons (dC (.int 0)) (dCons (dC (.int 1)) (dNil))))) (dC (.int 0))) (dC (.int 98))))) (sSeq (sIf (dT (d2 (gIn false) (dV 1) (dA gLstD (dCons (dC (.int 4)) (dCons (dC (.int 9)) (dCons (dC (.int 16)) (dCons (dC (.int 25)) (dCons (dC (.int 36)) (dCons (dC (.int 49)) (dCons (dC (.int 64)) (dCons (dC (.int 81)) (dNil)))))))))))) (sRet (d2 gAdd (dV 1) (dC (.int 1)))) (sNx)) (sRet (dV 1)))
noncomputable def m_law_root_v5 : List PD → R PD := fnD 2 den_law_root_v5
noncomputable def den_law_fraction_v3 : En → Fl := sSeq (sSet 2 (d2 gSub (d2 gMod (d2 gIx (dV 0) (dC (.int 0))) (dC (.int 41))) (dC (.int 20)))) (sSeq (sSet 3 (d2 gIx (dA gLstD (dCons (dC (.int 1)) (dCons (dC (.int 1)) (dCons (dC (.int 2)) (dCons (dC (.int 3)) (dCons (dC (.int 4)) (dCons (dC (.int 6)) (dCons (dC (.int 12)) (dNil))))))))) (d2 gMod (d2 gIx (dV 0) (dC (.int 1))) (dC (.int 7))))) (sSeq (sIf (dT (d2 gEq (d2 gMod (d2 gIx (dV 0) (dC (.int 2))) (dC (.int 4))) (dC (.int 2)))) (sSeq (sSet 2 (d2 gSub (d2 gMod (d2 gIx (dV 0) (dC (.int 0))) (dC (.int 2001))) (dC (.int 1000)))) (sSet 3 (d2 gAdd (dC (.int 1)) (d2 gMod (d2 gIx (dV 0) (dC (.int 1))) (dC (.int 60)))))) (sNx)) (sSeq (sIf (dAnd (dT (d2 gEq (d2 gMod (d2 gIx (dV 0) (dC (.int 2))) (dC (.int 4))) (dC (.int 3)))) (dT (dV 1))) (sSeq (sSet 2 (d2 gAdd (d2 gMul (d2 gSub (d2 gAdd (d2 gMul (d2 gIx (dV 0) (dC (.int 0))) (d2 gPow (dC (.int 10)) (dC (.int 6)))) (d2 gIx (dV 0) (dC (.int 1)))) (d2 gMul (dC (.int 5)) (d2 gPow (dC (.int 10)) (dC (.int 11))))) (d2 gPow (dC (.int 10)) (dC (.int 18)))) (d2 gIx (dV 0) (dC (.int 2))))) (sSet 3 (d2 gAdd (d2 gAdd (dC (.int 1)) (d2 gMul (d2 gIx (dV 0) (dC (.int 1))) (d2 gPow (dC (.int 10)) (dC (.int 6))))) (d2 gIx (dV 0) (dC (.int 2)))))) (sNx)) (sSeq (sSet 4 (dA (gCall 2 [] m_law_divisor_v2) (dCons (dA gAbs (dCons (dV 2) (dNil))) (dCons (dV 3) (dNil))))) (sRet (dA gTupD (dCons (d2 gDiv (dV 2) (dV 4)) (dCons (d2 gDiv (dV 3) (dV 4)) (dNil)))))))))
noncomputable def m_law_fraction_v3 : List PD → R PD := fnD 5 den_law_fraction_v3
noncomputable def den_law_side_v5 : En → Fl := sSeq (sSet 3 (dA (gCall 2 [] m_law_fraction_v3) (dCons (dSl (dV 1) (dP0) (dP (dC (.int 3)))) (dCons (dV 2) (dNil))))) (sSeq (sSet 4 (dA (gCall 2 [] m_law_fraction_v3) (dCons (dSl (dV 1) (dP (dC (.int 3))) (dP (dC (.int 6)))) (dCons (dV 2) (dNil))))) (sSeq (sIf (dT (d2 gEq (d2 gMod (d2 gIx (dV 1) (dC (.int 6))) (dC (.int 4))) (dC (.int 0)))) (sSet 4 (dA gTupD (dCons (dC (.int 0)) (dCons (dC (.int 1)) (dNil))))) (sNx)) (sSeq (sIf (dT (d2 gEq (d2 gMod (d2 gIx (dV 1) (dC (.int 6))) (dC (.int 4))) (dC (.int 1)))) (sSet 3 (dA gTupD (dCons (dC (.int 0)) (dCons (dC (.int 1)) (dNil))))) (sNx)) (sSeq (sIf (dAnd (dT (d2 gEq (d2 gIx (dV 3) (dC (.int 0))) (dC (.int 0)))) (dT (d2 gEq (d2 gIx (dV 4) (dC (.int 0))) (dC (.int 0))))) (sRet (dA gTupD (dCons (dA gTupD (dCons (dC (.int 1)) (dCons (dC (.int 1)) (dNil)))) (dCons (dA gTupD (dCons (dC (.int 0)) (dCons (dC (.int 1)) (dNil)))) (dNil))))) (sNx)) (sSeq (sIf (dNot (dT (dA (gCall 3 [] m_law_above) (dCons (dV 0) (dCons (dV 3) (dCons (dV 4) (dNil))))))) (sRet (dA gTupD (dCons (dA gTupD (dCons (d2 gSub (dC (.int 0)) (d2 gIx (dV 3) (dC (.int 0)))) (dCons (d2 gIx (dV 3) (dC (.int 1))) (dNil)))) (dCons (dA gTupD (dCons (d2 gSub (dC (.int 0)) (d2 gIx (dV 4) (dC (.int 0)))) (dCons (d2 gIx (dV 4) (dC (.int 1))) (dNil)))) (dNil))))) (sNx)) (sRet (dA gTupD (dCons (dV 3) (dCons (dV 4) (dNil))))))))))
noncomputable def m_law_side_v5 : List PD → R PD := fnD 5 den_law_side_v5
def c_CUTS : PD := (.tuple [(.str "across"), (.str "along")])
def c_GLUINGS : PD := (.tuple [(.str "beside"), (.str "atop")])
def c_SHARES : PD := (.tuple [(.str "stack"), (.str "spread")])
noncomputable def den_is_deed : En → Fl := sSeq (sIf (dOr (dNot (dT (d1 (gIsi "tuple") (dV 0)))) (dOr (dT (d2 (gIn true) (dA gLen (dCons (dV 0) (dNil))) (dA gTupD (dCons (dC (.int 2)) (dCons (dC (.int 3)) (dNil)))))) (dNot (dT (d1 (gIsi "str") (d2 gIx (dV 0) (dC (.int 0)))))))) (sRet (dC (.bool false))) (sNx)) (sSeq (sIf (dT (d2 gEq (dA gLen (dCons (dV 0) (dNil))) (dC (.int 2)))) (sRet (d2 gEq (d2 gIx (dV 0) (dC (.int 0))) (dC (.str "turn")))) (sNx)) (sSeq (sIf (dT (d2 (gIn false) (d2 gIx (dV 0) (dC (.int 0))) (dC c_CUTS))) (sRet (dA (gCall 1 [] m_is_length) (dCons (d2 gIx (dV 0) (dC (.int 2))) (dNil)))) (sNx)) (sSeq (sIf (dT (d2 (gIn false) (d2 gIx (dV 0) (dC (.int 0))) (dC c_SHARES))) (sRet (dAndV (dA (gCall 1 [] m_is_whole) (dCons (d2 gIx (dV 0) (dC (.int 2))) (dNil))) (d2 gGt (d2 gIx (dV 0) (dC (.int 2))) (dC (.int 0))))) (sNx)) (sRet (d2 (gIn false) (d2 gIx (dV 0) (dC (.int 0))) (dC c_GLUINGS))))))
noncomputable def m_is_deed : List PD → R PD := fnD 1 den_is_deed
noncomputable def den_names_in : En → Fl := sSeq (sIf (dT (d2 (gIn false) (d2 gIx (dV 0) (dC (.int 0))) (dC c_GLUINGS))) (sRet (dA gLstD (dCons (d2 gIx (dV 0) (dC (.int 1))) (dCons (d2 gIx (dV 0) (dC (.int 2))) (dNil))))) (sNx)) (sRet (dA gLstD (dCons (d2 gIx (dV 0) (dC (.int 1))) (dNil))))
noncomputable def m_names_in : List PD → R PD := fnD 1 den_names_in
noncomputable def den_cut : En → Fl := sSeq (sIf (dOr (dNot (dT (dA (gCall 3 [] m_under) (dCons (dV 0) (dCons (dA gTupD (dCons (dC (.int 0)) (dCons (dC (.int 0)) (dCons (dC (.int 1)) (dNil))))) (dCons (dV 2) (dNil))))))) (dNot (dT (dA (gCall 3 [] m_under) (dCons (dV 0) (dCons (dV 2) (dCons (dV 1) (dNil)))))))) (sRaise "Unfit") (sNx)) (sRet (dA gTupD (dCons (dV 2) (dCons (dA (gCall 2 [] m_taken) (dCons (dV 1) (dCons (dV 2) (dNil)))) (dNil)))))
noncomputable def m_cut : List PD → R PD := fnD 3 den_cut
noncomputable def den_glued : En → Fl := sSeq (sIf (dT (d2 gNe (d2 gIx (dV 0) (dC (.int 1))) (d2 gIx (dV 1) (dC (.int 1))))) (sRaise "Unfit") (sNx)) (sRet (dA (gCall 2 [] m_added) (dCons (d2 gIx (dV 0) (dC (.int 0))) (dCons (d2 gIx (dV 1) (dC (.int 0))) (dNil)))))
noncomputable def m_glued : List PD → R PD := fnD 2 den_glued
noncomputable def den_shared : En → Fl := sSeq (sSet 4 (dA (gCall 3 [(.int 0), (.int 1)] m_length) (dCons (dV 3) (dNil)))) (sRet (dA gTupD (dCons (dA (gCall 3 [] m_parted) (dCons (dV 0) (dCons (dV 1) (dCons (dV 4) (dNil))))) (dCons (dA (gCall 3 [] m_timed) (dCons (dV 0) (dCons (dV 2) (dCons (dV 4) (dNil))))) (dNil)))))
noncomputable def m_shared : List PD → R PD := fnD 5 den_shared
noncomputable def den_turned : En → Fl := sRet (dA gTupD (dCons (d2 gIx (dV 0) (dC (.int 1))) (dCons (d2 gIx (dV 0) (dC (.int 0))) (dNil))))
noncomputable def m_turned : List PD → R PD := fnD 1 den_turned
noncomputable def le1_made : En → R PD := dA gTupD (dCons (dV 5) (dCons (dV 4) (dNil)))
noncomputable def le2_made : En → R PD := dA gTupD (dCons (dV 3) (dCons (dV 5) (dNil)))
noncomputable def den_made : En → Fl := sSeq (sAsg (.many [3, 4]) (d2 gIx (dV 2) (dC (.int 0)))) (sSeq (sIf (dT (d2 gEq (d2 gIx (dV 1) (dC (.int 0))) (dC (.str "across")))) (sRet (dLc (iT (dA (gCall 3 [] m_cut) (dCons (dV 0) (dCons (dV 3) (dCons (d2 gIx (dV 1) (dC (.int 2))) (dNil)))))) (.one 5) [5] bYes le1_made)) (sNx)) (sSeq (sIf (dT (d2 gEq (d2 gIx (dV 1) (dC (.int 0))) (dC (.str "along")))) (sRet (dLc (iT (dA (gCall 3 [] m_cut) (dCons (dV 0) (dCons (dV 4) (dCons (d2 gIx (dV 1) (dC (.int 2))) (dNil)))))) (.one 5) [5] bYes le2_made)) (sNx)) (sSeq (sIf (dT (d2 gEq (d2 gIx (dV 1) (dC (.int 0))) (dC (.str "beside")))) (sRet (dA gLstD (dCons (dA gTupD (dCons (dA (gCall 2 [] m_glued) (dCons (d2 gIx (dV 2) (dC (.int 0))) (dCons (d2 gIx (dV 2) (dC (.int 1))) (dNil)))) (dCons (dV 4) (dNil)))) (dNil)))) (sNx)) (sSeq (sIf (dT (d2 gEq (d2 gIx (dV 1) (dC (.int 0))) (dC (.str "atop")))) (sRet (dA gLstD (dCons (dA gTupD (dCons (dV 3) (dCons (dA (gCall 2 [] m_glued) (dCons (dA (gCall 1 [] m_turned) (dCons (d2 gIx (dV 2) (dC (.int 0))) (dNil))) (dCons (dA (gCall 1 [] m_turned) (dCons (d2 gIx (dV 2) (dC (.int 1))) (dNil))) (dNil)))) (dNil)))) (dNil)))) (sNx)) (sSeq (sIf (dT (d2 gEq (d2 gIx (dV 1) (dC (.int 0))) (dC (.str "stack")))) (sRet (dA gLstD (dCons (dA (gCall 4 [] m_shared) (dCons (dV 0) (dCons (dV 3) (dCons (dV 4) (dCons (d2 gIx (dV 1) (dC (.int 2))) (dNil)))))) (dNil)))) (sNx)) (sSeq (sIf (dT (d2 gEq (d2 gIx (dV 1) (dC (.int 0))) (dC (.str "spread")))) (sRet (dA gLstD (dCons (dA (gCall 1 [] m_turned) (dCons (dA (gCall 4 [] m_shared) (dCons (dV 0) (dCons (dV 4) (dCons (dV 3) (dCons (d2 gIx (dV 1) (dC (.int 2))) (dNil)))))) (dNil))) (dNil)))) (sNx)) (sRet (dA gLstD (dCons (dA (gCall 1 [] m_turned) (dCons (d2 gIx (dV 2) (dC (.int 0))) (dNil))) (dNil))))))))))
noncomputable def m_made : List PD → R PD := fnD 6 den_made
noncomputable def den_law_plus : En → Fl := sSeq (sSet 3 (d2 gAdd (d2 gMul (d2 gIx (dV 0) (dC (.int 0))) (d2 gIx (dV 1) (dC (.int 2)))) (d2 gMul (d2 gMul (dV 2) (d2 gIx (dV 1) (dC (.int 0)))) (d2 gIx (dV 0) (dC (.int 2)))))) (sSeq (sSet 4 (d2 gAdd (d2 gMul (d2 gIx (dV 0) (dC (.int 1))) (d2 gIx (dV 1) (dC (.int 2)))) (d2 gMul (d2 gMul (dV 2) (d2 gIx (dV 1) (dC (.int 1)))) (d2 gIx (dV 0) (dC (.int 2)))))) (sRet (dA (gCall 3 [] m_law_lowest) (dCons (dV 3) (dCons (dV 4) (dCons (d2 gMul (d2 gIx (dV 0) (dC (.int 2))) (d2 gIx (dV 1) (dC (.int 2)))) (dNil)))))))
noncomputable def m_law_plus : List PD → R PD := fnD 5 den_law_plus
noncomputable def den_law_share_v2 : En → Fl := sRet (dA (gCall 3 [] m_law_lowest) (dCons (d2 gMul (d2 gIx (dV 0) (dC (.int 0))) (dV 1)) (dCons (d2 gMul (d2 gIx (dV 0) (dC (.int 1))) (dV 1)) (dCons (d2 gMul (d2 gIx (dV 0) (dC (.int 2))) (dV 2)) (dNil)))))
noncomputable def m_law_share_v2 : List PD → R PD := fnD 3 den_law_share_v2
noncomputable def den_law_below_v2 : En → Fl := sSeq (sSet 3 (dA (gCall 3 [] m_law_plus) (dCons (dV 1) (dCons (dV 2) (dCons (d1 gNeg (dC (.int 1))) (dNil)))))) (sRet (dAndV (d2 gNe (dSl (dV 3) (dP0) (dP (dC (.int 2)))) (dA gTupD (dCons (dC (.int 0)) (dCons (dC (.int 0)) (dNil))))) (d2 gLt (dA (gCall 3 [] m_law_sign) (dCons (dV 0) (dCons (d2 gIx (dV 3) (dC (.int 0))) (dCons (d2 gIx (dV 3) (dC (.int 1))) (dNil))))) (dC (.int 0)))))
noncomputable def m_law_below_v2 : List PD → R PD := fnD 4 den_law_below_v2
noncomputable def den_law_new : En → Fl := sSeq (sAsg (.many [2, 3]) (d2 gIx (dV 1) (dC (.int 0)))) (sSeq (sIf (dT (d2 gEq (d2 gIx (dV 0) (dC (.int 0))) (dC (.str "across")))) (sRet (dA gLstD (dCons (dA gTupD (dCons (d2 gIx (dV 0) (dC (.int 2))) (dCons (dV 3) (dNil)))) (dCons (dA gTupD (dCons (dA (gCall 3 [] m_law_plus) (dCons (dV 2) (dCons (d2 gIx (dV 0) (dC (.int 2))) (dCons (d1 gNeg (dC (.int 1))) (dNil))))) (dCons (dV 3) (dNil)))) (dNil))))) (sNx)) (sSeq (sIf (dT (d2 gEq (d2 gIx (dV 0) (dC (.int 0))) (dC (.str "along")))) (sRet (dA gLstD (dCons (dA gTupD (dCons (dV 2) (dCons (d2 gIx (dV 0) (dC (.int 2))) (dNil)))) (dCons (dA gTupD (dCons (dV 2) (dCons (dA (gCall 3 [] m_law_plus) (dCons (dV 3) (dCons (d2 gIx (dV 0) (dC (.int 2))) (dCons (d1 gNeg (dC (.int 1))) (dNil))))) (dNil)))) (dNil))))) (sNx)) (sSeq (sIf (dT (d2 gEq (d2 gIx (dV 0) (dC (.int 0))) (dC (.str "beside")))) (sRet (dA gLstD (dCons (dA gTupD (dCons (dA (gCall 3 [] m_law_plus) (dCons (dV 2) (dCons (d2 gIx (d2 gIx (dV 1) (dC (.int 1))) (dC (.int 0))) (dCons (dC (.int 1)) (dNil))))) (dCons (dV 3) (dNil)))) (dNil)))) (sNx)) (sSeq (sIf (dT (d2 gEq (d2 gIx (dV 0) (dC (.int 0))) (dC (.str "atop")))) (sRet (dA gLstD (dCons (dA gTupD (dCons (dV 2) (dCons (dA (gCall 3 [] m_law_plus) (dCons (dV 3) (dCons (d2 gIx (d2 gIx (dV 1) (dC (.int 1))) (dC (.int 1))) (dCons (dC (.int 1)) (dNil))))) (dNil)))) (dNil)))) (sNx)) (sSeq (sIf (dT (d2 gEq (d2 gIx (dV 0) (dC (.int 0))) (dC (.str "stack")))) (sRet (dA gLstD (dCons (dA gTupD (dCons (dA (gCall 3 [] m_law_share_v2) (dCons (dV 2) (dCons (dC (.int 1)) (dCons (d2 gIx (dV 0) (dC (.int 2))) (dNil))))) (dCons (dA (gCall 3 [] m_law_share_v2) (dCons (dV 3) (dCons (d2 gIx (dV 0) (dC (.int 2))) (dCons (dC (.int 1)) (dNil))))) (dNil)))) (dNil)))) (sNx)) (sSeq (sIf (dT (d2 gEq (d2 gIx (dV 0) (dC (.int 0))) (dC (.str "spread")))) (sRet (dA gLstD (dCons (dA gTupD (dCons (dA (gCall 3 [] m_law_share_v2) (dCons (dV 2) (dCons (d2 gIx (dV 0) (dC (.int 2))) (dCons (dC (.int 1)) (dNil))))) (dCons (dA (gCall 3 [] m_law_share_v2) (dCons (dV 3) (dCons (dC (.int 1)) (dCons (d2 gIx (dV 0) (dC (.int 2))) (dNil))))) (dNil)))) (dNil)))) (sNx)) (sRet (dA gLstD (dCons (dA gTupD (dCons (dV 3) (dCons (dV 2) (dNil)))) (dNil))))))))))
noncomputable def m_law_new : List PD → R PD := fnD 4 den_law_new
noncomputable def le1_law_done_v2 : En → R PD := dGetK 0 (dV 5)
noncomputable def lb2_law_done_v2 : En → Fl := sPopE 6 (dV 5)
noncomputable def lb3_law_done_v2 : En → Fl := sPutK 6 (d2 gAdd (dV 1) (dV 7)) (d2 gIx (dV 4) (dV 7))
noncomputable def den_law_done_v2 : En → Fl := sSeq (sSetL 3 (lDisp (dCons (d2 gIx (dV 2) (dC (.int 1))) (dNil)))) (sSeq (sIf (dT (d2 (gIn false) (d2 gIx (dV 2) (dC (.int 0))) (dA gTupD (dCons (dC (.str "beside")) (dCons (dC (.str "atop")) (dNil)))))) (sApp 3 (d2 gIx (dV 2) (dC (.int 2)))) (sNx)) (sFrz 3 (sSeq (sSet 4 (dA (gCall 2 [] m_law_new) (dCons (dV 2) (dCons (dLc (iL (dV 3)) (.one 5) [5] bYes le1_law_done_v2) (dNil))))) (sSeq (sSetKD 6 (dV 0)) (sSeq (sFor (iL (dV 3)) (.one 5) lb2_law_done_v2) (sSeq (sFor (iA gR1 (dCons (dA gLen (dCons (dV 4) (dNil))) (dNil))) (.one 7) lb3_law_done_v2) (sFrzK 6 (sRet (dA gTupD (dCons (dV 6) (dCons (d2 gAdd (dV 1) (dA gLen (dCons (dV 4) (dNil)))) (dNil))))))))))))
noncomputable def m_law_done_v2 : List PD → R PD := fnD 8 den_law_done_v2
noncomputable def den_law_is_length : En → Fl := sSeq (sIf (dOr (dNot (dT (d1 (gIsi "tuple") (dV 0)))) (dT (d2 gNe (dA gLen (dCons (dV 0) (dNil))) (dC (.int 3))))) (sRet (dC (.bool false))) (sNx)) (sRet (dAndV (dA (gCall 1 [] m_law_whole) (dCons (d2 gIx (dV 0) (dC (.int 0))) (dNil))) (dAndV (dA (gCall 1 [] m_law_whole) (dCons (d2 gIx (dV 0) (dC (.int 1))) (dNil))) (dA (gCall 1 [] m_law_whole) (dCons (d2 gIx (dV 0) (dC (.int 2))) (dNil))))))
noncomputable def m_law_is_length : List PD → R PD := fnD 1 den_law_is_length
noncomputable def le1_Yard_boards : En → R PD := dA gTupD (dCons (dV 1) (dCons (dFldGet "Yard" 0 "lying" (dV 1)) (dNil)))
noncomputable def den_Yard_boards : En → Fl := sRetV (vL (dLcL (iL (dFldSort "Yard" 0 "lying")) (.one 1) [1] bYes le1_Yard_boards))
noncomputable def mV_Yard_boards : Fs → List PD → R SV := fnPV 2 0 "Yard" den_Yard_boards
noncomputable def m_Yard_boards : Fs → List PD → R PD := fun fs ds => (mV_Yard_boards fs ds).bind frzV
noncomputable def le1_Yard_heap : En → R PD := dFldGet "Yard" 0 "lying" (dV 1)
noncomputable def den_Yard_heap : En → Fl := sRetV (vL (dLcL (iL (dFldSort "Yard" 0 "lying")) (.one 1) [1] bYes le1_Yard_heap))
noncomputable def mV_Yard_heap : Fs → List PD → R SV := fnPV 2 0 "Yard" den_Yard_heap
noncomputable def m_Yard_heap : Fs → List PD → R PD := fun fs ds => (mV_Yard_heap fs ds).bind frzV
noncomputable def lb1_Yard_put : En → Fl := sSeq (sFldPut "Yard" 0 "lying" (dFld "Yard" 0 "used") (dV 2)) (sFld "Yard" 0 "used" (d2 gAdd (dFld "Yard" 0 "used") (dC (.int 1))))
noncomputable def den_Yard_put : En → Fl := sFor (iL (dV 1)) (.one 2) lb1_Yard_put
noncomputable def m_Yard_put : Fs → List PD → RM := fnM 3 0 "Yard" den_Yard_put
noncomputable def den_Yard___init__ : En → Fl := sSeq (sFld "Yard" 0 "root" (dV 1)) (sSeq (sFld "Yard" 0 "turning" (dV 3)) (sSeq (sFldK "Yard" 0 "lying" (.k [])) (sSeq (sFld "Yard" 0 "used" (dC (.int 0))) (sSeq (sFldK "Yard" 0 "done" (.l [])) (sMe "Yard" 0 "put" (gMeM 2 [] m_Yard_put) (dCons (dV 2) (dNil)))))))
noncomputable def m_Yard___init__ : Fs → List PD → RM := fnM 4 0 "Yard" den_Yard___init__
noncomputable def lb1_Yard_do : En → Fl := sIf (dOr (dNot (dT (dA (gCall 1 [] m_is_whole) (dCons (dV 3) (dNil))))) (dT (dFldIn "Yard" true 0 "lying" (dV 3)))) (sRaise "NoName") (sNx)
noncomputable def le2_Yard_do : En → R PD := dFldGet "Yard" 0 "lying" (dV 3)
noncomputable def lb3_Yard_do : En → Fl := sFldPop "Yard" 0 "lying" (dV 3)
noncomputable def den_Yard_do : En → Fl := sSeq (sIf (dNot (dT (dA (gCall 1 [] m_is_deed) (dCons (dV 1) (dNil))))) (sRaise "NoDeed") (sNx)) (sSeq (sSet 2 (dA (gCall 1 [] m_names_in) (dCons (dV 1) (dNil)))) (sSeq (sFor (iL (dV 2)) (.one 3) lb1_Yard_do) (sSeq (sIf (dAnd (dT (d2 gEq (dA gLen (dCons (dV 2) (dNil))) (dC (.int 2)))) (dT (d2 gEq (d2 gIx (dV 2) (dC (.int 0))) (d2 gIx (dV 2) (dC (.int 1)))))) (sRaise "NoName") (sNx)) (sSeq (sIf (dAnd (dT (d2 gEq (d2 gIx (dV 1) (dC (.int 0))) (dC (.str "turn")))) (dNot (dT (dFld "Yard" 0 "turning")))) (sRaise "Grain") (sNx)) (sSeq (sSet 4 (dA (gCall 3 [] m_made) (dCons (dFld "Yard" 0 "root") (dCons (dV 1) (dCons (dLc (iL (dV 2)) (.one 3) [3] bYes le2_Yard_do) (dNil)))))) (sSeq (sFor (iL (dV 2)) (.one 3) lb3_Yard_do) (sSeq (sMe "Yard" 0 "put" (gMeM 2 [] m_Yard_put) (dCons (dV 4) (dNil))) (sFldApp "Yard" 0 "done" (dV 1)))))))))
noncomputable def m_Yard_do : Fs → List PD → RM := fnM 5 0 "Yard" den_Yard_do
noncomputable def lb1_walked : En → Fl := sMe "Yard" 4 "do" (gMeM 2 [] m_Yard_do) (dCons (dV 5) (dNil))
noncomputable def den_walked : En → Fl := sSeq (sSetV 4 (vMake "Yard" 4 [] m_Yard___init__ (dCons (dV 0) (dCons (dV 1) (dCons (dV 3) (dNil)))))) (sSeq (sFor (iL (dV 2)) (.one 5) lb1_walked) (sRetV (vMth "Yard" 4 "heap" (gMeV 1 [] mV_Yard_heap) dNil)))
noncomputable def mV_walked : List PD → R SV := fnV 6 den_walked
noncomputable def m_walked : List PD → R PD := fun ds => (mV_walked ds).bind frzV
def c_CONTRARY : List (Str × Str) := [("across", "beside"), ("along", "atop"), ("stack", "spread"), ("spread", "stack"), ("turn", "turn")]
noncomputable def den_contrary : En → Fl := sSeq (sIf (dT (d2 gEq (d2 gIx (dV 0) (dC (.int 0))) (dC (.str "beside")))) (sRet (dA gTupD (dCons (dC (.str "across")) (dCons (dA gTupD (dCons (d2 gIx (dGetK 1 (d2 gIx (dV 0) (dC (.int 1)))) (dC (.int 0))) (dNil))) (dNil))))) (sNx)) (sSeq (sIf (dT (d2 gEq (d2 gIx (dV 0) (dC (.int 0))) (dC (.str "atop")))) (sRet (dA gTupD (dCons (dC (.str "along")) (dCons (dA gTupD (dCons (d2 gIx (dGetK 1 (d2 gIx (dV 0) (dC (.int 1)))) (dC (.int 1))) (dNil))) (dNil))))) (sNx)) (sSeq (sIf (dOr (dT (d2 gEq (d2 gIx (dV 0) (dC (.int 0))) (dC (.str "across")))) (dT (d2 gEq (d2 gIx (dV 0) (dC (.int 0))) (dC (.str "along"))))) (sRet (dA gTupD (dCons (d1 (gCD c_CONTRARY) (d2 gIx (dV 0) (dC (.int 0)))) (dCons (dA gTupD (dNil)) (dNil))))) (sNx)) (sRet (dA gTupD (dCons (d1 (gCD c_CONTRARY) (d2 gIx (dV 0) (dC (.int 0)))) (dCons (dSl (dV 0) (dP (dC (.int 2))) (dP0)) (dNil)))))))
noncomputable def m_contrary : List PD → R PD := fnD 2 den_contrary
noncomputable def lq1_traced : En → R Bool := dT (dInK true 6 (dV 11))
noncomputable def le1_traced : En → R PD := dV 11
noncomputable def lb2_traced : En → Fl := sSeq (sSet 6 (dA gDictP (dCons (dMth "Yard" 3 "boards" (gMeP 1 [] m_Yard_boards) (dNil)) dNil))) (sSeq (sMe "Yard" 3 "do" (gMeM 2 [] m_Yard_do) (dCons (dV 5) (dNil))) (sSeq (sSet 7 (dA gDictP (dCons (dMth "Yard" 3 "boards" (gMeP 1 [] m_Yard_boards) (dNil)) dNil))) (sSeq (sAsg (.many [8, 9]) (dA (gCall 2 [] m_contrary) (dCons (dV 5) (dCons (dV 6) (dNil))))) (sSeq (sSetL 10 (lDisp (dCons (d2 gIx (dV 5) (dC (.int 1))) (dNil)))) (sSeq (sIf (dOr (dT (d2 gEq (dV 8) (dC (.str "across")))) (dT (d2 gEq (dV 8) (dC (.str "along"))))) (sApp 10 (d2 gIx (dV 5) (dC (.int 2)))) (sNx)) (sFrz 10 (sApp 4 (dA gTupD (dCons (dV 8) (dCons (dV 9) (dCons (dV 10) (dCons (dLc (iK (dV 7)) (.one 11) [11] lq1_traced le1_traced) (dNil)))))))))))))
noncomputable def den_traced : En → Fl := sSeq (sSetV 3 (vMake "Yard" 4 [] m_Yard___init__ (dCons (dV 0) (dCons (dV 1) (dCons (dC (.bool true)) (dNil)))))) (sSeq (sSetL 4 (lDisp (dNil))) (sSeq (sFor (iL (dV 2)) (.one 5) lb2_traced) (sRetTp (tpS 3 (tpS 4 (tpNil))))))
noncomputable def mV_traced : List PD → R SV := fnV 12 den_traced
noncomputable def lb1_back_v2 : En → Fl := sPutK 5 (d2 gIx (dV 7) (dC (.int 0))) (dV 6)
noncomputable def le2_back_v2 : En → R PD := dGetK 5 (dV 14)
noncomputable def lb3_back_v2 : En → Fl := sPopE 5 (dV 14)
noncomputable def lb4_back_v2 : En → Fl := sSeq (sPutK 5 (dV 14) (dV 8)) (sSet 8 (d2 gAdd (dV 8) (dC (.int 1))))
noncomputable def lb5_back_v2 : En → Fl := sSeq (sApp 9 (d2 gAdd (d2 gAdd (dA gTupD (dCons (dV 10) (dNil))) (dA gTupOf (dCons (dLc (iL (dV 13)) (.one 14) [14] bYes le2_back_v2) (dNil)))) (dV 11))) (sSeq (sFor (iL (dV 13)) (.one 14) lb3_back_v2) (sFor (iL (dV 12)) (.one 14) lb4_back_v2))
noncomputable def le6_back_v2 : En → R PD := dGetK 5 (dV 14)
noncomputable def le7_back_v2 : En → R PD := dM isL gm_index (dV 15) (dGetK 5 (dV 14))
noncomputable def den_back_v2 : En → Fl := sSeq (sAsgTp [3, 4] (dAV (gCallV 3 [] mV_traced) (dCons (dV 0) (dCons (dV 1) (dCons (dV 2) (dNil)))))) (sFrz 4 (sSeq (sSetK 5) (sSeq (sFor (iA gEn (dCons (dMth "Yard" 3 "boards" (gMeP 1 [] m_Yard_boards) (dNil)) (dNil))) (.many [6, 7]) lb1_back_v2) (sSeq (sSet 8 (dLenK 5)) (sSeq (sSetL 9 (lDisp (dNil))) (sSeq (sFor (iRv (dV 4)) (.many [10, 11, 12, 13]) lb5_back_v2) (sFrzK 5 (sSeq (sSet 15 (dA gSorted (dCons (dLc (iK (dV 5)) (.one 14) [14] bYes le6_back_v2) (dNil)))) (sRetTp (tpS 9 (tpV (vL (dLcL (iA gR1 (dCons (dA gLen (dCons (dV 1) (dNil))) (dNil))) (.one 14) [14] bYes le7_back_v2)) (tpNil))))))))))))
noncomputable def mV_back_v2 : List PD → R SV := fnV 16 den_back_v2
noncomputable def den_law_fits_v3 : En → Fl := sSeq (sIf (dOr (dNot (dT (d1 (gIsi "tuple") (dV 1)))) (dOr (dT (d2 gLt (dA gLen (dCons (dV 1) (dNil))) (dC (.int 2)))) (dOr (dNot (dT (dA (gCall 1 [] m_law_whole) (dCons (d2 gIx (dV 1) (dC (.int 1))) (dNil))))) (dT (dInK true 2 (d2 gIx (dV 1) (dC (.int 1)))))))) (sRet (dC (.bool false))) (sNx)) (sSeq (sIf (dT (d2 gEq (d2 gIx (dV 1) (dC (.int 0))) (dC (.str "turn")))) (sRet (dAndV (dV 3) (d2 gEq (dA gLen (dCons (dV 1) (dNil))) (dC (.int 2))))) (sNx)) (sSeq (sIf (dT (d2 gNe (dA gLen (dCons (dV 1) (dNil))) (dC (.int 3)))) (sRet (dC (.bool false))) (sNx)) (sSeq (sIf (dT (d2 (gIn false) (d2 gIx (dV 1) (dC (.int 0))) (dA gTupD (dCons (dC (.str "beside")) (dCons (dC (.str "atop")) (dNil)))))) (sSeq (sSet 4 (dA gInt (dCons (d2 gEq (d2 gIx (dV 1) (dC (.int 0))) (dC (.str "beside"))) (dNil)))) (sSeq (sIf (dOr (dNot (dT (dA (gCall 1 [] m_law_whole) (dCons (d2 gIx (dV 1) (dC (.int 2))) (dNil))))) (dOr (dT (dInK true 2 (d2 gIx (dV 1) (dC (.int 2))))) (dT (d2 gEq (d2 gIx (dV 1) (dC (.int 1))) (d2 gIx (dV 1) (dC (.int 2))))))) (sRet (dC (.bool false))) (sNx)) (sRet (d2 gEq (d2 gIx (dGetK 2 (d2 gIx (dV 1) (dC (.int 1)))) (dV 4)) (d2 gIx (dGetK 2 (d2 gIx (dV 1) (dC (.int 2)))) (dV 4)))))) (sNx)) (sSeq (sIf (dT (d2 (gIn false) (d2 gIx (dV 1) (dC (.int 0))) (dA gTupD (dCons (dC (.str "stack")) (dCons (dC (.str "spread")) (dNil)))))) (sRet (dAndV (dA (gCall 1 [] m_law_whole) (dCons (d2 gIx (dV 1) (dC (.int 2))) (dNil))) (d2 gGt (d2 gIx (dV 1) (dC (.int 2))) (dC (.int 0))))) (sNx)) (sSeq (sSet 4 (dA gInt (dCons (d2 gEq (d2 gIx (dV 1) (dC (.int 0))) (dC (.str "along"))) (dNil)))) (sSeq (sIf (dOr (dT (d2 (gIn true) (d2 gIx (dV 1) (dC (.int 0))) (dA gTupD (dCons (dC (.str "across")) (dCons (dC (.str "along")) (dNil)))))) (dOr (dNot (dT (dA (gCall 1 [] m_law_is_length) (dCons (d2 gIx (dV 1) (dC (.int 2))) (dNil))))) (dNot (dT (dA (gCall 3 [] m_law_below_v2) (dCons (dV 0) (dCons (dA gTupD (dCons (dC (.int 0)) (dCons (dC (.int 0)) (dCons (dC (.int 1)) (dNil))))) (dCons (d2 gIx (dV 1) (dC (.int 2))) (dNil))))))))) (sRet (dC (.bool false))) (sNx)) (sRet (dA (gCall 3 [] m_law_below_v2) (dCons (dV 0) (dCons (d2 gIx (dV 1) (dC (.int 2))) (dCons (d2 gIx (dGetK 2 (d2 gIx (dV 1) (dC (.int 1)))) (dV 4)) (dNil))))))))))))
noncomputable def m_law_fits_v3 : List PD → R PD := fnD 5 den_law_fits_v3
noncomputable def den_first_base : En → Fl := sRet (dA gTupD (dCons (dA (gCall 3 [] m_length) (dCons (dC (.int 0)) (dCons (dC (.int 1)) (dCons (dV 1) (dNil))))) (dCons (dA (gCall 3 [] m_length) (dCons (dC (.int 1)) (dCons (dC (.int 0)) (dCons (dV 1) (dNil))))) (dNil))))
noncomputable def m_first_base : List PD → R PD := fnD 2 den_first_base
noncomputable def den_next_base : En → Fl := sSeq (sAsg (.many [2, 3]) (dV 1)) (sSeq (sIf (dT (dA (gCall 3 [] m_under) (dCons (dV 0) (dCons (dV 3) (dCons (dV 2) (dNil)))))) (sRet (dA gTupD (dCons (dA (gCall 2 [] m_taken) (dCons (dV 2) (dCons (dV 3) (dNil)))) (dCons (dV 3) (dNil))))) (sNx)) (sRet (dA gTupD (dCons (dV 2) (dCons (dA (gCall 2 [] m_taken) (dCons (dV 3) (dCons (dV 2) (dNil)))) (dNil))))))
noncomputable def m_next_base : List PD → R PD := fnD 4 den_next_base
noncomputable def den_cross : En → Fl := sRet (dA (gCall 2 [] m_minus) (dCons (dA (gCall 2 [] m_times) (dCons (d2 gIx (dV 0) (dC (.int 0))) (dCons (d2 gIx (dV 1) (dC (.int 1))) (dNil)))) (dCons (dA (gCall 2 [] m_times) (dCons (d2 gIx (dV 0) (dC (.int 1))) (dCons (d2 gIx (dV 1) (dC (.int 0))) (dNil)))) (dNil))))
noncomputable def m_cross : List PD → R PD := fnD 2 den_cross
noncomputable def den_counts : En → Fl := sSeq (sPar 3 4 (dA (gCall 1 [] m_parts) (dCons (d2 gIx (dV 1) (dC (.int 0))) (dNil))) (dA (gCall 1 [] m_parts) (dCons (d2 gIx (dV 1) (dC (.int 1))) (dNil)))) (sSeq (sSet 5 (dA (gCall 2 [] m_cross) (dCons (dV 3) (dCons (dV 4) (dNil))))) (sSeq (sSet 6 (dA (gCall 1 [] m_parts) (dCons (dV 2) (dNil)))) (sSeq (sSet 7 (dA (gCall 2 [] m_by) (dCons (dA (gCall 2 [] m_cross) (dCons (dV 6) (dCons (dV 4) (dNil)))) (dCons (dV 5) (dNil))))) (sSeq (sSet 8 (dA (gCall 2 [] m_by) (dCons (dA (gCall 2 [] m_cross) (dCons (dV 3) (dCons (dV 6) (dNil)))) (dCons (dV 5) (dNil))))) (sRet (dA gTupD (dCons (d2 gIx (dV 7) (dC (.int 0))) (dCons (d2 gIx (dV 8) (dC (.int 0))) (dNil)))))))))
noncomputable def m_counts : List PD → R PD := fnD 9 den_counts
noncomputable def lb1_is_served : En → Fl := sIf (dOr (dT (d2 gLt (dV 1) (dC (.int 0)))) (dT (d2 gLt (dV 2) (dC (.int 0))))) (sRet (dC (.bool false))) (sNx)
noncomputable def den_is_served : En → Fl := sSeq (sFor (iL (dV 0)) (.many [1, 2]) lb1_is_served) (sRet (dC (.bool true)))
noncomputable def m_is_served : List PD → R PD := fnD 3 den_is_served
noncomputable def lb1_common : En → Fl := sSet 1 (d2 gMul (dV 1) (d2 gIx (dA (gCall 2 [] m_fraction) (dCons (dV 1) (dCons (d2 gIx (dV 2) (dC (.int 2))) (dNil)))) (dC (.int 1))))
noncomputable def den_common : En → Fl := sSeq (sSet 1 (dC (.int 1))) (sSeq (sFor (iL (dV 0)) (.one 2) lb1_common) (sRet (dV 1)))
noncomputable def m_common : List PD → R PD := fnD 3 den_common
noncomputable def le1_serving : En → R PD := dA (gCall 3 [] m_counts) (dCons (dV 0) (dCons (dV 2) (dCons (dV 4) (dNil))))
noncomputable def le2_serving : En → R PD := dA gTupD (dCons (dV 6) (dCons (d2 gAdd (dV 6) (dV 7)) (dNil)))
noncomputable def le3_serving : En → R PD := dA gTupD (dCons (d2 gAdd (dV 6) (dV 7)) (dCons (dV 7) (dNil)))
noncomputable def lt4_serving : En → R Bool := dNot (dT (dA (gCall 1 [] m_is_served) (dCons (dV 3) (dNil))))
noncomputable def lb4_serving : En → Fl := sSeq (sSet 5 (dA (gCall 2 [] m_next_base) (dCons (dV 0) (dCons (dV 2) (dNil))))) (sSeq (sIf (dT (d2 gEq (d2 gIx (dV 5) (dC (.int 1))) (d2 gIx (dV 2) (dC (.int 1))))) (sSet 3 (dLc (iL (dV 3)) (.many [6, 7]) [6, 7] bYes le2_serving)) (sSet 3 (dLc (iL (dV 3)) (.many [6, 7]) [6, 7] bYes le3_serving))) (sSet 2 (dV 5)))
noncomputable def den_serving : En → Fl := sSeq (sSet 2 (dA (gCall 2 [] m_first_base) (dCons (dV 0) (dCons (dA (gCall 1 [] m_common) (dCons (dV 1) (dNil))) (dNil))))) (sSeq (sSet 3 (dLc (iL (dV 1)) (.one 4) [4] bYes le1_serving)) (sSeq (sWhile lt4_serving lb4_serving) (sRet (dV 2))))
noncomputable def m_serving : List PD → R PD := fnD 8 den_serving
noncomputable def den_law_length_v3 : En → Fl := sSeq (sSet 2 (dA (gCall 3 [] m_law_side_v5) (dCons (dV 0) (dCons (dV 1) (dCons (dC (.bool false)) (dNil)))))) (sRet (dA (gCall 2 [] m_by_parts) (dCons (d2 gIx (dV 2) (dC (.int 0))) (dCons (d2 gIx (dV 2) (dC (.int 1))) (dNil)))))
noncomputable def m_law_length_v3 : List PD → R PD := fnD 3 den_law_length_v3
noncomputable def lb1_law_tab : En → Fl := sSet 1 (d2 gMul (d2 gMul (dV 1) (d2 gIx (dV 2) (dC (.int 2)))) (d2 gIx (dV 3) (dC (.int 2))))
noncomputable def lb2_law_tab : En → Fl := sPut 4 (dV 6) (d2 gAdd (dIxO 4 (dV 6)) (d2 gMul (d2 gMul (d2 gIx (dV 2) (d2 gDiv (dV 6) (dC (.int 2)))) (d2 gIx (dV 3) (d2 gMod (dV 6) (dC (.int 2))))) (dV 5)))
noncomputable def lb3_law_tab : En → Fl := sSeq (sSet 5 (d2 gDiv (dV 1) (d2 gMul (d2 gIx (dV 2) (dC (.int 2))) (d2 gIx (dV 3) (dC (.int 2)))))) (sFor (iA gR1 (dCons (dC (.int 4)) (dNil))) (.one 6) lb2_law_tab)
noncomputable def den_law_tab : En → Fl := sSeq (sSet 1 (dC (.int 1))) (sSeq (sFor (iL (dV 0)) (.many [2, 3]) lb1_law_tab) (sSeq (sSetL 4 (lDisp (dCons (dC (.int 0)) (dCons (dC (.int 0)) (dCons (dC (.int 0)) (dCons (dC (.int 0)) (dNil))))))) (sSeq (sFor (iL (dV 0)) (.many [2, 3]) lb3_law_tab) (sFrz 4 (sRet (dA gLstD (dCons (dV 4) (dCons (dV 1) (dNil)))))))))
noncomputable def m_law_tab : List PD → R PD := fnD 7 den_law_tab
noncomputable def den_Namer___init__ : En → Fl := sSeq (sFld "Namer" 0 "fresh" (dV 1)) (sFldK "Namer" 0 "told" (.l []))
noncomputable def m_Namer___init__ : Fs → List PD → RM := fnM 2 0 "Namer" den_Namer___init__
noncomputable def den_Namer_do : En → Fl := sSeq (sFldApp "Namer" 0 "told" (dV 1)) (sSeq (sSet 3 (dFld "Namer" 0 "fresh")) (sSeq (sFld "Namer" 0 "fresh" (d2 gAdd (dFld "Namer" 0 "fresh") (dV 2))) (sRetM (dV 3))))
noncomputable def m_Namer_do : Fs → List PD → RM := fnM 4 0 "Namer" den_Namer_do
noncomputable def lb1_Namer_glued : En → Fl := sMs "Namer" 0 "do" (gMeM 3 [] m_Namer_do) (dCons (dA gTupD (dCons (dC (.str "atop")) (dCons (dV 2) (dCons (dV 3) (dNil))))) (dCons (dC (.int 1)) (dNil))) 2
noncomputable def den_Namer_glued : En → Fl := sSeq (sIf (dT (d2 gEq (dV 1) (dA gLstD (dNil)))) (sRetM (dC .none)) (sNx)) (sSeq (sSet 2 (d2 gIx (dV 1) (dC (.int 0)))) (sSeq (sFor (iL (dSl (dV 1) (dP (dC (.int 1))) (dP0))) (.one 3) lb1_Namer_glued) (sRetM (dV 2))))
noncomputable def m_Namer_glued : Fs → List PD → RM := fnM 4 0 "Namer" den_Namer_glued
noncomputable def den_Namer_stacked : En → Fl := sSeq (sIf (dT (d2 gEq (dV 2) (dC (.int 1)))) (sRetM (dV 1)) (sNx)) (sMr "Namer" 0 "do" (gMeM 3 [] m_Namer_do) (dCons (dA gTupD (dCons (dC (.str "stack")) (dCons (dV 1) (dCons (dV 2) (dNil))))) (dCons (dC (.int 1)) (dNil))))
noncomputable def m_Namer_stacked : Fs → List PD → RM := fnM 3 0 "Namer" den_Namer_stacked
noncomputable def lb1_normal_plan : En → Fl := sIf (dT (d2 gGt (d2 gIx (dV 7) (dV 10)) (dC (.int 0)))) (sApp2M 4 (dV 10) "Namer" 3 "stacked" (gMeM 3 [] m_Namer_stacked) (dCons (d2 gIx (dV 8) (dV 10)) (dCons (d2 gIx (dV 7) (dV 10)) (dNil)))) (sNx)
noncomputable def lb2_normal_plan : En → Fl := sSeq (sSet 7 (dA (gCall 3 [] m_counts) (dCons (dV 0) (dCons (dV 2) (dCons (d2 gIx (dV 6) (dC (.int 0))) (dNil)))))) (sSeq (sSet 8 (dA gLstD (dCons (dV 5) (dCons (dV 5) (dNil))))) (sSeq (sIf (dAnd (dT (d2 gGt (d2 gIx (dV 7) (dC (.int 0))) (dC (.int 0)))) (dT (d2 gGt (d2 gIx (dV 7) (dC (.int 1))) (dC (.int 0))))) (sSeq (sMs "Namer" 3 "do" (gMeM 3 [] m_Namer_do) (dCons (dA gTupD (dCons (dC (.str "across")) (dCons (dV 5) (dCons (dA (gCall 3 [] m_timed) (dCons (dV 0) (dCons (d2 gIx (dV 2) (dC (.int 0))) (dCons (dA (gCall 3 [(.int 0), (.int 1)] m_length) (dCons (d2 gIx (dV 7) (dC (.int 0))) (dNil))) (dNil))))) (dNil))))) (dCons (dC (.int 2)) (dNil))) 9) (sSet 8 (dA gLstD (dCons (dV 9) (dCons (d2 gAdd (dV 9) (dC (.int 1))) (dNil)))))) (sNx)) (sFor (iA gR1 (dCons (dC (.int 2)) (dNil))) (.one 10) lb1_normal_plan)))
noncomputable def den_normal_plan : En → Fl := sSeq (sSetV 3 (vMake "Namer" 2 [] m_Namer___init__ (dCons (dA gLen (dCons (dV 1) (dNil))) (dNil)))) (sSeq (sSetLL 4 (lDisp2 (dNil) (dNil))) (sSeq (sFor (iA gEn (dCons (dV 1) (dNil))) (.many [5, 6]) lb2_normal_plan) (sFrzLL 4 (sSeq (sMs "Namer" 3 "glued" (gMeM 2 [] m_Namer_glued) (dCons (d2 gIx (dV 4) (dC (.int 0))) (dNil)) 11) (sSeq (sMs "Namer" 3 "glued" (gMeM 2 [] m_Namer_glued) (dCons (d2 gIx (dV 4) (dC (.int 1))) (dNil)) 12) (sSeq (sIf (dAnd (dT (d1 (gIsN true) (dV 11))) (dAnd (dT (d1 (gIsN true) (dV 12))) (dT (d2 gLt (dV 12) (dV 11))))) (sMe "Namer" 3 "do" (gMeM 3 [] m_Namer_do) (dCons (dA gTupD (dCons (dC (.str "stack")) (dCons (dV 12) (dCons (dC (.int 1)) (dNil))))) (dCons (dC (.int 1)) (dNil)))) (sNx)) (sRetFl "Namer" 3 "told")))))))
noncomputable def mV_normal_plan : List PD → R SV := fnV 13 den_normal_plan
noncomputable def m_normal_plan : List PD → R PD := fun ds => (mV_normal_plan ds).bind frzV
noncomputable def lb1_law_pair : En → Fl := sIf (dAnd (dT (d2 gNe (dV 3) (dV 2))) (dT (d2 gEq (d2 gIx (d2 gIx (d2 gIx (dV 0) (dV 2)) (dC (.int 1))) (dV 1)) (d2 gIx (d2 gIx (d2 gIx (dV 0) (dV 3)) (dC (.int 1))) (dV 1))))) (sRet (dA gTupD (dCons (d2 gIx (d2 gIx (dV 0) (dV 2)) (dC (.int 0))) (dCons (d2 gIx (d2 gIx (dV 0) (dV 3)) (dC (.int 0))) (dNil))))) (sNx)
noncomputable def lb2_law_pair : En → Fl := sFor (iA gR1 (dCons (dA gLen (dCons (dV 0) (dNil))) (dNil))) (.one 3) lb1_law_pair
noncomputable def den_law_pair : En → Fl := sSeq (sFor (iA gR1 (dCons (dA gLen (dCons (dV 0) (dNil))) (dNil))) (.one 2) lb2_law_pair) (sRet (dC .none))
noncomputable def m_law_pair : List PD → R PD := fnD 4 den_law_pair
noncomputable def den_law_done_v3 : En → Fl := sSeq (sSet 4 (dMth "Yard" 1 "boards" (gMeP 1 [] m_Yard_boards) (dNil))) (sSeq (sAsg (.many [5, 6]) (d2 gIx (dV 4) (d2 gMod (d2 gIx (dV 2) (dC (.int 1))) (dA gLen (dCons (dV 4) (dNil)))))) (sSeq (sSet 7 (d2 gMod (d2 gIx (dV 2) (dC (.int 0))) (dC (.int 8)))) (sSeq (sSet 8 (d2 gAdd (dC (.int 2)) (d2 gMod (d2 gIx (dV 2) (dC (.int 2))) (d2 gIx (dA gLstD (dCons (dC (.int 2)) (dCons (dC (.int 4)) (dCons (dC (.int 9)) (dNil))))) (d2 gMod (d2 gIx (dV 2) (dC (.int 4))) (dC (.int 3))))))) (sSeq (sIf (dAnd (dT (d2 gLt (dV 7) (dC (.int 3)))) (dT (d2 gLt (dA gLen (dCons (dV 4) (dNil))) (dV 3)))) (sSeq (sSet 9 (d2 gIx (dV 6) (d2 gMod (dV 7) (dC (.int 2))))) (sSeq (sSet 10 (dA (gCall 3 [] m_timed) (dCons (dV 0) (dCons (dV 9) (dCons (dA (gCall 3 [] m_length) (dCons (d2 gAdd (dC (.int 1)) (d2 gMod (d2 gIx (dV 2) (dC (.int 3))) (d2 gSub (dV 8) (dC (.int 1))))) (dCons (dC (.int 0)) (dCons (dV 8) (dNil))))) (dNil)))))) (sMe "Yard" 1 "do" (gMeM 2 [] m_Yard_do) (dCons (dA gTupD (dCons (d2 gIx (dA gLstD (dCons (dC (.str "across")) (dCons (dC (.str "along")) (dNil)))) (d2 gMod (dV 7) (dC (.int 2)))) (dCons (dV 5) (dCons (dV 10) (dNil))))) (dNil))))) (sNx)) (sSeq (sIf (dOr (dT (d2 gEq (dV 7) (dC (.int 3)))) (dT (d2 gEq (dV 7) (dC (.int 4))))) (sMe "Yard" 1 "do" (gMeM 2 [] m_Yard_do) (dCons (dA gTupD (dCons (d2 gIx (dA gLstD (dCons (dC (.str "stack")) (dCons (dC (.str "spread")) (dNil)))) (d2 gSub (dV 7) (dC (.int 3)))) (dCons (dV 5) (dCons (dV 8) (dNil))))) (dNil))) (sNx)) (sIf (dT (d2 gGt (dV 7) (dC (.int 4)))) (sSeq (sSet 11 (dA (gCall 2 [] m_law_pair) (dCons (dV 4) (dCons (d2 gMod (dV 7) (dC (.int 2))) (dNil))))) (sIf (dT (d1 (gIsN true) (dV 11))) (sMe "Yard" 1 "do" (gMeM 2 [] m_Yard_do) (dCons (dA gTupD (dCons (d2 gIx (dA gLstD (dCons (dC (.str "atop")) (dCons (dC (.str "beside")) (dNil)))) (d2 gMod (dV 7) (dC (.int 2)))) (dCons (d2 gIx (dV 11) (dC (.int 0))) (dCons (d2 gIx (dV 11) (dC (.int 1))) (dNil))))) (dNil))) (sNx))) (sNx)))))))
noncomputable def m_law_done_v3 : Fs → List PD → RM := fnM 12 1 "Yard" den_law_done_v3
noncomputable def lb1_unlike_place : En → Fl := sIf (dT (d2 gNe (d2 gIx (d2 gIx (dV 0) (dV 2)) (dV 3)) (d2 gIx (d2 gIx (dV 1) (dV 2)) (dV 3)))) (sRet (dA gTupD (dCons (dV 2) (dCons (dV 3) (dNil))))) (sNx)
noncomputable def lb2_unlike_place : En → Fl := sFor (iA gR1 (dCons (dC (.int 2)) (dNil))) (.one 3) lb1_unlike_place
noncomputable def den_unlike_place : En → Fl := sSeq (sFor (iA gR1 (dCons (dC (.int 2)) (dNil))) (.one 2) lb2_unlike_place) (sRet (dC .none))
noncomputable def m_unlike_place : List PD → R PD := fnD 4 den_unlike_place
noncomputable def lb1_renamed_v3 : En → Fl := sIf (dT (dInR (dV 4) (dA gLen (dCons (dV 1) (dNil))))) (sApp 3 (d2 gIx (dV 1) (dV 4))) (sApp 3 (d2 gSub (d2 gAdd (dV 2) (dV 4)) (dA gLen (dCons (dV 1) (dNil)))))
noncomputable def den_renamed_v3 : En → Fl := sSeq (sSetL 3 (lDisp (dNil))) (sSeq (sFor (iT (dSl (dV 0) (dP (dC (.int 1))) (dP0))) (.one 4) lb1_renamed_v3) (sFrz 3 (sRet (d2 gAdd (dA gTupD (dCons (d2 gIx (dV 0) (dC (.int 0))) (dNil))) (dA gTupOf (dCons (dV 3) (dNil)))))))
noncomputable def m_renamed_v3 : List PD → R PD := fnD 5 den_renamed_v3
noncomputable def lb1_moved_on_v2 : En → Fl := sIf (dT (d2 (gIn false) (d2 gIx (dV 4) (dC (.int 0))) (dA gTupD (dCons (dC (.str "beside")) (dCons (dC (.str "atop")) (dNil)))))) (sApp 3 (dA (gCall 3 [] m_renamed_v3) (dCons (dV 4) (dCons (dV 1) (dCons (dV 2) (dNil)))))) (sApp 3 (d2 gAdd (dA (gCall 3 [] m_renamed_v3) (dCons (dSl (dV 4) (dP0) (dP (dC (.int 2)))) (dCons (dV 1) (dCons (dV 2) (dNil))))) (dSl (dV 4) (dP (dC (.int 2))) (dP0))))
noncomputable def den_moved_on_v2 : En → Fl := sSeq (sSetL 3 (lDisp (dNil))) (sSeq (sFor (iL (dV 0)) (.one 4) lb1_moved_on_v2) (sFrz 3 (sRet (dV 3))))
noncomputable def m_moved_on_v2 : List PD → R PD := fnD 5 den_moved_on_v2
noncomputable def den_rank : En → Fl := sSeq (sSet 1 (dA (gCall 1 [] m_table) (dCons (dV 0) (dNil)))) (sSeq (sIf (dT (d2 gEq (dA (gCall 2 [] m_times) (dCons (d2 gIx (d2 gIx (dV 1) (dC (.int 0))) (dC (.int 0))) (dCons (d2 gIx (d2 gIx (dV 1) (dC (.int 1))) (dC (.int 1))) (dNil)))) (dA (gCall 2 [] m_times) (dCons (d2 gIx (d2 gIx (dV 1) (dC (.int 0))) (dC (.int 1))) (dCons (d2 gIx (d2 gIx (dV 1) (dC (.int 1))) (dC (.int 0))) (dNil)))))) (sRet (dC (.int 1))) (sNx)) (sRet (dC (.int 2))))
noncomputable def m_rank : List PD → R PD := fnD 2 den_rank
noncomputable def den_sides_of : En → Fl := sSeq (sSet 2 (dA (gCall 3 [] m_parted) (dCons (dV 0) (dCons (d2 gIx (dV 1) (dC (.int 0))) (dCons (d2 gIx (dV 1) (dC (.int 1))) (dNil)))))) (sRet (dA gTupD (dCons (d2 gIx (dV 2) (dC (.int 0))) (dCons (d2 gIx (dV 2) (dC (.int 2))) (dCons (dA (gCall 3 [] m_parted) (dCons (dV 0) (dCons (d2 gIx (dV 1) (dC (.int 1))) (dCons (dA (gCall 3 [(.int 0), (.int 1)] m_length) (dCons (d2 gIx (dV 2) (dC (.int 2))) (dNil))) (dNil))))) (dNil))))))
noncomputable def m_sides_of : List PD → R PD := fnD 3 den_sides_of
def c_MOST : PD := (.int 400)
noncomputable def lt1_cuts_of : En → R Bool := dAnd (dT (d2 gGt (dV 0) (dC (.int 0)))) (dT (d2 gGt (dV 1) (dC (.int 0))))
noncomputable def lb1_cuts_of : En → Fl := sSeq (sIf (dLendB 2 (dT (d2 gEq (dA gLen (dCons (dV 2) (dNil))) (dC c_MOST)))) (sRaise "TooMany") (sNx)) (sSeq (sApp 2 (dA gMin (dCons (dV 0) (dCons (dV 1) (dNil))))) (sIf (dT (d2 gGe (dV 0) (dV 1))) (sSet 0 (d2 gSub (dV 0) (dV 1))) (sSet 1 (d2 gSub (dV 1) (dV 0)))))
noncomputable def den_cuts_of : En → Fl := sSeq (sSetL 2 (lDisp (dNil))) (sSeq (sWhile lt1_cuts_of lb1_cuts_of) (sFrz 2 (sRet (dV 2))))
noncomputable def m_cuts_of : List PD → R PD := fnD 3 den_cuts_of
noncomputable def le1_squares_of : En → R PD := dA (gCall 3 [] m_timed) (dCons (dV 0) (dCons (dV 4) (dCons (dA (gCall 3 [(.int 0), (.int 1)] m_length) (dCons (dV 6) (dNil))) (dNil))))
noncomputable def le2_squares_of : En → R PD := dA gTupD (dCons (dV 6) (dCons (dV 6) (dNil)))
noncomputable def den_squares_of : En → Fl := sSeq (sAsg (.many [2, 3, 4]) (dA (gCall 2 [] m_sides_of) (dCons (dV 0) (dCons (dV 1) (dNil))))) (sSeq (sSet 5 (dLc (iL (dA (gCall 2 [] m_cuts_of) (dCons (dV 2) (dCons (dV 3) (dNil))))) (.one 6) [6] bYes le1_squares_of)) (sRet (dLc (iL (dV 5)) (.one 6) [6] bYes le2_squares_of)))
noncomputable def m_squares_of : List PD → R PD := fnD 7 den_squares_of
def c_NOUGHT_tables : PD := (.tuple [(.int 0), (.int 1)])
noncomputable def lb1_table_v2 : En → Fl := sSet 1 (dA (gCall 2 [] m_together) (dCons (dV 1) (dCons (dA (gCall 2 [] m_table_of) (dCons (dV 2) (dCons (dV 3) (dNil)))) (dNil))))
noncomputable def den_table_v2 : En → Fl := sSeq (sSet 1 (dA gTupD (dCons (dA gTupD (dCons (dC c_NOUGHT_tables) (dCons (dC c_NOUGHT_tables) (dNil)))) (dCons (dA gTupD (dCons (dC c_NOUGHT_tables) (dCons (dC c_NOUGHT_tables) (dNil)))) (dNil))))) (sSeq (sFor (iL (dV 0)) (.many [2, 3]) lb1_table_v2) (sRet (dV 1)))
noncomputable def m_table_v2 : List PD → R PD := fnD 4 den_table_v2
noncomputable def le1_like_v4 : En → R PD := d2 gIx (dV 5) (dC (.int 0))
noncomputable def lb2_like_v4 : En → Fl := sMe "Yard" 9 "do" (gMeM 2 [] m_Yard_do) (dCons (dV 10) (dNil))
noncomputable def le3_like_v4 : En → R PD := dV 12
noncomputable def lb4_like_v4 : En → Fl := sSet 13 (d2 gAdd (d2 gAdd (dV 13) (dC (.int 1))) (dA gInt (dCons (d2 (gIn false) (d2 gIx (dV 10) (dC (.int 0))) (dA gTupD (dCons (dC (.str "across")) (dCons (dC (.str "along")) (dNil))))) (dNil))))
noncomputable def den_like_v4 : En → Fl := sSeq (sSet 3 (dA (gCall 2 [] m_unlike_place) (dCons (dA (gCall 1 [] m_table_v2) (dCons (dV 1) (dNil))) (dCons (dA (gCall 1 [] m_table_v2) (dCons (dV 2) (dNil))) (dNil))))) (sSeq (sIf (dT (d1 (gIsN true) (dV 3))) (sRetTp (tpD1 (dC (.str "apart")) (tpD1 (d2 gIx (dV 3) (dC (.int 0))) (tpD1 (d2 gIx (dV 3) (dC (.int 1))) (tpNil))))) (sNx)) (sSeq (sSet 4 (dA (gCall 2 [] m_serving) (dCons (dV 0) (dCons (dLc (iL (d2 gAdd (dV 1) (dV 2))) (.one 5) [5] bYes le1_like_v4) (dNil))))) (sSeq (sSet 6 (dA (gCall 3 [] m_normal_plan) (dCons (dV 0) (dCons (dV 1) (dCons (dV 4) (dNil)))))) (sSeq (sAsgTp [7, 8] (dAV (gCallV 3 [] mV_back_v2) (dCons (dV 0) (dCons (dV 2) (dCons (dA (gCall 3 [] m_normal_plan) (dCons (dV 0) (dCons (dV 2) (dCons (dV 4) (dNil))))) (dNil)))))) (sFrz 7 (sSeq (sSetV 9 (vMake "Yard" 4 [(.bool false)] m_Yard___init__ (dCons (dV 0) (dCons (dV 1) (dNil))))) (sSeq (sFor (iL (dV 6)) (.one 10) lb2_like_v4) (sSeq (sSet 11 (dLc (iL (dMth "Yard" 9 "boards" (gMeP 1 [] m_Yard_boards) (dNil))) (.many [12, 5]) [12, 5] bYes le3_like_v4)) (sSeq (sSet 13 (dA gLen (dCons (dV 1) (dNil)))) (sSeq (sFor (iL (dV 6)) (.one 10) lb4_like_v4) (sRetTp (tpD1 (dC (.str "plan")) (tpV (vL (lCat (dV 6) (dA (gCall 3 [] m_moved_on_v2) (dCons (dV 7) (dCons (dV 11) (dCons (dV 13) (dNil))))))) (tpS 8 (tpNil)))))))))))))))
noncomputable def mV_like_v4 : List PD → R SV := fnV 14 den_like_v4
noncomputable def den_above_nought : En → Fl := sSeq (sIf (dT (dA (gCall 3 [] m_under) (dCons (dV 0) (dCons (dV 1) (dCons (dA gTupD (dCons (dC (.int 0)) (dCons (dC (.int 0)) (dCons (dC (.int 1)) (dNil))))) (dNil)))))) (sRet (dA (gCall 2 [] m_taken) (dCons (dA gTupD (dCons (dC (.int 0)) (dCons (dC (.int 0)) (dCons (dC (.int 1)) (dNil))))) (dCons (dV 1) (dNil))))) (sNx)) (sRet (dV 1))
noncomputable def m_above_nought : List PD → R PD := fnD 2 den_above_nought
def c_NOUGHT_squares : PD := (.tuple [(.int 0), (.int 1)])
noncomputable def den_as_length : En → Fl := sRet (dA (gCall 2 [] m_by_parts) (dCons (dV 0) (dCons (dC c_NOUGHT_squares) (dNil))))
noncomputable def m_as_length : List PD → R PD := fnD 1 den_as_length
noncomputable def den_left_of : En → Fl := sRet (dA (gCall 2 [] m_minus) (dCons (d2 gIx (d2 gIx (dV 0) (dC (.int 1))) (dC (.int 1))) (dCons (dA (gCall 2 [] m_times) (dCons (d2 gIx (d2 gIx (dV 0) (dC (.int 0))) (dC (.int 1))) (dCons (dA (gCall 2 [] m_by) (dCons (d2 gIx (d2 gIx (dV 0) (dC (.int 0))) (dC (.int 1))) (dCons (d2 gIx (d2 gIx (dV 0) (dC (.int 0))) (dC (.int 0))) (dNil)))) (dNil)))) (dNil))))
noncomputable def m_left_of : List PD → R PD := fnD 1 den_left_of
def c_ONE : PD := (.tuple [(.int 1), (.int 1)])
noncomputable def den_measure_below : En → Fl := sSeq (sIf (dT (dA (gCall 2 [] m_is_less) (dCons (d2 gIx (d2 gIx (dV 0) (dC (.int 0))) (dC (.int 0))) (dCons (dC c_NOUGHT_squares) (dNil))))) (sRet (dA gTupD (dCons (dC c_ONE) (dCons (dC c_NOUGHT_squares) (dNil))))) (sNx)) (sSeq (sIf (dAnd (dT (d2 gEq (d2 gIx (d2 gIx (dV 0) (dC (.int 0))) (dC (.int 0))) (dC c_NOUGHT_squares))) (dT (d2 gNe (d2 gIx (d2 gIx (dV 0) (dC (.int 0))) (dC (.int 1))) (dC c_NOUGHT_squares)))) (sRet (dA gTupD (dCons (dA (gCall 2 [] m_minus) (dCons (dC c_NOUGHT_squares) (dCons (dA (gCall 2 [] m_by) (dCons (dA (gCall 2 [] m_plus) (dCons (d2 gIx (d2 gIx (dV 0) (dC (.int 1))) (dC (.int 1))) (dCons (dC c_ONE) (dNil)))) (dCons (dA (gCall 2 [] m_times) (dCons (dA gTupD (dCons (dC (.int 2)) (dCons (dC (.int 1)) (dNil)))) (dCons (d2 gIx (d2 gIx (dV 0) (dC (.int 0))) (dC (.int 1))) (dNil)))) (dNil)))) (dNil)))) (dCons (dC c_ONE) (dNil))))) (sNx)) (sSeq (sIf (dAnd (dT (d2 gNe (d2 gIx (d2 gIx (dV 0) (dC (.int 0))) (dC (.int 0))) (dC c_NOUGHT_squares))) (dT (dA (gCall 2 [] m_is_less) (dCons (dA (gCall 1 [] m_left_of) (dCons (dV 0) (dNil))) (dCons (dC c_NOUGHT_squares) (dNil)))))) (sRet (dA gTupD (dCons (dA (gCall 2 [] m_minus) (dCons (dC c_NOUGHT_squares) (dCons (dA (gCall 2 [] m_by) (dCons (d2 gIx (d2 gIx (dV 0) (dC (.int 0))) (dC (.int 1))) (dCons (d2 gIx (d2 gIx (dV 0) (dC (.int 0))) (dC (.int 0))) (dNil)))) (dNil)))) (dCons (dC c_ONE) (dNil))))) (sNx)) (sRet (dC .none))))
noncomputable def m_measure_below : List PD → R PD := fnD 1 den_measure_below
def c_ROOT : PD := (.tuple [(.int 0), (.int 1), (.int 1)])
noncomputable def den_boards_of : En → Fl := sSeq (sIf (dT (d2 gEq (d2 gIx (d2 gIx (dV 1) (dC (.int 0))) (dC (.int 0))) (dC c_NOUGHT_squares))) (sRet (dA gLstD (dCons (dA gTupD (dCons (dA (gCall 3 [] m_timed) (dCons (dV 0) (dCons (dA (gCall 1 [] m_as_length) (dCons (d2 gIx (d2 gIx (dV 1) (dC (.int 1))) (dC (.int 1))) (dNil))) (dCons (dC c_ROOT) (dNil))))) (dCons (dC c_ROOT) (dNil)))) (dNil)))) (sNx)) (sSeq (sSet 2 (dA (gCall 2 [] m_above_nought) (dCons (dV 0) (dCons (dA (gCall 2 [] m_by_parts) (dCons (dC c_ONE) (dCons (dA (gCall 2 [] m_by) (dCons (d2 gIx (d2 gIx (dV 1) (dC (.int 0))) (dC (.int 1))) (dCons (d2 gIx (d2 gIx (dV 1) (dC (.int 0))) (dC (.int 0))) (dNil)))) (dNil)))) (dNil))))) (sSeq (sSetL 3 (lDisp (dCons (dA gTupD (dCons (dA (gCall 3 [] m_timed) (dCons (dV 0) (dCons (dA (gCall 1 [] m_as_length) (dCons (d2 gIx (d2 gIx (dV 1) (dC (.int 0))) (dC (.int 0))) (dNil))) (dCons (dV 2) (dNil))))) (dCons (dV 2) (dNil)))) (dNil)))) (sSeq (sSet 4 (dA (gCall 1 [] m_left_of) (dCons (dV 1) (dNil)))) (sSeq (sIf (dT (d2 gNe (dV 4) (dC c_NOUGHT_squares))) (sApp 3 (dA gTupD (dCons (dA (gCall 3 [] m_timed) (dCons (dV 0) (dCons (dA (gCall 1 [] m_as_length) (dCons (dV 4) (dNil))) (dCons (dC c_ROOT) (dNil))))) (dCons (dC c_ROOT) (dNil))))) (sNx)) (sFrz 3 (sRet (dV 3)))))))
noncomputable def m_boards_of : List PD → R PD := fnD 5 den_boards_of
noncomputable def lb1_names_behind : En → Fl := sSeq (sRem 2 (d2 gIx (dV 4) (dC (.int 1)))) (sSeq (sIf (dOr (dT (d2 gEq (d2 gIx (dV 4) (dC (.int 0))) (dC (.str "beside")))) (dT (d2 gEq (d2 gIx (dV 4) (dC (.int 0))) (dC (.str "atop"))))) (sRem 2 (d2 gIx (dV 4) (dC (.int 2)))) (sNx)) (sSeq (sSet 5 (d2 gAdd (dC (.int 1)) (dA gInt (dCons (dOrV (d2 gEq (d2 gIx (dV 4) (dC (.int 0))) (dC (.str "across"))) (d2 gEq (d2 gIx (dV 4) (dC (.int 0))) (dC (.str "along")))) (dNil))))) (sSeq (sExtL 2 (lRg2 (dV 3) (d2 gAdd (dV 3) (dV 5)))) (sSet 3 (d2 gAdd (dV 3) (dV 5))))))
noncomputable def den_names_behind : En → Fl := sSeq (sSetL 2 (lRg1 (dV 0))) (sSeq (sSet 3 (dV 0)) (sSeq (sFor (iL (dV 1)) (.one 4) lb1_names_behind) (sFrz 2 (sRet (dA gTupD (dCons (dV 2) (dCons (dV 3) (dNil))))))))
noncomputable def m_names_behind : List PD → R PD := fnD 6 den_names_behind
noncomputable def lt1_cut_up : En → R Bool := dT (d2 gNe (dV 4) (dV 5))
noncomputable def lb1_cut_up : En → Fl := sSeq (sIf (dT (d2 gGt (dV 4) (dV 5))) (sSeq (sApp 7 (dA gTupD (dCons (dC (.str "across")) (dCons (dV 2) (dCons (dA (gCall 3 [] m_timed) (dCons (dV 0) (dCons (dV 6) (dCons (dA (gCall 3 [(.int 0), (.int 1)] m_length) (dCons (dV 5) (dNil))) (dNil))))) (dNil)))))) (sSet 4 (d2 gSub (dV 4) (dV 5)))) (sSeq (sApp 7 (dA gTupD (dCons (dC (.str "along")) (dCons (dV 2) (dCons (dA (gCall 3 [] m_timed) (dCons (dV 0) (dCons (dV 6) (dCons (dA (gCall 3 [(.int 0), (.int 1)] m_length) (dCons (dV 4) (dNil))) (dNil))))) (dNil)))))) (sSet 5 (d2 gSub (dV 5) (dV 4))))) (sSeq (sSet 2 (d2 gAdd (dV 3) (dC (.int 1)))) (sSet 3 (d2 gAdd (dV 3) (dC (.int 2)))))
noncomputable def den_cut_up : En → Fl := sSeq (sAsg (.many [4, 5, 6]) (dA (gCall 2 [] m_sides_of) (dCons (dV 0) (dCons (dV 1) (dNil))))) (sSeq (sSetL 7 (lDisp (dNil))) (sSeq (sWhile lt1_cut_up lb1_cut_up) (sFrz 7 (sRet (dV 7)))))
noncomputable def m_cut_up : List PD → R PD := fnD 8 den_cut_up
noncomputable def lb1_squares : En → Fl := sSetV 5 (vL (lCatA 5 (dA (gCall 2 [] m_squares_of) (dCons (dV 0) (dCons (dV 6) (dNil))))))
noncomputable def lb2_squares : En → Fl := sSeq (sSet 13 (dA (gCall 4 [] m_cut_up) (dCons (dV 0) (dCons (dV 6) (dCons (d2 gIx (dV 10) (d2 gIx (dV 9) (dV 12))) (dCons (dV 11) (dNil))))))) (sSeq (sIf (dAnd (dT (d2 gEq (dV 13) (dA gLstD (dNil)))) (dT (d2 gEq (dV 12) (dC (.int 1))))) (sSet 13 (dA gLstD (dCons (dA gTupD (dCons (dC (.str "stack")) (dCons (d2 gIx (dV 10) (d2 gIx (dV 9) (dV 12))) (dCons (dC (.int 1)) (dNil))))) (dNil)))) (sNx)) (sSeq (sSetV 8 (vL (lCatA 8 (dV 13)))) (sSet 11 (d2 gAdd (dV 11) (d2 gMul (dC (.int 2)) (dA gLen (dCons (dV 13) (dNil))))))))
noncomputable def den_squares : En → Fl := sSeq (sSet 2 (dA (gCall 1 [] m_table_v2) (dCons (dV 1) (dNil)))) (sSeq (sIf (dT (d2 gNe (dV 2) (dA (gCall 1 [] m_over) (dCons (dV 2) (dNil))))) (sRetTp (tpD1 (dC (.str "uneven")) (tpNil))) (sNx)) (sSeq (sSet 3 (dA (gCall 1 [] m_measure_below) (dCons (dV 2) (dNil)))) (sSeq (sIf (dT (d1 (gIsN true) (dV 3))) (sRetTp (tpD1 (dC (.str "below")) (tpD1 (dV 3) (tpNil)))) (sNx)) (sSeq (sSet 4 (dA (gCall 2 [] m_boards_of) (dCons (dV 0) (dCons (dV 2) (dNil))))) (sSeq (sSetL 5 (lDisp (dNil))) (sFrz 5 (sSeq (sFor (iL (dV 4)) (.one 6) lb1_squares) (sSeq (sIf (dLendB 5 (dT (d2 gGt (dA gLen (dCons (dV 5) (dNil))) (dC c_MOST)))) (sRaise "TooMany") (sNx)) (sSeq (sAsgTp [7, 8, 9] (dAV (gCallV 3 [] mV_like_v4) (dCons (dV 0) (dCons (dV 1) (dCons (dV 4) (dNil)))))) (sFrz 8 (sFrz 9 (sSeq (sAsg (.many [10, 11]) (dA (gCall 2 [] m_names_behind) (dCons (dA gLen (dCons (dV 1) (dNil))) (dCons (dV 8) (dNil))))) (sSeq (sFor (iA gEn (dCons (dV 4) (dNil))) (.many [12, 6]) lb2_squares) (sRetTp (tpD1 (dC (.str "squares")) (tpS 8 (tpS 5 (tpNil))))))))))))))))))
noncomputable def mV_squares : List PD → R SV := fnV 14 den_squares
noncomputable def lb1_law_begun : En → Fl := sSeq (sSet 4 (dA (gCall 3 [] m_law_digits_v3) (dCons (dA (gCall 2 [] m_law_cell) (dCons (dV 1) (dCons (d2 gAdd (dC (.int 2)) (dV 3)) (dNil)))) (dCons (d2 gAdd (dC (.int 2)) (dV 3)) (dCons (dC (.int 10)) (dNil)))))) (sSeq (sSet 5 (dA (gCall 2 [] m_law_length_v3) (dCons (dV 0) (dCons (dSl (dV 4) (dP0) (dP (dC (.int 7)))) (dNil))))) (sSeq (sIf (dLendB 2 (dAnd (dT (d2 gNe (dV 2) (dA gLstD (dNil)))) (dT (d2 gGt (d2 gMod (d2 gIx (dV 4) (dC (.int 7))) (dC (.int 3))) (dC (.int 0)))))) (sSet 5 (dA (gCall 3 [] m_timed) (dCons (dV 0) (dCons (d2 gIx (dIxO 2 (dC (.int 0))) (dC (.int 0))) (dCons (dA (gCall 3 [] m_length) (dCons (d2 gAdd (dC (.int 1)) (d2 gMod (d2 gIx (dV 4) (dC (.int 8))) (dC (.int 4)))) (dCons (dC (.int 0)) (dCons (d2 gAdd (dC (.int 1)) (d2 gMod (d2 gIx (dV 4) (dC (.int 9))) (dC (.int 3)))) (dNil))))) (dNil)))))) (sNx)) (sApp 2 (dA gTupD (dCons (dV 5) (dCons (dV 5) (dNil)))))))
noncomputable def den_law_begun : En → Fl := sSeq (sSetL 2 (lDisp (dNil))) (sSeq (sFor (iA gR1 (dCons (d2 gAdd (dC (.int 1)) (d2 gMod (d2 gIx (dA (gCall 3 [] m_law_digits_v3) (dCons (dA (gCall 2 [] m_law_cell) (dCons (dV 1) (dCons (dC (.int 1)) (dNil)))) (dCons (dC (.int 1)) (dCons (dC (.int 1)) (dNil))))) (dC (.int 0))) (dC (.int 5)))) (dNil))) (.one 3) lb1_law_begun) (sFrz 2 (sRet (dV 2))))
noncomputable def m_law_begun : List PD → R PD := fnD 6 den_law_begun
noncomputable def lb1_law_k73 : En → Fl := sFe "Yard" 2 (gObjM 4 [] m_law_done_v3) (dCons (dV 1) (dObj (dCons (dA (gCall 3 [] m_law_digits_v3) (dCons (d2 gIx (dV 0) (dV 3)) (dCons (dV 3) (dCons (dC (.int 5)) (dNil))))) (dCons (dC (.int 9)) (dNil)))))
end DL

set_option autoImplicit false
set_option linter.all false
/-! plain arithmetic: fractions and lengths in lowest terms -/
namespace MB
theorem ratne {b : Int} (h : b ≠ 0) : (b : Rat) ≠ 0 := by
  intro e
  exact h (by exact_mod_cast e)
theorem rnum (q : Rat) : (q.num : Rat) = q * ((q.den : Int) : Rat) := by
  have h : ((q.den : Int) : Rat) ≠ 0 := ratne (by have := q.den_nz; omega)
  have h1 := Rat.num_divInt_den q
  rw [Rat.divInt_eq_div] at h1
  grind
theorem rdpos (q : Rat) : 0 < (q.den : Int) := by exact_mod_cast q.den_pos
theorem rgcd (q : Rat) : Int.gcd q.num q.den = 1 := by
  have := q.reduced
  simpa [Int.gcd, Nat.Coprime] using this
theorem dvd_of_gcd {a b c : Int} (h : a ∣ b * c) (g : Int.gcd a c = 1) : a ∣ b := by
  have : a ∣ (Int.gcd a c : Int) * b := Int.dvd_gcd_mul_iff_dvd_mul.mpr (by rw [Int.mul_comm]; exact h)
  rw [g] at this
  simpa using this
/-- two fractions in lowest terms, of one worth, are one -/
theorem fr_uniq {a b : Int} {q : Rat} (hb : 0 < b) (hg : Int.gcd a b = 1) (h : q = (a : Rat) / (b : Rat)) : q.num = a ∧ (q.den : Int) = b := by
  have hb0 : (b : Rat) ≠ 0 := ratne (by omega)
  have h1 : q * (b : Rat) = a := by grind
  have h2 := rnum q
  have e : q.num * b = a * q.den := by
    have : ((q.num * b : Int) : Rat) = ((a * (q.den : Int) : Int) : Rat) := by
      rw [Rat.intCast_mul, Rat.intCast_mul, h2]
      grind
    exact_mod_cast this
  have hq := rdpos q
  have hq1 := rgcd q
  have d1 : (q.den : Int) ∣ b := by
    have : (q.den : Int) ∣ b * q.num := ⟨a, by rw [Int.mul_comm, e, Int.mul_comm]⟩
    exact dvd_of_gcd this (by rw [Int.gcd_comm]; exact hq1)
  have d2 : b ∣ (q.den : Int) := by
    have : b ∣ q.den * a := ⟨q.num, by rw [Int.mul_comm, ← e, Int.mul_comm]⟩
    exact dvd_of_gcd this (by rw [Int.gcd_comm]; exact hg)
  have eb : (q.den : Int) = b := Int.dvd_antisymm (by omega) (by omega) d1 d2
  refine ⟨?_, eb⟩
  rw [eb] at e
  exact Int.eq_of_mul_eq_mul_right (by omega) e
/-- divided by a divisor -/
theorem fdiv_dvd {a g : Int} (hg : g ≠ 0) (h : g ∣ a) : a.fdiv g * g = a := by
  rw [Int.fdiv_eq_ediv_of_dvd h]
  exact Int.ediv_mul_cancel h
/-- the sign's share -/
def shr (g : Nat) (n : Int) : Int := if n < 0 then 0 - (g : Int) else g
theorem shr_ne {g : Nat} {n : Int} (h : g ≠ 0) : shr g n ≠ 0 := by unfold shr; split <;> omega
theorem shr_dvd {g : Nat} {n a : Int} (h : (g : Int) ∣ a) : shr g n ∣ a := by
  unfold shr
  split
  · rw [Int.zero_sub]; exact Int.neg_dvd.mpr h
  · exact h
theorem gcd_fdiv {a b : Int} {g : Nat} {n : Int} (hg : g ≠ 0) (ha : (g : Int) ∣ a) (hb : (g : Int) ∣ b) : Int.gcd (a.fdiv (shr g n)) (b.fdiv (shr g n)) * g = Int.gcd a b := by
  have e1 := fdiv_dvd (shr_ne (n := n) hg) (shr_dvd (n := n) ha)
  have e2 := fdiv_dvd (shr_ne (n := n) hg) (shr_dvd (n := n) hb)
  have : Int.gcd (a.fdiv (shr g n) * shr g n) (b.fdiv (shr g n) * shr g n) = Int.gcd a b := by rw [e1, e2]
  rw [Int.gcd_mul_right] at this
  have hs : (shr g n).natAbs = g := by unfold shr; split <;> omega
  rw [hs] at this
  exact this
theorem fdiv_pos {n : Int} {g : Nat} (hg : g ≠ 0) (hn : n ≠ 0) (h : (g : Int) ∣ n) : 0 < n.fdiv (shr g n) := by
  have e := fdiv_dvd (shr_ne (n := n) hg) (shr_dvd (n := n) h)
  generalize n.fdiv (shr g n) = k at e
  unfold shr at e
  have hg' : (0 : Int) < g := by omega
  rcases Int.lt_trichotomy k 0 with hk | hk | hk
  · exfalso
    split at e
    · have : 0 < k * (0 - (g : Int)) := Int.mul_pos_of_neg_of_neg hk (by omega)
      omega
    · have := Int.mul_neg_of_neg_of_pos hk hg'
      omega
  · subst hk
    exfalso
    rw [Int.zero_mul] at e
    omega
  · exact hk
/-- a fraction brought to lowest terms -/
theorem fr_of {a b : Int} (hb : b ≠ 0) : a.fdiv (shr (Int.gcd a b) b) = ((a : Rat) / (b : Rat)).num ∧ b.fdiv (shr (Int.gcd a b) b) = (((a : Rat) / (b : Rat)).den : Int) := by
  have hg : Int.gcd a b ≠ 0 := by
    intro e
    exact hb (Int.gcd_eq_zero_iff.mp e).2
  have ha' := Int.gcd_dvd_left a b
  have hb' := Int.gcd_dvd_right a b
  have e1 := fdiv_dvd (shr_ne (n := b) hg) (shr_dvd (n := b) ha')
  have e2 := fdiv_dvd (shr_ne (n := b) hg) (shr_dvd (n := b) hb')
  have hp := fdiv_pos hg hb hb'
  have hs := shr_ne (n := b) hg
  have hgg := gcd_fdiv (n := b) hg ha' hb'
  generalize shr (Int.gcd a b) b = s at *
  generalize a.fdiv s = A at *
  generalize b.fdiv s = B at *
  have hone : Int.gcd A B = 1 := by
    have : Int.gcd A B * Int.gcd a b = 1 * Int.gcd a b := by rw [hgg, Nat.one_mul]
    exact Nat.eq_of_mul_eq_mul_right (by omega) this
  have hB : (B : Rat) ≠ 0 := ratne (by omega)
  have hS : (s : Rat) ≠ 0 := ratne hs
  have h := fr_uniq (q := (a : Rat) / (b : Rat)) hp hone (by
    rw [← e1, ← e2, Rat.intCast_mul, Rat.intCast_mul]
    grind)
  exact ⟨h.1.symm, h.2.symm⟩

/-! ### lengths -/
structure Ln where
  a : Int
  b : Int
  n : Int
/-- in lowest terms -/
def Low (a b n : Int) : Prop := 0 < n ∧ Int.gcd (Int.gcd a b) n = 1
theorem gcd3_mul {a b n : Int} {k : Int} : Int.gcd (Int.gcd (a * k) (b * k)) (n * k) = Int.gcd (Int.gcd a b) n * k.natAbs := by
  rw [Int.gcd_mul_right]
  have : ((Int.gcd a b * k.natAbs : Nat) : Int) = (Int.gcd a b : Int) * (k.natAbs : Int) := by push_cast; rfl
  rw [this]
  have e : Int.gcd ((Int.gcd a b : Int) * (k.natAbs : Int)) (n * k) = Int.gcd ((Int.gcd a b : Int) * k) (n * k) := by
    simp only [Int.gcd, Int.natAbs_mul, Int.natAbs_natCast]
  rw [e, Int.gcd_mul_right]
theorem low_uniq {a b n a' b' n' : Int} (h : Low a b n) (h' : Low a' b' n') (e1 : a * n' = a' * n) (e2 : b * n' = b' * n) : a = a' ∧ b = b' ∧ n = n' := by
  have g1 := gcd3_mul (a := a) (b := b) (n := n) (k := n')
  have g2 := gcd3_mul (a := a') (b := b') (n := n') (k := n)
  rw [h.2] at g1
  rw [h'.2] at g2
  rw [e1, e2, Int.mul_comm n n'] at g1
  have : n'.natAbs = n.natAbs := by omega
  have hn := h.1
  have hn' := h'.1
  have en : n = n' := by omega
  subst en
  exact ⟨Int.eq_of_mul_eq_mul_right (by omega) e1, Int.eq_of_mul_eq_mul_right (by omega) e2, rfl⟩
/-- the number that all three are divided by -/
def g3 (a b n : Int) : Nat := Int.gcd (Int.gcd a b) n
def lA (a b n : Int) : Int := a.fdiv (shr (g3 a b n) n)
def lB (a b n : Int) : Int := b.fdiv (shr (g3 a b n) n)
def lN (a b n : Int) : Int := n.fdiv (shr (g3 a b n) n)
theorem g3_ne {a b n : Int} (hn : n ≠ 0) : g3 a b n ≠ 0 := by
  intro e
  exact hn (Int.gcd_eq_zero_iff.mp e).2
theorem g3_dvd {a b n : Int} : (g3 a b n : Int) ∣ a ∧ (g3 a b n : Int) ∣ b ∧ (g3 a b n : Int) ∣ n := by
  have h1 : (g3 a b n : Int) ∣ (Int.gcd a b : Int) := Int.gcd_dvd_left _ _
  exact ⟨Int.dvd_trans h1 (Int.gcd_dvd_left _ _), Int.dvd_trans h1 (Int.gcd_dvd_right _ _), Int.gcd_dvd_right _ _⟩
theorem lmul {a b n : Int} (hn : n ≠ 0) : lA a b n * shr (g3 a b n) n = a ∧ lB a b n * shr (g3 a b n) n = b ∧ lN a b n * shr (g3 a b n) n = n := by
  obtain ⟨h1, h2, h3⟩ := g3_dvd (a := a) (b := b) (n := n)
  have hs := shr_ne (n := n) (g3_ne (a := a) (b := b) hn)
  exact ⟨fdiv_dvd hs (shr_dvd h1), fdiv_dvd hs (shr_dvd h2), fdiv_dvd hs (shr_dvd h3)⟩
theorem low_of {a b n : Int} (hn : n ≠ 0) : Low (lA a b n) (lB a b n) (lN a b n) := by
  have hg := g3_ne (a := a) (b := b) hn
  refine ⟨fdiv_pos hg hn g3_dvd.2.2, ?_⟩
  obtain ⟨e1, e2, e3⟩ := lmul (a := a) (b := b) hn
  have h := gcd3_mul (a := lA a b n) (b := lB a b n) (n := lN a b n) (k := shr (g3 a b n) n)
  rw [e1, e2, e3] at h
  have hs : (shr (g3 a b n) n).natAbs = g3 a b n := by unfold shr; split <;> omega
  rw [hs] at h
  have h' : 1 * g3 a b n = Int.gcd (Int.gcd (lA a b n) (lB a b n)) (lN a b n) * g3 a b n := by rw [Nat.one_mul]; exact h
  exact (Nat.eq_of_mul_eq_mul_right (by omega) h').symm
theorem lcross {a b n : Int} (hn : n ≠ 0) : lA a b n * n = a * lN a b n ∧ lB a b n * n = b * lN a b n := by
  obtain ⟨e1, e2, e3⟩ := lmul (a := a) (b := b) hn
  generalize lA a b n = A at *
  generalize lB a b n = B at *
  generalize lN a b n = N at *
  generalize shr (g3 a b n) n = s at *
  subst e1 e2 e3
  constructor <;> grind
/-- lowest depends on the two fractions alone -/
theorem low_eq {a b n a' b' n' : Int} (hn : n ≠ 0) (hn' : n' ≠ 0) (e1 : a * n' = a' * n) (e2 : b * n' = b' * n) : lA a b n = lA a' b' n' ∧ lB a b n = lB a' b' n' ∧ lN a b n = lN a' b' n' := by
  obtain ⟨c1, c2⟩ := lcross (a := a) (b := b) hn
  obtain ⟨c1', c2'⟩ := lcross (a := a') (b := b') hn'
  refine low_uniq (low_of hn) (low_of hn') ?_ ?_
  · have : lA a b n * lN a' b' n' * (n * n') = lA a' b' n' * lN a b n * (n * n') := by grind
    exact Int.eq_of_mul_eq_mul_right (Int.mul_ne_zero hn hn') this
  · have : lB a b n * lN a' b' n' * (n * n') = lB a' b' n' * lN a b n * (n * n') := by grind
    exact Int.eq_of_mul_eq_mul_right (Int.mul_ne_zero hn hn') this
theorem low_self {a b n : Int} (h : Low a b n) : lA a b n = a ∧ lB a b n = b ∧ lN a b n = n := by
  have hn : n ≠ 0 := by have := h.1; omega
  have c := lcross (a := a) (b := b) hn
  exact low_uniq (low_of hn) h c.1 c.2
/-! fractions, as lengths whose second part is 0 -/
def fT (a b : Int) : Int := lA a 0 b
def fB (a b : Int) : Int := lN a 0 b
def LowF (a b : Int) : Prop := 0 < b ∧ Int.gcd a b = 1
theorem g3_zero {a b : Int} : g3 a 0 b = Int.gcd a b := by unfold g3; rw [Int.gcd_zero]; simp [Int.gcd]
theorem fT_eq {a b : Int} : fT a b = a.fdiv (shr (Int.gcd a b) b) := by unfold fT lA; rw [g3_zero]
theorem fB_eq {a b : Int} : fB a b = b.fdiv (shr (Int.gcd a b) b) := by unfold fB lN; rw [g3_zero]
theorem lowF_low {a b : Int} : LowF a b ↔ Low a 0 b := by
  unfold LowF Low
  have : Int.gcd (Int.gcd a 0) b = Int.gcd a b := g3_zero
  rw [this]
theorem lowF_self {a b : Int} (h : LowF a b) : fT a b = a ∧ fB a b = b := by
  have := low_self (lowF_low.mp h)
  exact ⟨this.1, this.2.2⟩
end MB

set_option Elab.async false
set_option linter.all false
set_option maxRecDepth 100000
set_option maxHeartbeats 1000000
set_option autoImplicit false
/-! what the defs of the lengths are worth -/
namespace DL
open PySem L2 MB
theorem divisor_loop : ∀ (k : Nat) (a b : Int), b.natAbs ≤ k → ∃ g : Int, g.natAbs = Int.gcd a b ∧ sWhile lt1_divisor lb1_divisor [some (.d (.int a)), some (.d (.int b))] = .nx [some (.d (.int g)), some (.d (.int 0))] := by
  intro k
  induction k with
  | zero =>
    intro a b h
    have hb : b = 0 := by omega
    subst hb
    refine ⟨a, by simp, ?_⟩
    rw [ev_while]
    simp only [lt1_divisor, ev_seq, seq_nx, seq_rt, seq_ex, seq_bk, seq_ct, seq_ite, fl_ok, fl_ex, fl_ite, ev_set, kSet_ev, ev_ret, ev_nx, ev_raise, ev_if, kIf_ev, ev_drop, kNx_ev, ev_par, kPar_ev, kId_ev, ev_asg, kAsg_ev, ev_for, kFor_ev, ev_V, dVg_ok, ev_C, ev_1, ev_2, bind2_ok, bind2_ite1, bind2_ite2, bind_ite, ev_A, ev_nil, ev_cons, kCons_ev, ev_T, toB_ev, ev_and, ev_or, ev_not, kAnd_ev, kOr_ev, kNot_ev, ev_andV, ev_orV, ev_notV, kAndV_ev, kOrV_ev, kNotV_ev, tup_ev, lst_ev, call_ev, ev_fn, startE_0, startE_s, startE_c, fin_rt, fin_nx, fin_ex, fin_ite, ix_t0, ix_t1, ix_t2, ix_t3, ix_l0, ix_l1, ix_l2, len_l, len_t1, len_t2, len_t3, len_t4, beq_self_eq_true, ev_iL, ev_iT, asL_ev, asT_ev, ev_iA, ev_P, toI_ev, ev_P0, ev_sl, kSl_ev, put_1, gAdd_i, gSub_i, gMul_i, gDiv_p, gMod_p, gPow_l, gShl_l, gShr_l, gLt_i, gLe_i, gGt_i, gGe_i, gEq_i, gNe_i, gNeg_i, gAbs_i, gInt_i, gInt_b, gEq_s, gNe_s, gEq_b, gNe_b, gEq_2, gNe_2, gEq_3, gNe_3, gEq_22, gNe_22, DL.R.bind_ok, DL.R.bind_ex, ev_setL, kSetL_ev, ev_lDisp, kDisp_ev, ev_frz, frz_l, frz_d, frz_n, ev_lend, lend_l, lend_d, atom_i, atom_b, atom_s, ev_lendB, lendB_l, lendB_d, ev_app, app_l, kApp_ev, ev_put, put_l, ev_ixO, ixO_l, ixO_d, put_m, putAll_c, putAll_n, ev_lc, kLst_ev, ev_lcL, wipe_n, wipe_c, r1_2, r1_3, bits_ev, List.getElem?_cons_zero, List.getElem?_cons_succ, List.set_cons_zero, List.set_cons_succ, List.length_cons, List.length_nil, List.length_map, List.append_nil, List.cons_append, List.nil_append, ev_if, turn_nx, turn_ct, turn_bk, turn_rt, turn_ite, kWh_ev, isi_int_int, isi_bool_int, isi_int_bool, isi_bool_bool, isi_int_str, isi_int_none, isi_int_list, isi_int_tup, isi_bool_str, isi_bool_none, isi_bool_list, isi_bool_tup, isi_tup_tup, isi_tup_int, isi_tup_bool, isi_tup_str, isi_tup_none, isi_tup_list, isi_list_list, isi_list_tup, isi_list_int, isi_list_bool, isi_list_str, isi_list_none, isi_str_str, isi_str_int, isi_str_bool, isi_str_none, isi_str_list, isi_str_tup, decide_true, decide_false, not_true_eq_false, not_false_eq_true, ne_eq, decide_eq_true_eq, Bool.not_eq_true', decide_eq_false_iff_not, Bool.not_true, Bool.not_false, Bool.false_eq_true, if_true, if_false, reduceIte]
  | succ k ih =>
    intro a b h
    by_cases hb : b = 0
    · subst hb
      refine ⟨a, by simp, ?_⟩
      rw [ev_while]
      simp only [lt1_divisor, ev_seq, seq_nx, seq_rt, seq_ex, seq_bk, seq_ct, seq_ite, fl_ok, fl_ex, fl_ite, ev_set, kSet_ev, ev_ret, ev_nx, ev_raise, ev_if, kIf_ev, ev_drop, kNx_ev, ev_par, kPar_ev, kId_ev, ev_asg, kAsg_ev, ev_for, kFor_ev, ev_V, dVg_ok, ev_C, ev_1, ev_2, bind2_ok, bind2_ite1, bind2_ite2, bind_ite, ev_A, ev_nil, ev_cons, kCons_ev, ev_T, toB_ev, ev_and, ev_or, ev_not, kAnd_ev, kOr_ev, kNot_ev, ev_andV, ev_orV, ev_notV, kAndV_ev, kOrV_ev, kNotV_ev, tup_ev, lst_ev, call_ev, ev_fn, startE_0, startE_s, startE_c, fin_rt, fin_nx, fin_ex, fin_ite, ix_t0, ix_t1, ix_t2, ix_t3, ix_l0, ix_l1, ix_l2, len_l, len_t1, len_t2, len_t3, len_t4, beq_self_eq_true, ev_iL, ev_iT, asL_ev, asT_ev, ev_iA, ev_P, toI_ev, ev_P0, ev_sl, kSl_ev, put_1, gAdd_i, gSub_i, gMul_i, gDiv_p, gMod_p, gPow_l, gShl_l, gShr_l, gLt_i, gLe_i, gGt_i, gGe_i, gEq_i, gNe_i, gNeg_i, gAbs_i, gInt_i, gInt_b, gEq_s, gNe_s, gEq_b, gNe_b, gEq_2, gNe_2, gEq_3, gNe_3, gEq_22, gNe_22, DL.R.bind_ok, DL.R.bind_ex, ev_setL, kSetL_ev, ev_lDisp, kDisp_ev, ev_frz, frz_l, frz_d, frz_n, ev_lend, lend_l, lend_d, atom_i, atom_b, atom_s, ev_lendB, lendB_l, lendB_d, ev_app, app_l, kApp_ev, ev_put, put_l, ev_ixO, ixO_l, ixO_d, put_m, putAll_c, putAll_n, ev_lc, kLst_ev, ev_lcL, wipe_n, wipe_c, r1_2, r1_3, bits_ev, List.getElem?_cons_zero, List.getElem?_cons_succ, List.set_cons_zero, List.set_cons_succ, List.length_cons, List.length_nil, List.length_map, List.append_nil, List.cons_append, List.nil_append, ev_if, turn_nx, turn_ct, turn_bk, turn_rt, turn_ite, kWh_ev, isi_int_int, isi_bool_int, isi_int_bool, isi_bool_bool, isi_int_str, isi_int_none, isi_int_list, isi_int_tup, isi_bool_str, isi_bool_none, isi_bool_list, isi_bool_tup, isi_tup_tup, isi_tup_int, isi_tup_bool, isi_tup_str, isi_tup_none, isi_tup_list, isi_list_list, isi_list_tup, isi_list_int, isi_list_bool, isi_list_str, isi_list_none, isi_str_str, isi_str_int, isi_str_bool, isi_str_none, isi_str_list, isi_str_tup, decide_true, decide_false, not_true_eq_false, not_false_eq_true, ne_eq, decide_eq_true_eq, Bool.not_eq_true', decide_eq_false_iff_not, Bool.not_true, Bool.not_false, Bool.false_eq_true, if_true, if_false, reduceIte]
    · obtain ⟨g, hg, e⟩ := ih b (a.fmod b) (by
        have h1 := natAbs_fmod_lt a hb
        omega)
      refine ⟨g, ?_, ?_⟩
      · rw [hg]
        have e1 : a = b * a.fdiv b + a.fmod b := (Int.mul_fdiv_add_fmod a b).symm
        have : Int.gcd b (b * a.fdiv b + a.fmod b) = Int.gcd b (a.fmod b) := Int.gcd_mul_left_add_right _ _ _
        rw [← e1] at this
        rw [← this, Int.gcd_comm]
      · rw [ev_while]
        simp only [lt1_divisor, lb1_divisor, ev_seq, seq_nx, seq_rt, seq_ex, seq_bk, seq_ct, seq_ite, fl_ok, fl_ex, fl_ite, ev_set, kSet_ev, ev_ret, ev_nx, ev_raise, ev_if, kIf_ev, ev_drop, kNx_ev, ev_par, kPar_ev, kId_ev, ev_asg, kAsg_ev, ev_for, kFor_ev, ev_V, dVg_ok, ev_C, ev_1, ev_2, bind2_ok, bind2_ite1, bind2_ite2, bind_ite, ev_A, ev_nil, ev_cons, kCons_ev, ev_T, toB_ev, ev_and, ev_or, ev_not, kAnd_ev, kOr_ev, kNot_ev, ev_andV, ev_orV, ev_notV, kAndV_ev, kOrV_ev, kNotV_ev, tup_ev, lst_ev, call_ev, ev_fn, startE_0, startE_s, startE_c, fin_rt, fin_nx, fin_ex, fin_ite, ix_t0, ix_t1, ix_t2, ix_t3, ix_l0, ix_l1, ix_l2, len_l, len_t1, len_t2, len_t3, len_t4, beq_self_eq_true, ev_iL, ev_iT, asL_ev, asT_ev, ev_iA, ev_P, toI_ev, ev_P0, ev_sl, kSl_ev, put_1, gAdd_i, gSub_i, gMul_i, gDiv_p, gMod_p, gPow_l, gShl_l, gShr_l, gLt_i, gLe_i, gGt_i, gGe_i, gEq_i, gNe_i, gNeg_i, gAbs_i, gInt_i, gInt_b, gEq_s, gNe_s, gEq_b, gNe_b, gEq_2, gNe_2, gEq_3, gNe_3, gEq_22, gNe_22, DL.R.bind_ok, DL.R.bind_ex, ev_setL, kSetL_ev, ev_lDisp, kDisp_ev, ev_frz, frz_l, frz_d, frz_n, ev_lend, lend_l, lend_d, atom_i, atom_b, atom_s, ev_lendB, lendB_l, lendB_d, ev_app, app_l, kApp_ev, ev_put, put_l, ev_ixO, ixO_l, ixO_d, put_m, putAll_c, putAll_n, ev_lc, kLst_ev, ev_lcL, wipe_n, wipe_c, r1_2, r1_3, bits_ev, List.getElem?_cons_zero, List.getElem?_cons_succ, List.set_cons_zero, List.set_cons_succ, List.length_cons, List.length_nil, List.length_map, List.append_nil, List.cons_append, List.nil_append, ev_if, turn_nx, turn_ct, turn_bk, turn_rt, turn_ite, kWh_ev, isi_int_int, isi_bool_int, isi_int_bool, isi_bool_bool, isi_int_str, isi_int_none, isi_int_list, isi_int_tup, isi_bool_str, isi_bool_none, isi_bool_list, isi_bool_tup, isi_tup_tup, isi_tup_int, isi_tup_bool, isi_tup_str, isi_tup_none, isi_tup_list, isi_list_list, isi_list_tup, isi_list_int, isi_list_bool, isi_list_str, isi_list_none, isi_str_str, isi_str_int, isi_str_bool, isi_str_none, isi_str_list, isi_str_tup, decide_true, decide_false, not_true_eq_false, not_false_eq_true, ne_eq, decide_eq_true_eq, Bool.not_eq_true', decide_eq_false_iff_not, Bool.not_true, Bool.not_false, Bool.false_eq_true, if_true, if_false, reduceIte, gMod_i, hb]
        exact e
theorem divisor_eq (a b : Int) : m_divisor [.int a, .int b] = .ok (.int (Int.gcd a b : Int)) := by
  obtain ⟨g, hg, e⟩ := divisor_loop b.natAbs a b (Nat.le_refl _)
  simp +decide only [m_divisor, den_divisor, zEV9, e, hg]
theorem bd_shr {a b n : Int} (hn : n ≠ 0) {k : Nat} (h : Bd n k) : Bd (shr (g3 a b n) n) k := ⟨by
  have hd : (g3 a b n : Int) ∣ n := g3_dvd.2.2
  have h1 : (shr (g3 a b n) n).natAbs = g3 a b n := by unfold shr; split <;> omega
  rw [h1]
  have h2 : g3 a b n ∣ n.natAbs := by have := Int.natAbs_dvd_natAbs.mpr hd; simpa using this
  exact Nat.lt_of_le_of_lt (Nat.le_of_dvd (by omega) h2) h.h⟩
theorem lowest_eq (a b n : Int) (hn : n ≠ 0) {k : Nat} [h3 : Bd n k] (hk : k ≤ 9000) : m_lowest [.int a, .int b, .int n] = .ok (.tuple [.int (lA a b n), .int (lB a b n), .int (lN a b n)]) := by
  have hs : shr (g3 a b n) n ≠ 0 := shr_ne (g3_ne hn)
  have bs : Bd (shr (g3 a b n) n) k := bd_shr hn h3
  have e2 : Int.gcd (Int.gcd a b) n = g3 a b n := rfl
  by_cases h : n < 0
  · have e : 0 - ((g3 a b n : Nat) : Int) = shr (g3 a b n) n := by unfold shr; rw [if_pos h]
    simp +decide only [m_lowest, den_lowest, zEV9, gDiv_i, divisor_eq, e2, h, e, hs, hk, lA, lB, lN]
  · have e : ((g3 a b n : Nat) : Int) = shr (g3 a b n) n := by unfold shr; rw [if_neg h]
    simp +decide only [m_lowest, den_lowest, zEV9, gDiv_i, divisor_eq, e2, h, e, hs, hk, lA, lB, lN]
theorem is_whole_int (z : Int) : m_is_whole [.int z] = .ok (.bool true) := by
  simp +decide only [m_is_whole, den_is_whole, zEV9]
theorem length_eq (a b n : Int) (hn : n ≠ 0) {k : Nat} [h3 : Bd n k] (hk : k ≤ 9000) : m_length [.int a, .int b, .int n] = .ok (.tuple [.int (lA a b n), .int (lB a b n), .int (lN a b n)]) := by
  simp +decide only [m_length, den_length, zEV9, is_whole_int, hn, lowest_eq, hk]
/-- the great number drawn -/
def gr (c k : Int) : Int := (c + k + 1) * 105152070229383420083013462309641843003 % 170141183460469231731687303715884105727
instance bd_gr {c k : Int} : Bd (gr c k) 127 := (bd_emod : Bd (gr c k) _).mono (by decide)
instance bd_lA {a b n : Int} {k : Nat} [Bd a k] : Bd (lA a b n) k := bd_fdiv
instance bd_lB {a b n : Int} {k : Nat} [Bd b k] : Bd (lB a b n) k := bd_fdiv
instance bd_lN {a b n : Int} {k : Nat} [Bd n k] : Bd (lN a b n) k := bd_fdiv
/-! lengths as data -/
@[reducible] def L3 (a b n : Int) : PD := .tuple [.int a, .int b, .int n]
theorem added_eq (a b n a' b' n' : Int) (hn : n * n' ≠ 0) {k1 k2 k3 k4 k5 k6 : Nat} [Bd a k1] [Bd b k2] [Bd n k3] [Bd a' k4] [Bd b' k5] [Bd n' k6] (h1 : k1 ≤ 4000000) (h2 : k2 ≤ 4000000) (h3 : k3 ≤ 4000) (h4 : k4 ≤ 4000000) (h5 : k5 ≤ 4000000) (h6 : k6 ≤ 4000) :
    m_added [.tuple [.int a, .int b, .int n], .tuple [.int a', .int b', .int n']] = .ok (.tuple [.int (lA (a * n' + a' * n) (b * n' + b' * n) (n * n')), .int (lB (a * n' + a' * n) (b * n' + b' * n) (n * n')), .int (lN (a * n' + a' * n) (b * n' + b' * n) (n * n'))]) := by
  have i1 : k3 + k6 ≤ 134217728 := by omega
  have i2 : k1 + k6 ≤ 134217728 := by omega
  have i3 : k4 + k3 ≤ 134217728 := by omega
  have i4 : k2 + k6 ≤ 134217728 := by omega
  have i5 : k5 + k3 ≤ 134217728 := by omega
  have i6 : k3 + k6 ≤ 9000 := by omega
  simp +decide only [m_added, den_added, zEV9, i1, i2, i3, i4, i5, i6, lowest_eq, hn]
theorem taken_eq (a b n a' b' n' : Int) (hn : n * n' ≠ 0) {k1 k2 k3 k4 k5 k6 : Nat} [Bd a k1] [Bd b k2] [Bd n k3] [Bd a' k4] [Bd b' k5] [Bd n' k6] (h1 : k1 ≤ 3900000) (h2 : k2 ≤ 3900000) (h3 : k3 ≤ 4000) (h4 : k4 ≤ 3900000) (h5 : k5 ≤ 3900000) (h6 : k6 ≤ 4000) :
    m_taken [.tuple [.int a, .int b, .int n], .tuple [.int a', .int b', .int n']] = .ok (.tuple [.int (lA (a * n' - a' * n) (b * n' - b' * n) (n * n')), .int (lB (a * n' - a' * n) (b * n' - b' * n) (n * n')), .int (lN (a * n' - a' * n) (b * n' - b' * n) (n * n'))]) := by
  have b1 : Bd (0 - a') k4 := by rw [Int.zero_sub]; infer_instance
  have b2 : Bd (0 - b') k5 := by rw [Int.zero_sub]; infer_instance
  have e := added_eq a b n (0 - a') (0 - b') n' hn (by omega) (by omega) h3 (by omega) (by omega) h6
  have e1 : a * n' + (0 - a') * n = a * n' - a' * n := by grind
  have e2 : b * n' + (0 - b') * n = b * n' - b' * n := by grind
  rw [e1, e2] at e
  simp +decide only [m_taken, den_taken, zEV9, e]
/-! fractions -/
instance bd_fT {a b : Int} {k : Nat} [Bd a k] : Bd (fT a b) k := bd_lA
instance bd_fB {a b : Int} {k : Nat} [Bd b k] : Bd (fB a b) k := bd_lN
theorem bd_shrF {a b : Int} (hb : b ≠ 0) {k : Nat} (h : Bd b k) : Bd (shr (Int.gcd a b) b) k := by
  have := bd_shr (a := a) (b := 0) hb h
  rw [g3_zero] at this
  exact this
theorem gcd_ne {a b : Int} (hb : b ≠ 0) : Int.gcd a b ≠ 0 := fun e => hb (Int.gcd_eq_zero_iff.mp e).2
theorem fraction_eq (t b : Int) (hb : b ≠ 0) {k : Nat} [h3 : Bd b k] (hk : k ≤ 9000) : m_fraction [.int t, .int b] = .ok (.tuple [.int (fT t b), .int (fB t b)]) := by
  have hs : shr (Int.gcd t b) b ≠ 0 := shr_ne (gcd_ne hb)
  have bs : Bd (shr (Int.gcd t b) b) k := bd_shrF hb h3
  by_cases h : b < 0
  · have e : 0 - ((Int.gcd t b : Nat) : Int) = shr (Int.gcd t b) b := by unfold shr; rw [if_pos h]
    simp +decide only [m_fraction, den_fraction, zEV9, gDiv_i, divisor_eq, h, e, hs, hk, fT_eq, fB_eq]
  · have e : ((Int.gcd t b : Nat) : Int) = shr (Int.gcd t b) b := by unfold shr; rw [if_neg h]
    simp +decide only [m_fraction, den_fraction, zEV9, gDiv_i, divisor_eq, h, e, hs, hk, fT_eq, fB_eq]
theorem parts_eq (a b n : Int) (hn : n ≠ 0) {k : Nat} [h3 : Bd n k] (hk : k ≤ 9000) : m_parts [.tuple [.int a, .int b, .int n]] = .ok (.tuple [.tuple [.int (fT a n), .int (fB a n)], .tuple [.int (fT b n), .int (fB b n)]]) := by
  simp +decide only [m_parts, den_parts, zEV9, fraction_eq, hn, hk]
end DL

set_option Elab.async false
set_option linter.all false
set_option maxRecDepth 100000
set_option maxHeartbeats 1000000
set_option autoImplicit false
/-! what the defs of fractions are worth -/
namespace DL
open PySem L2 MB
theorem law_fraction_loop : ∀ (k : Nat) (t b x y : Int), 0 ≤ x → 0 ≤ y → y.natAbs ≤ k → sWhile lt1_law_fraction lb1_law_fraction [some (.d (.int t)), some (.d (.int b)), some (.d (.int x)), some (.d (.int y))] = .nx [some (.d (.int t)), some (.d (.int b)), some (.d (.int (Int.gcd x y : Int))), some (.d (.int 0))] := by
  intro k
  induction k with
  | zero =>
    intro t b x y hx hy h
    have hb : y = 0 := by omega
    subst hb
    rw [ev_while]
    have : (x.natAbs : Int) = x := by omega
    simp +decide only [lt1_law_fraction, zEV9, Int.gcd_zero, this]
  | succ k ih =>
    intro t b x y hx hy h
    by_cases hb : y = 0
    · subst hb
      rw [ev_while]
      have : (x.natAbs : Int) = x := by omega
      simp +decide only [lt1_law_fraction, zEV9, Int.gcd_zero, this]
    · have hp : 0 < y := by omega
      have e := ih t b y (x % y) hy (Int.emod_nonneg x hb) (by
        have h1 := Int.emod_lt_of_pos x hp
        have h2 := Int.emod_nonneg x hb
        omega)
      rw [ev_while]
      have e1 : x = y * (x / y) + x % y := (Int.mul_ediv_add_emod x y).symm
      have e2 : Int.gcd y (y * (x / y) + x % y) = Int.gcd y (x % y) := Int.gcd_mul_left_add_right _ _ _
      rw [← e1] at e2
      rw [Int.gcd_comm x y, e2]
      simp +decide only [lt1_law_fraction, lb1_law_fraction, zEV9, hb, hp]
      exact e
theorem law_fraction_eq (t b : Int) (hb : b ≠ 0) {k : Nat} [h3 : Bd b k] (hk : k ≤ 9000) : m_law_fraction [.int t, .int b] = .ok (.tuple [.int (fT t b), .int (fB t b)]) := by
  have hs : shr (Int.gcd t b) b ≠ 0 := shr_ne (gcd_ne hb)
  have bs : Bd (shr (Int.gcd t b) b) k := bd_shrF hb h3
  have e := law_fraction_loop _ t b (b.natAbs : Int) (t.natAbs : Int) (by omega) (by omega) (Nat.le_refl _)
  have e2 : Int.gcd (b.natAbs : Int) (t.natAbs : Int) = Int.gcd t b := by rw [Int.gcd_comm]; simp [Int.gcd]
  rw [e2] at e
  by_cases h : b < 0
  · have es : 0 - ((Int.gcd t b : Nat) : Int) = shr (Int.gcd t b) b := by unfold shr; rw [if_pos h]
    simp +decide only [m_law_fraction, den_law_fraction, zEV9, gDiv_i, e, h, es, hs, hk, fT_eq, fB_eq]
  · have es : ((Int.gcd t b : Nat) : Int) = shr (Int.gcd t b) b := by unfold shr; rw [if_neg h]
    simp +decide only [m_law_fraction, den_law_fraction, zEV9, gDiv_i, e, h, es, hs, hk, fT_eq, fB_eq]
section
variable (a b c d : Int) {k1 k2 k3 k4 : Nat} [Bd a k1] [Bd b k2] [Bd c k3] [Bd d k4]
end
end DL

set_option autoImplicit false
set_option linter.all false
/-! plain arithmetic: roots, and the sign of a + b * root d -/
namespace MB
/-- d lies between two squares -/
def Root (d : Int) : Prop := ∃ k : Int, 0 < k ∧ k * k < d ∧ d < (k + 1) * (k + 1)
theorem Root.pos {d : Int} (h : Root d) : 0 < d := by
  obtain ⟨k, h1, h2, _⟩ := h
  have : 0 ≤ k * k := Int.mul_nonneg (by omega) (by omega)
  omega
theorem sq_lt {x y : Int} (hx : 0 ≤ x) (h : x * x < y * y) (hy : 0 ≤ y) : x < y := by
  rcases Int.lt_or_le x y with z | z
  · exact z
  · exfalso
    have := Int.mul_self_le_mul_self hy z
    omega
theorem irr_nat {d : Int} (h : Root d) : ∀ (n : Nat) (a b : Int), 0 ≤ a → 0 ≤ b → b.toNat ≤ n → a * a = d * (b * b) → b = 0 := by
  obtain ⟨k, hk, h1, h2⟩ := h
  have hd : 0 < d := by
    have : 0 ≤ k * k := Int.mul_nonneg (by omega) (by omega)
    omega
  intro n
  induction n with
  | zero => intro a b _ hb hn _; omega
  | succ n ih =>
    intro a b ha hb hn e
    by_cases hb0 : b = 0
    · exact hb0
    exfalso
    have hbp : 0 < b := by omega
    have hbb : 0 < b * b := Int.mul_pos hbp hbp
    -- k b < a < (k + 1) b
    have l1 : k * b < a := sq_lt (Int.mul_nonneg (by omega) hb) (by
      have := Int.mul_lt_mul_of_pos_right h1 hbb
      have e2 : k * b * (k * b) = k * k * (b * b) := by grind
      omega) ha
    have l2 : a < (k + 1) * b := sq_lt ha (by
      have := Int.mul_lt_mul_of_pos_right h2 hbb
      have e2 : (k + 1) * b * ((k + 1) * b) = (k + 1) * (k + 1) * (b * b) := by grind
      omega) (Int.mul_nonneg (by omega) hb)
    have e3 : (k + 1) * b = k * b + b := by grind
    have e4 : (d * b - k * a) * (d * b - k * a) = d * ((a - k * b) * (a - k * b)) := by grind
    have p1 : 0 ≤ d * b - k * a := by
      -- k a < (k (k + 1)) b ... from squares
      rcases Int.lt_or_le (d * b - k * a) 0 with z | z
      · exfalso
        have z1 : d * b < k * a := by omega
        have z2 := Int.mul_self_le_mul_self (Int.mul_nonneg (by omega) hb) (Int.le_of_lt z1)
        have z3 : k * a * (k * a) = k * k * (d * (b * b)) := by rw [← e]; grind
        have z4 : d * b * (d * b) = d * (d * (b * b)) := by grind
        have z5 : 0 < d * (b * b) := Int.mul_pos hd hbb
        have z6 := Int.mul_lt_mul_of_pos_right h1 z5
        omega
      · exact z
    have := ih (d * b - k * a) (a - k * b) p1 (by omega) (by omega) e4
    omega
theorem irr {d : Int} (h : Root d) {a b : Int} (e : a * a = d * b * b) : b = 0 := by
  have e2 : (a.natAbs : Int) * (a.natAbs : Int) = d * ((b.natAbs : Int) * (b.natAbs : Int)) := by
    have f1 : (a.natAbs : Int) * (a.natAbs : Int) = a * a := by rw [← Int.natCast_mul, Int.natAbs_mul_self]
    have f2 : (b.natAbs : Int) * (b.natAbs : Int) = b * b := by rw [← Int.natCast_mul, Int.natAbs_mul_self]
    rw [f1, f2, e, Int.mul_assoc]
  have := irr_nat h _ _ _ (by omega) (by omega) (Nat.le_refl _) e2
  omega
/-- a + b * root d is below 0 -/
def Lt0 (d a b : Int) : Prop := (a ≤ 0 ∧ b ≤ 0 ∧ ¬(a = 0 ∧ b = 0)) ∨ (0 < a ∧ b < 0 ∧ a * a < d * b * b) ∨ (a < 0 ∧ 0 < b ∧ d * b * b < a * a)
instance (d a b : Int) : Decidable (Lt0 d a b) := by unfold Lt0; infer_instance
theorem lt0_scale {d a b s : Int} (hs : 0 < s) : Lt0 d (a * s) (b * s) ↔ Lt0 d a b := by
  have q1 : a * s * (a * s) = a * a * (s * s) := by grind
  have q2 : d * (b * s) * (b * s) = d * b * b * (s * s) := by grind
  have hss : 0 < s * s := Int.mul_pos hs hs
  have pos (x : Int) : 0 < x * s ↔ 0 < x := ⟨fun h => by
    rcases Int.lt_or_le 0 x with z | z
    · exact z
    · have := Int.mul_le_mul_of_nonneg_right z (Int.le_of_lt hs); omega, fun h => Int.mul_pos h hs⟩
  have neg (x : Int) : x * s < 0 ↔ x < 0 := by
    have := pos (-x)
    have e : -x * s = -(x * s) := by grind
    rw [e] at this
    omega
  unfold Lt0
  rw [q1, q2]
  have pa := pos a
  have pb := pos b
  have na := neg a
  have nb := neg b
  have m1 : a * a * (s * s) < d * b * b * (s * s) ↔ a * a < d * b * b := ⟨fun h => Int.lt_of_mul_lt_mul_right h (Int.le_of_lt hss), fun h => Int.mul_lt_mul_of_pos_right h hss⟩
  have m2 : d * b * b * (s * s) < a * a * (s * s) ↔ d * b * b < a * a := ⟨fun h => Int.lt_of_mul_lt_mul_right h (Int.le_of_lt hss), fun h => Int.mul_lt_mul_of_pos_right h hss⟩
  rw [m1, m2]
  generalize a * s = x at *
  generalize b * s = y at *
  omega
end MB

set_option Elab.async false
set_option linter.all false
set_option maxRecDepth 100000
set_option maxHeartbeats 1000000
set_option autoImplicit false
/-! what the defs of roots and of the order are worth -/
namespace DL
open PySem L2 MB
theorem sign_of_eq (d a b : Int) (hd : 0 < d) {k1 k2 k3 : Nat} [Bd d k1] [Bd a k2] [Bd b k3] (h1 : k1 ≤ 1000000) (h2 : k2 ≤ 1000000) (h3 : k3 ≤ 1000000) : ∃ v : Int, m_sign_of [.int d, .int a, .int b] = .ok (.int v) ∧ (v < 0 ↔ Lt0 d a b) := by
  have i1 : k2 + k2 ≤ 134217728 := by omega
  have i2 : k1 + k3 ≤ 134217728 := by omega
  have i3 : k1 + k3 + k3 ≤ 134217728 := by omega
  by_cases ha : a = 0
  · refine ⟨a + b, ?_, by unfold Lt0; omega⟩
    simp +decide only [m_sign_of, den_sign_of, zEV9, ha]
  by_cases hb : b = 0
  · refine ⟨a + b, ?_, by unfold Lt0; omega⟩
    simp +decide only [m_sign_of, den_sign_of, zEV9, ha, hb]
  by_cases pa : 0 < a
  · by_cases pb : 0 < b
    · refine ⟨a + b, ?_, by unfold Lt0; omega⟩
      simp +decide only [m_sign_of, den_sign_of, zEV9, ha, hb, pa, pb]
    · refine ⟨a * a - d * b * b, ?_, by unfold Lt0; omega⟩
      simp +decide only [m_sign_of, den_sign_of, zEV9, ha, hb, pa, pb, i1, i2, i3]
  · by_cases pb : 0 < b
    · refine ⟨d * b * b - a * a, ?_, by unfold Lt0; omega⟩
      simp +decide only [m_sign_of, den_sign_of, zEV9, ha, hb, pa, pb, i1, i2, i3]
    · refine ⟨a + b, ?_, by unfold Lt0; omega⟩
      simp +decide only [m_sign_of, den_sign_of, zEV9, ha, hb, pa, pb]
theorem roots_ok : ∀ d ∈ rootsL, Root d ∧ 2 ≤ d ∧ d ≤ 99 := by
  have h : ∀ d ∈ rootsL, ((1 * 1 < d ∧ d < 2 * 2) ∨ (2 * 2 < d ∧ d < 3 * 3) ∨ (3 * 3 < d ∧ d < 4 * 4) ∨ (4 * 4 < d ∧ d < 5 * 5) ∨ (5 * 5 < d ∧ d < 6 * 6) ∨ (6 * 6 < d ∧ d < 7 * 7) ∨ (7 * 7 < d ∧ d < 8 * 8) ∨ (8 * 8 < d ∧ d < 9 * 9) ∨ (9 * 9 < d ∧ d < 10 * 10)) ∧ 2 ≤ d ∧ d ≤ 99 := by decide +kernel
  intro d hd
  obtain ⟨h1, h2⟩ := h d hd
  refine ⟨?_, h2⟩
  rcases h1 with ⟨a, b⟩ | ⟨a, b⟩ | ⟨a, b⟩ | ⟨a, b⟩ | ⟨a, b⟩ | ⟨a, b⟩ | ⟨a, b⟩ | ⟨a, b⟩ | ⟨a, b⟩
  · exact ⟨1, by decide, a, b⟩
  · exact ⟨2, by decide, a, b⟩
  · exact ⟨3, by decide, a, b⟩
  · exact ⟨4, by decide, a, b⟩
  · exact ⟨5, by decide, a, b⟩
  · exact ⟨6, by decide, a, b⟩
  · exact ⟨7, by decide, a, b⟩
  · exact ⟨8, by decide, a, b⟩
  · exact ⟨9, by decide, a, b⟩
theorem lst8 : PyData.list [.int 4, .int 9, .int 16, .int 25, .int 36, .int 49, .int 64, .int 81] = .list (([4, 9, 16, 25, 36, 49, 64, 81] : List Int).map PyData.int) := rfl
theorem under_eq (d a b n a' b' n' : Int) (hd : 0 < d) (hn : 0 < n) (hn' : 0 < n') [Bd d 7] {k1 k2 k3 k4 k5 k6 : Nat} [Bd a k1] [Bd b k2] [Bd n k3] [Bd a' k4] [Bd b' k5] [Bd n' k6] (h1 : k1 ≤ 4400) (h2 : k2 ≤ 4400) (h3 : k3 ≤ 3900) (h4 : k4 ≤ 4400) (h5 : k5 ≤ 4400) (h6 : k6 ≤ 3900) :
    m_under [.int d, .tuple [.int a, .int b, .int n], .tuple [.int a', .int b', .int n']] = .ok (.bool (decide (Lt0 d (a * n' - a' * n) (b * n' - b' * n)))) := by
  have hm : n * n' ≠ 0 := Int.mul_ne_zero (by omega) (by omega)
  have e := taken_eq a b n a' b' n' hm (by omega) (by omega) (by omega) (by omega) (by omega) (by omega)
  obtain ⟨m1, m2, m3⟩ := lmul (a := a * n' - a' * n) (b := b * n' - b' * n) hm
  have hs : 0 < shr (g3 (a * n' - a' * n) (b * n' - b' * n) (n * n')) (n * n') := by
    have h0 := g3_ne (a := a * n' - a' * n) (b := b * n' - b' * n) hm
    have : ¬ n * n' < 0 := by have := Int.mul_pos hn hn'; omega
    unfold shr
    rw [if_neg this]
    omega
  have sc := lt0_scale (d := d) (a := lA (a * n' - a' * n) (b * n' - b' * n) (n * n')) (b := lB (a * n' - a' * n) (b * n' - b' * n) (n * n')) hs
  rw [m1, m2] at sc
  obtain ⟨v, ev, hv⟩ := sign_of_eq d (lA (a * n' - a' * n) (b * n' - b' * n) (n * n')) (lB (a * n' - a' * n) (b * n' - b' * n) (n * n')) hd (by decide) (show max (k1 + k6) (k4 + k3) + 1 ≤ 1000000 by omega) (show max (k2 + k6) (k5 + k3) + 1 ≤ 1000000 by omega)
  have hb : decide (v < 0) = decide (Lt0 d (a * n' - a' * n) (b * n' - b' * n)) := by rw [decide_eq_decide, hv, sc]
  simp +decide only [m_under, den_under, zEV9, e, ev, hb]
end DL

set_option autoImplicit false
set_option linter.all false
/-! plain arithmetic: fractions and lengths as rationals -/
namespace MB
theorem fT_num {a b : Int} (hb : b ≠ 0) : fT a b = ((a : Rat) / (b : Rat)).num := by rw [fT_eq]; exact (fr_of hb).1
theorem fB_den {a b : Int} (hb : b ≠ 0) : fB a b = (((a : Rat) / (b : Rat)).den : Int) := by rw [fB_eq]; exact (fr_of hb).2
theorem num_div (q : Rat) : (q.num : Rat) / ((q.den : Int) : Rat) = q := by
  have h : ((q.den : Int) : Rat) ≠ 0 := ratne (by have := q.den_nz; omega)
  have := rnum q
  grind
theorem rat_of_lowF {a b : Int} (h : LowF a b) : ((a : Rat) / (b : Rat)).num = a ∧ (((a : Rat) / (b : Rat)).den : Int) = b := by
  have hb : b ≠ 0 := by have := h.1; omega
  have s := lowF_self h
  exact ⟨by rw [← fT_num hb, s.1], by rw [← fB_den hb, s.2]⟩
/-- the length of two fractions -/
def qA (x y : Rat) : Int := lA (x.num * y.den) (y.num * x.den) (x.den * y.den)
def qB (x y : Rat) : Int := lB (x.num * y.den) (y.num * x.den) (x.den * y.den)
def qN (x y : Rat) : Int := lN (x.num * y.den) (y.num * x.den) (x.den * y.den)
theorem qden (x y : Rat) : (x.den : Int) * (y.den : Int) ≠ 0 := Int.mul_ne_zero (by have := x.den_nz; omega) (by have := y.den_nz; omega)
theorem q_low (x y : Rat) : Low (qA x y) (qB x y) (qN x y) := low_of (qden x y)
theorem qN_pos (x y : Rat) : 0 < qN x y := (q_low x y).1
theorem qN_ne (x y : Rat) : ((qN x y : Int) : Rat) ≠ 0 := ratne (by have := qN_pos x y; omega)
theorem q_val (x y : Rat) : ((qA x y : Int) : Rat) = x * ((qN x y : Int) : Rat) ∧ ((qB x y : Int) : Rat) = y * ((qN x y : Int) : Rat) := by
  have c := lcross (a := x.num * y.den) (b := y.num * x.den) (qden x y)
  have hx : ((x.den : Int) : Rat) ≠ 0 := ratne (by have := x.den_nz; omega)
  have hy : ((y.den : Int) : Rat) ≠ 0 := ratne (by have := y.den_nz; omega)
  have nx := rnum x
  have ny := rnum y
  have c1 : ((qA x y * (x.den * y.den) : Int) : Rat) = ((x.num * y.den * qN x y : Int) : Rat) := congrArg _ c.1
  have c2 : ((qB x y * (x.den * y.den) : Int) : Rat) = ((y.num * x.den * qN x y : Int) : Rat) := congrArg _ c.2
  simp only [Rat.intCast_mul] at c1 c2
  constructor <;> grind
/-- a length by its numbers -/
theorem q_of {a b n : Int} (hn : n ≠ 0) : lA a b n = qA ((a : Rat) / n) ((b : Rat) / n) ∧ lB a b n = qB ((a : Rat) / n) ((b : Rat) / n) ∧ lN a b n = qN ((a : Rat) / n) ((b : Rat) / n) := by
  have hn' : (n : Rat) ≠ 0 := ratne hn
  generalize hx : (a : Rat) / n = x
  generalize hy : (b : Rat) / n = y
  have nx := rnum x
  have ny := rnum y
  have e1 : a * (x.den * y.den) = x.num * y.den * n := by
    have : ((a * (x.den * y.den) : Int) : Rat) = ((x.num * y.den * n : Int) : Rat) := by
      simp only [Rat.intCast_mul]
      grind
    exact_mod_cast this
  have e2 : b * (x.den * y.den) = y.num * x.den * n := by
    have : ((b * (x.den * y.den) : Int) : Rat) = ((y.num * x.den * n : Int) : Rat) := by
      simp only [Rat.intCast_mul]
      grind
    exact_mod_cast this
  exact low_eq hn (qden x y) e1 e2
theorem q_self {a b n : Int} (h : Low a b n) : qA ((a : Rat) / n) ((b : Rat) / n) = a ∧ qB ((a : Rat) / n) ((b : Rat) / n) = b ∧ qN ((a : Rat) / n) ((b : Rat) / n) = n := by
  have hn : n ≠ 0 := by have := h.1; omega
  have e := q_of (a := a) (b := b) hn
  have s := low_self h
  exact ⟨e.1.symm.trans s.1, e.2.1.symm.trans s.2.1, e.2.2.symm.trans s.2.2⟩
/-- the parts of a length -/
theorem q_parts (x y : Rat) : fT (qA x y) (qN x y) = x.num ∧ fB (qA x y) (qN x y) = x.den ∧ fT (qB x y) (qN x y) = y.num ∧ fB (qB x y) (qN x y) = y.den := by
  have hn : qN x y ≠ 0 := by have := qN_pos x y; omega
  have hn' := qN_ne x y
  have v := q_val x y
  have ex : ((qA x y : Int) : Rat) / ((qN x y : Int) : Rat) = x := by grind
  have ey : ((qB x y : Int) : Rat) / ((qN x y : Int) : Rat) = y := by grind
  refine ⟨?_, ?_, ?_, ?_⟩
  · rw [fT_num hn, ex]
  · rw [fB_den hn, ex]
  · rw [fT_num hn, ey]
  · rw [fB_den hn, ey]
end MB

set_option Elab.async false
set_option linter.all false
set_option maxRecDepth 100000
set_option maxHeartbeats 1000000
set_option autoImplicit false
/-! fractions, lengths and tables as rationals -/
namespace DL
open PySem L2 MB
class BR (q : Rat) (n m : outParam Nat) : Prop where
  num : q.num.natAbs < 2 ^ n
  den : q.den < 2 ^ m
theorem BR.mono {q : Rat} {n m n' m' : Nat} (b : BR q n m) (h : n ≤ n') (h' : m ≤ m') : BR q n' m' := ⟨Nat.lt_of_lt_of_le b.num (Nat.pow_le_pow_right (by decide) h), Nat.lt_of_lt_of_le b.den (Nat.pow_le_pow_right (by decide) h')⟩
instance bd_num {q : Rat} {n m : Nat} [b : BR q n m] : Bd q.num n := ⟨b.num⟩
instance bd_den {q : Rat} {n m : Nat} [b : BR q n m] : Bd (q.den : Int) m := ⟨by rw [Int.natAbs_natCast]; exact b.den⟩
theorem br_frac {a b : Int} (hb : b ≠ 0) {n m : Nat} (h1 : Bd a n) (h2 : Bd b m) : BR ((a : Rat) / (b : Rat)) n m := by
  have e1 := fT_num (a := a) hb
  have e2 := fB_den (a := a) hb
  have b1 : Bd (fT a b) n := bd_fT
  have b2 : Bd (fB a b) m := bd_fB
  rw [e1] at b1
  rw [e2] at b2
  exact ⟨b1.h, by have := b2.h; rw [Int.natAbs_natCast] at this; exact this⟩
theorem add_val (p q : Rat) : p + q = ((p.num * q.den + q.num * p.den : Int) : Rat) / ((p.den * q.den : Int) : Rat) := by
  have h1 : ((p.den : Int) : Rat) ≠ 0 := ratne (by have := p.den_nz; omega)
  have h2 : ((q.den : Int) : Rat) ≠ 0 := ratne (by have := q.den_nz; omega)
  have e1 := rnum p
  have e2 := rnum q
  simp only [Rat.intCast_mul, Rat.intCast_add]
  grind
theorem sub_val (p q : Rat) : p - q = ((p.num * q.den - q.num * p.den : Int) : Rat) / ((p.den * q.den : Int) : Rat) := by
  have h1 : ((p.den : Int) : Rat) ≠ 0 := ratne (by have := p.den_nz; omega)
  have h2 : ((q.den : Int) : Rat) ≠ 0 := ratne (by have := q.den_nz; omega)
  have e1 := rnum p
  have e2 := rnum q
  simp only [Rat.intCast_mul, Rat.intCast_sub]
  grind
theorem mul_val (p q : Rat) : p * q = ((p.num * q.num : Int) : Rat) / ((p.den * q.den : Int) : Rat) := by
  have h1 : ((p.den : Int) : Rat) ≠ 0 := ratne (by have := p.den_nz; omega)
  have h2 : ((q.den : Int) : Rat) ≠ 0 := ratne (by have := q.den_nz; omega)
  have e1 := rnum p
  have e2 := rnum q
  simp only [Rat.intCast_mul]
  grind
theorem div_val (p q : Rat) (hq : q ≠ 0) : p / q = ((p.num * q.den : Int) : Rat) / ((p.den * q.num : Int) : Rat) := by
  have h1 : ((p.den : Int) : Rat) ≠ 0 := ratne (by have := p.den_nz; omega)
  have h2 : ((q.den : Int) : Rat) ≠ 0 := ratne (by have := q.den_nz; omega)
  have e1 := rnum p
  have e2 := rnum q
  simp only [Rat.intCast_mul]
  rw [e1, e2]
  grind
theorem den_ne (p q : Rat) : (p.den : Int) * (q.den : Int) ≠ 0 := qden p q
section
variable {p q : Rat} {n m n' m' : Nat} [a : BR p n m] [b : BR q n' m']
instance br_add : BR (p + q) (n + n' + m + m' + 1) (m + m') := by
  rw [add_val]
  exact br_frac (den_ne p q) (Bd.mono (inferInstance : Bd (p.num * q.den + q.num * p.den) (max (n + m') (n' + m) + 1)) (by omega)) inferInstance
instance br_sub : BR (p - q) (n + n' + m + m' + 1) (m + m') := by
  rw [sub_val]
  exact br_frac (den_ne p q) (Bd.mono (inferInstance : Bd (p.num * q.den - q.num * p.den) (max (n + m') (n' + m) + 1)) (by omega)) inferInstance
instance br_mul : BR (p * q) (n + n') (m + m') := by
  rw [mul_val]
  exact br_frac (den_ne p q) inferInstance inferInstance
omit b in
instance br_neg : BR (-p) n m := ⟨by rw [Rat.neg_num, Int.natAbs_neg]; exact a.num, by rw [Rat.neg_den]; exact a.den⟩
end
instance br_int {a : Int} {n : Nat} [b : Bd a n] : BR (a : Rat) n 1 := ⟨b.h, by show 1 < 2 ^ 1; decide⟩
instance br_zero : BR (0 : Rat) 1 1 := ⟨by decide, by decide⟩
/-! data -/
@[reducible] def frD (q : Rat) : PD := .tuple [.int q.num, .int (q.den : Int)]
@[reducible] def lnD (x y : Rat) : PD := .tuple [.int (qA x y), .int (qB x y), .int (qN x y)]
theorem fraction_fr (a b : Int) (hb : b ≠ 0) {k : Nat} [Bd b k] (hk : k ≤ 9000) : m_fraction [.int a, .int b] = .ok (frD ((a : Rat) / (b : Rat))) := by
  rw [fraction_eq a b hb hk, fT_num hb, fB_den hb]
theorem law_fraction_fr (a b : Int) (hb : b ≠ 0) {k : Nat} [Bd b k] (hk : k ≤ 9000) : m_law_fraction [.int a, .int b] = .ok (frD ((a : Rat) / (b : Rat))) := by
  rw [law_fraction_eq a b hb hk, fT_num hb, fB_den hb]
section
variable (p q : Rat) {n m n' m' : Nat} [BR p n m] [BR q n' m']
theorem plus_fr (h : m + m' ≤ 9000) (h1 : n ≤ 60000000) (h2 : n' ≤ 60000000) : m_plus [frD p, frD q] = .ok (frD (p + q)) := by
  have i1 : n + m' ≤ 134217728 := by omega
  have i2 : n' + m ≤ 134217728 := by omega
  have i3 : m + m' ≤ 134217728 := by omega
  have e := fraction_fr (p.num * q.den + q.num * p.den) (p.den * q.den) (den_ne p q) h
  rw [← add_val] at e
  simp +decide only [m_plus, den_plus, zEV9, i1, i2, i3, e]
theorem minus_fr (h : m + m' ≤ 9000) (h1 : n ≤ 60000000) (h2 : n' ≤ 60000000) : m_minus [frD p, frD q] = .ok (frD (p - q)) := by
  have i1 : n + m' ≤ 134217728 := by omega
  have i2 : n' + m ≤ 134217728 := by omega
  have i3 : m + m' ≤ 134217728 := by omega
  have e := fraction_fr (p.num * q.den - q.num * p.den) (p.den * q.den) (den_ne p q) h
  rw [← sub_val] at e
  simp +decide only [m_minus, den_minus, zEV9, i1, i2, i3, e]
theorem times_fr (h : m + m' ≤ 9000) (h1 : n ≤ 60000000) (h2 : n' ≤ 60000000) : m_times [frD p, frD q] = .ok (frD (p * q)) := by
  have i1 : n + n' ≤ 134217728 := by omega
  have i3 : m + m' ≤ 134217728 := by omega
  have e := fraction_fr (p.num * q.num) (p.den * q.den) (den_ne p q) h
  rw [← mul_val] at e
  simp +decide only [m_times, den_times, zEV9, i1, i3, e]
theorem by_fr (hq : q ≠ 0) (h : m + n' ≤ 9000) (h1 : n ≤ 60000000) (h2 : m' ≤ 60000000) : m_by [frD p, frD q] = .ok (frD (p / q)) := by
  have i1 : n + m' ≤ 134217728 := by omega
  have i3 : m + n' ≤ 134217728 := by omega
  have hn : (p.den : Int) * q.num ≠ 0 := Int.mul_ne_zero (by have := p.den_nz; omega) (fun e => hq (Rat.num_eq_zero.mp e))
  have e := fraction_fr (p.num * q.den) (p.den * q.num) hn h
  rw [← div_val p q hq] at e
  simp +decide only [m_by, den_by, zEV9, i1, i3, e]
end
/-- the law's own sum, of fractions in any terms -/
theorem law_add_eq (a b c d : Int) (hb : b ≠ 0) (hd : d ≠ 0) {k1 k2 k3 k4 : Nat} [Bd a k1] [Bd b k2] [Bd c k3] [Bd d k4] (h : k2 + k4 ≤ 9000) (h1 : k1 + k4 ≤ 134217728) (h3 : k3 + k2 ≤ 134217728) :
    m_law_add [.tuple [.int a, .int b], .tuple [.int c, .int d]] = .ok (frD ((a : Rat) / b + (c : Rat) / d)) := by
  have i1 : k2 + k4 ≤ 134217728 := by omega
  have hn : b * d ≠ 0 := Int.mul_ne_zero hb hd
  have e := law_fraction_fr (a * d + c * b) (b * d) hn h
  have hb' := ratne hb
  have hd' := ratne hd
  have v : ((a * d + c * b : Int) : Rat) / ((b * d : Int) : Rat) = (a : Rat) / b + (c : Rat) / d := by
    simp only [Rat.intCast_mul, Rat.intCast_add]
    grind
  rw [v] at e
  simp +decide only [m_law_add, den_law_add, zEV9, i1, h1, h3, e]
instance bd_qA {x y : Rat} {n m n' m' : Nat} [BR x n m] [BR y n' m'] : Bd (qA x y) (n + m') := bd_lA
instance bd_qB {x y : Rat} {n m n' m' : Nat} [BR x n m] [BR y n' m'] : Bd (qB x y) (n' + m) := bd_lB
instance bd_qN {x y : Rat} {n m n' m' : Nat} [BR x n m] [BR y n' m'] : Bd (qN x y) (m + m') := bd_lN
theorem parts_ln (x y : Rat) {n m n' m' : Nat} [BR x n m] [BR y n' m'] (h : m + m' ≤ 9000) : m_parts [lnD x y] = .ok (.tuple [frD x, frD y]) := by
  have hn : qN x y ≠ 0 := by have := qN_pos x y; omega
  have e := parts_eq (qA x y) (qB x y) (qN x y) hn h
  have q := q_parts x y
  rw [q.1, q.2.1, q.2.2.1, q.2.2.2] at e
  exact e
theorem by_parts_ln (x y : Rat) {n m n' m' : Nat} [BR x n m] [BR y n' m'] (h : m + m' ≤ 9000) (h1 : n ≤ 60000000) (h2 : n' ≤ 60000000) : m_by_parts [frD x, frD y] = .ok (lnD x y) := by
  have i1 : n + m' ≤ 134217728 := by omega
  have i2 : n' + m ≤ 134217728 := by omega
  have i3 : m + m' ≤ 134217728 := by omega
  simp +decide only [m_by_parts, den_by_parts, zEV9, lowest_eq, qden x y, i1, i2, i3, h]
  rfl
/-! tables -/
structure Tab where
  a : Rat
  b : Rat
  c : Rat
  d : Rat
@[reducible] def tabD (t : Tab) : PD := .tuple [.tuple [frD t.a, frD t.b], .tuple [frD t.c, frD t.d]]
def Tab.add (s t : Tab) : Tab := ⟨s.a + t.a, s.b + t.b, s.c + t.c, s.d + t.d⟩
def Tab.sub (s t : Tab) : Tab := ⟨s.a - t.a, s.b - t.b, s.c - t.c, s.d - t.d⟩
def Tab.over (s : Tab) : Tab := ⟨s.a, s.c, s.b, s.d⟩
def Tab.zero : Tab := ⟨0, 0, 0, 0⟩
/-- a board: its sides' parts -/
structure Bo where
  x : Rat
  y : Rat
  u : Rat
  v : Rat
@[reducible] def boD (b : Bo) : PD := .tuple [lnD b.x b.y, lnD b.u b.v]
def Bo.tab (b : Bo) : Tab := ⟨b.x * b.u, b.x * b.v, b.y * b.u, b.y * b.v⟩
class BT (t : Tab) (n m : outParam Nat) : Prop where
  a : BR t.a n m
  b : BR t.b n m
  c : BR t.c n m
  d : BR t.d n m
class BB (t : Bo) (n m : outParam Nat) : Prop where
  x : BR t.x n m
  y : BR t.y n m
  u : BR t.u n m
  v : BR t.v n m
theorem BT.mono {t : Tab} {n m n' m' : Nat} (h : BT t n m) (e : n ≤ n') (e' : m ≤ m') : BT t n' m' := ⟨h.a.mono e e', h.b.mono e e', h.c.mono e e', h.d.mono e e'⟩
section
variable {s t : Tab} {n m n' m' : Nat} [i : BT s n m] [j : BT t n' m']
instance bt_add : BT (s.add t) (n + n' + m + m' + 1) (m + m') := ⟨@br_add _ _ _ _ _ _ i.a j.a, @br_add _ _ _ _ _ _ i.b j.b, @br_add _ _ _ _ _ _ i.c j.c, @br_add _ _ _ _ _ _ i.d j.d⟩
instance bt_sub : BT (s.sub t) (n + n' + m + m' + 1) (m + m') := ⟨@br_sub _ _ _ _ _ _ i.a j.a, @br_sub _ _ _ _ _ _ i.b j.b, @br_sub _ _ _ _ _ _ i.c j.c, @br_sub _ _ _ _ _ _ i.d j.d⟩
omit j in
instance bt_over : BT s.over n m := ⟨i.a, i.c, i.b, i.d⟩
end
instance bt_tab {b : Bo} {n m : Nat} [i : BB b n m] : BT b.tab (n + n) (m + m) := ⟨@br_mul _ _ _ _ _ _ i.x i.u, @br_mul _ _ _ _ _ _ i.x i.v, @br_mul _ _ _ _ _ _ i.y i.u, @br_mul _ _ _ _ _ _ i.y i.v⟩
instance bt_zero : BT Tab.zero 1 1 := ⟨br_zero, br_zero, br_zero, br_zero⟩
theorem zip_t {xs ys : List PD} : gZip [.tuple xs, .tuple ys] = .ok (zipD xs ys) := rfl
theorem zipD_c {x y : PD} {xs ys : List PD} : zipD (x :: xs) (y :: ys) = .tuple [x, y] :: zipD xs ys := rfl
theorem zipD_n : zipD [] [] = [] := rfl
theorem tupOf_l {ds : List PD} : gTupOf [.list ds] = .ok (.tuple ds) := rfl
theorem lcL_n {tg : Tg} {t : En → R Bool} {f : En → R PD} {ρ : En} : lcL tg t f ρ [] = .ok [] := rfl
theorem lcL_2 {i j : Nat} {x y : PD} {ds : List PD} {f : En → R PD} {ρ : En} {v : PD} {vs : List PD} (h1 : f ((ρ.set i (some (.d x))).set j (some (.d y))) = .ok v) (h2 : lcL (.many [i, j]) bYes f ρ ds = .ok vs) : lcL (.many [i, j]) bYes f ρ (.tuple [x, y] :: ds) = .ok (v :: vs) := by
  rw [lcL]
  have : Tg.put (.many [i, j]) (.tuple [x, y]) ρ = some ((ρ.set i (some (.d x))).set j (some (.d y))) := rfl
  rw [this]
  simp only [bYes, h1, h2]
theorem lcL_1 {i : Nat} {x : PD} {ds : List PD} {f : En → R PD} {ρ : En} {v : PD} {vs : List PD} (h1 : f (ρ.set i (some (.d x))) = .ok v) (h2 : lcL (.one i) bYes f ρ ds = .ok vs) : lcL (.one i) bYes f ρ (x :: ds) = .ok (v :: vs) := by
  rw [lcL]
  have : Tg.put (.one i) x ρ = some (ρ.set i (some (.d x))) := rfl
  rw [this]
  simp only [bYes, h1, h2]
theorem together_eq (s t : Tab) {n m n' m' : Nat} [i : BT s n m] [j : BT t n' m'] (h : m + m' ≤ 9000) (h1 : n ≤ 60000000) (h2 : n' ≤ 60000000) : m_together [tabD s, tabD t] = .ok (tabD (s.add t)) := by
  have e1 := @plus_fr s.a t.a n m n' m' i.a j.a h h1 h2
  have e2 := @plus_fr s.b t.b n m n' m' i.b j.b h h1 h2
  have e3 := @plus_fr s.c t.c n m n' m' i.c j.c h h1 h2
  have e4 := @plus_fr s.d t.d n m n' m' i.d j.d h h1 h2
  have row : ∀ (o1 o2 : PD) (p q r u : PD) (v w : PD) (x2 x3 x4 x5 : Option SV), m_plus [p, r] = .ok v → m_plus [q, u] = .ok w → le2_together [some (.d o1), some (.d o2), x2, x3, some (.d (.tuple [p, q])), some (.d (.tuple [r, u]))] = .ok (.tuple [v, w]) := by
    intro o1 o2 p q r u v w x2 x3 x4 x5 h1 h2
    have L : lcL (.many [2, 3]) bYes le1_together [some (.d o1), some (.d o2), none, none, some (.d (.tuple [p, q])), some (.d (.tuple [r, u]))] [.tuple [p, r], .tuple [q, u]] = .ok [v, w] :=
      lcL_2 (by simp +decide only [le1_together, zEV9, h1]) (lcL_2 (by simp +decide only [le1_together, zEV9, h2]) lcL_n)
    simp +decide only [le2_together, zEV9, zip_t, zipD_c, zipD_n, kLcL_ev, L, tupOf_l]
  have L : lcL (.many [4, 5]) bYes le2_together [some (.d (tabD s)), some (.d (tabD t)), none, none, none, none] [.tuple [.tuple [frD s.a, frD s.b], .tuple [frD t.a, frD t.b]], .tuple [.tuple [frD s.c, frD s.d], .tuple [frD t.c, frD t.d]]] = .ok [.tuple [frD (s.a + t.a), frD (s.b + t.b)], .tuple [frD (s.c + t.c), frD (s.d + t.d)]] :=
    lcL_2 (row _ _ _ _ _ _ _ _ _ _ none none e1 e2) (lcL_2 (row _ _ _ _ _ _ _ _ _ _ none none e3 e4) lcL_n)
  simp +decide only [m_together, den_together, zEV9, zip_t, zipD_c, zipD_n, kLcL_ev, L, tupOf_l]
  rfl
theorem table_of_eq (b : Bo) {n m : Nat} [i : BB b n m] (h : m + m ≤ 9000) (h1 : n ≤ 60000000) : m_table_of [lnD b.x b.y, lnD b.u b.v] = .ok (tabD b.tab) := by
  have p1 := @parts_ln b.x b.y n m n m i.x i.y h
  have p2 := @parts_ln b.u b.v n m n m i.u i.v h
  have e1 := @times_fr b.x b.u n m n m i.x i.u h h1 h1
  have e2 := @times_fr b.x b.v n m n m i.x i.v h h1 h1
  have e3 := @times_fr b.y b.u n m n m i.y i.u h h1 h1
  have e4 := @times_fr b.y b.v n m n m i.y i.v h h1 h1
  have row : ∀ (p : Rat) (v w : PD) (x2 : Option SV), m_times [frD p, frD b.u] = .ok v → m_times [frD p, frD b.v] = .ok w → le2_table_of [some (.d (lnD b.x b.y)), some (.d (lnD b.u b.v)), x2, some (.d (frD p))] = .ok (.tuple [v, w]) := by
    intro p v w x2 h1 h2
    have L : lcL (.one 2) bYes le1_table_of [some (.d (lnD b.x b.y)), some (.d (lnD b.u b.v)), none, some (.d (frD p))] [frD b.u, frD b.v] = .ok [v, w] :=
      lcL_1 (by simp +decide only [le1_table_of, zEV9, h1]) (lcL_1 (by simp +decide only [le1_table_of, zEV9, h2]) lcL_n)
    simp +decide only [le2_table_of, zEV9, p2, kLcL_ev, L, tupOf_l]
  have L : lcL (.one 3) bYes le2_table_of [some (.d (lnD b.x b.y)), some (.d (lnD b.u b.v)), none, none] [frD b.x, frD b.y] = .ok [.tuple [frD (b.x * b.u), frD (b.x * b.v)], .tuple [frD (b.y * b.u), frD (b.y * b.v)]] :=
    lcL_1 (row _ _ _ none e1 e2) (lcL_1 (row _ _ _ none e3 e4) lcL_n)
  simp +decide only [m_table_of, den_table_of, zEV9, p1, kLcL_ev, L, tupOf_l]
  rfl
/-- the table of boards -/
def tabL : Tab → List Bo → Tab
  | t, [] => t
  | t, b :: bs => tabL (t.add b.tab) bs
theorem zeroD : tabD Tab.zero = .tuple [.tuple [c_NOUGHT, c_NOUGHT], .tuple [c_NOUGHT, c_NOUGHT]] := rfl
end DL

set_option Elab.async false
set_option linter.all false
set_option maxRecDepth 100000
set_option maxHeartbeats 1000000
set_option autoImplicit false
/-! sides drawn, and what is a length -/
namespace DL
open PySem L2 MB
/-- above nought -/
def Pos (d a b : Int) : Prop := Lt0 d (-a) (-b)
theorem pos_nn {d a b : Int} (ha : 0 ≤ a) (hb : 0 ≤ b) (h : ¬(a = 0 ∧ b = 0)) : Pos d a b := .inl ⟨by omega, by omega, by omega⟩
/-- a side's numbers, b below nought, a ten times as great and more -/
theorem pos_ten {d a b : Int} (hd : 0 < d) (hd2 : d ≤ 99) (hb : b < 0) (ha : 10 * (b.natAbs : Int) ≤ a) : Pos d a b := by
  refine .inr (.inr ⟨by omega, by omega, ?_⟩)
  have h1 := Int.mul_self_le_mul_self (by omega : 0 ≤ 10 * (b.natAbs : Int)) ha
  have e1 : (10 * (b.natAbs : Int)) * (10 * (b.natAbs : Int)) = 100 * (b * b) := by
    have : (b.natAbs : Int) = -b := by omega
    rw [this]; grind
  have h2 : 0 < b * b := Int.mul_pos_of_neg_of_neg hb hb
  have h3 := Int.mul_le_mul_of_nonneg_right hd2 (Int.le_of_lt h2)
  have e2 : d * -b * -b = d * (b * b) := by grind
  have e3 : -a * -a = a * a := by grind
  omega
theorem pos_loop {d a b : Int} (hd : Root d) (ha : 0 < a) (hb : b < 0) (h : d * b * b ≤ a * a) : Pos d a b := by
  refine .inr (.inr ⟨by omega, by omega, ?_⟩)
  have e2 : d * -b * -b = d * b * b := by grind
  have e3 : -a * -a = a * a := by grind
  have ne : a * a ≠ d * b * b := fun e => by have := irr hd e; omega
  omega
theorem pos_three {d b : Int} (hd : 2 ≤ d) (hb : 0 < b) : Pos d (0 - b) b := by
  refine .inr (.inl ⟨by omega, by omega, ?_⟩)
  have h2 : 0 < b * b := Int.mul_pos hb hb
  have h3 := Int.mul_le_mul_of_nonneg_right hd (Int.le_of_lt h2)
  have e2 : d * -b * -b = d * (b * b) := by grind
  have e3 : -(0 - b) * -(0 - b) = b * b := by grind
  omega
/-- what a side is: in lowest terms, above nought, not too great -/
structure Side (d a b n : Int) : Prop where
  low : Low a b n
  pos : Pos d a b
  ba : Bd a 100
  bb : Bd b 100
  bn : Bd n 31
theorem root_two {d : Int} (h : Root d) : 2 ≤ d := by
  obtain ⟨k, h1, h2, h3⟩ := h
  have := Int.mul_pos h1 h1
  omega
end DL

set_option autoImplicit false
set_option linter.all false
/-! plain arithmetic: the numbers x + y * root d above nought -/
namespace MB
theorem irrQ {d : Int} (h : Root d) {x y : Rat} (e : x * x = (d : Rat) * y * y) : y = 0 := by
  have nx := rnum x
  have ny := rnum y
  have hx : ((x.den : Int) : Rat) ≠ 0 := ratne (by have := x.den_nz; omega)
  have hy : ((y.den : Int) : Rat) ≠ 0 := ratne (by have := y.den_nz; omega)
  have key : (x.num * y.den) * (x.num * y.den) = d * (y.num * x.den) * (y.num * x.den) := by
    have : (((x.num * y.den) * (x.num * y.den) : Int) : Rat) = ((d * (y.num * x.den) * (y.num * x.den) : Int) : Rat) := by
      simp only [Rat.intCast_mul]
      rw [nx, ny]
      grind
    exact_mod_cast this
  have z := irr h key
  have hn : y.num = 0 := by
    rcases Int.mul_eq_zero.mp z with w | w
    · exact w
    · have := x.den_nz; omega
  exact Rat.num_eq_zero.mp hn
theorem sq_mono {a b : Rat} (h0 : 0 ≤ b) (h : b ≤ a) : b * b ≤ a * a := by
  have h1 := Rat.mul_le_mul_of_nonneg_left h h0
  have h2 := Rat.mul_le_mul_of_nonneg_right h (Rat.le_trans h0 h)
  grind
theorem sq_nonneg (a : Rat) : 0 ≤ a * a := by
  rcases (Rat.le_total : a ≤ 0 ∨ 0 ≤ a) with h | h
  · have := Rat.mul_nonneg (show 0 ≤ -a by grind) (show 0 ≤ -a by grind)
    grind
  · exact Rat.mul_nonneg h h
theorem abs_lt {a b : Rat} (ha : 0 < a) (h : b * b < a * a) : -a < b ∧ b < a := by
  constructor
  · by_cases z : -a < b
    · exact z
    · have := sq_mono (Rat.le_of_lt ha) (show a ≤ -b by grind)
      grind
  · by_cases z : b < a
    · exact z
    · have := sq_mono (Rat.le_of_lt ha) (show a ≤ b by grind)
      grind
def PosQ (d : Int) (x y : Rat) : Prop := ((d : Rat) * y * y < x * x ∧ 0 < x) ∨ (x * x < (d : Rat) * y * y ∧ 0 < y)
theorem Root.posQ {d : Int} (h : Root d) : (0 : Rat) < (d : Rat) := Rat.intCast_pos.mpr h.pos
theorem posQ_mul {d : Int} (hd : Root d) {x y u v : Rat} (h : PosQ d x y) (g : PosQ d u v) : PosQ d (x * u + d * y * v) (x * v + y * u) := by
  have hD := hd.posQ
  unfold PosQ at *
  generalize (d : Rat) = D at *
  have q1 := sq_nonneg u
  have q2 := sq_nonneg v
  have q3 := sq_nonneg x
  have q4 := sq_nonneg y
  rcases h with ⟨h1, h2⟩ | ⟨h1, h2⟩ <;> rcases g with ⟨g1, g2⟩ | ⟨g1, g2⟩
  · left
    have p1 := Rat.mul_pos (show 0 < x * x - D * y * y by grind) (show 0 < u * u - D * v * v by grind)
    have p2 := Rat.mul_pos (show 0 < x * x - D * y * y by grind) (Rat.mul_pos g2 g2)
    have p3 := Rat.mul_nonneg (Rat.mul_nonneg (Rat.le_of_lt hD) q4) (show 0 ≤ u * u - D * v * v by grind)
    have p4 := Rat.mul_pos h2 g2
    have p5 := (abs_lt p4 (b := D * y * v) (by grind)).1
    constructor <;> grind
  · right
    have p1 := Rat.mul_pos (show 0 < x * x - D * y * y by grind) (show 0 < D * v * v - u * u by grind)
    have p2 := Rat.mul_pos (Rat.mul_pos h2 h2) (show 0 < D * v * v - u * u by grind)
    have p3 := Rat.mul_nonneg q1 (show 0 ≤ x * x - D * y * y by grind)
    have p4 := Rat.mul_pos h2 g2
    have p6 : D * ((y * u) * (y * u)) < D * ((x * v) * (x * v)) := by grind
    have p7 := Rat.lt_of_mul_lt_mul_left p6 (Rat.le_of_lt hD)
    have p5 := (abs_lt p4 (b := y * u) p7).1
    constructor <;> grind
  · right
    have p1 := Rat.mul_pos (show 0 < D * y * y - x * x by grind) (show 0 < u * u - D * v * v by grind)
    have p2 := Rat.mul_pos (Rat.mul_pos g2 g2) (show 0 < D * y * y - x * x by grind)
    have p3 := Rat.mul_nonneg q3 (show 0 ≤ u * u - D * v * v by grind)
    have p4 := Rat.mul_pos g2 h2
    have p6 : D * ((x * v) * (x * v)) < D * ((u * y) * (u * y)) := by grind
    have p7 := Rat.lt_of_mul_lt_mul_left p6 (Rat.le_of_lt hD)
    have p5 := (abs_lt p4 (b := x * v) p7).1
    constructor <;> grind
  · left
    have p1 := Rat.mul_pos (show 0 < D * y * y - x * x by grind) (show 0 < D * v * v - u * u by grind)
    have p2 := Rat.mul_pos (Rat.mul_pos hD (Rat.mul_pos h2 h2)) (show 0 < D * v * v - u * u by grind)
    have p3 := Rat.mul_nonneg q1 (show 0 ≤ D * y * y - x * x by grind)
    have p4 := Rat.mul_pos hD (Rat.mul_pos h2 g2)
    have p5 := (abs_lt p4 (b := x * u) (by grind)).1
    constructor <;> grind
theorem posQ_one {d : Int} (hd : Root d) {x y : Rat} (h : PosQ d x y) : PosQ d (1 + x) y := by
  have ir : ((1 + x) * (1 + x) = (d : Rat) * y * y → y = 0) := irrQ hd
  unfold PosQ at *
  generalize (d : Rat) = D at *
  rcases h with ⟨h1, h2⟩ | ⟨h1, h2⟩
  · left
    constructor <;> grind
  · by_cases c : D * y * y < (1 + x) * (1 + x)
    · left
      refine ⟨c, ?_⟩
      by_cases c2 : 0 < 1 + x
      · exact c2
      · have := sq_mono (show 0 ≤ -(1 + x) by grind) (show -(1 + x) ≤ -x by grind)
        grind
    · by_cases c2 : (1 + x) * (1 + x) = D * y * y
      · have := ir c2
        grind
      · right
        constructor <;> grind
theorem posQ_inv {d : Int} {x y N : Rat} (hN : N = x * x - d * y * y) (h : PosQ d x y) : PosQ d (x / N) (-y / N) ∧ N ≠ 0 := by
  unfold PosQ at *
  generalize (d : Rat) = D at *
  rw [Rat.div_def, Rat.div_def]
  have e : x * N⁻¹ * (x * N⁻¹) - D * (-y * N⁻¹) * (-y * N⁻¹) = N⁻¹ * N⁻¹ * (x * x - D * y * y) := by grind
  rcases h with ⟨h1, h2⟩ | ⟨h1, h2⟩
  · have hp : 0 < N := by grind
    have hi := Rat.inv_pos.mpr hp
    have p := Rat.mul_pos h2 hi
    have q := Rat.mul_pos (Rat.mul_pos hi hi) (show 0 < x * x - D * y * y by grind)
    refine ⟨.inl ⟨?_, p⟩, by grind⟩
    grind
  · have hp : 0 < -N := by grind
    have hi := Rat.inv_pos.mpr hp
    have en : (-N)⁻¹ = -N⁻¹ := by grind
    rw [en] at hi
    have p := Rat.mul_pos h2 hi
    have q := Rat.mul_pos (Rat.mul_pos hi hi) (show 0 < D * y * y - x * x by grind)
    refine ⟨.inr ⟨?_, by grind⟩, by grind⟩
    grind
theorem posQ_add {d : Int} (hd : Root d) {x y u v : Rat} (h : PosQ d x y) (g : PosQ d u v) : PosQ d (x + u) (y + v) := by
  obtain ⟨hi, hN⟩ := posQ_inv rfl h
  have t := posQ_one hd (posQ_mul hd hi g)
  have s := posQ_mul hd h t
  generalize hNe : x * x - (d : Rat) * y * y = N at *
  generalize (d : Rat) = D at *
  have e1 : x * (1 + (x / N * u + D * (-y / N) * v)) + D * y * (x / N * v + -y / N * u) = x + u := by grind
  have e2 : x * (x / N * v + -y / N * u) + y * (1 + (x / N * u + D * (-y / N) * v)) = y + v := by grind
  rw [e1, e2] at s
  exact s
end MB
namespace MB
theorem posQ_scale {d : Int} (hd : Root d) {x y m : Rat} (hm : 0 < m) : PosQ d (x * m) (y * m) ↔ PosQ d x y := by
  have g (m : Rat) (hm : 0 < m) : PosQ d m 0 := .inl ⟨by have := Rat.mul_pos hm hm; grind, hm⟩
  constructor
  · intro h
    have hi := Rat.inv_pos.mpr hm
    have := posQ_mul hd h (g _ hi)
    have e1 : x * m * m⁻¹ + d * (y * m) * 0 = x := by grind
    have e2 : x * m * 0 + y * m * m⁻¹ = y := by grind
    rw [e1, e2] at this
    exact this
  · intro h
    have := posQ_mul hd h (g _ hm)
    have e1 : x * m + d * y * 0 = x * m := by grind
    have e2 : x * 0 + y * m = y * m := by grind
    rw [e1, e2] at this
    exact this
/-- the sign's law, of whole numbers -/
theorem lt0_posQ {d : Int} (hd : Root d) {a b : Int} : Lt0 d a b ↔ PosQ d (-(a : Rat)) (-(b : Rat)) := by
  have ea : ((a * a : Int) : Rat) = -(a : Rat) * -(a : Rat) := by rw [Rat.intCast_mul]; grind
  have eb : ((d * b * b : Int) : Rat) = d * -(b : Rat) * -(b : Rat) := by simp only [Rat.intCast_mul]; grind
  have n1 : (0 : Rat) < -(a : Rat) ↔ a < 0 := by
    rw [← Rat.intCast_neg, Rat.intCast_pos]; omega
  have n2 : (0 : Rat) < -(b : Rat) ↔ b < 0 := by
    rw [← Rat.intCast_neg, Rat.intCast_pos]; omega
  unfold PosQ
  rw [← ea, ← eb, Rat.intCast_lt_intCast, Rat.intCast_lt_intCast, n1, n2]
  unfold Lt0
  have z1 : a = 0 → a * a = 0 := fun h => by rw [h]; rfl
  have z2 : b = 0 → d * b * b = 0 := fun h => by rw [h]; simp
  have s1 : 0 ≤ a * a := by
    rcases Int.le_total 0 a with w | w
    · exact Int.mul_nonneg w w
    · exact Int.mul_nonneg_of_nonpos_of_nonpos w w
  have s2 : 0 ≤ d * b * b := by
    rw [Int.mul_assoc]
    refine Int.mul_nonneg (by have := hd.pos; omega) ?_
    rcases Int.le_total 0 b with w | w
    · exact Int.mul_nonneg w w
    · exact Int.mul_nonneg_of_nonpos_of_nonpos w w
  have z3 : a * a = d * b * b → a = 0 ∧ b = 0 := fun h => by
    have hb := irr hd h
    refine ⟨?_, hb⟩
    subst hb
    have : a * a = 0 := by simpa using h
    rcases Int.mul_eq_zero.mp this with z | z <;> exact z
  constructor
  · rintro (⟨p1, p2, p3⟩ | ⟨p1, p2, p3⟩ | ⟨p1, p2, p3⟩)
    · rcases Int.lt_trichotomy (a * a) (d * b * b) with w | w | w
      · right; refine ⟨w, ?_⟩; by_cases hb : b = 0
        · have := z2 hb; omega
        · omega
      · exact absurd (z3 w) p3
      · left; refine ⟨w, ?_⟩; by_cases ha : a = 0
        · have := z1 ha; omega
        · omega
    · right; exact ⟨p3, by omega⟩
    · left; exact ⟨p3, by omega⟩
  · rintro (⟨p1, p2⟩ | ⟨p1, p2⟩)
    · by_cases hb : b ≤ 0
      · left; omega
      · right; right; omega
    · by_cases ha : a ≤ 0
      · left; omega
      · right; left; omega
theorem posQ_tri {d : Int} (hd : Root d) {x y : Rat} (h : ¬ PosQ d x y) (h2 : ¬ (x = 0 ∧ y = 0)) : PosQ d (-x) (-y) := by
  have ir : x * x = d * y * y → y = 0 := irrQ hd
  have hD := hd.posQ
  unfold PosQ at *
  have e1 : -x * -x = x * x := by grind
  have e2 : d * -y * -y = d * y * y := by grind
  rw [e1, e2]
  generalize (d : Rat) = D at *
  by_cases c : D * y * y < x * x
  · left
    refine ⟨c, ?_⟩
    by_cases z : x = 0
    · exfalso
      subst z
      have := Rat.mul_nonneg (Rat.le_of_lt hD) (sq_nonneg y)
      grind
    · grind
  · by_cases c2 : x * x = D * y * y
    · have hy := ir c2
      subst hy
      exfalso
      have hx : x * x = 0 := by grind
      rcases Rat.mul_eq_zero.mp hx with z | z <;> exact h2 ⟨z, rfl⟩
    · right
      refine ⟨by grind, ?_⟩
      by_cases z : y = 0
      · exfalso
        subst z
        have := sq_nonneg x
        grind
      · grind
end MB

set_option Elab.async false
set_option linter.all false
set_option maxRecDepth 100000
set_option maxHeartbeats 2000000
set_option autoImplicit false
/-! lengths as rationals: sums, order; bases -/
namespace DL
open PySem L2 MB
theorem cross_lt {d : Int} (hd : Root d) (x y u v : Rat) : Lt0 d (qA x y * qN u v - qA u v * qN x y) (qB x y * qN u v - qB u v * qN x y) ↔ PosQ d (u - x) (v - y) := by
  rw [lt0_posQ hd]
  have v1 := q_val x y
  have v2 := q_val u v
  have hm : (0 : Rat) < ((qN x y : Int) : Rat) * ((qN u v : Int) : Rat) := Rat.mul_pos (Rat.intCast_pos.mpr (qN_pos x y)) (Rat.intCast_pos.mpr (qN_pos u v))
  rw [← posQ_scale hd (x := u - x) (y := v - y) hm]
  have e1 : -((qA x y * qN u v - qA u v * qN x y : Int) : Rat) = (u - x) * (((qN x y : Int) : Rat) * ((qN u v : Int) : Rat)) := by
    simp only [Rat.intCast_mul, Rat.intCast_sub]; rw [v1.1, v2.1]; grind
  have e2 : -((qB x y * qN u v - qB u v * qN x y : Int) : Rat) = (v - y) * (((qN x y : Int) : Rat) * ((qN u v : Int) : Rat)) := by
    simp only [Rat.intCast_mul, Rat.intCast_sub]; rw [v1.2, v2.2]; grind
  rw [e1, e2]
theorem sub_ln (x y u v : Rat) : lA (qA x y * qN u v - qA u v * qN x y) (qB x y * qN u v - qB u v * qN x y) (qN x y * qN u v) = qA (x - u) (y - v) ∧ lB (qA x y * qN u v - qA u v * qN x y) (qB x y * qN u v - qB u v * qN x y) (qN x y * qN u v) = qB (x - u) (y - v) ∧ lN (qA x y * qN u v - qA u v * qN x y) (qB x y * qN u v - qB u v * qN x y) (qN x y * qN u v) = qN (x - u) (y - v) := by
  have h1 := qN_pos x y
  have h2 := qN_pos u v
  have v1 := q_val x y
  have v2 := q_val u v
  have n1 := qN_ne x y
  have n2 := qN_ne u v
  have e := q_of (a := qA x y * qN u v - qA u v * qN x y) (b := qB x y * qN u v - qB u v * qN x y) (n := qN x y * qN u v) (Int.mul_ne_zero (by omega) (by omega))
  have e1 : ((qA x y * qN u v - qA u v * qN x y : Int) : Rat) / ((qN x y * qN u v : Int) : Rat) = x - u := by
    simp only [Rat.intCast_mul, Rat.intCast_sub]; rw [v1.1, v2.1]; grind
  have e2 : ((qB x y * qN u v - qB u v * qN x y : Int) : Rat) / ((qN x y * qN u v : Int) : Rat) = y - v := by
    simp only [Rat.intCast_mul, Rat.intCast_sub]; rw [v1.2, v2.2]; grind
  rw [e1, e2] at e
  exact e
theorem add_ln (x y u v : Rat) : lA (qA x y * qN u v + qA u v * qN x y) (qB x y * qN u v + qB u v * qN x y) (qN x y * qN u v) = qA (x + u) (y + v) ∧ lB (qA x y * qN u v + qA u v * qN x y) (qB x y * qN u v + qB u v * qN x y) (qN x y * qN u v) = qB (x + u) (y + v) ∧ lN (qA x y * qN u v + qA u v * qN x y) (qB x y * qN u v + qB u v * qN x y) (qN x y * qN u v) = qN (x + u) (y + v) := by
  have h1 := qN_pos x y
  have h2 := qN_pos u v
  have v1 := q_val x y
  have v2 := q_val u v
  have n1 := qN_ne x y
  have n2 := qN_ne u v
  have e := q_of (a := qA x y * qN u v + qA u v * qN x y) (b := qB x y * qN u v + qB u v * qN x y) (n := qN x y * qN u v) (Int.mul_ne_zero (by omega) (by omega))
  have e1 : ((qA x y * qN u v + qA u v * qN x y : Int) : Rat) / ((qN x y * qN u v : Int) : Rat) = x + u := by
    simp only [Rat.intCast_mul, Rat.intCast_add]; rw [v1.1, v2.1]; grind
  have e2 : ((qB x y * qN u v + qB u v * qN x y : Int) : Rat) / ((qN x y * qN u v : Int) : Rat) = y + v := by
    simp only [Rat.intCast_mul, Rat.intCast_add]; rw [v1.2, v2.2]; grind
  rw [e1, e2] at e
  exact e
section
variable (x y u v : Rat) {n m n' m' : Nat} [BR x n m] [BR y n m] [BR u n' m'] [BR v n' m'] (h : m + m' ≤ 1900) (h1 : n ≤ 1900000) (h2 : n' ≤ 1900000)
include h h1 h2
end
/-! a base: its lengths' parts by N, positive, of the cross 1 or -1 -/
structure BaseOk (d N : Int) (k : Nat) (x y u v : Rat) : Prop where
  ex : ∃ X Y U V : Int, x = (X : Rat) / N ∧ y = (Y : Rat) / N ∧ u = (U : Rat) / N ∧ v = (V : Rat) / N ∧ X.natAbs < 2 ^ k ∧ Y.natAbs < 2 ^ k ∧ U.natAbs < 2 ^ k ∧ V.natAbs < 2 ^ k ∧ (X * V - Y * U = 1 ∨ X * V - Y * U = -1)
  p : PosQ d x y
  q : PosQ d u v
theorem BaseOk.br {d N : Int} {k : Nat} {x y u v : Rat} (h : BaseOk d N k x y u v) (hN : N ≠ 0) (bN : Bd N 40) : BR x k 40 ∧ BR y k 40 ∧ BR u k 40 ∧ BR v k 40 := by
  obtain ⟨X, Y, U, V, rfl, rfl, rfl, rfl, h1, h2, h3, h4, _⟩ := h.ex
  exact ⟨br_frac hN ⟨h1⟩ bN, br_frac hN ⟨h2⟩ bN, br_frac hN ⟨h3⟩ bN, br_frac hN ⟨h4⟩ bN⟩
theorem BaseOk.ne {d N : Int} {k : Nat} {x y u v : Rat} (h : BaseOk d N k x y u v) : ¬ (x - u = 0 ∧ y - v = 0) := by
  obtain ⟨X, Y, U, V, e1, e2, e3, e4, h1, h2, h3, h4, hc⟩ := h.ex
  rintro ⟨z1, z2⟩
  by_cases hN : (N : Rat) = 0
  · have : x = 0 := by rw [e1, hN]; grind
    have hy : y = 0 := by rw [e2, hN]; grind
    have hp := h.p
    rw [this, hy] at hp
    unfold PosQ at hp
    grind
  · have eX : X = U := by
      have : (X : Rat) = (U : Rat) := by grind
      exact_mod_cast this
    have eY : Y = V := by
      have : (Y : Rat) = (V : Rat) := by grind
      exact_mod_cast this
    subst eX eY
    have : X * Y - Y * X = 0 := by grind
    omega
theorem BaseOk.first {d N : Int} (hd : Root d) (hN : 0 < N) : BaseOk d N 1 0 (1 / (N : Rat)) (1 / (N : Rat)) 0 := by
  have hN' : (0 : Rat) < (N : Rat) := Rat.intCast_pos.mpr hN
  have hi := Rat.inv_pos.mpr hN'
  have h1 : (0 : Rat) < 1 / (N : Rat) := by rw [Rat.div_def]; grind
  have hD := hd.posQ
  refine ⟨⟨0, 1, 1, 0, ?_, ?_, ?_, ?_, by decide, by decide, by decide, by decide, .inr (by decide)⟩, ?_, ?_⟩
  · have : ((0 : Int) : Rat) = 0 := rfl
    rw [this]; grind
  · have : ((1 : Int) : Rat) = 1 := rfl
    rw [this]
  · have : ((1 : Int) : Rat) = 1 := rfl
    rw [this]
  · have : ((0 : Int) : Rat) = 0 := rfl
    rw [this]; grind
  · right
    have := Rat.mul_pos hD (Rat.mul_pos h1 h1)
    exact ⟨by grind, h1⟩
  · left
    have := Rat.mul_pos h1 h1
    exact ⟨by grind, h1⟩
/-! the defs of bases -/
theorem zero_div' (N : Int) : ((0 : Int) : Rat) / (N : Rat) = 0 := by
  have : ((0 : Int) : Rat) = 0 := rfl
  rw [this]; grind
theorem length_ln (a b n : Int) (hn : n ≠ 0) {k : Nat} [Bd n k] (hk : k ≤ 9000) : m_length [.int a, .int b, .int n] = .ok (lnD ((a : Rat) / n) ((b : Rat) / n)) := by
  have e := length_eq a b n hn hk
  have q := q_of (a := a) (b := b) hn
  rw [q.1, q.2.1, q.2.2] at e
  exact e
theorem BaseOk.det {d N : Int} {k : Nat} {x y u v : Rat} (hN : N ≠ 0) (h : BaseOk d N k x y u v) : x * v - y * u ≠ 0 := by
  obtain ⟨X, Y, U, V, e1, e2, e3, e4, _, _, _, _, hc⟩ := h.ex
  have hN' := ratne hN
  have e : (x * v - y * u) * N * N = ((X * V - Y * U : Int) : Rat) := by
    rw [e1, e2, e3, e4]
    simp only [Rat.intCast_mul, Rat.intCast_sub]
    grind
  intro z
  rw [z] at e
  have : ((X * V - Y * U : Int) : Rat) = 0 := by rw [← e]; grind
  have : X * V - Y * U = 0 := by exact_mod_cast this
  omega
/-- whole counts of what N divides -/
theorem BaseOk.whole {d N : Int} {k : Nat} {x y u v : Rat} (hN : N ≠ 0) (h : BaseOk d N k x y u v) (A B : Int) {l : Nat} (bA : Bd A l) (bB : Bd B l) : ∃ I J : Int, (A : Rat) / N = I * x + J * u ∧ (B : Rat) / N = I * y + J * v ∧ Bd I (l + k + 1) ∧ Bd J (l + k + 1) := by
  obtain ⟨X, Y, U, V, e1, e2, e3, e4, h1, h2, h3, h4, hc⟩ := h.ex
  have hN' := ratne hN
  have bX : Bd X k := ⟨h1⟩
  have bY : Bd Y k := ⟨h2⟩
  have bU : Bd U k := ⟨h3⟩
  have bV : Bd V k := ⟨h4⟩
  have bI : Bd (A * V - B * U) (l + k + 1) := Bd.mono inferInstance (by omega)
  have bJ : Bd (X * B - Y * A) (l + k + 1) := Bd.mono inferInstance (by omega)
  rcases hc with hc | hc
  · refine ⟨A * V - B * U, X * B - Y * A, ?_, ?_, bI, bJ⟩
    · have : A = (A * V - B * U) * X + (X * B - Y * A) * U := by
        have : (A * V - B * U) * X + (X * B - Y * A) * U = A * (X * V - Y * U) := by grind
        rw [this, hc]; omega
      rw [e1, e3]
      have c : (A : Rat) = (((A * V - B * U) * X + (X * B - Y * A) * U : Int) : Rat) := congrArg _ this
      rw [c]
      simp only [Rat.intCast_mul, Rat.intCast_sub, Rat.intCast_add]
      grind
    · have : B = (A * V - B * U) * Y + (X * B - Y * A) * V := by
        have : (A * V - B * U) * Y + (X * B - Y * A) * V = B * (X * V - Y * U) := by grind
        rw [this, hc]; omega
      rw [e2, e4]
      have c : (B : Rat) = (((A * V - B * U) * Y + (X * B - Y * A) * V : Int) : Rat) := congrArg _ this
      rw [c]
      simp only [Rat.intCast_mul, Rat.intCast_sub, Rat.intCast_add]
      grind
  · refine ⟨-(A * V - B * U), -(X * B - Y * A), ?_, ?_, bd_neg, bd_neg⟩
    · have : A = -(A * V - B * U) * X + -(X * B - Y * A) * U := by
        have : -(A * V - B * U) * X + -(X * B - Y * A) * U = -(A * (X * V - Y * U)) := by grind
        rw [this, hc]; omega
      rw [e1, e3]
      have c : (A : Rat) = ((-(A * V - B * U) * X + -(X * B - Y * A) * U : Int) : Rat) := congrArg _ this
      rw [c]
      simp only [Rat.intCast_mul, Rat.intCast_sub, Rat.intCast_add, Rat.intCast_neg]
      grind
    · have : B = -(A * V - B * U) * Y + -(X * B - Y * A) * V := by
        have : -(A * V - B * U) * Y + -(X * B - Y * A) * V = -(B * (X * V - Y * U)) := by grind
        rw [this, hc]; omega
      rw [e2, e4]
      have c : (B : Rat) = ((-(A * V - B * U) * Y + -(X * B - Y * A) * V : Int) : Rat) := congrArg _ this
      rw [c]
      simp only [Rat.intCast_mul, Rat.intCast_sub, Rat.intCast_add, Rat.intCast_neg]
      grind
end DL

set_option Elab.async false
set_option linter.all false
set_option maxRecDepth 100000
set_option maxHeartbeats 2000000
set_option autoImplicit false
/-! products, quotients, signs -/
namespace DL
open PySem L2 MB
theorem lz00 : (PyData.tuple [.int 0, .int 0, .int 1] : PD) = lnD 0 0 := by
  have q := q_self (a := 0) (b := 0) (n := 1) (by unfold Low; decide)
  have e : ((0 : Int) : Rat) / ((1 : Int) : Rat) = 0 := by
    have e0 : ((0 : Int) : Rat) = 0 := rfl
    rw [e0]
    grind
  rw [e] at q
  unfold lnD
  rw [q.1, q.2.1, q.2.2]
/-! the sign -/
theorem posQ_ne {d : Int} {x y : Rat} (h : PosQ d x y) : ¬ (x = 0 ∧ y = 0) := by
  rintro ⟨rfl, rfl⟩
  unfold PosQ at h
  grind
end DL

set_option Elab.async false
set_option linter.all false
set_option maxRecDepth 100000
set_option maxHeartbeats 2000000
set_option autoImplicit false
/-! squares -/
namespace DL
open PySem L2 MB
def cutF : Nat → Nat → Nat → List Nat
  | 0, _, _ => []
  | f + 1, w, h => if w = 0 ∨ h = 0 then [] else if h ≤ w then h :: cutF f (w - h) h else w :: cutF f w (h - w)
theorem cutF_l (f h : Nat) : cutF f 0 h = [] := by cases f with
  | zero => rfl
  | succ f => unfold cutF; rw [if_pos (.inl rfl)]
theorem cut_mem : ∀ (g w h u : Nat), u ∈ cutF g w h → u ≤ w + h
  | 0, w, h, u, hu => by simp [cutF] at hu
  | g + 1, w, h, u, hu => by
    rw [cutF] at hu
    by_cases z : w = 0 ∨ h = 0
    · rw [if_pos z] at hu; simp at hu
    · rw [if_neg z] at hu
      by_cases c : h ≤ w
      · rw [if_pos c] at hu
        rcases List.mem_cons.mp hu with rfl | hu
        · omega
        · have := cut_mem g _ _ u hu; omega
      · rw [if_neg c] at hu
        rcases List.mem_cons.mp hu with rfl | hu
        · omega
        · have := cut_mem g _ _ u hu; omega
abbrev nI (n : Nat) : PD := .int (n : Int)
theorem gMin_l {i j : Int} (h : i ≤ j) : gMin [.int i, .int j] = .ok (.int i) := by
  show R.ok (PyData.int (if j < i then j else i)) = _
  rw [if_neg (by omega)]
theorem gMin_r {i j : Int} (h : j ≤ i) : gMin [.int i, .int j] = .ok (.int j) := by
  show R.ok (PyData.int (if j < i then j else i)) = _
  by_cases c : j < i
  · rw [if_pos c]
  · rw [if_neg c]
    have : i = j := by omega
    rw [this]
end DL

set_option Elab.async false
set_option linter.all false
set_option maxRecDepth 100000
set_option maxHeartbeats 1000000
set_option autoImplicit false
/-! texts -/
namespace DL
open PySem L2 MB
@[reducible] def St (l : List Nat) : Str := ⟨l.toArray⟩
def Tn (n : Nat) : List Nat := (Nat.toDigits 10 n).map Char.toNat
theorem dig_nat : ∀ n : Nat, n < 10 → (Nat.digitChar n).toNat = 48 + n := by decide
theorem Tn_small {n : Nat} (h : n < 10) : Tn n = [48 + n] := by
  unfold Tn
  rw [Nat.toDigits_of_lt_base h]
  simp only [List.map_cons, List.map_nil, dig_nat n h]
theorem Tn_big {n : Nat} (h : 10 ≤ n) : Tn n = Tn (n / 10) ++ [48 + n % 10] := by
  unfold Tn
  rw [Nat.toDigits_of_base_le (by decide) h, List.map_append]
  simp only [List.map_cons, List.map_nil, dig_nat (n % 10) (Nat.mod_lt _ (by decide))]
theorem Tn_len : ∀ (k n : Nat), n < 10 ^ (k + 1) → (Tn n).length ≤ k + 1
  | 0, n, h => by rw [Tn_small (by simpa using h)]; simp
  | k + 1, n, h => by
    by_cases h1 : n < 10
    · rw [Tn_small h1]; simp
    · rw [Tn_big (by omega), List.length_append]
      have := Tn_len k (n / 10) (by rw [Nat.pow_succ] at h; omega)
      simp
      omega
def Ti (i : Int) : List Nat := (if i < 0 then [45] else []) ++ Tn i.natAbs
theorem str_int (i : Int) : Str.ofString (toString i) = St (Ti i) := by
  rw [Str.ofString_eq_toList]
  unfold St Ti Tn
  cases i with
  | ofNat n =>
    have h : ¬ (Int.ofNat n < 0) := by simp
    rw [if_neg h]
    have e : toString (Int.ofNat n) = String.ofList (Nat.toDigits 10 n) := rfl
    rw [e, String.toList_ofList]
    rfl
  | negSucc n =>
    have h : Int.negSucc n < 0 := Int.negSucc_lt_zero n
    rw [if_pos h]
    have e : toString (Int.negSucc n) = "-" ++ String.ofList (Nat.toDigits 10 (n + 1)) := rfl
    rw [e, String.toList_append, String.toList_ofList, String.toList_ofList]
    rfl
theorem gStr_i {i : Int} (h : i.natAbs.log2 < 1920) : gStr [.int i] = .ok (.str (St (Ti i))) := by
  unfold gStr
  simp only [h, if_true, str_int]
theorem log_lt {n k : Nat} (h : n < 2 ^ k) (hk : 0 < k) : n.log2 < k := by
  by_cases h0 : n = 0
  · subst h0; simpa using hk
  · exact (Nat.log2_lt h0).mpr h
theorem gAdd_st {a b : List Nat} (h : a.length + b.length ≤ 16777216) : gAdd (.str (St a)) (.str (St b)) = .ok (.str (St (a ++ b))) := by
  have e1 : (St a).length + (St b).length ≤ 16777216 := h
  have e2 : (St a).append (St b) = St (a ++ b) := by
    unfold St Str.append
    simp
  show (if (St a).length + (St b).length ≤ 16777216 then R.ok (PyData.str ((St a).append (St b))) else R.no) = _
  rw [if_pos e1, e2]
theorem digs : ("0123456789" : Str) = St [48, 49, 50, 51, 52, 53, 54, 55, 56, 57] := by decide
theorem st_nil : ("" : Str) = St [] := by decide
theorem st_minus : ("-" : Str) = St [45] := by decide
theorem st_slash : ("/" : Str) = St [47] := by decide
end DL

set_option Elab.async false
set_option linter.all false
set_option maxRecDepth 100000
set_option maxHeartbeats 1000000
set_option autoImplicit false
namespace DL
open PySem L2 MB
theorem law_divisor_v2_loop : ∀ (k : Nat) (a b : Int), 0 ≤ b → 0 ≤ a → b.natAbs ≤ k → sWhile lt1_law_divisor_v2 lb1_law_divisor_v2 [some (.d (.int a)), some (.d (.int b))] = .nx [some (.d (.int (Int.gcd a b : Int))), some (.d (.int 0))] := by
  intro k
  induction k with
  | zero =>
    intro a b h0 ha h
    have hb : b = 0 := by omega
    subst hb
    rw [ev_while]
    have : (a.natAbs : Int) = a := by omega
    simp +decide only [lt1_law_divisor_v2, zEV9, Int.gcd_zero, this]
  | succ k ih =>
    intro a b h0 ha h
    by_cases hb : b = 0
    · subst hb
      rw [ev_while]
      have : (a.natAbs : Int) = a := by omega
      simp +decide only [lt1_law_divisor_v2, zEV9, Int.gcd_zero, this]
    · have e := ih b (a.fmod b) (Int.fmod_nonneg_of_pos a (by omega)) h0 (by
        have h1 := natAbs_fmod_lt a hb
        omega)
      rw [ev_while]
      have hp : 0 < b := by omega
      have e1 : a = b * a.fdiv b + a.fmod b := (Int.mul_fdiv_add_fmod a b).symm
      have e2 : Int.gcd b (b * a.fdiv b + a.fmod b) = Int.gcd b (a.fmod b) := Int.gcd_mul_left_add_right _ _ _
      rw [← e1] at e2
      rw [Int.gcd_comm a b, e2]
      rw [Int.fmod_eq_emod_of_nonneg _ h0] at e ⊢
      simp +decide only [lt1_law_divisor_v2, lb1_law_divisor_v2, zEV9, hb, hp]
      exact e
theorem law_divisor_v2_eq (a b : Int) (ha : 0 ≤ a) (hb : 0 ≤ b) : m_law_divisor_v2 [.int a, .int b] = .ok (.int (Int.gcd a b : Int)) := by
  have e := law_divisor_v2_loop _ a b hb ha (Nat.le_refl _)
  simp +decide only [m_law_divisor_v2, den_law_divisor_v2, zEV9, e]
theorem law_mixed_ok (c k : Int) [bk : Bd k 40] : ∃ z : Int, m_law_mixed [.int c, .int k] = .ok (.int z) ∧ 0 ≤ z ∧ Bd z 31 := by
  refine ⟨(c % 2147483647 + 11) * (48271 + 2 * k * k) % 2147483629, ?_, Int.emod_nonneg _ (by decide), (bd_emod : Bd _ _).mono (by decide)⟩
  simp +decide only [m_law_mixed, den_law_mixed, zEV9]
theorem low2 (a b : Int) (hb : 0 < b) : ∃ g : Int, (Int.gcd a b : Int) = g ∧ 0 < g ∧ (∃ q : Int, 1 ≤ q ∧ b / g = q ∧ b = q * g) ∧ (∃ p : Int, a / g = p ∧ a = p * g) := by
  have d1 : (Int.gcd a b : Int) ∣ b := Int.gcd_dvd_right ..
  have d2 : (Int.gcd a b : Int) ∣ a := Int.gcd_dvd_left ..
  have h0 : 0 < (Int.gcd a b : Int) := by
    have : Int.gcd a b ≠ 0 := fun e => by have := (Int.gcd_eq_zero_iff.mp e).2; omega
    omega
  obtain ⟨q, hq⟩ := d1
  obtain ⟨p, hp⟩ := d2
  generalize (Int.gcd a b : Int) = g at *
  refine ⟨g, rfl, h0, ⟨q, ?_, ?_, by rw [hq]; exact Int.mul_comm ..⟩, ⟨p, ?_, by rw [hp]; exact Int.mul_comm ..⟩⟩
  · rcases Int.lt_or_le 0 q with w | w
    · omega
    · have := Int.mul_nonneg_of_nonpos_of_nonpos (a := -g) (b := q) (by omega) w
      have e : -g * q = -(g * q) := by grind
      omega
  · rw [hq]; exact Int.mul_ediv_cancel_left _ (by omega)
  · rw [hp]; exact Int.mul_ediv_cancel_left _ (by omega)
theorem pow12 : (10 : Int) ^ (12 : Nat) = 1000000000000 := by decide
theorem pow18 : (10 : Int) ^ (18 : Nat) = 1000000000000000000 := by decide
theorem bot_ok (j : Int) (h0 : 0 ≤ j) (h1 : j < 7) : ∃ b : Int, gIx (.list [.int 1, .int 1, .int 2, .int 3, .int 4, .int 6, .int 12]) (.int j) = .ok (.int b) ∧ 1 ≤ b ∧ b ≤ 12 := by
  have c : j = 0 ∨ j = 1 ∨ j = 2 ∨ j = 3 ∨ j = 4 ∨ j = 5 ∨ j = 6 := by omega
  rcases c with rfl | rfl | rfl | rfl | rfl | rfl | rfl
  · exact ⟨1, rfl, by decide⟩
  · exact ⟨1, rfl, by decide⟩
  · exact ⟨2, rfl, by decide⟩
  · exact ⟨3, rfl, by decide⟩
  · exact ⟨4, rfl, by decide⟩
  · exact ⟨6, rfl, by decide⟩
  · exact ⟨12, rfl, by decide⟩
/-- a drawn fraction -/
theorem law_fraction_v2_ok (n : Int) (h0 : 0 ≤ n) [bn : Bd n 31] (great : Bool) : ∃ p q : Int, m_law_fraction_v2 [.int n, .bool great] = .ok (.tuple [.int p, .int q]) ∧ LowF p q ∧ p.natAbs < 10 ^ 33 ∧ q.natAbs < 10 ^ 33 ∧ (great = false → p.natAbs ≤ 20 ∧ q ≤ 12) := by
  have t : (2 : Nat) ^ 31 = 2147483648 := by decide
  have hn := bn.h
  have fin : ∀ a b : Int, 0 < b → ∃ g : Int, (Int.gcd (a.natAbs : Int) b : Int) = g ∧ 0 < g ∧ LowF (a / g) (b / g) ∧ (a / g).natAbs ≤ a.natAbs ∧ b / g ≤ b := by
    intro a b hb
    have e0 : Int.gcd (a.natAbs : Int) b = Int.gcd a b := by simp [Int.gcd]
    obtain ⟨g, e1, e2, ⟨q, q1, q2, q3⟩, ⟨p, p1, p2⟩⟩ := low2 a b hb
    refine ⟨g, by rw [e0, e1], e2, ?_, ?_, ?_⟩
    · rw [q2, p1]
      refine ⟨by omega, ?_⟩
      have h := e1
      rw [p2, q3, Int.gcd_mul_right] at h
      have h2 : (Int.gcd p q : Int) * (g.natAbs : Int) = g := by exact_mod_cast h
      have h3 : (g.natAbs : Int) = g := by omega
      rw [h3] at h2
      have : (Int.gcd p q : Int) = 1 := by
        have : ((Int.gcd p q : Int) - 1) * g = 0 := by rw [Int.sub_mul, h2]; omega
        rcases Int.mul_eq_zero.mp this with w | w <;> omega
      omega
    · rw [p1]
      have : p.natAbs ≤ (p * g).natAbs := by
        rw [Int.natAbs_mul]
        exact Nat.le_mul_of_pos_right _ (by omega)
      rw [← p2] at this
      exact this
    · rw [q2]
      have : q * 1 ≤ q * g := Int.mul_le_mul_of_nonneg_left (by omega) (by omega)
      omega
  obtain ⟨b, eb, hb1, hb2⟩ := bot_ok (n % 7) (by omega) (by omega)
  cases great with
  | false =>
    obtain ⟨g, e1, e2, e3, e4, e5⟩ := fin (n / 7 % 41 - 20) b (by omega)
    have ed := law_divisor_v2_eq ((n / 7 % 41 - 20).natAbs : Int) b (by omega) (by omega)
    rw [e1] at ed
    have bg : Bd g 10 := ⟨by
      have : g ≤ b := by
        have : (Int.gcd ((n / 7 % 41 - 20).natAbs : Int) b : Int) ∣ b := Int.gcd_dvd_right ..
        rw [e1] at this
        exact Int.le_of_dvd (by omega) this
      have : (2 : Nat) ^ 10 = 1024 := by decide
      omega⟩
    have h33 : (10 : Nat) ^ 33 = 1000000000000000000000000000000000 := by decide
    refine ⟨_, _, ?_, e3, by omega, by have := e3.1; omega, fun _ => ⟨by omega, by omega⟩⟩
    simp +decide only [m_law_fraction_v2, den_law_fraction_v2, zEV9, eb, ed, e2]
  | true =>
    by_cases hc : n / 287 % 3 = 0
    · have tp : ((n * 465661287 - 1000000000000000000) * (1000000000000 + n % 7919)).natAbs < 10 ^ 33 := by
        rw [Int.natAbs_mul]
        have h1 : (n * 465661287 - 1000000000000000000).natAbs < 10 ^ 19 := by
          have : (10 : Nat) ^ 19 = 10000000000000000000 := by decide
          omega
        have h2 : (1000000000000 + n % 7919).natAbs < 10 ^ 13 := by
          have : (10 : Nat) ^ 13 = 10000000000000 := by decide
          omega
        have := Nat.mul_le_mul (Nat.le_of_lt h1) (Nat.le_of_lt h2)
        have e : (10 : Nat) ^ 19 * 10 ^ 13 < 10 ^ 33 := by decide
        omega
      have bt : (0 : Int) < 1 + n * 69621 % 1000000000000 := by omega
      obtain ⟨g, e1, e2, e3, e4, e5⟩ := fin ((n * 465661287 - 1000000000000000000) * (1000000000000 + n % 7919)) (1 + n * 69621 % 1000000000000) bt
      have ed := law_divisor_v2_eq (((n * 465661287 - 1000000000000000000) * (1000000000000 + n % 7919)).natAbs : Int) (1 + n * 69621 % 1000000000000) (by omega) (by omega)
      have hg : g ≤ 1 + n * 69621 % 1000000000000 := by
        have : (Int.gcd (((n * 465661287 - 1000000000000000000) * (1000000000000 + n % 7919)).natAbs : Int) (1 + n * 69621 % 1000000000000) : Int) ∣ 1 + n * 69621 % 1000000000000 := Int.gcd_dvd_right ..
        rw [e1] at this
        exact Int.le_of_dvd bt this
      rw [e1] at ed
      have bg : Bd g 41 := ⟨by
        have : (2 : Nat) ^ 41 = 2199023255552 := by decide
        omega⟩
      have h33 : (10 : Nat) ^ 33 = 1000000000000000000000000000000000 := by decide
      refine ⟨_, _, ?_, e3, by omega, by have := e3.1; omega, fun h => absurd h (by decide)⟩
      simp +decide only [m_law_fraction_v2, den_law_fraction_v2, zEV9, eb, hc, pow12, pow18, ed, e2]
    · obtain ⟨g, e1, e2, e3, e4, e5⟩ := fin (n / 7 % 41 - 20) b (by omega)
      have ed := law_divisor_v2_eq ((n / 7 % 41 - 20).natAbs : Int) b (by omega) (by omega)
      rw [e1] at ed
      have bg : Bd g 10 := ⟨by
        have : g ≤ b := by
          have : (Int.gcd ((n / 7 % 41 - 20).natAbs : Int) b : Int) ∣ b := Int.gcd_dvd_right ..
          rw [e1] at this
          exact Int.le_of_dvd (by omega) this
        have : (2 : Nat) ^ 10 = 1024 := by decide
        omega⟩
      have h33 : (10 : Nat) ^ 33 = 1000000000000000000000000000000000 := by decide
      refine ⟨_, _, ?_, e3, by omega, by have := e3.1; omega, fun h => absurd h (by decide)⟩
      simp +decide only [m_law_fraction_v2, den_law_fraction_v2, zEV9, eb, hc, ed, e2]
def Tf (p q : Int) : List Nat := if q = 1 then Ti p else Ti p ++ [47] ++ Ti q
theorem Ti_len {i : Int} (h : i.natAbs < 10 ^ 33) : (Ti i).length ≤ 40 := by
  unfold Ti
  rw [List.length_append]
  have := Tn_len 32 i.natAbs h
  split <;> simp <;> omega
theorem log33 {i : Int} (h : i.natAbs < 10 ^ 33) : i.natAbs.log2 < 1920 := by
  refine log_lt (Nat.lt_of_lt_of_le h ?_) (by decide)
  exact Nat.le_trans (show 10 ^ 33 ≤ 2 ^ 110 by decide) (Nat.pow_le_pow_right (by decide) (by decide))
end DL

set_option Elab.async false
set_option linter.all false
set_option maxRecDepth 100000
set_option maxHeartbeats 2000000
set_option autoImplicit false
namespace DL
open PySem L2 MB
theorem fr_low {P Q : Int} (h : LowF P Q) : frD ((P : Rat) / (Q : Rat)) = .tuple [.int P, .int Q] := by
  have e := rat_of_lowF h
  unfold frD
  rw [e.1, e.2]
theorem law_cell_any (ns : List Int) : ∃ c : Int, m_law_cell [.list (ns.map PyData.int), .int 0] = .ok (.int c) := by
  have hl : gLen [.list (ns.map PyData.int)] = .ok (.int (ns.length : Int)) := by rw [len_l, List.length_map]
  by_cases h : (0 : Int) < (ns.length : Int)
  · have e := ix_ints (zs := ns) (k := 0) (by decide) h
    refine ⟨ns.getD (0 : Int).toNat 0, ?_⟩
    simp +decide only [m_law_cell, den_law_cell, zEV9, hl, h, e]
  · refine ⟨0, ?_⟩
    simp +decide only [m_law_cell, den_law_cell, zEV9, hl, h]
theorem roots98 : ∀ n : Fin 98, ((([4, 9, 16, 25, 36, 49, 64, 81] : List Int).any fun y => y == 2 + (n.val : Int)) = true ∧ 2 + (n.val : Int) + 1 ∈ rootsL) ∨ ((([4, 9, 16, 25, 36, 49, 64, 81] : List Int).any fun y => y == 2 + (n.val : Int)) = false ∧ 2 + (n.val : Int) ∈ rootsL) := by decide
section
variable (d : Int) (hd : Root d) [bd : Bd d 7] (x y : Rat) [bx : BR x 5 4] [by' : BR y 5 4] (hz : ¬ (x = 0 ∧ y = 0)) (w h : Nat) (hw : 0 < w) (hh : 0 < h) (hg : Int.gcd (w : Int) (h : Int) = 1) (hs : w + h ≤ 401)
include hd bd bx by' hz hw hh hg hs
end
def sqOf (x y H : Rat) : PD → PD
  | .int c => lnD (x / H * (c : Rat)) (y / H * (c : Rat))
  | v => v
def dup (v : PD) : PD := .tuple [v, v]
section
variable (d : Int) (hd : Root d) [bd : Bd d 7] (x y : Rat) [bx : BR x 5 4] [by' : BR y 5 4] (hz : ¬ (x = 0 ∧ y = 0)) (w h : Nat) (hw : 0 < w) (hh : 0 < h) (hg : Int.gcd (w : Int) (h : Int) = 1) (hs : w + h ≤ 401)
include hd bd bx by' hz hw hh hg hs
end
theorem r2_z (i z : Int) (h0 : -4611686018427387904 ≤ i) (h1 : i < 4611686018427387904) (h2 : -4611686018427387904 ≤ z) (h3 : z < 4611686018427387904) : gR2 [.int i, .int z] = .ok (rng i (z - i).toNat) := by
  unfold gR2
  have c : -(2 ^ 62) ≤ i ∧ i < 2 ^ 62 ∧ -(2 ^ 62) ≤ z ∧ z < 2 ^ 62 := ⟨by omega, by omega, by omega, by omega⟩
  exact if_pos c
end DL

set_option Elab.async false
set_option linter.all false
set_option maxRecDepth 100000
set_option maxHeartbeats 2000000
set_option autoImplicit false
namespace DL
open PySem L2 MB
end DL

set_option Elab.async false
set_option linter.all false
set_option maxRecDepth 100000
set_option maxHeartbeats 1000000
set_option autoImplicit false
/-! lengths by the bits of their three numbers -/
namespace DL
open PySem L2 MB
class BL (x y : Rat) (n m : outParam Nat) : Prop where
  a : Bd (qA x y) n
  b : Bd (qB x y) n
  c : Bd (qN x y) m
theorem BL.mono {x y : Rat} {n m n' m' : Nat} (h : BL x y n m) (h1 : n ≤ n') (h2 : m ≤ m') : BL x y n' m' := ⟨h.a.mono h1, h.b.mono h1, h.c.mono h2⟩
/-- parts over one bottom -/
theorem bl_of {a b t : Int} (ht : t ≠ 0) {n m : Nat} (ha : Bd a n) (hb : Bd b n) (hc : Bd t m) : BL ((a : Rat) / t) ((b : Rat) / t) n m := by
  have q := q_of (a := a) (b := b) ht
  refine ⟨?_, ?_, ?_⟩
  · rw [← q.1]; exact bd_lA
  · rw [← q.2.1]; exact bd_lB
  · rw [← q.2.2]; exact bd_lN
section
variable (x y u v : Rat) {n m n' m' : Nat} [i : BL x y n m] [j : BL u v n' m']
theorem added_bl (h : m + m' ≤ 3900) (h1 : n ≤ 3900000) (h2 : n' ≤ 3900000) : m_added [lnD x y, lnD u v] = .ok (lnD (x + u) (y + v)) ∧ BL (x + u) (y + v) (n + m' + (n' + m) + 1) (m + m') := by
  have b1 := i.a; have b2 := i.b; have b3 := i.c; have b4 := j.a; have b5 := j.b; have b6 := j.c
  have p1 := qN_pos x y
  have p2 := qN_pos u v
  have hn : qN x y * qN u v ≠ 0 := Int.mul_ne_zero (by omega) (by omega)
  have e := added_eq (qA x y) (qB x y) (qN x y) (qA u v) (qB u v) (qN u v) hn (by omega) (by omega) (by omega) (by omega) (by omega) (by omega)
  have s := add_ln x y u v
  have c1 : Bd (qA x y * qN u v + qA u v * qN x y) (n + m' + (n' + m) + 1) := Bd.mono inferInstance (by omega)
  have c2 : Bd (qB x y * qN u v + qB u v * qN x y) (n + m' + (n' + m) + 1) := Bd.mono inferInstance (by omega)
  have c3 : Bd (qN x y * qN u v) (m + m') := inferInstance
  refine ⟨?_, ?_, ?_, ?_⟩
  · rw [s.1, s.2.1, s.2.2] at e
    exact e
  · rw [← s.1]; exact bd_lA
  · rw [← s.2.1]; exact bd_lB
  · rw [← s.2.2]; exact bd_lN
theorem taken_bl (h : m + m' ≤ 3900) (h1 : n ≤ 3900000) (h2 : n' ≤ 3900000) : m_taken [lnD x y, lnD u v] = .ok (lnD (x - u) (y - v)) ∧ BL (x - u) (y - v) (n + m' + (n' + m) + 1) (m + m') := by
  have b1 := i.a; have b2 := i.b; have b3 := i.c; have b4 := j.a; have b5 := j.b; have b6 := j.c
  have p1 := qN_pos x y
  have p2 := qN_pos u v
  have hn : qN x y * qN u v ≠ 0 := Int.mul_ne_zero (by omega) (by omega)
  have e := taken_eq (qA x y) (qB x y) (qN x y) (qA u v) (qB u v) (qN u v) hn (by omega) (by omega) (by omega) (by omega) (by omega) (by omega)
  have s := sub_ln x y u v
  have c1 : Bd (qA x y * qN u v - qA u v * qN x y) (n + m' + (n' + m) + 1) := Bd.mono inferInstance (by omega)
  have c2 : Bd (qB x y * qN u v - qB u v * qN x y) (n + m' + (n' + m) + 1) := Bd.mono inferInstance (by omega)
  have c3 : Bd (qN x y * qN u v) (m + m') := inferInstance
  refine ⟨?_, ?_, ?_, ?_⟩
  · rw [s.1, s.2.1, s.2.2] at e
    exact e
  · rw [← s.1]; exact bd_lA
  · rw [← s.2.1]; exact bd_lB
  · rw [← s.2.2]; exact bd_lN
theorem under_bl (h : m ≤ 3900) (h' : m' ≤ 3900) (h1 : n ≤ 4400) (h2 : n' ≤ 4400) (d : Int) (hd : Root d) [Bd d 7] : ∃ b : Bool, m_under [.int d, lnD x y, lnD u v] = .ok (.bool b) ∧ (b = true ↔ PosQ d (u - x) (v - y)) := by
  have b1 := i.a; have b2 := i.b; have b3 := i.c; have b4 := j.a; have b5 := j.b; have b6 := j.c
  have p1 := qN_pos x y
  have p2 := qN_pos u v
  have e := under_eq d (qA x y) (qB x y) (qN x y) (qA u v) (qB u v) (qN u v) hd.pos p1 p2 h1 h1 h h2 h2 h'
  refine ⟨_, e, ?_⟩
  rw [decide_eq_true_iff, cross_lt hd]
theorem times_val (d : Int) : ((qA x y * qA u v + d * qB x y * qB u v : Int) : Rat) / ((qN x y * qN u v : Int) : Rat) = x * u + d * y * v ∧ ((qA x y * qB u v + qB x y * qA u v : Int) : Rat) / ((qN x y * qN u v : Int) : Rat) = x * v + y * u := by
  have v1 := q_val x y
  have v2 := q_val u v
  have n1 := qN_ne x y
  have n2 := qN_ne u v
  constructor
  · simp only [Rat.intCast_mul, Rat.intCast_add]; rw [v1.1, v1.2, v2.1, v2.2]; grind
  · simp only [Rat.intCast_mul, Rat.intCast_add]; rw [v1.1, v1.2, v2.1, v2.2]; grind
theorem timed_bl (d : Int) [Bd d 7] (h : m + m' ≤ 9000) (h1 : n ≤ 1000000) (h2 : n' ≤ 1000000) : m_timed [.int d, lnD x y, lnD u v] = .ok (lnD (x * u + d * y * v) (x * v + y * u)) ∧ BL (x * u + d * y * v) (x * v + y * u) (n + n' + 8) (m + m') := by
  have b1 := i.a; have b2 := i.b; have b3 := i.c; have b4 := j.a; have b5 := j.b; have b6 := j.c
  have p1 := qN_pos x y
  have p2 := qN_pos u v
  have hne : qN x y * qN u v ≠ 0 := Int.mul_ne_zero (by omega) (by omega)
  have e := lowest_eq (qA x y * qA u v + d * qB x y * qB u v) (qA x y * qB u v + qB x y * qA u v) (qN x y * qN u v) hne (show m + m' ≤ 9000 by omega)
  have q := q_of (a := qA x y * qA u v + d * qB x y * qB u v) (b := qA x y * qB u v + qB x y * qA u v) hne
  have t := times_val x y u v d
  rw [t.1, t.2] at q
  rw [q.1, q.2.1, q.2.2] at e
  have i1 : n + n' ≤ 134217728 := by omega
  have i2 : 7 + n ≤ 134217728 := by omega
  have i3 : 7 + n + n' ≤ 134217728 := by omega
  have i4 : m + m' ≤ 134217728 := by omega
  refine ⟨by simp +decide only [m_timed, den_timed, zEV9, i1, i2, i3, i4, e], ?_⟩
  have c1 : Bd (qA x y * qA u v + d * qB x y * qB u v) (n + n' + 8) := Bd.mono inferInstance (show max (n + n') (7 + n + n') + 1 ≤ n + n' + 8 by omega)
  have c2 : Bd (qA x y * qB u v + qB x y * qA u v) (n + n' + 8) := Bd.mono inferInstance (show max (n + n') (n + n') + 1 ≤ n + n' + 8 by omega)
  have c3 : Bd (qN x y * qN u v) (m + m') := inferInstance
  have z := bl_of hne c1 c2 c3
  rw [t.1, t.2] at z
  exact z
theorem inv_bl (d : Int) (hd : Root d) [Bd d 7] (hz : ¬ (u = 0 ∧ v = 0)) : u * u - d * v * v ≠ 0 ∧ qA u v * qA u v - d * qB u v * qB u v ≠ 0 ∧
    ((qA u v * qN u v : Int) : Rat) / ((qA u v * qA u v - d * qB u v * qB u v : Int) : Rat) = u / (u * u - d * v * v) ∧ ((0 - qB u v * qN u v : Int) : Rat) / ((qA u v * qA u v - d * qB u v * qB u v : Int) : Rat) = -v / (u * u - d * v * v) ∧
    BL (u / (u * u - d * v * v)) (-v / (u * u - d * v * v)) (n' + m') (2 * n' + 8) := by
  have b4 := j.a; have b5 := j.b; have b6 := j.c
  have v2 := q_val u v
  have n2 := qN_ne u v
  have hW : u * u - d * v * v ≠ 0 := fun z => by
    have hv := irrQ hd (x := u) (y := v) (by grind)
    rw [hv] at z
    have : u * u = 0 := by grind
    rcases Rat.mul_eq_zero.mp this with w | w <;> exact hz ⟨w, hv⟩
  have hU : qA u v * qA u v - d * qB u v * qB u v ≠ 0 := fun z => by
    have c : ((qA u v * qA u v - d * qB u v * qB u v : Int) : Rat) = 0 := by rw [z]; rfl
    simp only [Rat.intCast_mul, Rat.intCast_sub] at c
    rw [v2.1, v2.2] at c
    have c2 : (u * u - d * v * v) * (((qN u v : Int) : Rat) * ((qN u v : Int) : Rat)) = 0 := by grind
    rcases Rat.mul_eq_zero.mp c2 with w | w
    · exact hW w
    · rcases Rat.mul_eq_zero.mp w with w | w <;> exact n2 w
  have bz : Bd (0 - qB u v * qN u v) (n' + m') := by rw [Int.zero_sub]; exact Bd.mono (show Bd (-(qB u v * qN u v)) (n' + m') from inferInstance) (Nat.le_refl _)
  have bU : Bd (qA u v * qA u v - d * qB u v * qB u v) (2 * n' + 8) := Bd.mono inferInstance (show max (n' + n') (7 + n' + n') + 1 ≤ 2 * n' + 8 by omega)
  have ba : Bd (qA u v * qN u v) (n' + m') := inferInstance
  have e1 : ((qA u v * qN u v : Int) : Rat) / ((qA u v * qA u v - d * qB u v * qB u v : Int) : Rat) = u / (u * u - d * v * v) := by
    simp only [Rat.intCast_mul, Rat.intCast_sub]; rw [v2.1, v2.2]
    have : u * ((qN u v : Int) : Rat) * (u * ((qN u v : Int) : Rat)) - d * (v * ((qN u v : Int) : Rat)) * (v * ((qN u v : Int) : Rat)) = (u * u - d * v * v) * ((qN u v : Int) : Rat) * ((qN u v : Int) : Rat) := by grind
    rw [this]; grind
  have e2 : ((0 - qB u v * qN u v : Int) : Rat) / ((qA u v * qA u v - d * qB u v * qB u v : Int) : Rat) = -v / (u * u - d * v * v) := by
    rw [Int.zero_sub]
    simp only [Rat.intCast_mul, Rat.intCast_sub, Rat.intCast_neg]; rw [v2.1, v2.2]
    have : u * ((qN u v : Int) : Rat) * (u * ((qN u v : Int) : Rat)) - d * (v * ((qN u v : Int) : Rat)) * (v * ((qN u v : Int) : Rat)) = (u * u - d * v * v) * ((qN u v : Int) : Rat) * ((qN u v : Int) : Rat) := by grind
    rw [this]; grind
  have z := bl_of hU ba bz bU
  rw [e1, e2] at z
  exact ⟨hW, hU, e1, e2, z⟩
theorem parted_bl (d : Int) (hd : Root d) [Bd d 7] (hz : ¬ (u = 0 ∧ v = 0)) (h : m + (2 * n' + 8) ≤ 9000) (h1 : n ≤ 1000000) (h2 : m' ≤ 900000) :
    m_parted [.int d, lnD x y, lnD u v] = .ok (lnD (x * (u / (u * u - d * v * v)) + d * y * (-v / (u * u - d * v * v))) (x * (-v / (u * u - d * v * v)) + y * (u / (u * u - d * v * v)))) ∧ u * u - d * v * v ≠ 0 ∧
    BL (x * (u / (u * u - d * v * v)) + d * y * (-v / (u * u - d * v * v))) (x * (-v / (u * u - d * v * v)) + y * (u / (u * u - d * v * v))) (n + (n' + m') + 8) (m + (2 * n' + 8)) := by
  obtain ⟨hW, hU, e1, e2, z⟩ := inv_bl u v d hd hz
  have b4 := j.a; have b5 := j.b; have b6 := j.c
  have bU : Bd (qA u v * qA u v - d * qB u v * qB u v) (2 * n' + 8) := Bd.mono inferInstance (show max (n' + n') (7 + n' + n') + 1 ≤ 2 * n' + 8 by omega)
  have e := lowest_eq (qA u v * qN u v) (0 - qB u v * qN u v) (qA u v * qA u v - d * qB u v * qB u v) hU (show 2 * n' + 8 ≤ 9000 by omega)
  have q := q_of (a := qA u v * qN u v) (b := 0 - qB u v * qN u v) hU
  rw [e1, e2] at q
  rw [q.1, q.2.1, q.2.2] at e
  obtain ⟨t, tb⟩ := timed_bl x y (u / (u * u - d * v * v)) (-v / (u * u - d * v * v)) d h h1 (by omega)
  have i1 : n' + n' ≤ 134217728 := by omega
  have i2 : 7 + n' ≤ 134217728 := by omega
  have i3 : 7 + n' + n' ≤ 134217728 := by omega
  have i4 : n' + m' ≤ 134217728 := by omega
  have i5 : max (Nat.log2 0 + 1) (n' + m') + 1 ≤ 134217728 := by
    have : Nat.log2 0 = 0 := by decide
    omega
  exact ⟨by simp +decide only [m_parted, den_parted, zEV9, i1, i2, i3, i4, i5, hU, e, t], hW, tb⟩
end
end DL

set_option Elab.async false
set_option linter.all false
set_option maxRecDepth 100000
set_option maxHeartbeats 1000000
set_option autoImplicit false
/-! lengths over one bottom, boards -/
namespace DL
open PySem L2 MB
/-! ### lengths over one bottom -/
def Ov (D : Int) (n : Nat) (x y : Rat) : Prop := ∃ A B : Int, Bd A n ∧ Bd B n ∧ x = (A : Rat) / D ∧ y = (B : Rat) / D
theorem Ov.bl {D : Int} {n j : Nat} {x y : Rat} (hD : 0 < D) (bD : Bd D j) (h : Ov D n x y) : BL x y n j := by
  obtain ⟨A, B, h1, h2, rfl, rfl⟩ := h
  exact bl_of (by omega) h1 h2 bD
theorem Ov.mono {D : Int} {n n' : Nat} {x y : Rat} (h : Ov D n x y) (hn : n ≤ n') : Ov D n' x y := by
  obtain ⟨A, B, h1, h2, h3⟩ := h
  exact ⟨A, B, h1.mono hn, h2.mono hn, h3⟩
theorem rdiv_mul {A D k : Int} (hD : D ≠ 0) (hk : k ≠ 0) : (A : Rat) / D = ((A * k : Int) : Rat) / ((D * k : Int) : Rat) := by
  have h1 := ratne hD
  have h2 := ratne hk
  rw [Rat.intCast_mul, Rat.intCast_mul]
  grind
theorem Ov.scale {D k : Int} {n b : Nat} {x y : Rat} (hD : D ≠ 0) (hk : k ≠ 0) (bk : Bd k b) (h : Ov D n x y) : Ov (D * k) (n + b) x y := by
  obtain ⟨A, B, h1, h2, rfl, rfl⟩ := h
  exact ⟨A * k, B * k, inferInstance, inferInstance, rdiv_mul hD hk, rdiv_mul hD hk⟩
theorem Ov.add {D : Int} {n : Nat} {x y u v : Rat} (h : Ov D n x y) (g : Ov D n u v) : Ov D (n + 1) (x + u) (y + v) := by
  obtain ⟨A, B, h1, h2, rfl, rfl⟩ := h
  obtain ⟨A', B', g1, g2, rfl, rfl⟩ := g
  refine ⟨A + A', B + B', Bd.mono inferInstance (by omega), Bd.mono inferInstance (by omega), ?_, ?_⟩
  · rw [Rat.intCast_add]; grind
  · rw [Rat.intCast_add]; grind
theorem Ov.sub {D : Int} {n : Nat} {x y u v : Rat} (h : Ov D n x y) (g : Ov D n u v) : Ov D (n + 1) (x - u) (y - v) := by
  obtain ⟨A, B, h1, h2, rfl, rfl⟩ := h
  obtain ⟨A', B', g1, g2, rfl, rfl⟩ := g
  refine ⟨A - A', B - B', Bd.mono inferInstance (by omega), Bd.mono inferInstance (by omega), ?_, ?_⟩
  · rw [Rat.intCast_sub]; grind
  · rw [Rat.intCast_sub]; grind
theorem Ov.mul {D k : Int} {n b : Nat} {x y : Rat} (bk : Bd k b) (h : Ov D n x y) : Ov D (n + b) (x * k) (y * k) := by
  obtain ⟨A, B, h1, h2, rfl, rfl⟩ := h
  refine ⟨A * k, B * k, inferInstance, inferInstance, ?_, ?_⟩
  · rw [Rat.intCast_mul]; grind
  · rw [Rat.intCast_mul]; grind
theorem Ov.div {D k : Int} {n : Nat} {x y : Rat} (hD : D ≠ 0) (hk : k ≠ 0) (h : Ov D n x y) : Ov (D * k) n (x / k) (y / k) := by
  obtain ⟨A, B, h1, h2, rfl, rfl⟩ := h
  have z1 := ratne hD
  have z2 := ratne hk
  refine ⟨A, B, h1, h2, ?_, ?_⟩
  · rw [Rat.intCast_mul]; grind
  · rw [Rat.intCast_mul]; grind
theorem is_length_ln (x y : Rat) {n m : Nat} [i : BL x y n m] (hm : m ≤ 9000) : m_is_length [lnD x y] = .ok (.bool true) := by
  have b1 := i.a; have b2 := i.b; have b3 := i.c
  have p := qN_pos x y
  have e := length_eq (qA x y) (qB x y) (qN x y) (by omega) hm
  have s := low_self (q_low x y)
  rw [s.1, s.2.1, s.2.2] at e
  simp +decide only [m_is_length, den_is_length, lb1_is_length, zEV9, forL_1, forL_nil, is_whole_int, p, e]
structure PosB (d : Int) (b : Bo) : Prop where
  w : PosQ d b.x b.y
  h : PosQ d b.u b.v
def sumB (f : Bo → Rat) : List Bo → Rat
  | [] => 0
  | b :: bs => f b + sumB f bs
/-- a board's lengths, over one bottom -/
structure OvB (D : Int) (n : Nat) (b : Bo) : Prop where
  w : Ov D n b.x b.y
  h : Ov D n b.u b.v
theorem bd_one {k : Nat} (h : 1 ≤ k) : Bd (1 : Int) k := Bd.mono (show Bd (1 : Int) 1 from ⟨by decide⟩) h
theorem posQ_by {d : Int} (hd : Root d) {x y : Rat} (h : PosQ d x y) {m : Int} (hm : 0 < m) : PosQ d (x / m) (y / m) := by
  have hw0 : (0 : Rat) < (m : Rat) := Rat.intCast_pos.mpr hm
  have hi : (0 : Rat) < 1 / (m : Rat) := by rw [Rat.div_def, Rat.one_mul]; exact Rat.inv_pos.mpr hw0
  have e : ∀ a : Rat, a / m = a * (1 / (m : Rat)) := fun a => by grind
  rw [e x, e y]
  exact (posQ_scale hd hi).mpr h
theorem posQ_times {d : Int} (hd : Root d) {x y : Rat} (h : PosQ d x y) {m : Int} (hm : 0 < m) : PosQ d (x * m) (y * m) := (posQ_scale hd (Rat.intCast_pos.mpr hm)).mpr h
/-- the four products -/
def pr : Fin 4 → Bo → Rat
  | 0, b => b.x * b.u
  | 1, b => b.x * b.v
  | 2, b => b.y * b.u
  | 3, b => b.y * b.v
theorem sumB_app (f : Bo → Rat) : ∀ a b : List Bo, sumB f (a ++ b) = sumB f a + sumB f b
  | [], b => by rw [List.nil_append, sumB]; grind
  | c :: a, b => by rw [List.cons_append, sumB, sumB, sumB_app f a b]; grind
end DL

set_option Elab.async false
set_option linter.all false
set_option maxRecDepth 100000
set_option maxHeartbeats 1000000
set_option autoImplicit false
/-! the yard -/
namespace DL
open PySem L2 MB
/-! ### boards by names -/
abbrev Lst := List (Int × Bo)
def kvY (L : Lst) : Kv := L.map fun p => (.inl p.1, boD p.2)
def getB (L : Lst) (i : Int) : Option Bo := (L.find? fun p => decide (p.1 = i)).map (·.2)
def delB (L : Lst) (i : Int) : Lst := L.filter fun p => decide (p.1 ≠ i)
def numB : Int → List Bo → Lst
  | _, [] => []
  | u, b :: bs => (u, b) :: numB (u + 1) bs
theorem kGet_y (i : Int) : ∀ L : Lst, kGet (kvY L) (.inl i) = (getB L i).map boD
  | [] => rfl
  | (j, b) :: L => by
    have ih := kGet_y i L
    unfold kGet getB kvY at ih ⊢
    rw [List.map_cons]
    by_cases h : j = i
    · subst h
      rw [List.find?_cons_of_pos (by simp), List.find?_cons_of_pos (by simp)]; rfl
    · rw [List.find?_cons_of_neg (by simpa using h), List.find?_cons_of_neg (by simpa using h)]
      exact ih
theorem kDrop_y (i : Int) : ∀ L : Lst, kDrop (kvY L) (.inl i) = kvY (delB L i)
  | [] => rfl
  | (j, b) :: L => by
    have ih := kDrop_y i L
    unfold kDrop delB kvY at ih ⊢
    rw [List.map_cons]
    by_cases h : j = i
    · subst h
      rw [List.filter_cons_of_neg (by simp), List.filter_cons_of_neg (by simp)]
      exact ih
    · rw [List.filter_cons_of_pos (by simpa using h), List.filter_cons_of_pos (by simpa using h), List.map_cons, ih]
theorem kPut_y {i : Int} {b : Bo} {L : Lst} (h : ∀ p ∈ L, p.1 ≠ i) : kPut (kvY L) (.inl i) (boD b) = kvY (L ++ [(i, b)]) := by
  unfold kPut
  have : ((kvY L).any fun kv => decide (kv.1 = (Sum.inl i : L2.Key))) = false := by
    rw [List.any_eq_false]
    intro q hq
    unfold kvY at hq
    obtain ⟨p, hp, rfl⟩ := List.mem_map.mp hq
    simpa using h p hp
  rw [this]
  simp only [Bool.false_eq_true, if_false]
  unfold kvY
  rw [List.map_append]; rfl
theorem kvY_len (L : Lst) : (kvY L).length = L.length := by unfold kvY; rw [List.length_map]
theorem numB_len : ∀ (bs : List Bo) (u : Int), (numB u bs).length = bs.length
  | [], _ => rfl
  | b :: bs, u => by simp [numB, numB_len bs]
theorem numB_mem : ∀ (bs : List Bo) (u : Int) (p : Int × Bo), p ∈ numB u bs → u ≤ p.1 ∧ p.1 < u + bs.length ∧ p.2 ∈ bs
  | b :: bs, u, p, h => by
    unfold numB at h
    rcases List.mem_cons.mp h with rfl | h
    · exact ⟨Int.le_refl _, by simp only [List.length_cons]; omega, .head _⟩
    · obtain ⟨h1, h2, h3⟩ := numB_mem bs (u + 1) p h
      refine ⟨by omega, ?_, .tail _ h3⟩
      rw [List.length_cons]
      omega
/-- names rise, below u -/
def Asc (L : Lst) (u : Int) : Prop := L.Pairwise (fun p q => p.1 < q.1) ∧ ∀ p ∈ L, 0 ≤ p.1 ∧ p.1 < u
theorem numB_asc : ∀ (bs : List Bo) (u : Int), (numB u bs).Pairwise (fun p q => p.1 < q.1)
  | [], _ => .nil
  | b :: bs, u => by
    refine List.pairwise_cons.mpr ⟨fun q hq => ?_, numB_asc bs (u + 1)⟩
    obtain ⟨h1, _, _⟩ := numB_mem bs (u + 1) q hq
    show u < q.1
    omega
theorem Asc.put {L : Lst} {u : Int} (h : Asc L u) (hu : 0 ≤ u) (bs : List Bo) : Asc (L ++ numB u bs) (u + bs.length) := by
  refine ⟨List.pairwise_append.mpr ⟨h.1, numB_asc bs u, fun p hp q hq => ?_⟩, fun p hp => ?_⟩
  · have := (h.2 p hp).2
    have := (numB_mem bs u q hq).1
    omega
  · rcases List.mem_append.mp hp with hp | hp
    · have := h.2 p hp
      omega
    · obtain ⟨h1, h2, _⟩ := numB_mem bs u p hp
      omega
theorem Asc.del {L : Lst} {u : Int} (h : Asc L u) (i : Int) : Asc (delB L i) u := ⟨h.1.filter _, fun p hp => h.2 p (List.mem_filter.mp hp).1⟩
theorem Asc.srt {L : Lst} {u : Int} (h : Asc L u) : srtI (L.map (·.1)) = L.map (·.1) := by
  refine (srtI_eq (l := L.map (·.1)) ?_ (.refl _)).symm
  exact List.pairwise_map.mpr (h.1.imp fun q => Int.le_of_lt q)
theorem getB_of {L : Lst} {u : Int} (h : Asc L u) {p : Int × Bo} (hp : p ∈ L) : getB L p.1 = some p.2 := by
  have h1 := h.1
  clear h
  unfold getB
  induction L with
  | nil => cases hp
  | cons q L ih =>
    obtain ⟨q1, q2⟩ := List.pairwise_cons.mp h1
    rcases List.mem_cons.mp hp with rfl | hp
    · rw [List.find?_cons_of_pos (by simp)]; rfl
    · have : q.1 < p.1 := q1 p hp
      rw [List.find?_cons_of_neg (by simp; omega)]
      exact ih hp q2
theorem getB_mem {L : Lst} {i : Int} {b : Bo} (h : getB L i = some b) : (i, b) ∈ L := by
  unfold getB at h
  cases e : L.find? (fun p => decide (p.1 = i)) with
  | none => rw [e] at h; cases h
  | some p =>
    rw [e] at h
    cases h
    have h1 := List.find?_some e
    have h2 := List.mem_of_find?_eq_some e
    simp at h1
    subst h1
    exact h2
/-! ### the yard's fields -/
structure Ya where
  t : Bool
  L : Lst
  u : Int
  g : List PD
@[reducible] def YF (d : Int) (Y : Ya) : Fs := [("root", .d (.int d)), ("turning", .d (.bool Y.t)), ("lying", .k (kvY Y.L)), ("used", .d (.int Y.u)), ("done", .l Y.g)]
section
variable {d : Int} {Y : Ya}
theorem yM_put {i : Nat} {g : Fs → List PD → RM} {fa : En → R (List PD)} {k : PD → En → Fl} {ρ : En} : kM "Yard" i "put" g fa k ρ (some ("Yard", YF d Y)) = (fa ρ).fl ρ (kM1 i g k (YF d Y) ρ) := kM_ev rfl
theorem yM_do {i : Nat} {g : Fs → List PD → RM} {fa : En → R (List PD)} {k : PD → En → Fl} {ρ : En} : kM "Yard" i "do" g fa k ρ (some ("Yard", YF d Y)) = (fa ρ).fl ρ (kM1 i g k (YF d Y) ρ) := kM_ev rfl
theorem yh_boards {A : Type} {g : Fs → List PD → R A} {r : R (List PD)} : kMth "Yard" "boards" g r (some ("Yard", YF d Y)) = r.bind (g (YF d Y)) := kMth_ev rfl
theorem yh_heap {A : Type} {g : Fs → List PD → R A} {r : R (List PD)} : kMth "Yard" "heap" g r (some ("Yard", YF d Y)) = r.bind (g (YF d Y)) := kMth_ev rfl
theorem yh_log {A : Type} {g : Fs → List PD → R A} {r : R (List PD)} : kMth "Yard" "log" g r (some ("Yard", YF d Y)) = r.bind (g (YF d Y)) := kMth_ev rfl
theorem yo_lying : fOwn "Yard" "lying" (some ("Yard", YF d Y)) = some (.k (kvY Y.L), YF d Y) := rfl
theorem yo_done : fOwn "Yard" "done" (some ("Yard", YF d Y)) = some (.l Y.g, YF d Y) := rfl
theorem yk_lying : fkAt "Yard" "lying" (some ("Yard", YF d Y)) = some (kvY Y.L) := rfl
theorem yd_root : kFld "Yard" "root" (some ("Yard", YF d Y)) = .ok (.int d) := rfl
theorem yd_turning : kFld "Yard" "turning" (some ("Yard", YF d Y)) = .ok (.bool Y.t) := rfl
theorem yd_used : kFld "Yard" "used" (some ("Yard", YF d Y)) = .ok (.int Y.u) := rfl
theorem ys_used {u : Int} {ρ : En} : kFldSet "Yard" 0 "used" (some (.me "Yard" (YF d Y)) :: ρ) (.int u) = .nx (some (.me "Yard" (YF d { Y with u := u })) :: ρ) := rfl
theorem yp_lying {L : Lst} : fPut "lying" (.k (kvY L)) (YF d Y) = YF d { Y with L := L } := rfl
theorem yp_used {u : Int} : fPut "used" (.d (.int u)) (YF d Y) = YF d { Y with u := u } := rfl
theorem yp_done {g : List PD} : fPut "done" (.l g) (YF d Y) = YF d { Y with g := g } := rfl
end
/-! ### put -/
theorem put_turn (d : Int) (Y : Ya) (b : Bo) (h0 : PD) (hL : Y.L.length < 16777216) (hn : ∀ p ∈ Y.L, p.1 ≠ Y.u) : lb1_Yard_put [some (.me "Yard" (YF d Y)), some (.d h0), some (.d (boD b))] = .nx [some (.me "Yard" (YF d { Y with L := Y.L ++ [(Y.u, b)], u := Y.u + 1 })), some (.d h0), some (.d (boD b))] := by
  have hl : (kvY Y.L).length < 16777216 := by rw [kvY_len]; exact hL
  have e := kPut_y (b := b) hn
  simp +decide only [lb1_Yard_put, ev_seq, seq_nx, seq_rt, seq_ex, seq_bk, seq_ct, seq_ite, fl_ok, fl_ex, fl_ite, ev_set, kSet_ev, ev_ret, ev_nx, ev_raise, ev_if, kIf_ev, ev_drop, kNx_ev, ev_par, kPar_ev, kId_ev, ev_asg, kAsg_ev, ev_for, kFor_ev, ev_V, dVg_ok, ev_C, ev_1, ev_2, bind2_ok, bind2_ite1, bind2_ite2, bind_ite, ev_A, ev_nil, ev_cons, kCons_ev, ev_T, toB_ev, ev_and, ev_or, ev_not, kAnd_ev, kOr_ev, kNot_ev, ev_andV, ev_orV, ev_notV, kAndV_ev, kOrV_ev, kNotV_ev, tup_ev, lst_ev, call_ev, ev_fn, startE_0, startE_s, startE_c, fin_rt, fin_nx, fin_ex, fin_ite, ix_t0, ix_t1, ix_t2, ix_t3, ix_l0, ix_l1, ix_l2, len_l, len_t1, len_t2, len_t3, len_t4, beq_self_eq_true, ev_iL, ev_iT, asL_ev, asT_ev, ev_iA, ev_P, toI_ev, ev_P0, ev_sl, kSl_ev, put_1, gAdd_i, gSub_i, gMul_i, gDiv_p, gMod_p, gPow_l, gShl_l, gShr_l, gLt_i, gLe_i, gGt_i, gGe_i, gEq_i, gNe_i, gNeg_i, gAbs_i, gInt_i, gInt_b, gEq_s, gNe_s, gEq_b, gNe_b, gEq_2, gNe_2, gEq_3, gNe_3, gEq_22, gNe_22, DL.R.bind_ok, DL.R.bind_ex, ev_setL, kSetL_ev, ev_lDisp, kDisp_ev, ev_frz, frz_l, frz_d, frz_n, ev_lend, lend_l, lend_d, atom_i, atom_b, atom_s, ev_lendB, lendB_l, lendB_d, ev_app, app_l, kApp_ev, ev_put, put_l, ev_ixO, ixO_l, ixO_d, put_m, putAll_c, putAll_n, ev_lc, kLst_ev, ev_lcL, wipe_n, wipe_c, r1_2, r1_3, bits_ev, List.getElem?_cons_zero, List.getElem?_cons_succ, List.set_cons_zero, List.set_cons_succ, List.length_cons, List.length_nil, List.length_map, List.append_nil, List.cons_append, List.nil_append, ev_if, turn_nx, turn_ct, turn_bk, turn_rt, turn_ite, kWh_ev, isi_int_int, isi_bool_int, isi_int_bool, isi_bool_bool, isi_int_str, isi_int_none, isi_int_list, isi_int_tup, isi_bool_str, isi_bool_none, isi_bool_list, isi_bool_tup, isi_tup_tup, isi_tup_int, isi_tup_bool, isi_tup_str, isi_tup_none, isi_tup_list, isi_list_list, isi_list_tup, isi_list_int, isi_list_bool, isi_list_str, isi_list_none, isi_str_str, isi_str_int, isi_str_bool, isi_str_none, isi_str_list, isi_str_tup, decide_true, decide_false, not_true_eq_false, not_false_eq_true, ne_eq, decide_eq_true_eq, Bool.not_eq_true', decide_eq_false_iff_not, Bool.not_true, Bool.not_false, Bool.false_eq_true, if_true, if_false, reduceIte, seq_rm, seq_rv, turn_rm, turn_rv, turn_ex, ev_retM, kRm_ev, ev_retV, ev_vL, kVL_ev, frzV_l, ev_setV, kSetV_l, kSetV_o, ev_getK, getK_k, getK_d, ev_inK, inK_k, inK_d, ev_lenK, lenK_k, lenK_d, ev_setK, ev_setKD, kSetKD_ev, ev_putK, putK_k, kPutK1_i, ev_popE, popK_k, kPopK1_i, ev_frzK, frzK_k, frzK_d, ev_iK, kKeys_ev, kGetR_i, kInR_i, oPut_ev, oPutO_o, oPutO_me, oGet_o, oGet_me, oGet_ro, oOwn_o, oOwn_me, ev_fld, kFld_ev, fkAt_ev, fOwn_ev, ev_fldget, kFldGet_ev, ev_fldin, kFldIn_ev, ev_fldsort, ev_fldset, ev_fldnew, kFldNew_ev, ev_fldput, fldput_k, kFldPut1_i, ev_fldpop, fldpop_k, kFldPop1_i, ev_fldapp, fldapp_l, kFldApp1_ev, gMeP_ev, gMeV_ev, gMeM_ev, gCallV_ev, ev_AV, ev_mth, ev_vmth, kMth_ev, ev_Me, ev_Ms, ev_Mr, kM_ev, kM1_ev, kMr_ok, kMr_ex, ev_make, kMk1_ev, kMk_ok, ev_fnM, ev_fnPV, ev_fnV, finM_rm, finM_nx, finM_ex, finV_rv, meAt_0, meAt_1, gObjM_ev, ev_obj, kObj_ev, ev_Fe, kF_ev, noPin_c, noPin_n, pinned_n, pinned_d, pinned_l, pinned_k, pinned_o, pinned_ro, kTpC_ev, ev_tpNil, ev_tpD1, kTpD_ev, ev_tpS, slotP_d, slotP_l, slotP_o, kTpS_ev, ev_tpV, kTpV_l, kTpV_o, ev_retTp, kRetTp_ev, ev_asgTp, kAsgTp_ev, putTp_c, putTp_n, sv_d, sv_l, sv_o, tpD_d, tpD_l, tpD_n, ev_rg1, kRg1_ev, ev_rvL, revL_l, ev_retFl, yo_lying, yo_done, yk_lying, yd_root, yd_turning, yd_used, ys_used, yp_lying, yp_used, yp_done, yM_put, yM_do, yh_boards, yh_heap, yh_log, hl, e]
theorem put_loop (d : Int) (h0 : PD) : ∀ (bs : List Bo) (Y : Ya) (x2 : Option SV), Y.L.length + bs.length < 16777216 → Asc Y.L Y.u → 0 ≤ Y.u → ∃ y2, sForL (.one 2) lb1_Yard_put (bs.map boD) [some (.me "Yard" (YF d Y)), some (.d h0), x2] = .nx [some (.me "Yard" (YF d { Y with L := Y.L ++ numB Y.u bs, u := Y.u + bs.length })), some (.d h0), y2]
  | [], Y, x2, _, _, _ => ⟨x2, by
    obtain ⟨t, L, u, g⟩ := Y
    simp [forL_nil, numB]⟩
  | b :: bs, Y, x2, hl, ha, hu => by
    rw [List.length_cons] at hl
    have t := put_turn d Y b h0 (by omega) (fun p hp e => by have := (ha.2 p hp).2; omega)
    obtain ⟨y2, e⟩ := put_loop d h0 bs { Y with L := Y.L ++ [(Y.u, b)], u := Y.u + 1 } (some (.d (boD b))) (by simp only [List.length_append, List.length_cons, List.length_nil]; omega) (ha.put hu [b]) (by show 0 ≤ Y.u + 1; omega)
    refine ⟨y2, ?_⟩
    rw [List.map_cons, forL_1]
    simp only [List.set_cons_succ, List.set_cons_zero, t, turn_nx, e]
    have e1 : Y.L ++ [(Y.u, b)] ++ numB (Y.u + 1) bs = Y.L ++ numB Y.u (b :: bs) := by rw [List.append_assoc]; rfl
    have e2 : Y.u + 1 + (bs.length : Int) = Y.u + ((b :: bs).length : Nat) := by rw [List.length_cons]; omega
    rw [e1, e2]
theorem Yard_put_eq (d : Int) (Y : Ya) (bs : List Bo) (hl : Y.L.length + bs.length < 16777216) (ha : Asc Y.L Y.u) (hu : 0 ≤ Y.u) : m_Yard_put (YF d Y) [.none, .list (bs.map boD)] = .ok .none (YF d { Y with L := Y.L ++ numB Y.u bs, u := Y.u + bs.length }) := by
  obtain ⟨y2, e⟩ := put_loop d (.list (bs.map boD)) bs Y none hl ha hu
  simp +decide only [m_Yard_put, den_Yard_put, ev_seq, seq_nx, seq_rt, seq_ex, seq_bk, seq_ct, seq_ite, fl_ok, fl_ex, fl_ite, ev_set, kSet_ev, ev_ret, ev_nx, ev_raise, ev_if, kIf_ev, ev_drop, kNx_ev, ev_par, kPar_ev, kId_ev, ev_asg, kAsg_ev, ev_for, kFor_ev, ev_V, dVg_ok, ev_C, ev_1, ev_2, bind2_ok, bind2_ite1, bind2_ite2, bind_ite, ev_A, ev_nil, ev_cons, kCons_ev, ev_T, toB_ev, ev_and, ev_or, ev_not, kAnd_ev, kOr_ev, kNot_ev, ev_andV, ev_orV, ev_notV, kAndV_ev, kOrV_ev, kNotV_ev, tup_ev, lst_ev, call_ev, ev_fn, startE_0, startE_s, startE_c, fin_rt, fin_nx, fin_ex, fin_ite, ix_t0, ix_t1, ix_t2, ix_t3, ix_l0, ix_l1, ix_l2, len_l, len_t1, len_t2, len_t3, len_t4, beq_self_eq_true, ev_iL, ev_iT, asL_ev, asT_ev, ev_iA, ev_P, toI_ev, ev_P0, ev_sl, kSl_ev, put_1, gAdd_i, gSub_i, gMul_i, gDiv_p, gMod_p, gPow_l, gShl_l, gShr_l, gLt_i, gLe_i, gGt_i, gGe_i, gEq_i, gNe_i, gNeg_i, gAbs_i, gInt_i, gInt_b, gEq_s, gNe_s, gEq_b, gNe_b, gEq_2, gNe_2, gEq_3, gNe_3, gEq_22, gNe_22, DL.R.bind_ok, DL.R.bind_ex, ev_setL, kSetL_ev, ev_lDisp, kDisp_ev, ev_frz, frz_l, frz_d, frz_n, ev_lend, lend_l, lend_d, atom_i, atom_b, atom_s, ev_lendB, lendB_l, lendB_d, ev_app, app_l, kApp_ev, ev_put, put_l, ev_ixO, ixO_l, ixO_d, put_m, putAll_c, putAll_n, ev_lc, kLst_ev, ev_lcL, wipe_n, wipe_c, r1_2, r1_3, bits_ev, List.getElem?_cons_zero, List.getElem?_cons_succ, List.set_cons_zero, List.set_cons_succ, List.length_cons, List.length_nil, List.length_map, List.append_nil, List.cons_append, List.nil_append, ev_if, turn_nx, turn_ct, turn_bk, turn_rt, turn_ite, kWh_ev, isi_int_int, isi_bool_int, isi_int_bool, isi_bool_bool, isi_int_str, isi_int_none, isi_int_list, isi_int_tup, isi_bool_str, isi_bool_none, isi_bool_list, isi_bool_tup, isi_tup_tup, isi_tup_int, isi_tup_bool, isi_tup_str, isi_tup_none, isi_tup_list, isi_list_list, isi_list_tup, isi_list_int, isi_list_bool, isi_list_str, isi_list_none, isi_str_str, isi_str_int, isi_str_bool, isi_str_none, isi_str_list, isi_str_tup, decide_true, decide_false, not_true_eq_false, not_false_eq_true, ne_eq, decide_eq_true_eq, Bool.not_eq_true', decide_eq_false_iff_not, Bool.not_true, Bool.not_false, Bool.false_eq_true, if_true, if_false, reduceIte, seq_rm, seq_rv, turn_rm, turn_rv, turn_ex, ev_retM, kRm_ev, ev_retV, ev_vL, kVL_ev, frzV_l, ev_setV, kSetV_l, kSetV_o, ev_getK, getK_k, getK_d, ev_inK, inK_k, inK_d, ev_lenK, lenK_k, lenK_d, ev_setK, ev_setKD, kSetKD_ev, ev_putK, putK_k, kPutK1_i, ev_popE, popK_k, kPopK1_i, ev_frzK, frzK_k, frzK_d, ev_iK, kKeys_ev, kGetR_i, kInR_i, oPut_ev, oPutO_o, oPutO_me, oGet_o, oGet_me, oGet_ro, oOwn_o, oOwn_me, ev_fld, kFld_ev, fkAt_ev, fOwn_ev, ev_fldget, kFldGet_ev, ev_fldin, kFldIn_ev, ev_fldsort, ev_fldset, ev_fldnew, kFldNew_ev, ev_fldput, fldput_k, kFldPut1_i, ev_fldpop, fldpop_k, kFldPop1_i, ev_fldapp, fldapp_l, kFldApp1_ev, gMeP_ev, gMeV_ev, gMeM_ev, gCallV_ev, ev_AV, ev_mth, ev_vmth, kMth_ev, ev_Me, ev_Ms, ev_Mr, kM_ev, kM1_ev, kMr_ok, kMr_ex, ev_make, kMk1_ev, kMk_ok, ev_fnM, ev_fnPV, ev_fnV, finM_rm, finM_nx, finM_ex, finV_rv, meAt_0, meAt_1, gObjM_ev, ev_obj, kObj_ev, ev_Fe, kF_ev, noPin_c, noPin_n, pinned_n, pinned_d, pinned_l, pinned_k, pinned_o, pinned_ro, kTpC_ev, ev_tpNil, ev_tpD1, kTpD_ev, ev_tpS, slotP_d, slotP_l, slotP_o, kTpS_ev, ev_tpV, kTpV_l, kTpV_o, ev_retTp, kRetTp_ev, ev_asgTp, kAsgTp_ev, putTp_c, putTp_n, sv_d, sv_l, sv_o, tpD_d, tpD_l, tpD_n, ev_rg1, kRg1_ev, ev_rvL, revL_l, ev_retFl, yo_lying, yo_done, yk_lying, yd_root, yd_turning, yd_used, ys_used, yp_lying, yp_used, yp_done, yM_put, yM_do, yh_boards, yh_heap, yh_log, e]
/-! ### __init__ -/
end DL

local macro_rules
  | `(tactic| simp +decide only [$ls,*]) => do
    let es := ls.getElems
    match es.findIdx? (fun l => l.raw[2].getId == `zYO9) with
    | some i => match ← `(tactic| simp +decide only [DL.ev_seq, DL.seq_nx, DL.seq_rt, DL.seq_ex, DL.seq_bk, DL.seq_ct, DL.seq_ite, DL.fl_ok, DL.fl_ex, DL.fl_ite, DL.ev_set, DL.kSet_ev, DL.ev_ret, DL.ev_nx, DL.ev_raise, DL.ev_if, DL.kIf_ev, DL.ev_drop, DL.kNx_ev, DL.ev_par, DL.kPar_ev, DL.kId_ev, DL.ev_asg, DL.kAsg_ev, DL.ev_for, DL.kFor_ev, DL.ev_V, DL.dVg_ok, DL.ev_C, DL.ev_1, DL.ev_2, DL.bind2_ok, DL.bind2_ite1, DL.bind2_ite2, DL.bind_ite, DL.ev_A, DL.ev_nil, DL.ev_cons, DL.kCons_ev, DL.ev_T, DL.toB_ev, DL.ev_and, DL.ev_or, DL.ev_not, DL.kAnd_ev, DL.kOr_ev, DL.kNot_ev, DL.ev_andV, DL.ev_orV, DL.ev_notV, DL.kAndV_ev, DL.kOrV_ev, DL.kNotV_ev, DL.tup_ev, DL.lst_ev, DL.call_ev, DL.ev_fn, DL.startE_0, DL.startE_s, DL.startE_c, DL.fin_rt, DL.fin_nx, DL.fin_ex, DL.fin_ite, DL.ix_t0, DL.ix_t1, DL.ix_t2, DL.ix_t3, DL.ix_l0, DL.ix_l1, DL.ix_l2, DL.len_l, DL.len_t1, DL.len_t2, DL.len_t3, DL.len_t4, beq_self_eq_true, DL.ev_iL, DL.ev_iT, DL.asL_ev, DL.asT_ev, DL.ev_iA, DL.ev_P, DL.toI_ev, DL.ev_P0, DL.ev_sl, DL.kSl_ev, DL.put_1, DL.gAdd_i, DL.gSub_i, DL.gMul_i, DL.gDiv_p, DL.gMod_p, DL.gPow_l, DL.gShl_l, DL.gShr_l, DL.gLt_i, DL.gLe_i, DL.gGt_i, DL.gGe_i, DL.gEq_i, DL.gNe_i, DL.gNeg_i, DL.gAbs_i, DL.gInt_i, DL.gInt_b, DL.gEq_s, DL.gNe_s, DL.gEq_b, DL.gNe_b, DL.gEq_2, DL.gNe_2, DL.gEq_3, DL.gNe_3, DL.gEq_22, DL.gNe_22, DL.R.bind_ok, DL.R.bind_ex, DL.ev_setL, DL.kSetL_ev, DL.ev_lDisp, DL.kDisp_ev, DL.ev_frz, DL.frz_l, DL.frz_d, DL.frz_n, DL.ev_lend, DL.lend_l, DL.lend_d, DL.atom_i, DL.atom_b, DL.atom_s, DL.ev_lendB, DL.lendB_l, DL.lendB_d, DL.ev_app, DL.app_l, DL.kApp_ev, DL.ev_put, DL.put_l, DL.ev_ixO, DL.ixO_l, DL.ixO_d, DL.put_m, DL.putAll_c, DL.putAll_n, DL.ev_lc, DL.kLst_ev, DL.ev_lcL, DL.wipe_n, DL.wipe_c, DL.r1_2, DL.r1_3, DL.bits_ev, List.getElem?_cons_zero, List.getElem?_cons_succ, List.set_cons_zero, List.set_cons_succ, List.length_cons, List.length_nil, List.length_map, List.append_nil, List.cons_append, List.nil_append, DL.ev_if, DL.turn_nx, DL.turn_ct, DL.turn_bk, DL.turn_rt, DL.turn_ite, DL.kWh_ev, DL.isi_int_int, DL.isi_bool_int, DL.isi_int_bool, DL.isi_bool_bool, DL.isi_int_str, DL.isi_int_none, DL.isi_int_list, DL.isi_int_tup, DL.isi_bool_str, DL.isi_bool_none, DL.isi_bool_list, DL.isi_bool_tup, DL.isi_tup_tup, DL.isi_tup_int, DL.isi_tup_bool, DL.isi_tup_str, DL.isi_tup_none, DL.isi_tup_list, DL.isi_list_list, DL.isi_list_tup, DL.isi_list_int, DL.isi_list_bool, DL.isi_list_str, DL.isi_list_none, DL.isi_str_str, DL.isi_str_int, DL.isi_str_bool, DL.isi_str_none, DL.isi_str_list, DL.isi_str_tup, decide_true, decide_false, not_true_eq_false, not_false_eq_true, ne_eq, decide_eq_true_eq, Bool.not_eq_true', decide_eq_false_iff_not, Bool.not_true, Bool.not_false, Bool.false_eq_true, if_true, if_false, reduceIte, DL.seq_rm, DL.seq_rv, DL.turn_rm, DL.turn_rv, DL.turn_ex, DL.ev_retM, DL.kRm_ev, DL.ev_retV, DL.ev_vL, DL.kVL_ev, DL.frzV_l, DL.ev_setV, DL.kSetV_l, DL.kSetV_o, DL.ev_getK, DL.getK_k, DL.getK_d, DL.ev_inK, DL.inK_k, DL.inK_d, DL.ev_lenK, DL.lenK_k, DL.lenK_d, DL.ev_setK, DL.ev_setKD, DL.kSetKD_ev, DL.ev_putK, DL.putK_k, DL.kPutK1_i, DL.ev_popE, DL.popK_k, DL.kPopK1_i, DL.ev_frzK, DL.frzK_k, DL.frzK_d, DL.ev_iK, DL.kKeys_ev, DL.kGetR_i, DL.kInR_i, DL.oPut_ev, DL.oPutO_o, DL.oPutO_me, DL.oGet_o, DL.oGet_me, DL.oGet_ro, DL.oOwn_o, DL.oOwn_me, DL.ev_fld, DL.kFld_ev, DL.fkAt_ev, DL.fOwn_ev, DL.ev_fldget, DL.kFldGet_ev, DL.ev_fldin, DL.kFldIn_ev, DL.ev_fldsort, DL.ev_fldset, DL.ev_fldnew, DL.kFldNew_ev, DL.ev_fldput, DL.fldput_k, DL.kFldPut1_i, DL.ev_fldpop, DL.fldpop_k, DL.kFldPop1_i, DL.ev_fldapp, DL.fldapp_l, DL.kFldApp1_ev, DL.gMeP_ev, DL.gMeV_ev, DL.gMeM_ev, DL.gCallV_ev, DL.ev_AV, DL.ev_mth, DL.ev_vmth, DL.kMth_ev, DL.ev_Me, DL.ev_Ms, DL.ev_Mr, DL.kM_ev, DL.kM1_ev, DL.kMr_ok, DL.kMr_ex, DL.ev_make, DL.kMk1_ev, DL.kMk_ok, DL.ev_fnM, DL.ev_fnPV, DL.ev_fnV, DL.finM_rm, DL.finM_nx, DL.finM_ex, DL.finV_rv, DL.meAt_0, DL.meAt_1, DL.gObjM_ev, DL.ev_obj, DL.kObj_ev, DL.ev_Fe, DL.kF_ev, DL.noPin_c, DL.noPin_n, DL.pinned_n, DL.pinned_d, DL.pinned_l, DL.pinned_k, DL.pinned_o, DL.pinned_ro, DL.kTpC_ev, DL.ev_tpNil, DL.ev_tpD1, DL.kTpD_ev, DL.ev_tpS, DL.slotP_d, DL.slotP_l, DL.slotP_o, DL.kTpS_ev, DL.ev_tpV, DL.kTpV_l, DL.kTpV_o, DL.ev_retTp, DL.kRetTp_ev, DL.ev_asgTp, DL.kAsgTp_ev, DL.putTp_c, DL.putTp_n, DL.sv_d, DL.sv_l, DL.sv_o, DL.tpD_d, DL.tpD_l, DL.tpD_n, DL.ev_rg1, DL.kRg1_ev, DL.ev_rvL, DL.revL_l, DL.ev_retFl, DL.yo_lying, DL.yo_done, DL.yk_lying, DL.yd_root, DL.yd_turning, DL.yd_used, DL.ys_used, DL.yp_lying, DL.yp_used, DL.yp_done, DL.yM_put, DL.yM_do, DL.yh_boards, DL.yh_heap, DL.yh_log]) with
      | `(tactic| simp +decide only [$ms,*]) =>
        let all := es.extract 0 i ++ ms.getElems ++ es.extract (i + 1) es.size
        `(tactic| simp +decide only [$all,*])
      | _ => Lean.Macro.throwUnsupported
    | none => Lean.Macro.throwUnsupported
set_option Elab.async false
set_option linter.all false
set_option maxRecDepth 100000
set_option maxHeartbeats 1000000
set_option autoImplicit false
/-! the yard: deeds -/
namespace DL
open PySem L2 MB
inductive De where
  | cr (al : Bool) (i : Int) (p q : Rat)
  | gl (tp : Bool) (i j : Int)
  | sh (sp : Bool) (i m : Int)
  | tu (i : Int)
def deD : De → PD
  | .cr false i p q => .tuple [.str "across", .int i, lnD p q]
  | .cr true i p q => .tuple [.str "along", .int i, lnD p q]
  | .gl false i j => .tuple [.str "beside", .int i, .int j]
  | .gl true i j => .tuple [.str "atop", .int i, .int j]
  | .sh false i m => .tuple [.str "stack", .int i, .int m]
  | .sh true i m => .tuple [.str "spread", .int i, .int m]
  | .tu i => .tuple [.str "turn", .int i]
def De.names : De → List Int
  | .cr _ i _ _ => [i]
  | .gl _ i j => [i, j]
  | .sh _ i _ => [i]
  | .tu i => [i]
def cutB (al : Bool) (p q : Rat) (b : Bo) : List Bo := if al = true then [⟨b.x, b.y, p, q⟩, ⟨b.x, b.y, b.u - p, b.v - q⟩] else [⟨p, q, b.u, b.v⟩, ⟨b.x - p, b.y - q, b.u, b.v⟩]
def glB (tp : Bool) (b c : Bo) : Bo := if tp = true then ⟨b.x, b.y, b.u + c.u, b.v + c.v⟩ else ⟨b.x + c.x, b.y + c.y, b.u, b.v⟩
def shB (sp : Bool) (m : Int) (b : Bo) : Bo := if sp = true then ⟨b.x * m, b.y * m, b.u / m, b.v / m⟩ else ⟨b.x / m, b.y / m, b.u * m, b.v * m⟩
def tuB (b : Bo) : Bo := ⟨b.u, b.v, b.x, b.y⟩
/-- the boards that a deed puts -/
def De.new : De → List Bo → List Bo
  | .cr al _ p q, b :: _ => cutB al p q b
  | .gl tp _ _, b :: c :: _ => [glB tp b c]
  | .sh sp _ m, b :: _ => [shB sp m b]
  | .tu _, b :: _ => [tuB b]
  | _, _ => []
/-- bits of a board's lengths -/
structure BW (b : Bo) (n m : Nat) : Prop where
  w : BL b.x b.y n m
  h : BL b.u b.v n m
/-- a deed fits boards -/
def De.fit (d : Int) : De → List Bo → Prop
  | .cr al _ p q, [b] => PosQ d p q ∧ if al = true then PosQ d (b.u - p) (b.v - q) else PosQ d (b.x - p) (b.y - q)
  | .gl tp _ _, [b, c] => if tp = true then b.x = c.x ∧ b.y = c.y else b.u = c.u ∧ b.v = c.v
  | .sh _ _ m, [_] => 0 < m
  | .tu _, [_] => True
  | _, _ => False
theorem str_in (x : Str) (a b : Str) (h : (a = x ∨ b = x)) : gIn false (.str x) (.tuple [.str a, .str b]) = .ok (.bool true) := by
  have hf : flatD (.str x) = true ∧ List.all [PyData.str a, PyData.str b] flatD = true := ⟨rfl, rfl⟩
  have ha : (List.any [PyData.str a, PyData.str b] fun y => PyData.eqv y (.str x)) = true := by
    simp only [List.any_cons, List.any_nil, PyData.eqv, Bool.or_false, Bool.or_eq_true, decide_eq_true_eq]
    rcases h with h | h
    · left; simpa using h
    · right; simpa using h
  unfold gIn inL
  simp only [if_pos hf, ha, R.bind_ok]
  rfl
theorem str_nin (x : Str) (a b : Str) (h : ¬ (a = x ∨ b = x)) : gIn false (.str x) (.tuple [.str a, .str b]) = .ok (.bool false) := by
  have hf : flatD (.str x) = true ∧ List.all [PyData.str a, PyData.str b] flatD = true := ⟨rfl, rfl⟩
  have ha : (List.any [PyData.str a, PyData.str b] fun y => PyData.eqv y (.str x)) = false := by
    simp only [List.any_cons, List.any_nil, PyData.eqv, Bool.or_false, Bool.or_eq_false_iff, decide_eq_false_iff_not]
    constructor
    · simpa using fun z => h (.inl z)
    · simpa using fun z => h (.inr z)
  unfold gIn inL
  simp only [if_pos hf, ha, R.bind_ok]
  rfl
theorem cuts_1 : gIn false (.str "across") c_CUTS = .ok (.bool true) := str_in _ _ _ (.inl rfl)
theorem cuts_2 : gIn false (.str "along") c_CUTS = .ok (.bool true) := str_in _ _ _ (.inr rfl)
theorem cuts_3 : gIn false (.str "beside") c_CUTS = .ok (.bool false) := str_nin _ _ _ (by decide)
theorem cuts_4 : gIn false (.str "atop") c_CUTS = .ok (.bool false) := str_nin _ _ _ (by decide)
theorem cuts_5 : gIn false (.str "stack") c_CUTS = .ok (.bool false) := str_nin _ _ _ (by decide)
theorem cuts_6 : gIn false (.str "spread") c_CUTS = .ok (.bool false) := str_nin _ _ _ (by decide)
theorem shar_3 : gIn false (.str "beside") c_SHARES = .ok (.bool false) := str_nin _ _ _ (by decide)
theorem shar_4 : gIn false (.str "atop") c_SHARES = .ok (.bool false) := str_nin _ _ _ (by decide)
theorem shar_5 : gIn false (.str "stack") c_SHARES = .ok (.bool true) := str_in _ _ _ (.inl rfl)
theorem shar_6 : gIn false (.str "spread") c_SHARES = .ok (.bool true) := str_in _ _ _ (.inr rfl)
theorem glu_1 : gIn false (.str "across") c_GLUINGS = .ok (.bool false) := str_nin _ _ _ (by decide)
theorem glu_2 : gIn false (.str "along") c_GLUINGS = .ok (.bool false) := str_nin _ _ _ (by decide)
theorem glu_3 : gIn false (.str "beside") c_GLUINGS = .ok (.bool true) := str_in _ _ _ (.inl rfl)
theorem glu_4 : gIn false (.str "atop") c_GLUINGS = .ok (.bool true) := str_in _ _ _ (.inr rfl)
theorem glu_5 : gIn false (.str "stack") c_GLUINGS = .ok (.bool false) := str_nin _ _ _ (by decide)
theorem glu_6 : gIn false (.str "spread") c_GLUINGS = .ok (.bool false) := str_nin _ _ _ (by decide)
theorem glu_7 : gIn false (.str "turn") c_GLUINGS = .ok (.bool false) := str_nin _ _ _ (by decide)
theorem n23_2 : gIn true (.int 2) (.tuple [.int 2, .int 3]) = .ok (.bool false) := rfl
theorem n23_3 : gIn true (.int 3) (.tuple [.int 2, .int 3]) = .ok (.bool false) := rfl
/-- the length of a cut has few enough bits, a share's number is above 0 -/
def De.ok (n m : Nat) : De → Prop
  | .cr _ _ p q => BL p q n m
  | .sh _ _ k => 0 < k
  | _ => True
theorem is_deed_eq (δ : De) {n m : Nat} (hm : m ≤ 9000) (h : δ.ok n m) : m_is_deed [deD δ] = .ok (.bool true) := by
  cases δ with
  | cr al i p q =>
    have hb : BL p q n m := h
    have e := is_length_ln p q hm
    cases al
    · simp +decide only [deD, m_is_deed, den_is_deed, zEV9, n23_3, cuts_1, e]
    · simp +decide only [deD, m_is_deed, den_is_deed, zEV9, n23_3, cuts_2, e]
  | gl tp i j =>
    cases tp
    · simp +decide only [deD, m_is_deed, den_is_deed, zEV9, n23_3, cuts_3, shar_3, glu_3]
    · simp +decide only [deD, m_is_deed, den_is_deed, zEV9, n23_3, cuts_4, shar_4, glu_4]
  | sh sp i k =>
    have hk : 0 < k := h
    cases sp
    · simp +decide only [deD, m_is_deed, den_is_deed, zEV9, n23_3, cuts_5, shar_5, is_whole_int, hk]
    · simp +decide only [deD, m_is_deed, den_is_deed, zEV9, n23_3, cuts_6, shar_6, is_whole_int, hk]
  | tu i => simp +decide only [deD, m_is_deed, den_is_deed, zEV9, n23_2]
theorem names_in_eq (δ : De) : m_names_in [deD δ] = .ok (.list (δ.names.map PyData.int)) := by
  cases δ with
  | cr al i p q => cases al <;> simp +decide only [deD, De.names, List.map_cons, List.map_nil, m_names_in, den_names_in, zEV9, glu_1, glu_2]
  | gl tp i j => cases tp <;> simp +decide only [deD, De.names, List.map_cons, List.map_nil, m_names_in, den_names_in, zEV9, glu_3, glu_4]
  | sh sp i k => cases sp <;> simp +decide only [deD, De.names, List.map_cons, List.map_nil, m_names_in, den_names_in, zEV9, glu_5, glu_6]
  | tu i => simp +decide only [deD, De.names, List.map_cons, List.map_nil, m_names_in, den_names_in, zEV9, glu_7]
theorem turned_eq (b : Bo) : m_turned [boD b] = .ok (boD (tuB b)) := by
  simp +decide only [m_turned, den_turned, zEV9]
  rfl
instance bl_00 : BL 0 0 1 1 := ⟨⟨by decide⟩, ⟨by decide⟩, ⟨by decide⟩⟩
theorem cut_ok (d : Int) (hd : Root d) [Bd d 7] (x y p q : Rat) {n m n' m' : Nat} [i : BL x y n m] [j : BL p q n' m'] (h1 : PosQ d p q) (h2 : PosQ d (x - p) (y - q)) (k1 : m + m' ≤ 3900) (k2 : n ≤ 4400) (k3 : n' ≤ 4400) :
    m_cut [.int d, lnD x y, lnD p q] = .ok (.tuple [lnD p q, lnD (x - p) (y - q)]) := by
  obtain ⟨b1, e1, g1⟩ := under_bl 0 0 p q (by decide) (by omega) (by decide) (by omega) d hd
  obtain ⟨b2, e2, g2⟩ := under_bl p q x y (by omega) (by omega) (by omega) (by omega) d hd
  have s1 : p - 0 = p := by grind
  have s2 : q - 0 = q := by grind
  rw [s1, s2] at g1
  obtain rfl := g1.mpr h1
  obtain rfl := g2.mpr h2
  rw [← lz00] at e1
  have t := (taken_bl x y p q (by omega) (by omega) (by omega)).1
  simp +decide only [m_cut, den_cut, zEV9, e1, e2, t]
theorem glued_ok (x y u v p q r s : Rat) {n m : Nat} [i : BL x y n m] [j : BL p q n m] (hu : u = r) (hv : v = s) (k1 : m + m ≤ 3900) (k2 : n ≤ 4400) : m_glued [.tuple [lnD x y, lnD u v], .tuple [lnD p q, lnD r s]] = .ok (lnD (x + p) (y + q)) := by
  subst hu hv
  have t := (added_bl x y p q (by omega) (by omega) (by omega)).1
  have e : gNe (lnD u v) (lnD u v) = .ok (.bool false) := by simp +decide only [zEV9]
  simp +decide only [m_glued, den_glued, ev_seq, ev_if, ev_2, ev_V, List.getElem?_cons_zero, List.getElem?_cons_succ, dVg_ok, zEV9, e, t]
theorem bl_int {m : Int} {k : Nat} (b : Bd m k) : BL (m : Rat) 0 k 1 := by
  have e := q_self (a := m) (b := 0) (n := 1) ⟨by decide, by simp⟩
  have z1 : ((m : Int) : Rat) / ((1 : Int) : Rat) = (m : Rat) := by grind
  have z2 : ((0 : Int) : Rat) / ((1 : Int) : Rat) = 0 := by grind
  rw [z1, z2] at e
  refine ⟨by rw [e.1]; exact b, by rw [e.2.1]; exact ⟨Nat.two_pow_pos k⟩, by rw [e.2.2]; exact ⟨by decide⟩⟩
theorem length_int (m : Int) : m_length [.int m, .int 0, .int 1] = .ok (lnD (m : Rat) 0) := by
  have e := length_ln m 0 1 (by decide) (k := 1) (by decide)
  have z1 : ((m : Int) : Rat) / ((1 : Int) : Rat) = (m : Rat) := by grind
  have z2 : ((0 : Int) : Rat) / ((1 : Int) : Rat) = 0 := by grind
  rw [z1, z2] at e
  exact e
theorem shared_ok (d : Int) (hd : Root d) [Bd d 7] (x y u v : Rat) (m : Int) (hm : 0 < m) {n j k n' j' : Nat} (bm : Bd m k) [i : BL x y n j] [g : BL u v n' j'] (k1 : j + (2 * k + 8) ≤ 9000) (k2 : n ≤ 1000000) (k3 : j' ≤ 8000) (k4 : n' ≤ 1000000) :
    m_shared [.int d, lnD x y, lnD u v, .int m] = .ok (.tuple [lnD (x / m) (y / m), lnD (u * m) (v * m)]) := by
  have b1 := bl_int bm
  have hm0 : ((m : Int) : Rat) ≠ 0 := ratne (by omega)
  obtain ⟨p, _⟩ := parted_bl x y (m : Rat) 0 d hd (fun h => hm0 h.1) k1 k2 (by decide)
  have t := (timed_bl u v (m : Rat) 0 d (by omega) k4 (by omega)).1
  have e1 : x * ((m : Rat) / ((m : Rat) * m - d * 0 * 0)) + d * y * (-0 / ((m : Rat) * m - d * 0 * 0)) = x / m := by grind
  have e2 : x * (-0 / ((m : Rat) * m - d * 0 * 0)) + y * ((m : Rat) / ((m : Rat) * m - d * 0 * 0)) = y / m := by grind
  have e3 : u * (m : Rat) + d * v * 0 = u * m := by grind
  have e4 : u * 0 + v * (m : Rat) = v * m := by grind
  rw [e1, e2] at p
  rw [e3, e4] at t
  simp +decide only [m_shared, den_shared, zEV9, length_int, p, t]
end DL

set_option Elab.async false
set_option linter.all false
set_option maxRecDepth 100000
set_option maxHeartbeats 2000000
set_option autoImplicit false
/-! the yard: deeds are done -/
namespace DL
open PySem L2 MB
/-- bits of what a deed brings along -/
def De.bits (n m : Nat) : De → Prop
  | .cr _ _ p q => BL p q n m
  | .sh _ _ k => Bd k 2000
  | _ => True
theorem made_ok (d : Int) (hd : Root d) [Bd d 7] (δ : De) (bs : List Bo) (hf : δ.fit d bs) {n m : Nat} (hb : ∀ b ∈ bs, BW b n m) (hδ : δ.bits n m) (hm : m ≤ 1900) (hn : n ≤ 4400) : m_made [.int d, deD δ, .list (bs.map boD)] = .ok (.list ((δ.new bs).map boD)) := by
  cases δ with
  | cr al i p q =>
    match bs, hf with
    | [b], hf =>
      have bw := hb b (.head _)
      have b1 := bw.w; have b2 := bw.h
      have bp : BL p q n m := hδ
      obtain ⟨h1, h2⟩ := hf
      cases al
      · have c := cut_ok d hd b.x b.y p q h1 h2 (by omega) hn hn
        have L : lcL (.one 5) bYes le1_made [some (.d (.int d)), some (.d (.tuple [.str "across", .int i, lnD p q])), some (.d (.list [boD b])), some (.d (lnD b.x b.y)), some (.d (lnD b.u b.v)), none] [lnD p q, lnD (b.x - p) (b.y - q)] = .ok [boD ⟨p, q, b.u, b.v⟩, boD ⟨b.x - p, b.y - q, b.u, b.v⟩] :=
          lcL_1 (by simp +decide only [le1_made, zEV9]) (lcL_1 (by simp +decide only [le1_made, zEV9]) lcL_n)
        simp +decide only [deD, De.new, cutB, List.map_cons, List.map_nil, m_made, den_made, zEV9, c, kLcL_ev, L]
      · have c := cut_ok d hd b.u b.v p q h1 h2 (by omega) hn hn
        have L : lcL (.one 5) bYes le2_made [some (.d (.int d)), some (.d (.tuple [.str "along", .int i, lnD p q])), some (.d (.list [boD b])), some (.d (lnD b.x b.y)), some (.d (lnD b.u b.v)), none] [lnD p q, lnD (b.u - p) (b.v - q)] = .ok [boD ⟨b.x, b.y, p, q⟩, boD ⟨b.x, b.y, b.u - p, b.v - q⟩] :=
          lcL_1 (by simp +decide only [le2_made, zEV9]) (lcL_1 (by simp +decide only [le2_made, zEV9]) lcL_n)
        simp +decide only [deD, De.new, cutB, List.map_cons, List.map_nil, m_made, den_made, zEV9, c, kLcL_ev, L]
  | gl tp i j =>
    match bs, hf with
    | [b, c], hf =>
      have bw := hb b (.head _)
      have cw := hb c (.tail _ (.head _))
      have b1 := bw.w; have b2 := bw.h; have c1 := cw.w; have c2 := cw.h
      cases tp
      · have hf' : b.u = c.u ∧ b.v = c.v := hf
        have g := glued_ok b.x b.y b.u b.v c.x c.y c.u c.v hf'.1 hf'.2 (by omega) hn
        simp +decide only [deD, De.new, glB, List.map_cons, List.map_nil, m_made, den_made, zEV9, g]
      · have hf' : b.x = c.x ∧ b.y = c.y := hf
        have g := glued_ok b.u b.v b.x b.y c.u c.v c.x c.y hf'.1 hf'.2 (by omega) hn
        have t1 := turned_eq b
        have t2 := turned_eq c
        simp +decide only [tuB] at t1 t2
        simp +decide only [deD, De.new, glB, List.map_cons, List.map_nil, m_made, den_made, zEV9, t1, t2, g]
  | sh sp i k =>
    match bs, hf with
    | [b], hf =>
      have bw := hb b (.head _)
      have b1 := bw.w; have b2 := bw.h
      have bk : Bd k 2000 := hδ
      cases sp
      · have s := shared_ok d hd b.x b.y b.u b.v k hf bk (by omega) (by omega) (by omega) (by omega)
        simp +decide only [deD, De.new, shB, List.map_cons, List.map_nil, m_made, den_made, zEV9, s]
      · have s := shared_ok d hd b.u b.v b.x b.y k hf bk (by omega) (by omega) (by omega) (by omega)
        have t := turned_eq ⟨b.u / k, b.v / k, b.x * k, b.y * k⟩
        simp +decide only [tuB] at t
        simp +decide only [deD, De.new, shB, List.map_cons, List.map_nil, m_made, den_made, zEV9, s, t]
  | tu i =>
    match bs, hf with
    | [b], hf =>
      have t := turned_eq b
      simp +decide only [deD, De.new, List.map_cons, List.map_nil, m_made, den_made, zEV9, t]
/-! ### do -/
def delAll (L : Lst) (is : List Int) : Lst := is.foldl delB L
def Ya.do_ (Y : Ya) (δ : De) (bs : List Bo) : Ya := { Y with L := delAll Y.L δ.names ++ numB Y.u (δ.new bs), u := Y.u + (δ.new bs).length, g := Y.g ++ [deD δ] }
theorem getB_del {L : Lst} {i j : Int} (h : i ≠ j) : getB (delB L i) j = getB L j := by
  unfold getB delB
  congr 1
  induction L with
  | nil => rfl
  | cons p L ih =>
    by_cases c : p.1 = i
    · rw [List.filter_cons_of_neg (by simpa using c), List.find?_cons_of_neg (by simp; omega)]
      exact ih
    · rw [List.filter_cons_of_pos (by simpa using c)]
      by_cases c2 : p.1 = j
      · rw [List.find?_cons_of_pos (by simpa using c2), List.find?_cons_of_pos (by simpa using c2)]
      · rw [List.find?_cons_of_neg (by simpa using c2), List.find?_cons_of_neg (by simpa using c2)]
        exact ih
theorem lok {L : Lst} {i : Int} {b : Bo} (h : getB L i = some b) : (kGet (kvY L) (.inl i)).isSome = true ∧ kGetR (kvY L) (.int i) = .ok (boD b) := by
  have e : kGet (kvY L) (.inl i) = some (boD b) := by rw [kGet_y, h]; rfl
  exact ⟨by rw [e]; rfl, kGetR_i e⟩
theorem inl_y {L : Lst} {i : Int} {b : Bo} {neg : Bool} (h : getB L i = some b) : kInR neg (kvY L) (.int i) = .ok (.bool (true != neg)) := by
  rw [kInR_i, (lok h).1]
/-- one board's deeds -/
theorem do_one (d : Int) [Bd d 7] (Y : Ya) (δ : De) (i : Int) (b : Bo) (nb : List Bo) (hn : δ.names = [i]) (hi : getB Y.L i = some b) (e1 : m_is_deed [deD δ] = .ok (.bool true)) (e3 : m_made [.int d, deD δ, .list [boD b]] = .ok (.list (nb.map boD))) (w : Str) (ds : List PD) (hw : deD δ = .tuple (.str w :: ds))
    (ht : w = "turn" → Y.t = true) (ha : Asc Y.L Y.u) (hu : 0 ≤ Y.u) (hl : Y.L.length + nb.length < 16777216) (hg : Y.g.length < 16777216) :
    m_Yard_do (YF d Y) [.none, deD δ] = .ok .none (YF d { Y with L := delB Y.L i ++ numB Y.u nb, u := Y.u + nb.length, g := Y.g ++ [deD δ] }) := by
  have e2 := names_in_eq δ
  rw [hn] at e2
  simp only [List.map_cons, List.map_nil] at e2
  have l := lok hi
  have n1 := inl_y (neg := true) hi
  have l1 := l.1
  have l2 := l.2
  have L : lcL (.one 3) bYes le2_Yard_do [some (.me "Yard" (YF d Y)), some (.d (deD δ)), some (.d (.list [.int i])), none, none] [.int i] = .ok [boD b] :=
    lcL_1 (by simp +decide only [le2_Yard_do, zYO9, l2]) lcL_n
  have hl2 : (delB Y.L i).length ≤ Y.L.length := List.length_filter_le _ _
  have p := Yard_put_eq d { Y with L := delB Y.L i } nb (by dsimp only; omega) (ha.del i) hu
  dsimp only at p
  have tt : (if w = "turn" then (R.ok (!Y.t) : R Bool) else .ok false) = .ok false := by
    by_cases c : w = "turn"
    · rw [if_pos c, ht c]; rfl
    · rw [if_neg c]
  have ix0 : gIx (deD δ) (.int 0) = .ok (.str w) := by rw [hw]; exact ix_t0
  simp +decide only [m_Yard_do, den_Yard_do, lb1_Yard_do, lb3_Yard_do, zYO9, e1, e2, e3, forL_1, forL_nil, is_whole_int, n1, kLcL_ev, L, l1, kDrop_y, p, ix0, tt, hg]
end DL

set_option Elab.async false
set_option linter.all false
set_option maxRecDepth 100000
set_option maxHeartbeats 2000000
set_option autoImplicit false
/-! the yard: all deeds; what it tells; the law's own walk -/
namespace DL
open PySem L2 MB
theorem do_two (d : Int) [Bd d 7] (Y : Ya) (δ : De) (i j : Int) (b c : Bo) (nb : List Bo) (hn : δ.names = [i, j]) (hi : getB Y.L i = some b) (hj : getB Y.L j = some c) (hij : i ≠ j) (e1 : m_is_deed [deD δ] = .ok (.bool true)) (e3 : m_made [.int d, deD δ, .list [boD b, boD c]] = .ok (.list (nb.map boD))) (w : Str) (ds : List PD) (hw : deD δ = .tuple (.str w :: ds))
    (ht : w ≠ "turn") (ha : Asc Y.L Y.u) (hu : 0 ≤ Y.u) (hl : Y.L.length + nb.length < 16777216) (hg : Y.g.length < 16777216) :
    m_Yard_do (YF d Y) [.none, deD δ] = .ok .none (YF d { Y with L := delB (delB Y.L i) j ++ numB Y.u nb, u := Y.u + nb.length, g := Y.g ++ [deD δ] }) := by
  have e2 := names_in_eq δ
  rw [hn] at e2
  simp only [List.map_cons, List.map_nil] at e2
  have n1 := inl_y (neg := true) hi
  have n2 := inl_y (neg := true) hj
  have l1 := (lok hi).1
  have l2 := (lok hi).2
  have r2 := (lok hj).2
  have hj' : getB (delB Y.L i) j = some c := by rw [getB_del hij]; exact hj
  have r1 := (lok hj').1
  have L : lcL (.one 3) bYes le2_Yard_do [some (.me "Yard" (YF d Y)), some (.d (deD δ)), some (.d (.list [.int i, .int j])), none, none] [.int i, .int j] = .ok [boD b, boD c] :=
    lcL_1 (by simp +decide only [le2_Yard_do, zYO9, l2]) (lcL_1 (by simp +decide only [le2_Yard_do, zYO9, r2]) lcL_n)
  have hl1 : (delB Y.L i).length ≤ Y.L.length := List.length_filter_le _ _
  have hl2 : (delB (delB Y.L i) j).length ≤ (delB Y.L i).length := List.length_filter_le _ _
  have p := Yard_put_eq d { Y with L := delB (delB Y.L i) j } nb (by dsimp only; omega) ((ha.del i).del j) hu
  dsimp only at p
  have ix0 : gIx (deD δ) (.int 0) = .ok (.str w) := by rw [hw]; exact ix_t0
  simp +decide only [m_Yard_do, den_Yard_do, lb1_Yard_do, lb3_Yard_do, zYO9, e1, e2, e3, forL_1, forL_nil, is_whole_int, n1, n2, kLcL_ev, L, l1, r1, kDrop_y, p, ix0, ht, hg, hij]
/-- the boards that a deed names -/
def De.at_ (δ : De) (L : Lst) (bs : List Bo) : Prop := match δ.names, bs with
  | [i], [b] => getB L i = some b
  | [i, j], [b, c] => getB L i = some b ∧ getB L j = some c ∧ i ≠ j
  | _, _ => False
theorem De.ok_of {δ : De} {d : Int} {bs : List Bo} {n m : Nat} (hf : δ.fit d bs) (hb : δ.bits n m) : δ.ok n m := by
  cases δ with
  | cr al i p q => exact hb
  | gl tp i j => trivial
  | sh sp i k =>
    match bs, hf with
    | [b], hf => exact hf
  | tu i => trivial
theorem Yard_do_eq (d : Int) (hd : Root d) [Bd d 7] (Y : Ya) (δ : De) (bs : List Bo) (hf : δ.fit d bs) (hA : δ.at_ Y.L bs) (ht : ∀ i, δ = .tu i → Y.t = true) {n m : Nat} (hb : ∀ b ∈ bs, BW b n m) (hδ : δ.bits n m) (hm : m ≤ 1900) (hn : n ≤ 4400) (ha : Asc Y.L Y.u) (hu : 0 ≤ Y.u) (hl : Y.L.length < 16000000) (hg : Y.g.length < 16777216) :
    m_Yard_do (YF d Y) [.none, deD δ] = .ok .none (YF d (Y.do_ δ bs)) := by
  have e1 := is_deed_eq δ (show m ≤ 9000 by omega) (De.ok_of hf hδ)
  have e3 := made_ok d hd δ bs hf hb hδ hm hn
  cases δ with
  | cr al i p q =>
    match bs, hf, hA with
    | [b], hf, hA =>
      have hl2 : ((De.cr al i p q).new [b]).length = 2 := by cases al <;> rfl
      cases al
      · exact do_one d Y _ i b _ rfl hA e1 e3 "across" [.int i, lnD p q] rfl (fun h => absurd h (by decide)) ha hu (by rw [hl2]; omega) hg
      · exact do_one d Y _ i b _ rfl hA e1 e3 "along" [.int i, lnD p q] rfl (fun h => absurd h (by decide)) ha hu (by rw [hl2]; omega) hg
  | gl tp i j =>
    match bs, hf, hA with
    | [b, c], hf, hA =>
      have hl2 : ((De.gl tp i j).new [b, c]).length = 1 := by cases tp <;> rfl
      obtain ⟨h1, h2, h3⟩ := hA
      cases tp
      · exact do_two d Y _ i j b c _ rfl h1 h2 h3 e1 e3 "beside" [.int i, .int j] rfl (by decide) ha hu (by rw [hl2]; omega) hg
      · exact do_two d Y _ i j b c _ rfl h1 h2 h3 e1 e3 "atop" [.int i, .int j] rfl (by decide) ha hu (by rw [hl2]; omega) hg
  | sh sp i k =>
    match bs, hf, hA with
    | [b], hf, hA =>
      have hl2 : ((De.sh sp i k).new [b]).length = 1 := by cases sp <;> rfl
      cases sp
      · exact do_one d Y _ i b _ rfl hA e1 e3 "stack" [.int i, .int k] rfl (fun h => absurd h (by decide)) ha hu (by rw [hl2]; omega) hg
      · exact do_one d Y _ i b _ rfl hA e1 e3 "spread" [.int i, .int k] rfl (fun h => absurd h (by decide)) ha hu (by rw [hl2]; omega) hg
  | tu i =>
    match bs, hf, hA with
    | [b], hf, hA =>
      have hl2 : ((De.tu i).new [b]).length = 1 := rfl
      exact do_one d Y _ i b _ rfl hA e1 e3 "turn" [.int i] rfl (fun _ => ht i rfl) ha hu (by rw [hl2]; omega) hg
/-! ### the law's own walk -/
section
variable (x y u v : Rat) {n m n' m' : Nat} [i : BL x y n m] [j : BL u v n' m']
end
end DL

set_option Elab.async false
set_option linter.all false
set_option maxRecDepth 100000
set_option maxHeartbeats 2000000
set_option autoImplicit false
/-! the yard: the law's own walk -/
namespace DL
open PySem L2 MB
end DL

set_option Elab.async false
set_option linter.all false
set_option maxRecDepth 100000
set_option maxHeartbeats 2000000
set_option autoImplicit false
/-! what the laws on yards draw -/
namespace DL
open PySem L2 MB
/-! ### a drawn side -/
/-- a length above 0, its numbers of few bits -/
def Dr (d : Int) (p : Rat × Rat) : Prop := PosQ d p.1 p.2 ∧ ∃ n : Int, 0 < n ∧ Bd n 21 ∧ Ov n 42 p.1 p.2
theorem Dr.one {d : Int} (hd : Root d) : Dr d (1, 0) := by
  refine ⟨?_, 1, by decide, ⟨by decide⟩, 1, 0, ⟨by decide⟩, ⟨by decide⟩, by grind, by grind⟩
  left
  have : (0 : Rat) < 1 := by decide
  constructor
  · show (d : Rat) * 0 * 0 < 1 * 1
    grind
  · exact this
end DL

set_option Elab.async false
set_option linter.all false
set_option maxRecDepth 100000
set_option maxHeartbeats 2000000
set_option autoImplicit false
namespace DL
open PySem L2 MB
theorem five {α : Type} {l : List α} (h : l.length = 5) : ∃ a b c d e, l = [a, b, c, d, e] := by
  match l, h with
  | [a, b, c, d, e], _ => exact ⟨a, b, c, d, e, rfl⟩
/-! ### which is less -/
/-- where a cut is -/
structure Cut (d : Int) (pool : List (Rat × Rat)) (x y p q : Rat) : Prop where
  pos : PosQ d p q
  less : PosQ d (x - p) (y - q)
  from_ : (p, q) ∈ pool ∨ ∃ t b : Int, 0 < t ∧ t < b ∧ b ≤ 1001 ∧ p = x * t / b ∧ q = y * t / b
end DL

set_option Elab.async false
set_option linter.all false
set_option maxRecDepth 100000
set_option maxHeartbeats 2000000
set_option autoImplicit false
namespace DL
open PySem L2 MB
/-- a drawn board -/
def DrB (d : Int) (b : Bo) : Prop := Dr d (b.x, b.y) ∧ Dr d (b.u, b.v)
end DL

set_option Elab.async false
set_option linter.all false
set_option maxRecDepth 100000
set_option maxHeartbeats 1000000
set_option autoImplicit false
namespace DL
open PySem L2 MB
/-! data that is plain and shallow -/
def FyD (k : Nat) (v : PD) : Prop := v.canLay0 = true ∧ v.depth ≤ k ∧ plain v = true
theorem fyD_list {k : Nat} : ∀ (vs : List PD), (∀ v ∈ vs, FyD k v) → PyData.canLayAll0 vs = true ∧ PyData.depthAll vs ≤ k ∧ plainA vs = true
  | [], _ => ⟨rfl, Nat.zero_le _, rfl⟩
  | v :: vs, h => by
    have a := h v (List.mem_cons_self ..)
    have b := fyD_list vs (fun u hu => h u (List.mem_cons_of_mem _ hu))
    refine ⟨?_, ?_, ?_⟩
    · simp [PyData.canLayAll0, a.1, b.1]
    · simp only [PyData.depthAll]
      have := a.2.1
      have := b.2.1
      omega
    · simp [plainA, a.2.2, b.2.2]
theorem fyD_l {vs : List PD} {k : Nat} (h : ∀ v ∈ vs, FyD k v) (hk : k ≤ 60) : FyD (k + 1) (.list vs) ∧ SeqAt.shaped (.list vs) = true := by
  have f := fyD_list vs h
  have c : (PyData.list vs).canLay0 = true := by simp only [PyData.canLay0]; exact f.1
  have d : (PyData.list vs).depth ≤ k + 1 := by simp only [PyData.depth]; have := f.2.1; omega
  have p : plain (.list vs) = true := by simpa [plain] using f.2.2
  refine ⟨⟨c, d, p⟩, ?_⟩
  unfold SeqAt.shaped
  rw [c, decide_eq_true (show (PyData.list vs).depth ≤ 64 by omega)]
  rfl
theorem gEq_ly {vs : List PD} {k : Nat} (h : ∀ v ∈ vs, FyD k v) (hk : k ≤ 60) : gEq (.list vs) (.list vs) = .ok (.bool true) := by
  obtain ⟨⟨_, _, p⟩, s⟩ := fyD_l h hk
  exact gEq_l s s ((eqv_plain _ _ p p).mpr rfl)
/-- data that is shallow -/
def FyC (k : Nat) (v : PD) : Prop := v.canLay0 = true ∧ v.depth ≤ k
theorem FyC.up {k m : Nat} {v : PD} (h : FyC k v) (hk : k ≤ m) : FyC m v := ⟨h.1, Nat.le_trans h.2 hk⟩
theorem FyC.sh {k : Nat} {v : PD} (h : FyC k v) (hk : k ≤ 60) : SeqAt.shaped v = true := by
  unfold SeqAt.shaped
  rw [h.1, decide_eq_true (show v.depth ≤ 64 by have := h.2; omega)]
  rfl
end DL

set_option Elab.async false
set_option linter.all false
set_option maxRecDepth 100000
set_option maxHeartbeats 2000000
set_option autoImplicit false
namespace DL
open PySem L2 MB
section
variable (d : Int) (hd : Root d) [Bd d 7] (c : Int) [bc : Bd c 1048576] (L : Lst) (pl : PD) (zs : List Int)
end
end DL

set_option Elab.async false
set_option linter.all false
set_option maxRecDepth 100000
set_option maxHeartbeats 2000000
set_option autoImplicit false
/-! the law's own table -/
namespace DL
open PySem L2 MB
/-- what holds of a table's place -/
structure Pl (D : Int) (n : Nat) (i j : Int) (X U : Bo → Rat) (W H : Bo → Int) : Prop where
  hW : ∀ b : Bo, gIx (lnD b.x b.y) (.int i) = .ok (.int (W b))
  hH : ∀ b : Bo, gIx (lnD b.u b.v) (.int j) = .ok (.int (H b))
  vW : ∀ b : Bo, (W b : Rat) = X b * (qN b.x b.y : Rat)
  vH : ∀ b : Bo, (H b : Rat) = U b * (qN b.u b.v : Rat)
  cW : ∀ b : Bo, W b = qA b.x b.y ∨ W b = qB b.x b.y
  cH : ∀ b : Bo, H b = qA b.u b.v ∨ H b = qB b.u b.v
  oX : ∀ b : Bo, OvB D n b → ∃ A : Int, Bd A n ∧ X b = (A : Rat) / D
  oU : ∀ b : Bo, OvB D n b → ∃ A : Int, Bd A n ∧ U b = (A : Rat) / D
end DL

set_option Elab.async false
set_option linter.all false
set_option maxRecDepth 100000
set_option maxHeartbeats 2000000
set_option autoImplicit false
/-! what stays, from deed to deed -/
namespace DL
open PySem L2 MB
theorem Cut.ov {d : Int} {pool : List (Rat × Rat)} {x y p q : Rat} (hC : Cut d pool x y p q) {D : Int} {n : Nat} (hD : 0 < D) (hx : Ov D n x y) (hp : ∀ p ∈ pool, Ov D n p.1 p.2) : ∃ k : Int, 0 < k ∧ Bd k 14 ∧ Ov (D * k) (n + 14) p q := by
  rcases hC.from_ with h | ⟨t, b, h1, h2, h3, rfl, rfl⟩
  · exact ⟨1, by decide, bd_one (by decide), (hp _ h).scale (by omega) (by decide) (bd_one (by decide))⟩
  · have t10 : (2 : Nat) ^ 10 = 1024 := by decide
    have bb : Bd b 10 := ⟨by omega⟩
    have bt : Bd t 10 := ⟨by omega⟩
    exact ⟨b, by omega, bb.mono (by decide), ((hx.mul bt).div (by omega) (by omega)).mono (by omega)⟩
/-! ### sums over a yard -/
theorem numB_bo : ∀ (bs : List Bo) (u : Int), (numB u bs).map (·.2) = bs
  | [], _ => rfl
  | b :: bs, u => by rw [numB, List.map_cons, numB_bo bs]
theorem sumB_del (f : Bo → Rat) {i : Int} {b : Bo} : ∀ L : Lst, L.Pairwise (fun p q => p.1 < q.1) → getB L i = some b → sumB f ((delB L i).map (·.2)) + f b = sumB f (L.map (·.2))
  | [], _, h => nomatch h
  | p :: L, hp, h => by
    obtain ⟨h1, h2⟩ := List.pairwise_cons.mp hp
    by_cases c : p.1 = i
    · have e : getB (p :: L) i = some p.2 := by
        unfold getB
        rw [List.find?_cons_of_pos (by simpa using c)]; rfl
      rw [e] at h
      cases h
      have d : delB (p :: L) i = L := by
        unfold delB
        rw [List.filter_cons_of_neg (by simpa using c)]
        exact List.filter_eq_self.mpr fun q hq => by
          have := h1 q hq
          simp
          omega
      rw [d, List.map_cons, sumB]
      grind
    · have e : getB (p :: L) i = getB L i := by
        unfold getB
        rw [List.find?_cons_of_neg (by simpa using c)]
      rw [e] at h
      have d : delB (p :: L) i = p :: delB L i := by
        unfold delB
        rw [List.filter_cons_of_pos (by simpa using c)]
      have ih := sumB_del f L h2 h
      rw [d, List.map_cons, List.map_cons, sumB, sumB]
      grind
theorem delB_len {i : Int} {b : Bo} : ∀ L : Lst, L.Pairwise (fun p q => p.1 < q.1) → getB L i = some b → (delB L i).length + 1 = L.length
  | [], _, h => nomatch h
  | p :: L, hp, h => by
    obtain ⟨h1, h2⟩ := List.pairwise_cons.mp hp
    by_cases c : p.1 = i
    · have d : delB (p :: L) i = L := by
        unfold delB
        rw [List.filter_cons_of_neg (by simpa using c)]
        exact List.filter_eq_self.mpr fun q hq => by
          have := h1 q hq
          simp
          omega
      rw [d, List.length_cons]
    · have e : getB (p :: L) i = getB L i := by
        unfold getB
        rw [List.find?_cons_of_neg (by simpa using c)]
      rw [e] at h
      have d : delB (p :: L) i = p :: delB L i := by
        unfold delB
        rw [List.filter_cons_of_pos (by simpa using c)]
      have ih := delB_len L h2 h
      rw [d, List.length_cons, List.length_cons]
      omega
def bosL (L : Lst) : List Bo := L.map (·.2)
theorem delAll_1 {L : Lst} {δ : De} {i : Int} (h : δ.names = [i]) : delAll L δ.names = delB L i := by rw [h]; rfl
theorem delAll_2 {L : Lst} {δ : De} {i j : Int} (h : δ.names = [i, j]) : delAll L δ.names = delB (delB L i) j := by rw [h]; rfl
theorem at_facts {L : Lst} {u : Int} (ha : Asc L u) {δ : De} {bs : List Bo} (h : δ.at_ L bs) : (∀ f : Bo → Rat, sumB f (bosL (delAll L δ.names)) + sumB f bs = sumB f (bosL L)) ∧ Asc (delAll L δ.names) u ∧ (∀ p ∈ delAll L δ.names, p ∈ L) ∧ (delAll L δ.names).length + bs.length = L.length ∧ (∀ b ∈ bs, ∃ i, (i, b) ∈ L) := by
  unfold De.at_ at h
  match hn : δ.names, bs, h with
  | [i], [b], h =>
    have h : getB L i = some b := h
    have e : delAll L [i] = delB L i := rfl
    rw [e]
    refine ⟨fun f => ?_, ha.del i, fun p hp => (List.mem_filter.mp hp).1, ?_, fun c hc => ?_⟩
    · have := sumB_del f L ha.1 h
      unfold bosL
      rw [sumB, sumB]
      grind
    · have := delB_len L ha.1 h
      simpa using this
    · rw [List.mem_singleton] at hc
      subst hc
      exact ⟨i, getB_mem h⟩
  | [i, j], [b, c], h =>
    obtain ⟨h1, h2, h3⟩ := h
    have h2' : getB (delB L i) j = some c := by rw [getB_del h3]; exact h2
    have e : delAll L [i, j] = delB (delB L i) j := rfl
    rw [e]
    refine ⟨fun f => ?_, (ha.del i).del j, fun p hp => (List.mem_filter.mp (List.mem_filter.mp hp).1).1, ?_, fun a hc => ?_⟩
    · have a1 := sumB_del f L ha.1 h1
      have a2 := sumB_del f (delB L i) (ha.del i).1 h2'
      unfold bosL
      rw [sumB, sumB, sumB]
      grind
    · have a1 := delB_len L ha.1 h1
      have a2 := delB_len (delB L i) (ha.del i).1 h2'
      simp only [List.length_cons, List.length_nil]
      omega
    · simp only [List.mem_cons, List.not_mem_nil, or_false] at hc
      rcases hc with rfl | rfl
      · exact ⟨i, getB_mem h1⟩
      · exact ⟨j, getB_mem h2⟩
/-- a yard whose boards are above 0, over one bottom -/
structure YI (d : Int) (pool : List (Rat × Rat)) (L : Lst) (u D : Int) (j n : Nat) : Prop where
  asc : Asc L u
  u0 : 0 ≤ u
  ne : L ≠ []
  D0 : 0 < D
  bD : Bd D j
  bos : ∀ p ∈ L, PosB d p.2 ∧ OvB D n p.2
  pool : ∀ p ∈ pool, PosQ d p.1 p.2 ∧ Ov D n p.1 p.2
/-- the yard behind a deed -/
def nextL (L : Lst) (u : Int) (δ : De) (bs : List Bo) : Lst := delAll L δ.names ++ numB u (δ.new bs)
theorem OvB.bw {D : Int} {n j : Nat} {b : Bo} (hD : 0 < D) (bD : Bd D j) (h : OvB D n b) : BW b n j := ⟨h.w.bl hD bD, h.h.bl hD bD⟩
end DL

set_option Elab.async false
set_option linter.all false
set_option maxRecDepth 100000
set_option maxHeartbeats 2000000
set_option autoImplicit false
/-! the yards' start -/
namespace DL
open PySem L2 MB
theorem common {d : Int} : ∀ ps : List (Rat × Rat), (∀ p ∈ ps, Dr d p) → ∃ D : Int, 0 < D ∧ Bd D (21 * ps.length + 1) ∧ ∀ p ∈ ps, Ov D (43 + 21 * ps.length) p.1 p.2
  | [], _ => ⟨1, by decide, bd_one (by decide), fun p hp => nomatch hp⟩
  | p :: ps, h => by
    obtain ⟨D, D0, bD, hD⟩ := common ps fun q hq => h q (.tail _ hq)
    obtain ⟨_, n, n0, bn, on⟩ := h p (.head _)
    rw [List.length_cons]
    refine ⟨D * n, Int.mul_pos D0 n0, Bd.mono (inferInstance : Bd (D * n) (21 * ps.length + 1 + 21)) (by omega), fun q hq => ?_⟩
    rcases List.mem_cons.mp hq with rfl | hq
    · have s := on.scale (k := D) (by omega) (by omega) bD
      rw [Int.mul_comm n D] at s
      exact s.mono (by omega)
    · exact ((hD q hq).scale (k := n) (by omega) (by omega) bn).mono (by omega)
def sides : List Bo → List (Rat × Rat)
  | [] => []
  | b :: bs => (b.x, b.y) :: (b.u, b.v) :: sides bs
theorem sides_len : ∀ bs : List Bo, (sides bs).length = 2 * bs.length
  | [] => rfl
  | b :: bs => by rw [sides, List.length_cons, List.length_cons, sides_len bs, List.length_cons]; omega
theorem sides_dr {d : Int} : ∀ bs : List Bo, (∀ b ∈ bs, DrB d b) → ∀ p ∈ sides bs, Dr d p
  | [], _, p, hp => nomatch hp
  | b :: bs, h, p, hp => by
    have hb := h b (.head _)
    rcases List.mem_cons.mp hp with rfl | hp
    · exact hb.1
    · rcases List.mem_cons.mp hp with rfl | hp
      · exact hb.2
      · exact sides_dr bs (fun c hc => h c (.tail _ hc)) p hp
theorem sides_mem : ∀ {bs : List Bo} {b : Bo}, b ∈ bs → (b.x, b.y) ∈ sides bs ∧ (b.u, b.v) ∈ sides bs
  | c :: bs, b, h => by
    rcases List.mem_cons.mp h with rfl | h
    · exact ⟨.head _, .tail _ (.head _)⟩
    · have := sides_mem h
      exact ⟨.tail _ (.tail _ this.1), .tail _ (.tail _ this.2)⟩
/-- a drawn yard -/
theorem YI.start {d : Int} (pool : List (Rat × Rat)) (h3 : pool.length = 3) (hp : ∀ p ∈ pool, Dr d p) (bs : List Bo) (h1 : 1 ≤ bs.length) (h6 : bs.length ≤ 6) (hb : ∀ b ∈ bs, DrB d b) : ∃ D : Int, YI d pool (numB 0 bs) bs.length D 316 358 := by
  obtain ⟨D, D0, bD, hD⟩ := common (pool ++ sides bs) fun p hq => by
    rcases List.mem_append.mp hq with hq | hq
    · exact hp p hq
    · exact sides_dr bs hb p hq
  rw [List.length_append, h3, sides_len] at bD hD
  have ha : Asc (numB 0 bs) (0 + bs.length) := Asc.put (L := []) (u := 0) ⟨.nil, fun p hp => nomatch hp⟩ (Int.le_refl _) bs
  rw [Int.zero_add] at ha
  refine ⟨D, ha, by omega, fun e => ?_, D0, bD.mono (by omega), fun p hq => ?_, fun p hq => ⟨(hp p hq).1, (hD p (List.mem_append.mpr (.inl hq))).mono (by omega)⟩⟩
  · have := congrArg List.length e
    rw [numB_len] at this
    simp only [List.length_nil] at this
    omega
  · have m := (numB_mem _ _ _ hq).2.2
    have s := sides_mem m
    have hd := hb _ m
    exact ⟨⟨hd.1.1, hd.2.1⟩, ⟨(hD _ (List.mem_append.mpr (.inr s.1))).mono (by omega), (hD _ (List.mem_append.mpr (.inr s.2))).mono (by omega)⟩⟩
end DL

set_option Elab.async false
set_option linter.all false
set_option maxRecDepth 100000
set_option maxHeartbeats 4000000
set_option autoImplicit false
/-! the yard: what is refused -/
namespace DL
open PySem L2 MB
/-! ### what is told -/
theorem YI.mono {d : Int} {pool : List (Rat × Rat)} {L : Lst} {u D : Int} {j n j' n' : Nat} (I : YI d pool L u D j n) (hj : j ≤ j') (hn : n ≤ n') : YI d pool L u D j' n' :=
  ⟨I.asc, I.u0, I.ne, I.D0, I.bD.mono hj, fun p hp => ⟨(I.bos p hp).1, ⟨(I.bos p hp).2.w.mono hn, (I.bos p hp).2.h.mono hn⟩⟩, fun p hp => ⟨(I.pool p hp).1, (I.pool p hp).2.mono hn⟩⟩
end DL

set_option Elab.async false
set_option linter.all false
set_option maxRecDepth 100000
set_option maxHeartbeats 1000000
set_option autoImplicit false
/-! k35: a plan back: names, places, boards -/
namespace DL
open PySem L2 MB
/-! ### name, place, board -/
abbrev Tr := List (Int × Int × Bo)
def tN (t : Int × Int × Bo) : Int × Bo := (t.1, t.2.2)
def tP (t : Int × Int × Bo) : Int × Bo := (t.2.1, t.2.2)
structure Bij (T : Tr) (L M : Lst) : Prop where
  l : (T.map tN).Perm L
  m : (T.map tP).Perm M
abbrev Up (L : Lst) : Prop := L.Pairwise (fun p q => p.1 < q.1)
theorem Up.nd {L : Lst} (h : Up L) : (L.map (·.1)).Nodup := List.pairwise_map.mpr (h.imp fun {a b} q => by omega)
theorem inj_nd {α β : Type} {f : α → β} : ∀ {l : List α} {a b : α}, (l.map f).Nodup → a ∈ l → b ∈ l → f a = f b → a = b
  | x :: l, a, b, h, ha, hb, e => by
    obtain ⟨h1, h2⟩ := List.nodup_cons.mp h
    rcases List.mem_cons.mp ha with ha1 | ha1
    · rcases List.mem_cons.mp hb with hb1 | hb1
      · rw [ha1, hb1]
      · exact absurd (List.mem_map.mpr ⟨b, hb1, by rw [← e, ha1]⟩) h1
    · rcases List.mem_cons.mp hb with hb1 | hb1
      · exact absurd (List.mem_map.mpr ⟨a, ha1, by rw [e, hb1]⟩) h1
      · exact inj_nd h2 ha1 hb1 e
section
variable {T : Tr} {L M : Lst}
theorem Bij.ndN (B : Bij T L M) (h : Up L) : (T.map (·.1)).Nodup := by
  have e : T.map (·.1) = (T.map tN).map (·.1) := by rw [List.map_map]; rfl
  rw [e]
  exact (B.l.map _).nodup_iff.mpr h.nd
theorem Bij.ndP (B : Bij T L M) (h : Up M) : (T.map (·.2.1)).Nodup := by
  have e : T.map (·.2.1) = (T.map tP).map (·.1) := by rw [List.map_map]; rfl
  rw [e]
  exact (B.m.map _).nodup_iff.mpr h.nd
theorem Bij.inL (B : Bij T L M) {t : Int × Int × Bo} (h : t ∈ T) : (t.1, t.2.2) ∈ L := B.l.mem_iff.mp (List.mem_map.mpr ⟨t, h, rfl⟩)
def delT (T : Tr) (n : Int) : Tr := T.filter fun t => decide (t.1 ≠ n)
theorem Bij.del (B : Bij T L M) (hL : Up L) (hM : Up M) {t : Int × Int × Bo} (h : t ∈ T) : Bij (delT T t.1) (delB L t.1) (delB M t.2.1) := by
  refine ⟨?_, ?_⟩
  · have e : (delT T t.1).map tN = (T.map tN).filter fun p => decide (p.1 ≠ t.1) := by
      rw [List.filter_map]
      rfl
    rw [e]
    exact B.l.filter _
  · have e : (delT T t.1).map tP = (T.map tP).filter fun p => decide (p.1 ≠ t.2.1) := by
      rw [List.filter_map]
      unfold delT
      congr 1
      refine List.filter_congr fun s hs => ?_
      have g1 : s.1 = t.1 ↔ s.2.1 = t.2.1 := ⟨fun q => by rw [inj_nd (f := (·.1)) (B.ndN hL) hs h q], fun q => by rw [inj_nd (f := (·.2.1)) (B.ndP hM) hs h q]⟩
      show decide (s.1 ≠ t.1) = decide ((tP s).1 ≠ t.2.1)
      have : (s.1 ≠ t.1) ↔ ((tP s).1 ≠ t.2.1) := not_congr g1
      exact decide_eq_decide.mpr this
    rw [e]
    exact B.m.filter _
theorem Bij.add (B : Bij T L M) (i v : Int) (b : Bo) : Bij (T ++ [(i, v, b)]) (L ++ [(i, b)]) (M ++ [(v, b)]) :=
  ⟨by rw [List.map_append]; exact B.l.append (.refl _), by rw [List.map_append]; exact B.m.append (.refl _)⟩
end
theorem del_perm {i : Int} {b : Bo} : ∀ {L : Lst}, Up L → getB L i = some b → (delB L i ++ [(i, b)]).Perm L
  | [], _, h => nomatch h
  | p :: L, hp, h => by
    obtain ⟨h1, h2⟩ := List.pairwise_cons.mp hp
    by_cases c : p.1 = i
    · have e : getB (p :: L) i = some p.2 := by
        unfold getB
        rw [List.find?_cons_of_pos (by simpa using c)]; rfl
      rw [e] at h
      cases h
      have d : delB (p :: L) i = L := by
        unfold delB
        rw [List.filter_cons_of_neg (by simpa using c)]
        exact List.filter_eq_self.mpr fun q hq => by
          have := h1 q hq
          simp
          omega
      rw [d, ← c]
      exact List.perm_append_singleton _ _
    · have e : getB (p :: L) i = getB L i := by
        unfold getB
        rw [List.find?_cons_of_neg (by simpa using c)]
      rw [e] at h
      have d : delB (p :: L) i = p :: delB L i := by
        unfold delB
        rw [List.filter_cons_of_pos (by simpa using c)]
      rw [d]
      exact (del_perm h2 h).cons p
/-! ### the contrary deed -/
def sideB (tp : Bool) (b : Bo) : Rat × Rat := if tp = true then (b.u, b.v) else (b.x, b.y)
def conD : De → List Bo → List Int → De
  | .cr al _ _ _, _, p :: q :: _ => .gl al p q
  | .gl tp _ _, b :: _, p :: _ => .cr tp p (sideB tp b).1 (sideB tp b).2
  | .sh sp _ m, _, p :: _ => .sh (!sp) p m
  | _, _, p :: _ => .tu p
  | _, _, _ => .tu 0
structure Con (d : Int) (δ : De) (bs : List Bo) (ps : List Int) : Prop where
  fit : (conD δ bs ps).fit d (δ.new bs)
  new : (conD δ bs ps).new (δ.new bs) = bs
  names : (conD δ bs ps).names = ps
end DL

set_option Elab.async false
set_option linter.all false
set_option maxRecDepth 100000
set_option maxHeartbeats 4000000
set_option autoImplicit false
/-! k35: contrary, traced -/
namespace DL
open PySem L2 MB
/-! ### dict(boards) -/
/-! ### a row of what is done -/
/-! ### loops that go on -/
inductive Lp (tg : Tg) (g : En → Fl) : List PD → En → En → Prop
  | nil (ρ : En) : Lp tg g [] ρ ρ
  | cons {d : PD} {ds : List PD} {ρ ρ1 ρ2 ρ3 : En} (h1 : tg.put d ρ = some ρ1) (h2 : g ρ1 = .nx ρ2) (h3 : Lp tg g ds ρ2 ρ3) : Lp tg g (d :: ds) ρ ρ3
theorem Lp.snoc {tg : Tg} {g : En → Fl} {ds : List PD} {d : PD} {ρ ρ' ρ1 ρ2 : En} (h : Lp tg g ds ρ ρ') (h1 : tg.put d ρ' = some ρ1) (h2 : g ρ1 = .nx ρ2) : Lp tg g (ds ++ [d]) ρ ρ2 := by
  induction h with
  | nil ρ => exact .cons h1 h2 (.nil _)
  | cons g1 g2 g3 ih => exact .cons g1 g2 (ih h1)
/-! ### the comprehension of the new names -/
/-! ### the plan walked -/
structure StI (d : Int) (n m : Nat) (L : Lst) (u : Int) : Prop where
  asc : Asc L u
  u0 : 0 ≤ u
  pos : ∀ p ∈ L, PosB d p.2
  bw : ∀ p ∈ L, BW p.2 n m
  len : L.length ≤ 200
structure Rec where
  δ : De
  bs : List Bo
  L : Lst
  u : Int
inductive Fw (d : Int) (n m : Nat) (b0 : List Bo) : List Rec → Lst → Int → Prop
  | nil (h : StI d n m (numB 0 b0) b0.length) : Fw d n m b0 [] (numB 0 b0) b0.length
  | snoc {rs : List Rec} {L : Lst} {u : Int} {δ : De} {bs : List Bo} (h : Fw d n m b0 rs L u) (hA : δ.at_ L bs) (hf : δ.fit d bs) (hδ : δ.bits n m) (h2 : StI d n m (nextL L u δ bs) (u + (δ.new bs).length)) : Fw d n m b0 (⟨δ, bs, L, u⟩ :: rs) (nextL L u δ bs) (u + (δ.new bs).length)
theorem Fw.st {d : Int} {n m : Nat} {b0 : List Bo} {rs : List Rec} {L : Lst} {u : Int} (h : Fw d n m b0 rs L u) : StI d n m L u := by
  cases h with
  | nil h => exact h
  | snoc _ _ _ _ h2 => exact h2
theorem at_boards {L : Lst} {u : Int} (ha : Asc L u) {δ : De} {bs : List Bo} (h : δ.at_ L bs) : ∀ b ∈ bs, ∃ i, (i, b) ∈ L := (at_facts ha h).2.2.2.2
/-! ### traced -/
end DL

set_option Elab.async false
set_option linter.all false
set_option maxRecDepth 100000
set_option maxHeartbeats 4000000
set_option autoImplicit false
/-! normal plans: states named -/
namespace DL
open PySem L2 MB
section
variable {d : Int} {n m : Nat} {b0 : List Bo} {rs : List Rec} {L R : Lst} {u : Int}
theorem up_mem {L R : Lst} {i : Int} {b : Bo} {u : Int} (ha : Asc L u) (P : L.Perm ((i, b) :: R)) : getB L i = some b := getB_of ha (p := (i, b)) (P.mem_iff.mpr (.head _))
theorem del_perm1 {L R : Lst} {i : Int} {b : Bo} {u : Int} (ha : Asc L u) (P : L.Perm ((i, b) :: R)) : (delB L i).Perm R := by
  have h1 := del_perm ha.1 (up_mem ha P)
  have h2 : ((i, b) :: delB L i).Perm ((i, b) :: R) := ((List.perm_append_singleton (i, b) (delB L i)).symm.trans h1).trans P
  exact (List.perm_cons _).mp h2
/-- a deed upon one board -/
theorem Fw.one (F : Fw d n m b0 rs L u) {i : Int} {b : Bo} (P : L.Perm ((i, b) :: R)) (δ : De) (hn : δ.names = [i]) (hf : δ.fit d [b]) (hδ : δ.bits n m) (hp : ∀ c ∈ δ.new [b], PosB d c ∧ BW c n m) (hl : R.length + (δ.new [b]).length ≤ 200) :
    ∃ L', Fw d n m b0 (⟨δ, [b], L, u⟩ :: rs) L' (u + (δ.new [b]).length) ∧ L'.Perm (R ++ numB u (δ.new [b])) := by
  have I := F.st
  have g := up_mem I.asc P
  have hA : δ.at_ L [b] := by
    unfold De.at_
    rw [hn]
    exact g
  have e : delAll L δ.names = delB L i := delAll_1 hn
  have P1 := del_perm1 I.asc P
  have PP : (nextL L u δ [b]).Perm (R ++ numB u (δ.new [b])) := by
    unfold nextL
    rw [e]
    exact P1.append_right _
  have hsub : ∀ p ∈ R, p ∈ L := fun p hp => P.mem_iff.mpr (.tail _ hp)
  refine ⟨_, .snoc F hA hf hδ ⟨?_, ?_, fun p hq => ?_, fun p hq => ?_, ?_⟩, PP⟩
  · have := (I.asc.del i).put I.u0 (δ.new [b])
    unfold nextL
    rw [e]
    exact this
  · have := I.u0; omega
  · rcases List.mem_append.mp (PP.mem_iff.mp hq) with h | h
    · exact I.pos p (hsub p h)
    · exact (hp _ (numB_mem _ _ p h).2.2).1
  · rcases List.mem_append.mp (PP.mem_iff.mp hq) with h | h
    · exact I.bw p (hsub p h)
    · exact (hp _ (numB_mem _ _ p h).2.2).2
  · rw [PP.length_eq, List.length_append, numB_len]
    exact hl
/-- a deed upon two -/
theorem Fw.two (F : Fw d n m b0 rs L u) {i j : Int} {b c : Bo} (P : L.Perm ((i, b) :: (j, c) :: R)) (δ : De) (hn : δ.names = [i, j]) (hf : δ.fit d [b, c]) (hδ : δ.bits n m) (hp : ∀ e ∈ δ.new [b, c], PosB d e ∧ BW e n m) (hl : R.length + (δ.new [b, c]).length ≤ 200) :
    ∃ L', Fw d n m b0 (⟨δ, [b, c], L, u⟩ :: rs) L' (u + (δ.new [b, c]).length) ∧ L'.Perm (R ++ numB u (δ.new [b, c])) := by
  have I := F.st
  have g := up_mem I.asc P
  have P1 := del_perm1 I.asc P
  have g2 := up_mem (I.asc.del i) P1
  have P2 := del_perm1 (I.asc.del i) P1
  have hij : i ≠ j := fun z => by
    have : (j, c) ∈ delB L i := P1.mem_iff.mpr (.head _)
    have := (List.mem_filter.mp this).2
    simp [z] at this
  have g2' : getB L j = some c := by rw [← getB_del hij]; exact g2
  have hA : δ.at_ L [b, c] := by
    unfold De.at_
    rw [hn]
    exact ⟨g, g2', hij⟩
  have e : delAll L δ.names = delB (delB L i) j := delAll_2 hn
  have PP : (nextL L u δ [b, c]).Perm (R ++ numB u (δ.new [b, c])) := by
    unfold nextL
    rw [e]
    exact P2.append_right _
  have hsub : ∀ p ∈ R, p ∈ L := fun p hp => P.mem_iff.mpr (.tail _ (.tail _ hp))
  refine ⟨_, .snoc F hA hf hδ ⟨?_, ?_, fun p hq => ?_, fun p hq => ?_, ?_⟩, PP⟩
  · have := ((I.asc.del i).del j).put I.u0 (δ.new [b, c])
    unfold nextL
    rw [e]
    exact this
  · have := I.u0; omega
  · rcases List.mem_append.mp (PP.mem_iff.mp hq) with h | h
    · exact I.pos p (hsub p h)
    · exact (hp _ (numB_mem _ _ p h).2.2).1
  · rcases List.mem_append.mp (PP.mem_iff.mp hq) with h | h
    · exact I.bw p (hsub p h)
    · exact (hp _ (numB_mem _ _ p h).2.2).2
  · rw [PP.length_eq, List.length_append, numB_len]
    exact hl
end
/-! ### the namer -/
@[reducible] def NF (f : Int) (ds : List PD) : Fs := [("fresh", .d (.int f)), ("told", .l ds)]
def told (rs : List Rec) : List PD := rs.reverse.map fun r => deD r.δ
theorem told_cons (r : Rec) (rs : List Rec) : told (r :: rs) = told rs ++ [deD r.δ] := by
  unfold told
  rw [List.reverse_cons, List.map_append]
  rfl
theorem told_len (rs : List Rec) : (told rs).length = rs.length := by unfold told; rw [List.length_map, List.length_reverse]
end DL

set_option Elab.async false
set_option linter.all false
set_option maxRecDepth 100000
set_option maxHeartbeats 4000000
set_option autoImplicit false
/-! normal plans: the namer's methods -/
namespace DL
open PySem L2 MB
section
variable {f : Int} {ds : List PD}
theorem nd_fresh : kFld "Namer" "fresh" (some ("Namer", NF f ds)) = .ok (.int f) := rfl
theorem ns_fresh {v : Int} {ρ : En} : kFldSet "Namer" 0 "fresh" (some (.me "Namer" (NF f ds)) :: ρ) (.int v) = .nx (some (.me "Namer" (NF v ds)) :: ρ) := rfl
theorem no_told : fOwn "Namer" "told" (some ("Namer", NF f ds)) = some (.l ds, NF f ds) := rfl
theorem np_told {g : List PD} : fPut "told" (.l g) (NF f ds) = NF f g := rfl
theorem nM_do {i : Nat} {g : Fs → List PD → RM} {fa : En → R (List PD)} {k : PD → En → Fl} {ρ : En} : kM "Namer" i "do" g fa k ρ (some ("Namer", NF f ds)) = (fa ρ).fl ρ (kM1 i g k (NF f ds) ρ) := kM_ev rfl
theorem Namer_do_eq (x : PD) (k : Int) (hd : ds.length < 16777216) : m_Namer_do (NF f ds) [.none, x, .int k] = .ok (.int f) (NF (f + k) (ds ++ [x])) := by
  simp +decide only [m_Namer_do, den_Namer_do, zEO9, nd_fresh, ns_fresh, no_told, np_told, hd]
theorem Namer_stacked_1 (i : PD) : m_Namer_stacked (NF f ds) [.none, i, .int 1] = .ok i (NF f ds) := by
  simp +decide only [m_Namer_stacked, den_Namer_stacked, zEO9]
theorem Namer_stacked_k (i : PD) (k : Int) (hk : k ≠ 1) (hd : ds.length < 16777216) : m_Namer_stacked (NF f ds) [.none, i, .int k] = .ok (.int f) (NF (f + 1) (ds ++ [.tuple [.str "stack", i, .int k]])) := by
  have e := Namer_do_eq (f := f) (.tuple [.str "stack", i, .int k]) 1 hd
  simp +decide only [m_Namer_stacked, den_Namer_stacked, zEO9, hk, nM_do, e]
end
end DL

set_option Elab.async false
set_option linter.all false
set_option maxRecDepth 100000
set_option maxHeartbeats 4000000
set_option autoImplicit false
/-! normal plans: stacked, cut, glued over states -/
namespace DL
open PySem L2 MB
/-- a drawn state with the namer that tells it -/
structure NS (d : Int) (n m : Nat) (b0 : List Bo) (rs : List Rec) (L : Lst) (u : Int) (B : Lst) : Prop where
  fw : Fw d n m b0 rs L u
  pm : L.Perm B
theorem NS.perm {d : Int} {n m : Nat} {b0 : List Bo} {rs : List Rec} {L : Lst} {u : Int} {B B' : Lst} (h : NS d n m b0 rs L u B) (p : B.Perm B') : NS d n m b0 rs L u B' := ⟨h.fw, h.pm.trans p⟩
section
variable {d : Int} {n m : Nat} {b0 : List Bo} {rs : List Rec} {L R : Lst} {u : Int}
/-- stacked by k -/
theorem NS.stack (hd : Root d) {i : Int} {x y p q : Rat} {k : Int} (h : NS d n m b0 rs L u ((i, ⟨x * k, y * k, p, q⟩) :: R)) (hk : 0 < k) (bk : Bd k 2000) (hp : PosQ d x y) (hq : PosQ d p q) (b1 : BL x y n m) (b2 : BL (p * k) (q * k) n m) (hl : R.length + 1 ≤ 200) (hr : rs.length ≤ 1000) :
    ∃ rs' L' u' i', NS d n m b0 rs' L' u' (R ++ [(i', ⟨x, y, p * k, q * k⟩)]) ∧ rs'.length ≤ rs.length + 1 ∧ m_Namer_stacked (NF u (told rs)) [.none, .int i, .int k] = .ok (.int i') (NF u' (told rs')) ∧ (∀ r ∈ rs', r ∈ rs ∨ ∀ j, r.δ ≠ .tu j) := by
  by_cases h1 : k = 1
  · subst h1
    have e1 : ∀ z : Rat, z * ((1 : Int) : Rat) = z := fun z => by grind
    rw [e1, e1] at h
    rw [e1, e1]
    exact ⟨rs, L, u, i, h.perm (List.perm_append_singleton _ _).symm, Nat.le_succ _, Namer_stacked_1 _, fun r hr => .inl hr⟩
  · have h0 : (k : Rat) ≠ 0 := by
      have : k ≠ 0 := by omega
      exact_mod_cast this
    have e1 : ∀ z : Rat, z * k / k = z := fun z => by grind
    have en : (De.sh false i k).new [⟨x * k, y * k, p, q⟩] = [⟨x, y, p * k, q * k⟩] := by
      show [(⟨x * k / k, y * k / k, p * k, q * k⟩ : Bo)] = _
      rw [e1, e1]
    obtain ⟨L', F', P'⟩ := h.fw.one h.pm (.sh false i k) rfl hk bk (fun c hc => by
      rw [en, List.mem_singleton] at hc
      subst hc
      exact ⟨⟨hp, posQ_times hd hq hk⟩, ⟨b1, b2⟩⟩) (by rw [en]; exact hl)
    rw [en] at P' F'
    refine ⟨_, L', u + 1, u, ⟨F', P'⟩, Nat.le_refl _, ?_, fun r hr => ?_⟩
    · rw [Namer_stacked_k (.int i) k h1 (by rw [told_len]; omega), told_cons]
      rfl
    · rcases List.mem_cons.mp hr with rfl | hr
      · exact .inr fun j h => nomatch h
      · exact .inl hr
/-- one atop another -/
theorem NS.atop {i j : Int} {x y p q r s : Rat} (hd : Root d) (h : NS d n m b0 rs L u ((i, ⟨x, y, p, q⟩) :: (j, ⟨x, y, r, s⟩) :: R)) (hx : PosQ d x y) (h1 : PosQ d p q) (h2 : PosQ d r s) (b1 : BL x y n m) (b2 : BL (p + r) (q + s) n m) (hl : R.length + 1 ≤ 200) (hr : rs.length ≤ 1000) :
    ∃ L', NS d n m b0 (⟨.gl true i j, [⟨x, y, p, q⟩, ⟨x, y, r, s⟩], L, u⟩ :: rs) L' (u + 1) (R ++ [(u, ⟨x, y, p + r, q + s⟩)]) ∧ m_Namer_do (NF u (told rs)) [.none, .tuple [.str "atop", .int i, .int j], .int 1] = .ok (.int u) (NF (u + 1) (told (⟨.gl true i j, [⟨x, y, p, q⟩, ⟨x, y, r, s⟩], L, u⟩ :: rs))) := by
  have en : (De.gl true i j).new [⟨x, y, p, q⟩, ⟨x, y, r, s⟩] = [⟨x, y, p + r, q + s⟩] := rfl
  obtain ⟨L', F', P'⟩ := h.fw.two h.pm (.gl true i j) rfl ⟨rfl, rfl⟩ trivial (fun c hc => by
    rw [en, List.mem_singleton] at hc
    subst hc
    exact ⟨⟨hx, posQ_add hd h1 h2⟩, ⟨b1, b2⟩⟩) (by rw [en]; exact hl)
  rw [en] at P' F'
  refine ⟨L', ⟨F', P'⟩, ?_⟩
  rw [Namer_do_eq _ 1 (by rw [told_len]; omega), told_cons]
  rfl
end
end DL

set_option autoImplicit false
set_option linter.all false
/-! plain arithmetic: the row of bases, in whole numbers -/
namespace MB
def PZ (d a b : Int) : Prop := PosQ d (a : Rat) (b : Rat)
section
variable {d : Int} {a b a' b' m : Int}
theorem pz_add (hd : Root d) (h : PZ d a b) (g : PZ d a' b') : PZ d (a + a') (b + b') := by
  have := posQ_add hd h g
  unfold PZ
  rw [Rat.intCast_add, Rat.intCast_add]
  exact this
theorem pz_mul (hd : Root d) (hm : 0 < m) (h : PZ d a b) : PZ d (m * a) (m * b) := by
  have := (posQ_scale hd (x := (a : Rat)) (y := (b : Rat)) (Rat.intCast_pos.mpr hm)).mpr h
  unfold PZ
  rw [Rat.intCast_mul, Rat.intCast_mul, Rat.mul_comm, Rat.mul_comm (m : Rat)]
  exact this
theorem pz_zero : ¬ PZ d 0 0 := by
  intro h
  unfold PZ PosQ at h
  have e : ((0 : Int) : Rat) = 0 := rfl
  rw [e] at h
  rcases h with ⟨_, h⟩ | ⟨_, h⟩ <;> exact absurd h (by decide)
theorem pz_asym (hd : Root d) (h : PZ d a b) (g : PZ d (-a) (-b)) : False := by
  have := pz_add hd h g
  rw [Int.add_right_neg, Int.add_right_neg] at this
  exact pz_zero this
theorem pz_tri (hd : Root d) (h : ¬ PZ d a b) (h2 : ¬ (a = 0 ∧ b = 0)) : PZ d (-a) (-b) := by
  have := posQ_tri hd h (by
    rintro ⟨x, y⟩
    exact h2 ⟨by exact_mod_cast x, by exact_mod_cast y⟩)
  unfold PZ
  rw [Rat.intCast_neg, Rat.intCast_neg]
  exact this
/-- a sum with factors from 0 on, one above it -/
theorem pz_lin (hd : Root d) {i j x y u v : Int} (hp : PZ d x y) (hq : PZ d u v) (hi : 0 ≤ i) (hj : 0 ≤ j) (h : ¬ (i = 0 ∧ j = 0)) : PZ d (i * x + j * u) (i * y + j * v) := by
  by_cases i0 : i = 0
  · subst i0
    have := pz_mul hd (m := j) (by omega) hq
    simpa using this
  · by_cases j0 : j = 0
    · subst j0
      have := pz_mul hd (m := i) (by omega) hp
      simpa using this
    · exact pz_add hd (pz_mul hd (by omega) hp) (pz_mul hd (by omega) hq)
end
/-- a base by whole numbers: its lengths are (X + Y * root d) / N and (U + V * root d) / N -/
structure Ba where
  X : Int
  Y : Int
  U : Int
  V : Int
structure BaI (d : Int) (b : Ba) : Prop where
  x : b.X ≤ 0
  y : 0 < b.Y
  u : 0 < b.U
  v : b.V ≤ 0
  det : b.X * b.V - b.Y * b.U = -1
  p : PZ d b.X b.Y
  q : PZ d b.U b.V
open Classical in
noncomputable def Ba.nxt (d : Int) (b : Ba) : Ba := if PZ d (b.X - b.U) (b.Y - b.V) then ⟨b.X - b.U, b.Y - b.V, b.U, b.V⟩ else ⟨b.X, b.Y, b.U - b.X, b.V - b.Y⟩
def Ba.fst : Ba := ⟨0, 1, 1, 0⟩
noncomputable def Ba.at (d : Int) : Nat → Ba
  | 0 => .fst
  | n + 1 => (Ba.at d n).nxt d
/-- the counts -/
def Ba.I (b : Ba) (A B : Int) : Int := B * b.U - A * b.V
def Ba.J (b : Ba) (A B : Int) : Int := A * b.Y - B * b.X
section
variable {d : Int} {b : Ba} {A B : Int}
theorem BaI.fst (hd : Root d) : BaI d .fst := by
  have hD := hd.posQ
  refine ⟨by decide, by decide, by decide, by decide, by decide, ?_, ?_⟩
  · right
    show (((0 : Int) : Rat)) * ((0 : Int) : Rat) < (d : Rat) * ((1 : Int) : Rat) * ((1 : Int) : Rat) ∧ (0 : Rat) < ((1 : Int) : Rat)
    have e0 : ((0 : Int) : Rat) = 0 := rfl
    have e1 : ((1 : Int) : Rat) = 1 := rfl
    rw [e0, e1]
    constructor
    · grind
    · decide
  · left
    show (d : Rat) * ((0 : Int) : Rat) * ((0 : Int) : Rat) < ((1 : Int) : Rat) * ((1 : Int) : Rat) ∧ (0 : Rat) < ((1 : Int) : Rat)
    have e0 : ((0 : Int) : Rat) = 0 := rfl
    have e1 : ((1 : Int) : Rat) = 1 := rfl
    rw [e0, e1]
    constructor
    · grind
    · decide
theorem BaI.ne (h : BaI d b) : ¬ (b.X - b.U = 0 ∧ b.Y - b.V = 0) := by
  rintro ⟨z, _⟩
  have := h.x
  have := h.u
  omega
theorem nxt_pos (h : PZ d (b.X - b.U) (b.Y - b.V)) : b.nxt d = ⟨b.X - b.U, b.Y - b.V, b.U, b.V⟩ := if_pos h
theorem nxt_neg (h : ¬ PZ d (b.X - b.U) (b.Y - b.V)) : b.nxt d = ⟨b.X, b.Y, b.U - b.X, b.V - b.Y⟩ := if_neg h
theorem BaI.lt (hd : Root d) (h : BaI d b) (c : ¬ PZ d (b.X - b.U) (b.Y - b.V)) : PZ d (b.U - b.X) (b.V - b.Y) := by
  have := pz_tri hd c h.ne
  rw [Int.neg_sub, Int.neg_sub] at this
  exact this
theorem BaI.nxt (hd : Root d) (h : BaI d b) : BaI d (b.nxt d) := by
  obtain ⟨h1, h2, h3, h4, h5, h6, h7⟩ := h
  have h : BaI d b := ⟨h1, h2, h3, h4, h5, h6, h7⟩
  by_cases c : PZ d (b.X - b.U) (b.Y - b.V)
  · rw [nxt_pos c]
    refine ⟨by show b.X - b.U ≤ 0; omega, by show 0 < b.Y - b.V; omega, h3, h4, ?_, c, h7⟩
    show (b.X - b.U) * b.V - (b.Y - b.V) * b.U = -1
    grind
  · rw [nxt_neg c]
    refine ⟨h1, h2, by show 0 < b.U - b.X; omega, by show b.V - b.Y ≤ 0; omega, ?_, h6, h.lt hd c⟩
    show b.X * (b.V - b.Y) - b.Y * (b.U - b.X) = -1
    grind
theorem BaI.at (hd : Root d) : ∀ n, BaI d (Ba.at d n)
  | 0 => BaI.fst hd
  | n + 1 => (BaI.at hd n).nxt hd
theorem BaI.sumA (h : BaI d b) : A = b.I A B * b.X + b.J A B * b.U := by
  unfold Ba.I Ba.J
  have := h.det
  grind
theorem BaI.sumB (h : BaI d b) : B = b.I A B * b.Y + b.J A B * b.V := by
  unfold Ba.I Ba.J
  have := h.det
  grind
theorem nxt_pos_I (h : PZ d (b.X - b.U) (b.Y - b.V)) : (b.nxt d).I A B = b.I A B ∧ (b.nxt d).J A B = b.I A B + b.J A B := by
  rw [nxt_pos h]
  unfold Ba.I Ba.J
  dsimp only
  constructor <;> grind
theorem nxt_neg_I (h : ¬ PZ d (b.X - b.U) (b.Y - b.V)) : (b.nxt d).I A B = b.I A B + b.J A B ∧ (b.nxt d).J A B = b.J A B := by
  rw [nxt_neg h]
  unfold Ba.I Ba.J
  dsimp only
  constructor <;> grind
/-- it serves -/
def Sv (b : Ba) (A B : Int) : Prop := 0 ≤ b.I A B ∧ 0 ≤ b.J A B
instance : Decidable (Sv b A B) := by unfold Sv; infer_instance
theorem Sv.nxt (h : Sv b A B) : Sv (b.nxt d) A B := by
  obtain ⟨h1, h2⟩ := h
  by_cases c : PZ d (b.X - b.U) (b.Y - b.V)
  · have e := nxt_pos_I (A := A) (B := B) c
    exact ⟨by omega, by omega⟩
  · have e := nxt_neg_I (A := A) (B := B) c
    exact ⟨by omega, by omega⟩
/-- a length above nought has a count above nought -/
theorem BaI.some (hd : Root d) (h : BaI d b) (hp : PZ d A B) : 0 < b.I A B ∨ 0 < b.J A B := by
  by_cases c : 0 < b.I A B ∨ 0 < b.J A B
  · exact c
  · exfalso
    have eA := h.sumA (A := A) (B := B)
    have eB := h.sumB (A := A) (B := B)
    by_cases z : b.I A B = 0 ∧ b.J A B = 0
    · rw [z.1, z.2] at eA eB
      simp at eA eB
      subst eA eB
      exact pz_zero hp
    · have := pz_lin hd (i := - b.I A B) (j := - b.J A B) h.p h.q (by omega) (by omega) (by omega)
      refine pz_asym hd hp ?_
      have e1 : -A = -b.I A B * b.X + -b.J A B * b.U := by
        have : -b.I A B * b.X + -b.J A B * b.U = -(b.I A B * b.X + b.J A B * b.U) := by grind
        rw [this, ← eA]
      have e2 : -B = -b.I A B * b.Y + -b.J A B * b.V := by
        have : -b.I A B * b.Y + -b.J A B * b.V = -(b.I A B * b.Y + b.J A B * b.V) := by grind
        rw [this, ← eB]
      rw [e1, e2]
      exact this
/-- how far it is from being served -/
def ms (b : Ba) (A B : Int) : Nat := if Sv b A B then 0 else (b.I A B).natAbs + (b.J A B).natAbs
end
/-! several lengths -/
def SvA (b : Ba) (l : List (Int × Int)) : Prop := ∀ p ∈ l, Sv b p.1 p.2
section
variable {d : Int} {b : Ba} {l : List (Int × Int)}
theorem SvA.nxt (h : SvA b l) : SvA (b.nxt d) l := fun p hp => (h p hp).nxt
theorem SvA.at {n : Nat} (h : SvA (Ba.at d n) l) : ∀ m, n ≤ m → SvA (Ba.at d m) l := by
  intro m hm
  induction m with
  | zero => have : n = 0 := by omega
            subst this; exact h
  | succ m ih =>
    by_cases e : n = m + 1
    · subst e; exact h
    · exact SvA.nxt (d := d) (ih (by omega))
end
section
variable {d : Int} {l : List (Int × Int)}
end
end MB

set_option Elab.async false
set_option linter.all false
set_option maxRecDepth 100000
set_option maxHeartbeats 1000000
set_option autoImplicit false
/-! the first base that serves -/
namespace DL
open PySem L2 MB
@[reducible] def lqD (A B N : Int) : PD := lnD ((A : Rat) / N) ((B : Rat) / N)
theorem posQ_lq {d : Int} (hd : Root d) {A B N : Int} (hN : 0 < N) : PosQ d ((A : Rat) / N) ((B : Rat) / N) ↔ PZ d A B := by
  have h := Rat.inv_pos.mpr (Rat.intCast_pos.mpr hN)
  have := posQ_scale hd (x := (A : Rat)) (y := (B : Rat)) h
  rw [Rat.div_def, Rat.div_def]
  exact this
/-- a base by its whole numbers -/
@[reducible] def bqD (N : Int) (b : Ba) : PD := .tuple [lqD b.X b.Y N, lqD b.U b.V N]
structure BaB (b : Ba) (k : Nat) : Prop where
  x : Bd b.X k
  y : Bd b.Y k
  u : Bd b.U k
  v : Bd b.V k
theorem BaB.mono {b : Ba} {k l : Nat} (h : BaB b k) (hk : k ≤ l) : BaB b l := ⟨h.x.mono hk, h.y.mono hk, h.u.mono hk, h.v.mono hk⟩
theorem cross_bq (a b c e : Rat) {n m n' m' : Nat} [BR a n m] [BR b n m] [BR c n' m'] [BR e n' m'] (h : m + m' ≤ 4400) (h1 : n ≤ 1000000) (h2 : n' ≤ 1000000) : m_cross [.tuple [frD a, frD b], .tuple [frD c, frD e]] = .ok (frD (a * e - b * c)) := by
  have e1 := times_fr a e (by omega) (by omega) (by omega)
  have e2 := times_fr b c (by omega) (by omega) (by omega)
  have e3 := minus_fr (a * e) (b * c) (show m + m' + (m + m') ≤ 9000 by omega) (by omega) (by omega)
  simp +decide only [m_cross, den_cross, zEV9, e1, e2, e3]
theorem counts_bq (d : PD) (N : Int) (hN : 0 < N) {j k l : Nat} [bN : Bd N j] (b : Ba) (hb : BaB b k) {d' : Int} (hB : BaI d' b) (A B : Int) [bA : Bd A l] [bB : Bd B l] (hj : j ≤ 2000) (hk : k ≤ 100000) (hl : l ≤ 100000) : m_counts [d, bqD N b, lqD A B N] = .ok (.tuple [.int (b.I A B), .int (b.J A B)]) := by
  have hN' : N ≠ 0 := by omega
  have hNN : N * N ≠ 0 := Int.mul_ne_zero hN' hN'
  have r1 := br_frac hN' hb.x bN
  have r2 := br_frac hN' hb.y bN
  have r3 := br_frac hN' hb.u bN
  have r4 := br_frac hN' hb.v bN
  have r5 := br_frac hN' bA bN
  have r6 := br_frac hN' bB bN
  have p1 := parts_ln ((b.X : Rat) / N) ((b.Y : Rat) / N) (show j + j ≤ 9000 by omega)
  have p2 := parts_ln ((b.U : Rat) / N) ((b.V : Rat) / N) (show j + j ≤ 9000 by omega)
  have p3 := parts_ln ((A : Rat) / N) ((B : Rat) / N) (show j + j ≤ 9000 by omega)
  have c1 := cross_bq ((b.X : Rat) / N) ((b.Y : Rat) / N) ((b.U : Rat) / N) ((b.V : Rat) / N) (show j + j ≤ 4400 by omega) (by omega) (by omega)
  have c2 := cross_bq ((A : Rat) / N) ((B : Rat) / N) ((b.U : Rat) / N) ((b.V : Rat) / N) (show j + j ≤ 4400 by omega) (by omega) (by omega)
  have c3 := cross_bq ((b.X : Rat) / N) ((b.Y : Rat) / N) ((A : Rat) / N) ((B : Rat) / N) (show j + j ≤ 4400 by omega) (by omega) (by omega)
  have hr := ratne hN'
  have w1 : (b.X : Rat) / N * ((b.V : Rat) / N) - (b.Y : Rat) / N * ((b.U : Rat) / N) = ((-1 : Int) : Rat) / ((N * N : Int) : Rat) := by
    rw [← hB.det]
    simp only [Rat.intCast_mul, Rat.intCast_sub]
    grind
  have w2 : (A : Rat) / N * ((b.V : Rat) / N) - (B : Rat) / N * ((b.U : Rat) / N) = ((A * b.V - B * b.U : Int) : Rat) / ((N * N : Int) : Rat) := by
    simp only [Rat.intCast_mul, Rat.intCast_sub]
    grind
  have w3 : (b.X : Rat) / N * ((B : Rat) / N) - (b.Y : Rat) / N * ((A : Rat) / N) = ((b.X * B - b.Y * A : Int) : Rat) / ((N * N : Int) : Rat) := by
    simp only [Rat.intCast_mul, Rat.intCast_sub]
    grind
  rw [w1] at c1
  rw [w2] at c2
  rw [w3] at c3
  have b1 := hb.x; have b2 := hb.y; have b3 := hb.u; have b4 := hb.v
  have bM1 : Bd (-1 : Int) 1 := ⟨by decide⟩
  have s1 := br_frac hNN bM1 (show Bd (N * N) (j + j) from inferInstance)
  have s2 := br_frac hNN (show Bd (A * b.V - B * b.U) (l + k + 1) from Bd.mono inferInstance (by omega)) (show Bd (N * N) (j + j) from inferInstance)
  have s3 := br_frac hNN (show Bd (b.X * B - b.Y * A) (l + k + 1) from Bd.mono inferInstance (show max (k + l) (k + l) + 1 ≤ l + k + 1 by omega)) (show Bd (N * N) (j + j) from inferInstance)
  have hr2 := ratne hNN
  have q0 : ((-1 : Int) : Rat) / ((N * N : Int) : Rat) ≠ 0 := by
    intro z
    have e1 : ((-1 : Int) : Rat) = -1 := rfl
    rw [e1] at z
    grind
  have y1 := by_fr (((A * b.V - B * b.U : Int) : Rat) / ((N * N : Int) : Rat)) (((-1 : Int) : Rat) / ((N * N : Int) : Rat)) q0 (show j + j + 1 ≤ 9000 by omega) (by omega) (by omega)
  have y2 := by_fr (((b.X * B - b.Y * A : Int) : Rat) / ((N * N : Int) : Rat)) (((-1 : Int) : Rat) / ((N * N : Int) : Rat)) q0 (show j + j + 1 ≤ 9000 by omega) (by omega) (by omega)
  have z1 : ((A * b.V - B * b.U : Int) : Rat) / ((N * N : Int) : Rat) / (((-1 : Int) : Rat) / ((N * N : Int) : Rat)) = ((b.I A B : Int) : Rat) := by
    unfold Ba.I
    have e1 : ((-1 : Int) : Rat) = -1 := rfl
    rw [e1]
    simp only [Rat.intCast_sub]
    grind
  have z2 : ((b.X * B - b.Y * A : Int) : Rat) / ((N * N : Int) : Rat) / (((-1 : Int) : Rat) / ((N * N : Int) : Rat)) = ((b.J A B : Int) : Rat) := by
    unfold Ba.J
    have e1 : ((-1 : Int) : Rat) = -1 := rfl
    have c1 : b.X * B = B * b.X := Int.mul_comm _ _
    have c2 : b.Y * A = A * b.Y := Int.mul_comm _ _
    rw [e1, c1, c2]
    simp only [Rat.intCast_sub]
    grind
  rw [z1] at y1
  rw [z2] at y2
  simp +decide only [m_counts, den_counts, zEV9, p1, p2, p3, c1, c2, c3, y1, y2]
  rfl
/-! the least number that all bottoms divide -/
/-! the loop -/
/-- a length by whole numbers over N -/
def zof (N : Int) (p : Rat × Rat) : Int × Int := (qA p.1 p.2 * (N / qN p.1 p.2), qB p.1 p.2 * (N / qN p.1 p.2))
theorem zof_val {N : Int} {p : Rat × Rat} (hN : 0 < N) (h : qN p.1 p.2 ∣ N) : p.1 = ((zof N p).1 : Rat) / N ∧ p.2 = ((zof N p).2 : Rat) / N := by
  obtain ⟨c, hc⟩ := h
  have hq := qN_pos p.1 p.2
  have v := q_val p.1 p.2
  have e : N / qN p.1 p.2 = c := by rw [hc]; exact Int.mul_ediv_cancel_left _ (by omega)
  have hr := ratne (b := N) (by omega)
  have hr2 := qN_ne p.1 p.2
  have hNr : (N : Rat) = ((qN p.1 p.2 : Int) : Rat) * (c : Rat) := by rw [← Rat.intCast_mul, ← hc]
  unfold zof
  rw [e]
  simp only [Rat.intCast_mul]
  rw [v.1, v.2]
  constructor
  · rw [hNr] at hr ⊢; grind
  · rw [hNr] at hr ⊢; grind
/-! served, of rational parts -/
def SvR (b : Ba) (p : Rat × Rat) : Prop := 0 ≤ p.2 * b.U - p.1 * b.V ∧ 0 ≤ p.1 * b.Y - p.2 * b.X
theorem SvR.add {b : Ba} {p q : Rat × Rat} (h : SvR b p) (g : SvR b q) : SvR b (p.1 + q.1, p.2 + q.2) := by
  obtain ⟨h1, h2⟩ := h
  obtain ⟨g1, g2⟩ := g
  constructor
  · have := Rat.add_nonneg h1 g1
    show 0 ≤ (p.2 + q.2) * b.U - (p.1 + q.1) * b.V
    have e : (p.2 + q.2) * b.U - (p.1 + q.1) * b.V = p.2 * b.U - p.1 * b.V + (q.2 * b.U - q.1 * b.V) := by grind
    rw [e]; exact this
  · have := Rat.add_nonneg h2 g2
    show 0 ≤ (p.1 + q.1) * b.Y - (p.2 + q.2) * b.X
    have e : (p.1 + q.1) * b.Y - (p.2 + q.2) * b.X = p.1 * b.Y - p.2 * b.X + (q.1 * b.Y - q.2 * b.X) := by grind
    rw [e]; exact this
theorem SvR.mul {b : Ba} {p : Rat × Rat} {c : Rat} (hc : 0 ≤ c) (h : SvR b p) : SvR b (p.1 * c, p.2 * c) := by
  obtain ⟨h1, h2⟩ := h
  constructor
  · have := Rat.mul_nonneg h1 hc
    show 0 ≤ p.2 * c * b.U - p.1 * c * b.V
    have e : p.2 * c * b.U - p.1 * c * b.V = (p.2 * b.U - p.1 * b.V) * c := by grind
    rw [e]; exact this
  · have := Rat.mul_nonneg h2 hc
    show 0 ≤ p.1 * c * b.Y - p.2 * c * b.X
    have e : p.1 * c * b.Y - p.2 * c * b.X = (p.1 * b.Y - p.2 * b.X) * c := by grind
    rw [e]; exact this
theorem zof_pz {d : Int} (hd : Root d) {N : Int} (hN : 0 < N) {p : Rat × Rat} (h : qN p.1 p.2 ∣ N) (hp : PosQ d p.1 p.2) : PZ d (zof N p).1 (zof N p).2 := by
  obtain ⟨z1, z2⟩ := zof_val hN h
  rw [← posQ_lq hd hN, ← z1, ← z2]
  exact hp
/-- a bottom that does divides -/
theorem qN_dvd {A B N : Int} (hN : N ≠ 0) : qN ((A : Rat) / N) ((B : Rat) / N) ∣ N := by
  have q := (q_of (a := A) (b := B) hN).2.2
  rw [← q]
  exact ⟨_, (lmul hN).2.2.symm⟩
end DL

set_option Elab.async false
set_option linter.all false
set_option maxRecDepth 100000
set_option maxHeartbeats 4000000
set_option autoImplicit false
/-! normal plans: a board's turn -/
namespace DL
open PySem L2 MB
section
variable (s0 s1 s2 s5 s6 s9 s11 s12 : Option SV) (f f' : Int) (ds ds' c0 c1 : List PD) (I J : Int) (a b : PD) (i' : PD)
end
end DL

set_option Elab.async false
set_option linter.all false
set_option maxRecDepth 100000
set_option maxHeartbeats 4000000
set_option autoImplicit false
/-! normal plans: a board's turn in the den -/
namespace DL
open PySem L2 MB
section
variable (d : Int) (s1 : Option SV) (p q w h : PD) (f : Int) (ds c0 c1 : List PD) (i I J : Int) (x7 x8 x9 x10 x11 x12 : Option SV)
end
end DL

set_option Elab.async false
set_option linter.all false
set_option maxRecDepth 100000
set_option maxHeartbeats 4000000
set_option autoImplicit false
/-! normal plans: the boards one by one -/
namespace DL
open PySem L2 MB
structure PB (d : Int) (n m : Nat) (x1 y1 x2 y2 : Rat) (bd : Bo) (I J : Int) : Prop where
  wx : bd.x = x1 * I + x2 * J
  wy : bd.y = y1 * I + y2 * J
  i0 : 0 ≤ I
  j0 : 0 ≤ J
  ne : ¬ (I = 0 ∧ J = 0)
  bi : Bd I 2000
  bj : Bd J 2000
  h : PosQ d bd.u bd.v
  b1 : BL (x1 * I) (y1 * I) n m
  b2 : BL (x2 * J) (y2 * J) n m
  b3 : BL bd.u bd.v n m
  b4 : BL (bd.u * I) (bd.v * I) n m
  b5 : BL (bd.u * J) (bd.v * J) n m
section
variable {d : Int} {n m : Nat} {b0 : List Bo} {rs : List Rec} {L R : Lst} {u : Int} {x1 y1 x2 y2 : Rat}
end
end DL

set_option Elab.async false
set_option linter.all false
set_option maxRecDepth 100000
set_option maxHeartbeats 4000000
set_option autoImplicit false
/-! normal plans: all boards, the columns -/
namespace DL
open PySem L2 MB
section
variable {d : Int} {n m : Nat} {b0 : List Bo} {x1 y1 x2 y2 : Rat}
end
/-! ### glued -/
end DL

set_option Elab.async false
set_option linter.all false
set_option maxRecDepth 100000
set_option maxHeartbeats 4000000
set_option autoImplicit false
/-! normal plans: a column glued -/
namespace DL
open PySem L2 MB
end DL

set_option Elab.async false
set_option linter.all false
set_option maxRecDepth 100000
set_option maxHeartbeats 4000000
set_option autoImplicit false
/-! normal plans: the den's end -/
namespace DL
open PySem L2 MB
section
variable (d : Int) (hp base : PD) (u0 : Int) (en : List PD) (f1 f2 f3 : Int) (ds1 ds2 ds3 c0 c1 : List PD) (r0 r1 : PD) (y5 y6 y7 y8 y9 y10 : Option SV)
end
end DL

set_option Elab.async false
set_option linter.all false
set_option maxRecDepth 100000
set_option maxHeartbeats 4000000
set_option autoImplicit false
/-! normal plans: what they lead to -/
namespace DL
open PySem L2 MB
end DL

set_option Elab.async false
set_option linter.all false
set_option maxRecDepth 100000
set_option maxHeartbeats 4000000
set_option autoImplicit false
/-! normal plans, whole -/
namespace DL
open PySem L2 MB
end DL

set_option Elab.async false
set_option linter.all false
set_option maxRecDepth 100000
set_option maxHeartbeats 4000000
set_option autoImplicit false
/-! normal plans: the columns hang on the table alone -/
namespace DL
open PySem L2 MB
end DL

set_option Elab.async false
set_option linter.all false
set_option maxRecDepth 100000
set_option maxHeartbeats 4000000
set_option autoImplicit false
/-! heaps over one bottom: the base that serves, the pieces -/
namespace DL
open PySem L2 MB
def pcI (N : Int) (b : Ba) (bd : Bo) : Int := b.I (zof N (bd.x, bd.y)).1 (zof N (bd.x, bd.y)).2
def pcJ (N : Int) (b : Ba) (bd : Bo) : Int := b.J (zof N (bd.x, bd.y)).1 (zof N (bd.x, bd.y)).2
/-- what serves, and its bits -/
structure Srv (d D : Int) (j n : Nat) (al : List Bo) (N : Int) (b : Ba) : Prop where
  N0 : 0 < N
  bN : Bd N j
  bi : BaI d b
  bb : BaB b (n + 2)
  dv : ∀ bd ∈ al, qN bd.x bd.y ∣ N
  zb : ∀ bd ∈ al, Bd (zof N (bd.x, bd.y)).1 n ∧ Bd (zof N (bd.x, bd.y)).2 n
  sv : ∀ bd ∈ al, Sv b (zof N (bd.x, bd.y)).1 (zof N (bd.x, bd.y)).2
end DL

set_option Elab.async false
set_option linter.all false
set_option maxRecDepth 100000
set_option maxHeartbeats 4000000
set_option autoImplicit false
/-! heaps over one bottom: the pieces, the normal plan -/
namespace DL
open PySem L2 MB
section
variable {d D : Int} {j n : Nat} {al : List Bo} {N : Int} {b : Ba}
theorem Srv.IJ (s : Srv d D j n al N b) {bd : Bo} (h : bd ∈ al) : Bd (pcI N b bd) (n + (n + 2) + 1) ∧ Bd (pcJ N b bd) (n + (n + 2) + 1) := by
  obtain ⟨z1, z2⟩ := s.zb bd h
  have b1 := s.bb.x; have b2 := s.bb.y; have b3 := s.bb.u; have b4 := s.bb.v
  unfold pcI pcJ Ba.I Ba.J
  generalize (zof N (bd.x, bd.y)).1 = A at *
  generalize (zof N (bd.x, bd.y)).2 = B at *
  have m1 : Bd (B * b.U) (n + (n + 2)) := inferInstance
  have m2 : Bd (A * b.V) (n + (n + 2)) := inferInstance
  have m3 : Bd (A * b.Y) (n + (n + 2)) := inferInstance
  have m4 : Bd (B * b.X) (n + (n + 2)) := inferInstance
  have k1 : Bd (B * b.U - A * b.V) (max (n + (n + 2)) (n + (n + 2)) + 1) := inferInstance
  have k2 : Bd (A * b.Y - B * b.X) (max (n + (n + 2)) (n + (n + 2)) + 1) := inferInstance
  rw [Nat.max_self] at k1 k2
  exact ⟨k1, k2⟩
theorem Srv.width (s : Srv d D j n al N b) {bd : Bo} (h : bd ∈ al) : bd.x = ((b.X : Rat) / N) * (pcI N b bd : Rat) + ((b.U : Rat) / N) * (pcJ N b bd : Rat) ∧ bd.y = ((b.Y : Rat) / N) * (pcI N b bd : Rat) + ((b.V : Rat) / N) * (pcJ N b bd : Rat) := by
  have v := zof_val s.N0 (p := (bd.x, bd.y)) (s.dv bd h)
  have e1 := s.bi.sumA (A := (zof N (bd.x, bd.y)).1) (B := (zof N (bd.x, bd.y)).2)
  have e2 := s.bi.sumB (A := (zof N (bd.x, bd.y)).1) (B := (zof N (bd.x, bd.y)).2)
  have hN : (N : Rat) ≠ 0 := ratne (by have := s.N0; omega)
  unfold pcI pcJ
  dsimp only at v
  generalize (zof N (bd.x, bd.y)).1 = A at *
  generalize (zof N (bd.x, bd.y)).2 = B at *
  generalize b.I A B = I at *
  generalize b.J A B = J at *
  have f1 : (A : Rat) = (I : Rat) * b.X + (J : Rat) * b.U := by rw [e1]; simp only [Rat.intCast_mul, Rat.intCast_add]
  have f2 : (B : Rat) = (I : Rat) * b.Y + (J : Rat) * b.V := by rw [e2]; simp only [Rat.intCast_mul, Rat.intCast_add]
  rw [v.1, v.2, f1, f2]
  exact ⟨by grind, by grind⟩
theorem Srv.pb (hd : Root d) [Bd d 7] (s : Srv d D j n al N b) (hD : 0 < D) (bD : Bd D j) (hj : j ≤ 1900) (hn : n ≤ 950) {bd : Bo} (h : bd ∈ al) (hp : PosB d bd) (ho : OvB D n bd) : PB d (3 * n + 160) j ((b.X : Rat) / N) ((b.Y : Rat) / N) ((b.U : Rat) / N) ((b.V : Rat) / N) bd (pcI N b bd) (pcJ N b bd) ∧
    m_counts [.int d, bqD N b, lnD bd.x bd.y] = .ok (.tuple [.int (pcI N b bd), .int (pcJ N b bd)]) ∧ Ov D (3 * n + 3) (bd.u * (pcI N b bd : Rat)) (bd.v * (pcI N b bd : Rat)) ∧ Ov D (3 * n + 3) (bd.u * (pcJ N b bd : Rat)) (bd.v * (pcJ N b bd : Rat)) := by
  obtain ⟨wx, wy⟩ := s.width h
  obtain ⟨bI, bJ⟩ := s.IJ h
  obtain ⟨z1, z2⟩ := s.zb bd h
  have bN := s.bN
  have v := zof_val s.N0 (p := (bd.x, bd.y)) (s.dv bd h)
  have hpz := zof_pz hd s.N0 (p := (bd.x, bd.y)) (s.dv bd h) hp.w
  have sm := s.bi.some hd hpz
  have sv := s.sv bd h
  have o1 : Ov N (n + 2) ((b.X : Rat) / N) ((b.Y : Rat) / N) := ⟨_, _, s.bb.x, s.bb.y, rfl, rfl⟩
  have o2 : Ov N (n + 2) ((b.U : Rat) / N) ((b.V : Rat) / N) := ⟨_, _, s.bb.u, s.bb.v, rfl, rfl⟩
  have ec := counts_bq (.int d) N s.N0 b s.bb s.bi (zof N (bd.x, bd.y)).1 (zof N (bd.x, bd.y)).2 (bN := s.bN) (bA := z1) (bB := z2) (by omega) (by omega) (by omega)
  have h1 := (ho.h.mul bI).mono (n' := 3 * n + 3) (by omega)
  have h2 := (ho.h.mul bJ).mono (n' := 3 * n + 3) (by omega)
  refine ⟨⟨wx, wy, sv.1, sv.2, fun z => ?_, bI.mono (by omega), bJ.mono (by omega), hp.h, ((o1.mul bI).bl s.N0 s.bN).mono (by omega) (Nat.le_refl _), ((o2.mul bJ).bl s.N0 s.bN).mono (by omega) (Nat.le_refl _), (ho.h.bl hD bD).mono (by omega) (Nat.le_refl _), (h1.bl hD bD).mono (by omega) (Nat.le_refl _), (h2.bl hD bD).mono (by omega) (Nat.le_refl _)⟩, ?_, h1, h2⟩
  · obtain ⟨y1, y2⟩ := z
    unfold pcI at y1
    unfold pcJ at y2
    rcases sm with q | q <;> omega
  · unfold lqD at ec
    dsimp only at v
    rw [← v.1, ← v.2] at ec
    exact ec
end
end DL

set_option Elab.async false
set_option linter.all false
set_option maxRecDepth 100000
set_option maxHeartbeats 4000000
set_option autoImplicit false
/-! heaps over one bottom: the normal plan and where it leads -/
namespace DL
open PySem L2 MB
section
variable {d D : Int} {j n : Nat} {al : List Bo} {N : Int} {b : Ba}
end
end DL

set_option Elab.async false
set_option linter.all false
set_option maxRecDepth 100000
set_option maxHeartbeats 4000000
set_option autoImplicit false
/-! law k33: a deed tried -/
namespace DL
open PySem L2 MB
theorem isE33 {es : List Str} {T c : Str} (h : c ∈ es) : gIsE es T (exD c) = .ok (.bool (subX c T)) := if_pos h
theorem tryK33 {es : List Str} {T : Str} {i j : Nat} {f : En → Fl} {ρ : En} : sTryK es T i j f ρ = match f ρ with
  | .ex c ρ' => if c ∈ es ∧ i < ρ'.length then (if subX c T = true then .nx (((ρ'.set i none).set j (some (.d (exD c)))).set i none) else .ex c ρ') else .no
  | r => r := rfl
theorem subY33 {c : Str} : subX c "YardError" = true := by unfold subX; simp +decide
theorem subV33 {c : Str} : subX c "ValueError" = true := by unfold subX; simp +decide
/-! ### fits -/
/-! ### tried -/
end DL

set_option Elab.async false
set_option linter.all false
set_option maxRecDepth 100000
set_option maxHeartbeats 4000000
set_option autoImplicit false
/-! law k33: what is asked -/
namespace DL
open PySem L2 MB
section
variable (c g s n i A B N : Int) (L : Lst) (pl nm bo o1 o2 o3 at_ : PD) (xs : List PD) (w1 w2 : Str) [Bd g 127] [Bd (7 + s) 4] [Bd (11 + s) 4] (h7 : 0 < 7 + s) (h11 : 0 < 11 + s) (el : gLen [nm] = .ok (.int n)) (hn : 0 < n) (e7 : gIx nm (.int (g / (7 + s) % n)) = .ok (.int i)) (eb : kGetR (kvY L) (.int i) = .ok bo) (ew : gIx bo (.int s) = .ok (.tuple [.int A, .int B, .int N]))
  (p1 : m_law_plus [.tuple [.int A, .int B, .int N], .tuple [.int 1, .int 0, .int 1000000000], .int 1] = .ok o1) (p2 : m_law_plus [.tuple [.int A, .int B, .int N], .tuple [.int 1, .int 0, .int 1000000000], .int (-1)] = .ok o2) (p3 : gIx pl (.int (g / 77 % 3)) = .ok o3) (e9 : gIx (.list [.tuple [.int 0, .int 0, .int 1], .tuple [.int (0 - A), .int (0 - B), .int N], .tuple [.int A, .int B, .int N], o1, o2, o3]) (.int (g / (11 + s) % 6)) = .ok at_)
  (v1 : gIx (.list [.str "across", .str "along"]) (.int s) = .ok (.str w1)) (v2 : gIx (.list [.str "beside", .str "atop"]) (.int s) = .ok (.str w2)) (hx : xs.length < 1000) (x7 x8 x9 x10 : Option SV)
include h7 h11 el hn e7 eb ew p1 p2 p3 e9 v1 hx
end
end DL

set_option Elab.async false
set_option linter.all false
set_option maxRecDepth 100000
set_option maxHeartbeats 4000000
set_option autoImplicit false
/-! law k33: what is asked, all -/
namespace DL
open PySem L2 MB
theorem Ov.neg {D : Int} {n : Nat} {x y : Rat} (h : Ov D n x y) : Ov D n (-x) (-y) := by
  obtain ⟨A, B, h1, h2, rfl, rfl⟩ := h
  refine ⟨-A, -B, bd_neg, bd_neg, ?_, ?_⟩
  · rw [Rat.intCast_neg]; grind
  · rw [Rat.intCast_neg]; grind
abbrev ze : Rat := ((0 : Int) : Rat) / ((1000000000 : Int) : Rat)
end DL

set_option Elab.async false
set_option linter.all false
set_option maxRecDepth 100000
set_option maxHeartbeats 4000000
set_option autoImplicit false
/-! k35: back -/
namespace DL
open PySem L2 MB
/-! ### the first names -/
/-! ### a row back -/
end DL

set_option Elab.async false
set_option linter.all false
set_option maxRecDepth 100000
set_option maxHeartbeats 4000000
set_option autoImplicit false
/-! law k34: plans walked -/
namespace DL
open PySem L2 MB
inductive Runs (d : Int) : Ya → List PD → Ya → Prop
  | nil (Y : Ya) : Runs d Y [] Y
  | cons {Y Y1 Y' : Ya} {x : PD} {xs : List PD} (e : m_Yard_do (YF d Y) [.none, x] = .ok .none (YF d Y1)) (r : Runs d Y1 xs Y') : Runs d Y (x :: xs) Y'
theorem Runs.snoc {d : Int} {Y Y1 Y' : Ya} {x : PD} {xs : List PD} (r : Runs d Y xs Y1) (e : m_Yard_do (YF d Y1) [.none, x] = .ok .none (YF d Y')) : Runs d Y (xs ++ [x]) Y' := by
  induction r with
  | nil Y => exact .cons e (.nil _)
  | cons e1 r ih => exact .cons e1 (ih e)
/-! ### deeds that are none -/
end DL

set_option Elab.async false
set_option linter.all false
set_option maxRecDepth 100000
set_option maxHeartbeats 4000000
set_option autoImplicit false
/-! k35: the law's own walk; back's rows -/
namespace DL
open PySem L2 MB
/-! ### the law's own walk -/
inductive LRun (d : Int) (t : Bool) : Lst → Int → List PD → Lst → Int → Prop
  | nil (L : Lst) (u : Int) : LRun d t L u [] L u
  | cons {L L1 L2 : Lst} {u u1 u2 : Int} {x : PD} {xs : List PD} (h1 : m_law_fits_v3 [.int d, x, .dict (kvD (kvY L)), .bool t] = .ok (.bool true)) (h2 : m_law_done_v2 [.dict (kvD (kvY L)), .int u, x] = .ok (.tuple [.dict (kvD (kvY L1)), .int u1])) (r : LRun d t L1 u1 xs L2 u2) : LRun d t L u (x :: xs) L2 u2
theorem LRun.snoc {d : Int} {t : Bool} {L L1 L2 : Lst} {u u1 u2 : Int} {x : PD} {xs : List PD} (r : LRun d t L u xs L1 u1) (h1 : m_law_fits_v3 [.int d, x, .dict (kvD (kvY L1)), .bool t] = .ok (.bool true)) (h2 : m_law_done_v2 [.dict (kvD (kvY L1)), .int u1, x] = .ok (.tuple [.dict (kvD (kvY L2)), .int u2])) : LRun d t L u (xs ++ [x]) L2 u2 := by
  induction r with
  | nil L u => exact .cons h1 h2 (.nil _ _)
  | cons g1 g2 r ih => exact .cons g1 g2 (ih h1 h2)
/-! ### the deed back, as data -/
end DL

set_option Elab.async false
set_option linter.all false
set_option maxRecDepth 100000
set_option maxHeartbeats 4000000
set_option autoImplicit false
/-! k35: back, whole; what it tells is right -/
namespace DL
open PySem L2 MB
/-! ### places -/
def idxB (M : Lst) (i : Int) : Nat := M.findIdx fun p => decide (p.1 = i)
theorem idx_cons_eq {p : Int × Bo} {M : Lst} : idxB (p :: M) p.1 = 0 := by
  unfold idxB
  rw [List.findIdx_cons]
  simp
theorem idx_cons_ne {p : Int × Bo} {M : Lst} {i : Int} (h : p.1 ≠ i) : idxB (p :: M) i = idxB M i + 1 := by
  unfold idxB
  rw [List.findIdx_cons]
  simp [h]
theorem idx_get : ∀ {M : Lst} {p : Int × Bo}, Up M → p ∈ M → M[idxB M p.1]? = some p
  | q :: M, p, h, hp => by
    obtain ⟨h1, h2⟩ := List.pairwise_cons.mp h
    rcases List.mem_cons.mp hp with rfl | hp
    · rw [idx_cons_eq]; rfl
    · have := h1 p hp
      rw [idx_cons_ne (by omega), List.getElem?_cons_succ]
      exact idx_get h2 hp
theorem idx_all : ∀ {M : Lst}, Up M → M.map (fun p => idxB M p.1) = List.range' 0 M.length
  | [], _ => rfl
  | q :: M, h => by
    obtain ⟨h1, h2⟩ := List.pairwise_cons.mp h
    have e : M.map (fun p => idxB (q :: M) p.1) = M.map (fun p => idxB M p.1 + 1) := List.map_congr_left fun p hp => by
      have := h1 p hp
      exact idx_cons_ne (by omega)
    rw [List.map_cons, idx_cons_eq, e, show M.map (fun p => idxB M p.1 + 1) = (M.map fun p => idxB M p.1).map (· + 1) from by rw [List.map_map]; rfl, idx_all h2, List.length_cons, List.range'_succ]
    congr 1
    have : (List.range' 0 M.length).map (1 + ·) = List.range' (0 + 1) M.length := by rw [List.map_add_range']
    rw [← this]
    exact List.map_congr_left fun x _ => by omega
/-! ### back -/
/-- what is wanted of what back tells -/
structure Told (d : Int) (t : Bool) (b0 e0 : List Bo) (ds : List PD) (zs : List Int) : Prop where
  ex : ∃ (M : Lst) (v : Int), Asc M v ∧ Runs d ⟨t, numB 0 e0, e0.length, []⟩ ds ⟨t, M, v, ds⟩ ∧ LRun d t (numB 0 e0) e0.length ds M v ∧ M.length = b0.length ∧ zs.length = b0.length ∧ srtI zs = (List.range' 0 b0.length).map (fun i => ((i : Nat) : Int)) ∧ ∃ ps : Lst, zs = ps.map (fun p => ((idxB M p.1 : Nat) : Int)) ∧ (∀ p ∈ ps, p ∈ M) ∧ ps.map (·.2) = b0
end DL

set_option Elab.async false
set_option linter.all false
set_option maxRecDepth 100000
set_option maxHeartbeats 4000000
set_option autoImplicit false
/-! back once more: what it tells is a drawn plan -/
namespace DL
open PySem L2 MB
end DL

set_option Elab.async false
set_option linter.all false
set_option maxRecDepth 100000
set_option maxHeartbeats 4000000
set_option autoImplicit false
/-! a drawn plan under other names -/
namespace DL
open PySem L2 MB
section
variable {ρ : Int → Int} (hr : ∀ i j, 0 ≤ i → i < j → ρ i < ρ j)
include hr
end
end DL

set_option Elab.async false
set_option linter.all false
set_option maxRecDepth 100000
set_option maxHeartbeats 4000000
set_option autoImplicit false
/-! renamed, moved_on -/
namespace DL
open PySem L2 MB
end DL

set_option Elab.async false
set_option linter.all false
set_option maxRecDepth 100000
set_option maxHeartbeats 4000000
set_option autoImplicit false
/-! like: the names behind -/
namespace DL
open PySem L2 MB
end DL

set_option Elab.async false
set_option linter.all false
set_option maxRecDepth 100000
set_option maxHeartbeats 4000000
set_option autoImplicit false
/-! like: the tables compared -/
namespace DL
open PySem L2 MB
end DL

set_option Elab.async false
set_option linter.all false
set_option maxRecDepth 100000
set_option maxHeartbeats 2000000
set_option autoImplicit false
/-! tables over one bottom -/
namespace DL
open PySem L2 MB
theorem Ov.br {D : Int} {n j : Nat} {x y : Rat} (hD : 0 < D) (bD : Bd D j) (h : Ov D n x y) : BR x n j ∧ BR y n j := by
  obtain ⟨A, B, h1, h2, rfl, rfl⟩ := h
  exact ⟨br_frac (by omega) h1 bD, br_frac (by omega) h2 bD⟩
theorem OvB.bb {D : Int} {n j : Nat} {b : Bo} (hD : 0 < D) (bD : Bd D j) (h : OvB D n b) : BB b n j := ⟨(h.w.br hD bD).1, (h.w.br hD bD).2, (h.h.br hD bD).1, (h.h.br hD bD).2⟩
/-- one place over D's square -/
def S1 (D : Int) (k : Nat) (q : Rat) : Prop := ∃ S : Int, Bd S k ∧ q = (S : Rat) / ((D * D : Int) : Rat)
structure TS (D : Int) (k : Nat) (t : Tab) : Prop where
  a : S1 D k t.a
  b : S1 D k t.b
  c : S1 D k t.c
  d : S1 D k t.d
theorem S1.br {D : Int} {k j : Nat} {q : Rat} (hD : 0 < D) (bD : Bd D j) (h : S1 D k q) : BR q k (j + j) := by
  obtain ⟨S, b, rfl⟩ := h
  exact br_frac (by have := Int.mul_pos hD hD; omega) b inferInstance
theorem TS.bt {D : Int} {k j : Nat} {t : Tab} (hD : 0 < D) (bD : Bd D j) (h : TS D k t) : BT t k (j + j) := ⟨h.a.br hD bD, h.b.br hD bD, h.c.br hD bD, h.d.br hD bD⟩
theorem S1.add {D A B : Int} {k n : Nat} {q : Rat} (hD : 0 < D) (h : S1 D k q) (hA : Bd A n) (hB : Bd B n) (hk : n + n ≤ k) : S1 D (k + 1) (q + (A : Rat) / D * ((B : Rat) / D)) := by
  obtain ⟨S, b, rfl⟩ := h
  refine ⟨S + A * B, Bd.mono (inferInstance : Bd (S + A * B) (max k (n + n) + 1)) (by omega), ?_⟩
  have := ratne (show D ≠ 0 by omega)
  rw [Rat.intCast_add, Rat.intCast_mul, Rat.intCast_mul]
  grind
theorem TS.add {D : Int} {k n : Nat} {t : Tab} {b : Bo} (hD : 0 < D) (h : TS D k t) (o : OvB D n b) (hk : n + n ≤ k) : TS D (k + 1) (t.add b.tab) := by
  obtain ⟨A, B, hA, hB, e1, e2⟩ := o.w
  obtain ⟨U, V, hU, hV, e3, e4⟩ := o.h
  refine ⟨?_, ?_, ?_, ?_⟩
  · show S1 D (k + 1) (t.a + b.x * b.u)
    rw [e1, e3]; exact h.a.add hD hA hU hk
  · show S1 D (k + 1) (t.b + b.x * b.v)
    rw [e1, e4]; exact h.b.add hD hA hV hk
  · show S1 D (k + 1) (t.c + b.y * b.u)
    rw [e2, e3]; exact h.c.add hD hB hU hk
  · show S1 D (k + 1) (t.d + b.y * b.v)
    rw [e2, e4]; exact h.d.add hD hB hV hk
theorem TS.zero {D : Int} {k : Nat} : TS D k Tab.zero := by
  have z : S1 D k 0 := ⟨0, ⟨Nat.two_pow_pos _⟩, by have : ((0 : Int) : Rat) = 0 := rfl
                                                   rw [this]; grind⟩
  exact ⟨z, z, z, z⟩
theorem tableD_loop (h0 : PD) (D : Int) (hD : 0 < D) {j n : Nat} (bD : Bd D j) (hj : j ≤ 2000) (hn : n ≤ 100000) : ∀ (bs : List Bo) (t : Tab) (k : Nat) (x2 x3 : Option SV), TS D k t → (∀ b ∈ bs, OvB D n b) → n + n ≤ k → k + bs.length ≤ 1000000 →
    ∃ y2 y3, sForL (.many [2, 3]) lb1_table (bs.map boD) [some (.d h0), some (.d (tabD t)), x2, x3] = .nx [some (.d h0), some (.d (tabD (tabL t bs))), y2, y3] ∧ TS D (k + bs.length) (tabL t bs)
  | [], t, k, x2, x3, ht, _, _, _ => ⟨x2, x3, rfl, by simpa [tabL] using ht⟩
  | b :: bs, t, k, x2, x3, ht, hb, hk, hl => by
    have o := hb b List.mem_cons_self
    have bb := o.bb hD bD
    have bt := ht.bt hD bD
    rw [List.length_cons] at hl
    have e1 := table_of_eq b (n := n) (m := j) (by omega) (by omega)
    have e2 := together_eq t b.tab (by omega) (by omega) (by omega)
    obtain ⟨y2, y3, e, h⟩ := tableD_loop h0 D hD bD hj hn bs (t.add b.tab) (k + 1) (some (.d (lnD b.x b.y))) (some (.d (lnD b.u b.v))) (ht.add hD o hk) (fun c hc => hb c (List.mem_cons_of_mem _ hc)) (by omega) (by omega)
    refine ⟨y2, y3, ?_, ?_⟩
    · simp +decide only [List.map_cons, forL_m, zEV9]
      simp +decide only [lb1_table, zEV9, e1, e2]
      exact e
    · have el : k + (b :: bs).length = k + 1 + bs.length := by rw [List.length_cons]; omega
      rw [el]
      exact h
theorem table_D (D : Int) (hD : 0 < D) {j n : Nat} (bD : Bd D j) (hj : j ≤ 2000) (hn : n ≤ 100000) (bs : List Bo) (hb : ∀ b ∈ bs, OvB D n b) (hl : bs.length ≤ 10000) : m_table [.list (bs.map boD)] = .ok (tabD (tabL Tab.zero bs)) ∧ BT (tabL Tab.zero bs) (n + n + bs.length) (j + j) := by
  obtain ⟨y2, y3, e, h⟩ := tableD_loop (.list (bs.map boD)) D hD bD hj hn bs Tab.zero (n + n) none none TS.zero hb (Nat.le_refl _) (by omega)
  refine ⟨?_, h.bt hD bD⟩
  simp +decide only [m_table, den_table, zEV9, ← zeroD, e]
instance bl_zz : BL 0 0 1 1 := ⟨⟨by decide⟩, ⟨by decide⟩, ⟨by decide⟩⟩
end DL

set_option Elab.async false
set_option linter.all false
set_option maxRecDepth 100000
set_option maxHeartbeats 4000000
set_option autoImplicit false
/-! like: the plan -/
namespace DL
open PySem L2 MB
end DL

set_option Elab.async false
set_option linter.all false
set_option maxRecDepth 100000
set_option maxHeartbeats 2000000
set_option autoImplicit false
/-! squares of any numbers, or too many -/
namespace DL
open PySem L2 MB
theorem cuts_loop2 : ∀ (g w h : Nat) (t : List Nat), w + h ≤ g → t.length ≤ 400 →
    (t.length + (cutF g w h).length ≤ 400 → ∃ w' h' : Nat, sWhile lt1_cuts_of lb1_cuts_of [some (.d (.int (w : Int))), some (.d (.int (h : Int))), some (.l (t.map nI))] = .nx [some (.d (.int (w' : Int))), some (.d (.int (h' : Int))), some (.l ((t ++ cutF g w h).map nI))]) ∧
    (400 < t.length + (cutF g w h).length → ∃ ρ' : En, sWhile lt1_cuts_of lb1_cuts_of [some (.d (.int (w : Int))), some (.d (.int (h : Int))), some (.l (t.map nI))] = .ex "TooMany" ρ')
  | 0, w, h, t, hg, ht => by
    have c : ¬ (0 : Int) < (w : Int) := by omega
    refine ⟨fun _ => ⟨w, h, ?_⟩, fun q => absurd q (by simp only [cutF, List.length_nil]; omega)⟩
    rw [ev_while]
    simp +decide only [lt1_cuts_of, zEV9, c, cutF, List.append_nil]
  | g + 1, w, h, t, hg, ht => by
    by_cases z : w = 0 ∨ h = 0
    · refine ⟨fun _ => ⟨w, h, ?_⟩, fun q => absurd q (by rw [cutF, if_pos z, List.length_nil]; omega)⟩
      rw [ev_while, cutF, if_pos z, List.append_nil]
      by_cases c : (0 : Int) < (w : Int)
      · have c2 : ¬ (0 : Int) < (h : Int) := by omega
        simp +decide only [lt1_cuts_of, zEV9, c, c2]
      · simp +decide only [lt1_cuts_of, zEV9, c]
    · have c1 : (0 : Int) < (w : Int) := by omega
      have c2 : (0 : Int) < (h : Int) := by omega
      have hl : (t.map nI).length < 16777216 := by rw [List.length_map]; omega
      have hl0 : t.length < 16777216 := by omega
      have hl4 : gLen [.list (t.map nI)] = .ok (.int (t.length : Int)) := by rw [len_l, List.length_map]
      by_cases hm4 : t.length = 400
      · have he : (t.length : Int) = 400 := by omega
        refine ⟨fun q => ?_, fun _ => ?_⟩
        · exfalso
          rw [cutF, if_neg z] at q
          by_cases c : h ≤ w
          · rw [if_pos c, List.length_cons] at q; omega
          · rw [if_neg c, List.length_cons] at q; omega
        · rw [ev_while]
          simp +decide only [lt1_cuts_of, lb1_cuts_of, c_MOST, zEV9, c1, c2, hl, hl0, hl4, he]
          exact ⟨_, rfl⟩
      · have hne : ¬ (t.length : Int) = 400 := by omega
        by_cases c : h ≤ w
        · have I := cuts_loop2 g (w - h) h (t ++ [h]) (by omega) (by simp; omega)
          rw [cutF, if_neg z, if_pos c]
          rw [List.append_assoc, List.singleton_append, List.map_append, List.map_cons, List.map_nil, List.length_append, List.length_singleton] at I
          have e1 : ((w - h : Nat) : Int) = (w : Int) - (h : Int) := by omega
          rw [e1] at I
          have hm := gMin_r (i := (w : Int)) (j := (h : Int)) (by omega)
          have cc : (h : Int) ≤ (w : Int) := by omega
          rw [ev_while, List.length_cons]
          simp +decide only [lt1_cuts_of, lb1_cuts_of, c_MOST, zEV9, c1, c2, hl, hl0, hl4, hne, hm, cc]
          simp only [lt1_cuts_of, lb1_cuts_of, c_MOST] at I
          exact ⟨fun q => I.1 (by omega), fun q => I.2 (by omega)⟩
        · have I := cuts_loop2 g w (h - w) (t ++ [w]) (by omega) (by simp; omega)
          rw [cutF, if_neg z, if_neg c]
          rw [List.append_assoc, List.singleton_append, List.map_append, List.map_cons, List.map_nil, List.length_append, List.length_singleton] at I
          have e1 : ((h - w : Nat) : Int) = (h : Int) - (w : Int) := by omega
          rw [e1] at I
          have hm := gMin_l (i := (w : Int)) (j := (h : Int)) (by omega)
          have cc : ¬ (h : Int) ≤ (w : Int) := by omega
          rw [ev_while, List.length_cons]
          simp +decide only [lt1_cuts_of, lb1_cuts_of, c_MOST, zEV9, c1, c2, hl, hl0, hl4, hne, hm, cc]
          simp only [lt1_cuts_of, lb1_cuts_of, c_MOST] at I
          exact ⟨fun q => I.1 (by omega), fun q => I.2 (by omega)⟩
theorem cuts_gen (w h : Nat) : ((cutF (w + h) w h).length ≤ 400 → m_cuts_of [.int (w : Int), .int (h : Int)] = .ok (.list ((cutF (w + h) w h).map nI))) ∧ (400 < (cutF (w + h) w h).length → m_cuts_of [.int (w : Int), .int (h : Int)] = .ex "TooMany") := by
  obtain ⟨a, b⟩ := cuts_loop2 (w + h) w h [] (Nat.le_refl _) (by simp)
  simp only [List.map_nil, List.nil_append, List.length_nil, Nat.zero_add] at a b
  refine ⟨fun q => ?_, fun q => ?_⟩
  · obtain ⟨w', h', e⟩ := a q
    simp +decide only [m_cuts_of, den_cuts_of, zEV9, e]
  · obtain ⟨ρ, e⟩ := b q
    simp +decide only [m_cuts_of, den_cuts_of, zEV9, seq_ex, e]
end DL

set_option Elab.async false
set_option linter.all false
set_option maxRecDepth 100000
set_option maxHeartbeats 4000000
set_option autoImplicit false
/-! the names behind a plan -/
namespace DL
open PySem L2 MB
section
variable {i : Nat} {ρ : En} {f g : En → R PD} {fl : En → R (List PD)} {xs ds : List PD} {ns : List Int} {k : Int}
end
end DL

set_option Elab.async false
set_option linter.all false
set_option maxRecDepth 100000
set_option maxHeartbeats 4000000
set_option autoImplicit false
/-! like: whole -/
namespace DL
open PySem L2 MB
end DL

set_option Elab.async false
set_option linter.all false
set_option maxRecDepth 100000
set_option maxHeartbeats 4000000
set_option autoImplicit false
/-! the names behind a plan, all of it -/
namespace DL
open PySem L2 MB
end DL

set_option Elab.async false
set_option linter.all false
set_option maxRecDepth 100000
set_option maxHeartbeats 4000000
set_option autoImplicit false
/-! like: what it tells -/
namespace DL
open PySem L2 MB
/-- boards over one bottom -/
structure Hp (d D : Int) (n : Nat) (bs : List Bo) : Prop where
  bo : ∀ b ∈ bs, PosB d b ∧ OvB D n b
  ne : bs ≠ []
  len : bs.length ≤ 60
/-- what a plan comes to -/
structure Led (d D : Int) (n j : Nat) (bs cs : List Bo) (ps : List PD) (zs : List Int) (rs : List Rec) (M : Lst) (v : Int) : Prop where
  told : ps = DL.told rs
  fw : Fw d (3 * n + 160) j bs rs M v
  tu : ∀ r ∈ rs, ∀ i, r.δ ≠ .tu i
  rl : rs.length ≤ 1300
  lm : M.length = cs.length
  lz : zs.length = cs.length
  srt : srtI zs = (List.range' 0 cs.length).map (fun i => ((i : Nat) : Int))
  qs : ∃ qs : Lst, zs = qs.map (fun p => ((idxB M p.1 : Nat) : Int)) ∧ (∀ p ∈ qs, p ∈ M) ∧ qs.map (·.2) = cs
end DL

set_option Elab.async false
set_option linter.all false
set_option maxRecDepth 100000
set_option maxHeartbeats 4000000
set_option autoImplicit false
/-! normal heaps -/
namespace DL
open PySem L2 MB
section
variable {d D : Int} {j n : Nat} {al : List Bo} {N : Int} {b : Ba}
end
end DL

set_option Elab.async false
set_option linter.all false
set_option maxRecDepth 100000
set_option maxHeartbeats 4000000
set_option autoImplicit false
/-! the normal form: sums, signs, bits -/
namespace DL
open PySem L2 MB
section
variable {d D : Int} {j n : Nat} {al : List Bo} {N : Int} {b : Ba}
structure NhS (d D : Int) (q : Nat) (S T : Rat) : Prop where
  p : (S = 0 ∧ T = 0) ∨ PosQ d S T
  o : Ov D q S T
end
end DL

set_option Elab.async false
set_option linter.all false
set_option maxRecDepth 100000
set_option maxHeartbeats 4000000
set_option autoImplicit false
/-! normal plans and heaps: heights of more bits than widths -/
namespace DL
open PySem L2 MB
/-- a heap whose widths are served, its heights over one bottom -/
structure HpS (d D : Int) (h : Nat) (al bs : List Bo) : Prop where
  mem : ∀ c ∈ bs, c ∈ al
  bo : ∀ c ∈ bs, PosB d c ∧ Ov D h c.u c.v
section
variable {d Dw D : Int} {jw j nw h : Nat} {al : List Bo} {N : Int} {b : Ba}
/-- the base's own lengths are served, too -/
theorem Srv.own (s : Srv d Dw jw nw al N b) (al2 : List Bo) (h2 : ∀ c ∈ al2, (c.x = (b.X : Rat) / N ∧ c.y = (b.Y : Rat) / N) ∨ (c.x = (b.U : Rat) / N ∧ c.y = (b.V : Rat) / N)) : Srv d Dw jw (nw + 2) (al ++ al2) N b := by
  have hN := s.N0
  have hNr : (N : Rat) ≠ 0 := ratne (by omega)
  have zo : ∀ {A B : Int}, zof N ((A : Rat) / N, (B : Rat) / N) = (A, B) ∧ qN ((A : Rat) / N) ((B : Rat) / N) ∣ N := fun {A B} => by
    have hq : qN ((A : Rat) / N) ((B : Rat) / N) ∣ N := qN_dvd (by omega)
    have v := zof_val hN (p := ((A : Rat) / N, (B : Rat) / N)) hq
    refine ⟨?_, hq⟩
    have e1 : (A : Rat) = ((zof N ((A : Rat) / N, (B : Rat) / N)).1 : Rat) := by have := v.1; grind
    have e2 : (B : Rat) = ((zof N ((A : Rat) / N, (B : Rat) / N)).2 : Rat) := by have := v.2; grind
    exact Prod.ext (by exact_mod_cast e1.symm) (by exact_mod_cast e2.symm)
  have dt := s.bi.det
  have b1 := s.bb.x; have b2 := s.bb.y; have b3 := s.bb.u; have b4 := s.bb.v
  have two : ∀ c ∈ al2, qN c.x c.y ∣ N ∧ (Bd (zof N (c.x, c.y)).1 (nw + 2) ∧ Bd (zof N (c.x, c.y)).2 (nw + 2)) ∧ Sv b (zof N (c.x, c.y)).1 (zof N (c.x, c.y)).2 := fun c hc => by
    rcases h2 c hc with ⟨e1, e2⟩ | ⟨e1, e2⟩
    · rw [e1, e2]
      refine ⟨zo.2, by rw [zo.1]; exact ⟨b1, b2⟩, ?_⟩
      rw [zo.1]
      unfold Sv Ba.I Ba.J
      constructor <;> grind
    · rw [e1, e2]
      refine ⟨zo.2, by rw [zo.1]; exact ⟨b3, b4⟩, ?_⟩
      rw [zo.1]
      unfold Sv Ba.I Ba.J
      constructor <;> grind
  refine ⟨s.N0, s.bN, s.bi, ⟨b1.mono (by omega), b2.mono (by omega), b3.mono (by omega), b4.mono (by omega)⟩, fun c hc => ?_, fun c hc => ?_, fun c hc => ?_⟩
  · rcases List.mem_append.mp hc with hc | hc
    · exact s.dv c hc
    · exact (two c hc).1
  · rcases List.mem_append.mp hc with hc | hc
    · exact ⟨(s.zb c hc).1.mono (by omega), (s.zb c hc).2.mono (by omega)⟩
    · exact (two c hc).2.1
  · rcases List.mem_append.mp hc with hc | hc
    · exact s.sv c hc
    · exact (two c hc).2.2
end
end DL

set_option Elab.async false
set_option linter.all false
set_option maxRecDepth 100000
set_option maxHeartbeats 4000000
set_option autoImplicit false
/-! like: heights of more bits than widths -/
namespace DL
open PySem L2 MB
/-- what a plan comes to -/
structure Led2 (d : Int) (n j : Nat) (bs cs : List Bo) (ps : List PD) (zs : List Int) (rs : List Rec) (M : Lst) (v : Int) : Prop where
  told : ps = DL.told rs
  fw : Fw d n j bs rs M v
  tu : ∀ r ∈ rs, ∀ i, r.δ ≠ .tu i
  rl : rs.length ≤ 1300
  lm : M.length = cs.length
  lz : zs.length = cs.length
  srt : srtI zs = (List.range' 0 cs.length).map (fun i => ((i : Nat) : Int))
  qs : ∃ qs : Lst, zs = qs.map (fun p => ((idxB M p.1 : Nat) : Int)) ∧ (∀ p ∈ qs, p ∈ M) ∧ qs.map (·.2) = cs
theorem Led2.mem {d : Int} {n j : Nat} {bs cs : List Bo} {ps : List PD} {zs : List Int} {rs : List Rec} {M : Lst} {v : Int} (h : Led2 d n j bs cs ps zs rs M v) : (bosL M).Perm cs := by
  obtain ⟨qs, q1, q2, q3⟩ := h.qs
  have aM := h.fw.st.asc
  have pz : zs.Perm ((List.range' 0 M.length).map (fun i => ((i : Nat) : Int))) := by
    rw [h.lm, ← h.srt]
    exact (srtI_perm zs).symm
  have e2 : M.map (fun p => ((idxB M p.1 : Nat) : Int)) = (List.range' 0 M.length).map fun i => ((i : Nat) : Int) := by
    rw [← idx_all aM.1, List.map_map]; rfl
  rw [← e2, q1] at pz
  have g1 : ∀ (R : Lst), (∀ p ∈ R, p ∈ M) → (R.map (fun p => ((idxB M p.1 : Nat) : Int))).map (fun i => M[i.toNat]?) = R.map some := fun R hR => by
    rw [List.map_map]
    refine List.map_congr_left fun p hp => ?_
    show M[((idxB M p.1 : Nat) : Int).toNat]? = some p
    rw [Int.toNat_natCast]
    exact idx_get aM.1 (hR p hp)
  have p2 := pz.map (fun i : Int => M[i.toNat]?)
  rw [g1 qs q2, g1 M fun _ h => h] at p2
  have p3 := p2.filterMap (fun x => x)
  have g2 : ∀ R : Lst, (R.map some).filterMap (fun x => x) = R := fun R => by
    induction R with
    | nil => rfl
    | cons p R ih => rw [List.map_cons, List.filterMap_cons_some (f := fun x : Option (Int × Bo) => x) (b := p) rfl, ih]
  rw [g2, g2] at p3
  rw [← q3]
  unfold bosL
  exact (p3.map _).symm
end DL

set_option Elab.async false
set_option linter.all false
set_option maxRecDepth 100000
set_option maxHeartbeats 1000000
set_option autoImplicit false
namespace DL
open PySem L2 MB
end DL

set_option Elab.async false
set_option linter.all false
set_option maxRecDepth 100000
set_option maxHeartbeats 1000000
set_option autoImplicit false
/-! heaps drawn -/
namespace DL
open PySem L2 MB
/-- x and y are the parts of a side -/
def SideQ (d : Int) (x y : Rat) : Prop := ∃ a b n : Int, Side d a b n ∧ x = (a : Rat) / n ∧ y = (b : Rat) / n
theorem SideQ.br {d : Int} {x y : Rat} (h : SideQ d x y) : BR x 100 31 ∧ BR y 100 31 := by
  obtain ⟨a, b, n, s, rfl, rfl⟩ := h
  have hn : n ≠ 0 := by have := s.low.1; omega
  exact ⟨br_frac hn s.ba s.bn, br_frac hn s.bb s.bn⟩
/-- a board of two sides -/
def BoardQ (d : Int) (b : Bo) : Prop := SideQ d b.x b.y ∧ SideQ d b.u b.v
theorem BoardQ.bb {d : Int} {b : Bo} (h : BoardQ d b) : BB b 100 31 := ⟨h.1.br.1, h.1.br.2, h.2.br.1, h.2.br.2⟩
/-! measures -/
end DL

set_option Elab.async false
set_option linter.all false
set_option maxRecDepth 100000
set_option maxHeartbeats 1000000
set_option autoImplicit false
namespace DL
open PySem L2 MB
/-! data that is plain and shallow -/
/-! lists of lists -/
theorem put2_ev {i k j : Nat} {xss : List (List PD)} {xs : List PD} {fk fj fe : En → R PD} {d : PD} {ρ : En} {z y : Int} (h : ρ[i]? = some (some (.ll xss))) (he : fe ρ = .ok d) (hk : fk ρ = .ok (.int z)) (hz : atI xss z = some xs) (hz2 : ixN xss.length z = some k) (hj : fj ρ = .ok (.int y)) (hy : ixN xs.length y = some j) :
    sPut2 i fk fj fe ρ = .nx (ρ.set i (some (.ll (xss.set k (xs.set j d))))) := by
  unfold sPut2 sE
  simp only [h, he, hk, hz, hj, hy, hz2, Option.getD_some]
theorem ix2_ev {i : Nat} {xss : List (List PD)} {xs : List PD} {fk fj : En → R PD} {d : PD} {ρ : En} {z y : Int} (h : ρ[i]? = some (some (.ll xss))) (hk : fk ρ = .ok (.int z)) (hz : atI xss z = some xs) (hj : fj ρ = .ok (.int y)) (hy : atI xs y = some d) : dIx2 i fk fj ρ = .ok d := by
  unfold dIx2
  simp only [h, hk, hz, hj, hy, R.bind_ok]
theorem ev_setLL {i : Nat} {f : En → R (List (List PD))} {ρ : En} {xss : List (List PD)} (h : f ρ = .ok xss) : sSetLL i f ρ = .nx (ρ.set i (some (.ll xss))) := by
  unfold sSetLL sE
  rw [h]
theorem ev_frzLL {i : Nat} {g : En → Fl} {ρ : En} {xss : List (List PD)} (h : ρ[i]? = some (some (.ll xss))) : sFrzLL i g ρ = g (ρ.set i (some (.d (.list (xss.map .list))))) := by
  unfold sFrzLL
  rw [h]
/-! the places, by the law -/
abbrev plL (t : Tab) : SV := .ll [[frD t.a, frD t.b], [frD t.c, frD t.d]]
abbrev plD (t : Tab) : PD := .list [.list [frD t.a, frD t.b], .list [frD t.c, frD t.d]]
theorem law_add_fr (p q x y : Rat) {n m k1 k2 k3 k4 : Nat} [BR p n m] (A B C D : Int) [Bd A k1] [Bd B k2] [Bd C k3] [Bd D k4] (hC : C ≠ 0) (hD : D ≠ 0) (hx : (A : Rat) = x * C) (hy : (B : Rat) = y * D) (h : m + (k3 + k4) ≤ 9000) (h1 : n + (k3 + k4) ≤ 134217728) (h2 : k1 + k2 + m ≤ 134217728) :
    m_law_add [frD p, .tuple [.int (A * B), .int (C * D)]] = .ok (frD (p + x * y)) := by
  have hpn : (p.den : Int) ≠ 0 := by have := p.den_nz; omega
  have hCD : C * D ≠ 0 := Int.mul_ne_zero hC hD
  have e := law_add_eq p.num p.den (A * B) (C * D) hpn hCD h h1 h2
  have w : ((A * B : Int) : Rat) / ((C * D : Int) : Rat) = x * y := by
    have c1 := ratne hC
    have c2 := ratne hD
    simp only [Rat.intCast_mul]
    rw [hx, hy]
    grind
  rw [num_div, w] at e
  exact e
theorem places_body (t : Tab) (b : Bo) (h0 : PD) (x4 x5 : Option SV) {n m k l : Nat} [i : BT t n m] [j : BB b k l] (h : m + 4 * l ≤ 9000) (h1 : n + 4 * (k + l) ≤ 100000000) (h2 : k + l + (k + l) + m ≤ 100000000) :
    lb3_law_places [some (.d h0), some (plL t), some (.d (lnD b.x b.y)), some (.d (lnD b.u b.v)), x4, x5] = .nx [some (.d h0), some (plL (t.add b.tab)), some (.d (lnD b.x b.y)), some (.d (lnD b.u b.v)), some (.d (.int 1)), some (.d (.int 1))] := by
  have ba := i.a; have bb := i.b; have bc := i.c; have bd := i.d
  have bx := j.x; have by_ := j.y; have bu := j.u; have bv := j.v
  have n1 := qN_pos b.x b.y
  have n2 := qN_pos b.u b.v
  have v1 := q_val b.x b.y
  have v2 := q_val b.u b.v
  have hn1 : qN b.x b.y ≠ 0 := by omega
  have hn2 : qN b.u b.v ≠ 0 := by omega
  have e1 := law_add_fr t.a 0 b.x b.u (qA b.x b.y) (qA b.u b.v) (qN b.x b.y) (qN b.u b.v) hn1 hn2 v1.1 v2.1 (show m + (l + l + (l + l)) ≤ 9000 by omega) (by omega) (by omega)
  have e2 := law_add_fr t.b 0 b.x b.v (qA b.x b.y) (qB b.u b.v) (qN b.x b.y) (qN b.u b.v) hn1 hn2 v1.1 v2.2 (show m + (l + l + (l + l)) ≤ 9000 by omega) (by omega) (by omega)
  have e3 := law_add_fr t.c 0 b.y b.u (qB b.x b.y) (qA b.u b.v) (qN b.x b.y) (qN b.u b.v) hn1 hn2 v1.2 v2.1 (show m + (l + l + (l + l)) ≤ 9000 by omega) (by omega) (by omega)
  have e4 := law_add_fr t.d 0 b.y b.v (qB b.x b.y) (qB b.u b.v) (qN b.x b.y) (qN b.u b.v) hn1 hn2 v1.2 v2.2 (show m + (l + l + (l + l)) ≤ 9000 by omega) (by omega) (by omega)
  have i1 : k + l + (k + l) ≤ 134217728 := by omega
  have i2 : l + l + (l + l) ≤ 134217728 := by omega
  have at2 : ∀ {α : Type} (x y : α), atI [x, y] (0 : Int) = some x ∧ atI [x, y] (1 : Int) = some y := fun _ _ => ⟨rfl, rfl⟩
  have s1 (p q r s : PD) : lb1_law_places [some (.d h0), some (.ll [[p, q], [r, s]]), some (.d (lnD b.x b.y)), some (.d (lnD b.u b.v)), some (.d (.int 0)), some (.d (.int 0))] = sPut2 1 (dV 4) (dV 5) (dA (gCall 2 [] m_law_add) (dCons (dIx2 1 (dV 4) (dV 5)) (dCons (dA gTupD (dCons (d2 gMul (d2 gIx (dV 2) (dV 4)) (d2 gIx (dV 3) (dV 5))) (dCons (d2 gMul (d2 gIx (dV 2) (dC (.int 2))) (d2 gIx (dV 3) (dC (.int 2)))) (dNil)))) (dNil)))) [some (.d h0), some (.ll [[p, q], [r, s]]), some (.d (lnD b.x b.y)), some (.d (lnD b.u b.v)), some (.d (.int 0)), some (.d (.int 0))] := rfl
  have p1 (q r s : PD) : lb1_law_places [some (.d h0), some (.ll [[frD t.a, q], [r, s]]), some (.d (lnD b.x b.y)), some (.d (lnD b.u b.v)), some (.d (.int 0)), some (.d (.int 0))] = .nx [some (.d h0), some (.ll [[frD (t.a + b.x * b.u), q], [r, s]]), some (.d (lnD b.x b.y)), some (.d (lnD b.u b.v)), some (.d (.int 0)), some (.d (.int 0))] := by
    unfold lb1_law_places
    refine Eq.trans (put2_ev (xss := [[frD t.a, q], [r, s]]) (xs := [frD t.a, q]) (k := 0) (j := 0) (z := 0) (y := 0) (d := frD (t.a + b.x * b.u)) ?_ ?_ ?_ ?_ ?_ ?_ ?_) rfl
    · rfl
    · have x := ix2_ev (i := 1) (fk := dV 4) (fj := dV 5) (ρ := [some (.d h0), some (.ll [[frD t.a, q], [r, s]]), some (.d (lnD b.x b.y)), some (.d (lnD b.u b.v)), some (.d (.int 0)), some (.d (.int 0))]) rfl rfl rfl rfl rfl
      simp +decide only [zEV9, x, i1, i2, e1]
    · rfl
    · rfl
    · rfl
    · rfl
    · rfl
  have p2 (p r s : PD) : lb1_law_places [some (.d h0), some (.ll [[p, frD t.b], [r, s]]), some (.d (lnD b.x b.y)), some (.d (lnD b.u b.v)), some (.d (.int 0)), some (.d (.int 1))] = .nx [some (.d h0), some (.ll [[p, frD (t.b + b.x * b.v)], [r, s]]), some (.d (lnD b.x b.y)), some (.d (lnD b.u b.v)), some (.d (.int 0)), some (.d (.int 1))] := by
    unfold lb1_law_places
    refine Eq.trans (put2_ev (xss := [[p, frD t.b], [r, s]]) (xs := [p, frD t.b]) (k := 0) (j := 1) (z := 0) (y := 1) (d := frD (t.b + b.x * b.v)) ?_ ?_ ?_ ?_ ?_ ?_ ?_) rfl
    · rfl
    · have x := ix2_ev (i := 1) (fk := dV 4) (fj := dV 5) (ρ := [some (.d h0), some (.ll [[p, frD t.b], [r, s]]), some (.d (lnD b.x b.y)), some (.d (lnD b.u b.v)), some (.d (.int 0)), some (.d (.int 1))]) rfl rfl rfl rfl rfl
      simp +decide only [zEV9, x, i1, i2, e2]
    · rfl
    · rfl
    · rfl
    · rfl
    · rfl
  have p3 (p q s : PD) : lb1_law_places [some (.d h0), some (.ll [[p, q], [frD t.c, s]]), some (.d (lnD b.x b.y)), some (.d (lnD b.u b.v)), some (.d (.int 1)), some (.d (.int 0))] = .nx [some (.d h0), some (.ll [[p, q], [frD (t.c + b.y * b.u), s]]), some (.d (lnD b.x b.y)), some (.d (lnD b.u b.v)), some (.d (.int 1)), some (.d (.int 0))] := by
    unfold lb1_law_places
    refine Eq.trans (put2_ev (xss := [[p, q], [frD t.c, s]]) (xs := [frD t.c, s]) (k := 1) (j := 0) (z := 1) (y := 0) (d := frD (t.c + b.y * b.u)) ?_ ?_ ?_ ?_ ?_ ?_ ?_) rfl
    · rfl
    · have x := ix2_ev (i := 1) (fk := dV 4) (fj := dV 5) (ρ := [some (.d h0), some (.ll [[p, q], [frD t.c, s]]), some (.d (lnD b.x b.y)), some (.d (lnD b.u b.v)), some (.d (.int 1)), some (.d (.int 0))]) rfl rfl rfl rfl rfl
      simp +decide only [zEV9, x, i1, i2, e3]
    · rfl
    · rfl
    · rfl
    · rfl
    · rfl
  have p4 (p q r : PD) : lb1_law_places [some (.d h0), some (.ll [[p, q], [r, frD t.d]]), some (.d (lnD b.x b.y)), some (.d (lnD b.u b.v)), some (.d (.int 1)), some (.d (.int 1))] = .nx [some (.d h0), some (.ll [[p, q], [r, frD (t.d + b.y * b.v)]]), some (.d (lnD b.x b.y)), some (.d (lnD b.u b.v)), some (.d (.int 1)), some (.d (.int 1))] := by
    unfold lb1_law_places
    refine Eq.trans (put2_ev (xss := [[p, q], [r, frD t.d]]) (xs := [r, frD t.d]) (k := 1) (j := 1) (z := 1) (y := 1) (d := frD (t.d + b.y * b.v)) ?_ ?_ ?_ ?_ ?_ ?_ ?_) rfl
    · rfl
    · have x := ix2_ev (i := 1) (fk := dV 4) (fj := dV 5) (ρ := [some (.d h0), some (.ll [[p, q], [r, frD t.d]]), some (.d (lnD b.x b.y)), some (.d (lnD b.u b.v)), some (.d (.int 1)), some (.d (.int 1))]) rfl rfl rfl rfl rfl
      simp +decide only [zEV9, x, i1, i2, e4]
    · rfl
    · rfl
    · rfl
    · rfl
    · rfl
  simp +decide only [lb3_law_places, lb2_law_places, zEV9, forL_1, forL_nil, p1, p2, p3, p4]
  rfl
/-! tables added up -/
theorem Tab.ext' {s t : Tab} (h1 : s.a = t.a) (h2 : s.b = t.b) (h3 : s.c = t.c) (h4 : s.d = t.d) : s = t := by
  obtain ⟨a, b, c, d⟩ := s
  obtain ⟨a', b', c', d'⟩ := t
  dsimp only at h1 h2 h3 h4
  subst h1 h2 h3 h4
  rfl
theorem Tab.zero_add (s : Tab) : Tab.zero.add s = s := Tab.ext' (Rat.zero_add _) (Rat.zero_add _) (Rat.zero_add _) (Rat.zero_add _)
end DL

set_option Elab.async false
set_option linter.all false
set_option maxRecDepth 100000
set_option maxHeartbeats 1000000
set_option autoImplicit false
namespace DL
open PySem L2 MB
/-- the kinds of drawn sides -/
def Kd (d a b : Int) : Prop := (0 ≤ a ∧ 0 ≤ b ∧ ¬(a = 0 ∧ b = 0)) ∨ (b < 0 ∧ 10 * (b.natAbs : Int) ≤ a) ∨ (-9 ≤ b ∧ b < 0 ∧ 1 ≤ a ∧ d * b * b ≤ a * a ∧ (a = 1 ∨ (a - 1) * (a - 1) < d * b * b)) ∨ (0 < b ∧ a = 0 - b)
structure Side3 (d a b n : Int) : Prop where
  hn : 0 < n
  kd : Kd d a b
  ba : Bd a 40
  bb : Bd b 30
  bn : Bd n 10
theorem Side3.pos {d a b n : Int} (hd : Root d) (hd2 : d ≤ 99) (h : Side3 d a b n) : Pos d a b := by
  have d2 := root_two hd
  rcases h.kd with ⟨h1, h2, h3⟩ | ⟨h1, h2⟩ | ⟨h1, h2, h3, h4, _⟩ | ⟨h1, rfl⟩
  · exact pos_nn h1 h2 h3
  · exact pos_ten (by omega) hd2 h1 h2
  · exact pos_loop hd (by omega) h2 h4
  · exact pos_three d2 h1
end DL

set_option Elab.async false
set_option linter.all false
set_option maxRecDepth 100000
set_option maxHeartbeats 1000000
set_option autoImplicit false
namespace DL
open PySem L2 MB
theorem bind_okN {α β : Type} {f : α → R β} {x : α} : (R.ok x).bind f = f x := by rw [DL.R.bind_ok]
theorem ev_iAN {g : List PD → R (List PD)} {fs : En → R (List PD)} {ρ : En} : iA g fs ρ = (fs ρ).bind g := by rw [ev_iA]
theorem ev_forN {g : En → Fl} {ρ : En} {it : En → R (List PD)} {tg : Tg} : sFor it tg g ρ = (it ρ).fl ρ (kFor tg g ρ) := by rw [ev_for]
theorem fl_okN {α : Type} {k : α → Fl} {ρ : En} {x : α} : (R.ok x).fl ρ k = k x := by rw [fl_ok]
/-! boards by bits -/
structure BoL (b : Bo) (n m : Nat) : Prop where
  w : BL b.x b.y n m
  h : BL b.u b.v n m
theorem BoL.mono {b : Bo} {n m n' m' : Nat} (h : BoL b n m) (h1 : n ≤ n') (h2 : m ≤ m') : BoL b n' m' := ⟨h.w.mono h1 h2, h.h.mono h1 h2⟩
theorem BL.br {x y : Rat} {n m : Nat} (h : BL x y n m) : BR x n m ∧ BR y n m := by
  have v := q_val x y
  have n0 := qN_ne x y
  have hz : qN x y ≠ 0 := by have := qN_pos x y; omega
  have a := br_frac hz h.a h.c
  have b := br_frac hz h.b h.c
  have e1 : ((qA x y : Int) : Rat) / ((qN x y : Int) : Rat) = x := by rw [v.1]; grind
  have e2 : ((qB x y : Int) : Rat) / ((qN x y : Int) : Rat) = y := by rw [v.2]; grind
  rw [e1] at a
  rw [e2] at b
  exact ⟨a, b⟩
theorem BoL.bb {b : Bo} {n m : Nat} (h : BoL b n m) : BB b n m := ⟨h.w.br.1, h.w.br.2, h.h.br.1, h.h.br.2⟩
/-! one board cut -/
end DL

set_option Elab.async false
set_option linter.all false
set_option maxRecDepth 100000
set_option maxHeartbeats 4000000
set_option autoImplicit false
/-! k62-k64: heaps drawn and cut, over one bottom -/
namespace DL
open PySem L2 MB
/-- a drawn side -/
def S4 (d : Int) (p : Rat × Rat) : Prop := PosQ d p.1 p.2 ∧ ∃ n : Int, 0 < n ∧ Bd n 10 ∧ Ov n 40 p.1 p.2
/-- a heap over a bottom, lengths beside it -/
structure YH (d : Int) (P : List (Rat × Rat)) (bs : List Bo) (D : Int) (j n : Nat) : Prop where
  D0 : 0 < D
  bD : Bd D j
  bos : ∀ b ∈ bs, PosB d b ∧ OvB D n b
  pool : ∀ p ∈ P, PosQ d p.1 p.2 ∧ Ov D n p.1 p.2
theorem YH.scale {d : Int} {P : List (Rat × Rat)} {bs : List Bo} {D : Int} {j n : Nat} (Y : YH d P bs D j n) {k : Int} {b : Nat} (hk : 0 < k) (bk : Bd k b) : YH d P bs (D * k) (j + b) (n + b) := by
  have bD := Y.bD
  have D0 := Y.D0
  exact ⟨Int.mul_pos D0 hk, inferInstance, fun c hc => ⟨(Y.bos c hc).1, ⟨(Y.bos c hc).2.w.scale (by omega) (by omega) bk, (Y.bos c hc).2.h.scale (by omega) (by omega) bk⟩⟩, fun p hp => ⟨(Y.pool p hp).1, (Y.pool p hp).2.scale (by omega) (by omega) bk⟩⟩
theorem YH.mono {d : Int} {P : List (Rat × Rat)} {bs : List Bo} {D : Int} {j n j' n' : Nat} (Y : YH d P bs D j n) (hj : j ≤ j') (hn : n ≤ n') : YH d P bs D j' n' :=
  ⟨Y.D0, Y.bD.mono hj, fun c hc => ⟨(Y.bos c hc).1, ⟨(Y.bos c hc).2.w.mono hn, (Y.bos c hc).2.h.mono hn⟩⟩, fun p hp => ⟨(Y.pool p hp).1, (Y.pool p hp).2.mono hn⟩⟩
end DL

set_option Elab.async false
set_option linter.all false
set_option maxRecDepth 100000
set_option maxHeartbeats 2000000
set_option autoImplicit false
/-! what k56, k57 and k58 draw (printed by mkym.py) -/
namespace DL
open PySem L2 MB
def Ds (d : Int) (p : Rat × Rat) : Prop := PosQ d p.1 p.2 ∧ ∃ n : Int, 0 < n ∧ Bd n 6 ∧ Ov n 14 p.1 p.2
theorem Ds.one {d : Int} (hd : Root d) : Ds d (1, 0) := by
  refine ⟨?_, 1, by decide, ⟨by decide⟩, 1, 0, ⟨by decide⟩, ⟨by decide⟩, by grind, by grind⟩
  left
  have : (0 : Rat) < 1 := by decide
  constructor
  · show (d : Rat) * 0 * 0 < 1 * 1
    grind
  · exact this
section
variable (d : Int) (hd : Root d) [Bd d 7] (c : Int) [bc : Bd c 1048576] (L : Lst) (pl : PD) (zs : List Int)
end
end DL

set_option Elab.async false
set_option linter.all false
set_option maxRecDepth 100000
set_option maxHeartbeats 4000000
set_option autoImplicit false
/-! heaps made of others -/
namespace DL
open PySem L2 MB
end DL

set_option Elab.async false
set_option linter.all false
set_option maxRecDepth 100000
set_option maxHeartbeats 4000000
set_option autoImplicit false
/-! k35: what is told is right -/
namespace DL
open PySem L2 MB
end DL

set_option Elab.async false
set_option linter.all false
set_option maxRecDepth 100000
set_option maxHeartbeats 4000000
set_option autoImplicit false
/-! k58: a heap led on -/
namespace DL
open PySem L2 MB
theorem Led.mem {d D : Int} {n j : Nat} {bs cs : List Bo} {ps : List PD} {zs : List Int} {rs : List Rec} {M : Lst} {v : Int} (h : Led d D n j bs cs ps zs rs M v) : (bosL M).Perm cs := by
  obtain ⟨qs, q1, q2, q3⟩ := h.qs
  have aM := h.fw.st.asc
  have pz : zs.Perm ((List.range' 0 M.length).map (fun i => ((i : Nat) : Int))) := by
    rw [h.lm, ← h.srt]
    exact (srtI_perm zs).symm
  have e2 : M.map (fun p => ((idxB M p.1 : Nat) : Int)) = (List.range' 0 M.length).map fun i => ((i : Nat) : Int) := by
    rw [← idx_all aM.1, List.map_map]; rfl
  rw [← e2, q1] at pz
  have g1 : ∀ (R : Lst), (∀ p ∈ R, p ∈ M) → (R.map (fun p => ((idxB M p.1 : Nat) : Int))).map (fun i => M[i.toNat]?) = R.map some := fun R hR => by
    rw [List.map_map]
    refine List.map_congr_left fun p hp => ?_
    show M[((idxB M p.1 : Nat) : Int).toNat]? = some p
    rw [Int.toNat_natCast]
    exact idx_get aM.1 (hR p hp)
  have p2 := pz.map (fun i : Int => M[i.toNat]?)
  rw [g1 qs q2, g1 M fun _ h => h] at p2
  have p3 := p2.filterMap (fun x => x)
  have g2 : ∀ R : Lst, (R.map some).filterMap (fun x => x) = R := fun R => by
    induction R with
    | nil => rfl
    | cons p R ih => rw [List.map_cons, List.filterMap_cons_some (f := fun x : Option (Int × Bo) => x) (b := p) rfl, ih]
  rw [g2, g2] at p3
  rw [← q3]
  unfold bosL
  exact (p3.map _).symm
end DL

set_option Elab.async false
set_option linter.all false
set_option maxRecDepth 100000
set_option maxHeartbeats 4000000
set_option autoImplicit false
/-! one board of a width -/
namespace DL
open PySem L2 MB
theorem placesD_loop (h0 : PD) (D : Int) (hD : 0 < D) {j n : Nat} (bD : Bd D j) (hj : j ≤ 1500) (hn : n ≤ 100000) : ∀ (bs : List Bo) (t : Tab) (k : Nat) (x2 x3 x4 x5 : Option SV), TS D k t → (∀ b ∈ bs, OvB D n b) → n + n ≤ k → k + bs.length ≤ 1000000 →
    ∃ y2 y3 y4 y5, sForL (.many [2, 3]) lb3_law_places (bs.map boD) [some (.d h0), some (plL t), x2, x3, x4, x5] = .nx [some (.d h0), some (plL (tabL t bs)), y2, y3, y4, y5] ∧ TS D (k + bs.length) (tabL t bs)
  | [], t, k, x2, x3, x4, x5, ht, _, _, _ => ⟨x2, x3, x4, x5, rfl, by simpa [tabL] using ht⟩
  | b :: bs, t, k, x2, x3, x4, x5, ht, hb, hk, hl => by
    have o := hb b List.mem_cons_self
    have bb := o.bb hD bD
    have bt := ht.bt hD bD
    rw [List.length_cons] at hl
    have e := places_body t b h0 x4 x5 (i := bt) (j := bb) (by omega) (by omega) (by omega)
    obtain ⟨y2, y3, y4, y5, e2, h⟩ := placesD_loop h0 D hD bD hj hn bs (t.add b.tab) (k + 1) (some (.d (lnD b.x b.y))) (some (.d (lnD b.u b.v))) (some (.d (.int 1))) (some (.d (.int 1))) (ht.add hD o hk) (fun c hc => hb c (List.mem_cons_of_mem _ hc)) (by omega) (by omega)
    refine ⟨y2, y3, y4, y5, ?_, ?_⟩
    · rw [List.map_cons, forL_m rfl]
      show (lb3_law_places [some (.d h0), some (plL t), some (.d (lnD b.x b.y)), some (.d (lnD b.u b.v)), x4, x5]).turn _ = _
      rw [e]
      exact e2
    · have el : k + (b :: bs).length = k + 1 + bs.length := by rw [List.length_cons]; omega
      rw [el]
      exact h
theorem law_places_D (D : Int) (hD : 0 < D) {j n : Nat} (bD : Bd D j) (hj : j ≤ 1500) (hn : n ≤ 100000) (bs : List Bo) (hb : ∀ b ∈ bs, OvB D n b) (hl : bs.length ≤ 10000) : m_law_places [.list (bs.map boD)] = .ok (plD (tabL Tab.zero bs)) ∧ TS D (n + n + bs.length) (tabL Tab.zero bs) := by
  obtain ⟨y2, y3, y4, y5, e, h⟩ := placesD_loop (.list (bs.map boD)) D hD bD hj hn bs Tab.zero (n + n) none none none none TS.zero hb (Nat.le_refl _) (by omega)
  refine ⟨?_, h⟩
  have z : (PyData.tuple [.int 0, .int 1] : PD) = frD 0 := rfl
  have d2 : lDisp2 (dCons (dA gTupD (dCons (dC (.int 0)) (dCons (dC (.int 1)) (dNil)))) (dCons (dA gTupD (dCons (dC (.int 0)) (dCons (dC (.int 1)) (dNil)))) (dNil))) (dCons (dA gTupD (dCons (dC (.int 0)) (dCons (dC (.int 1)) (dNil)))) (dCons (dA gTupD (dCons (dC (.int 0)) (dCons (dC (.int 1)) (dNil)))) (dNil))) [some (.d (.list (bs.map boD))), none, none, none, none, none] = .ok [[frD 0, frD 0], [frD 0, frD 0]] := rfl
  have s := ev_setLL (i := 1) d2
  have f (g : En → Fl) := ev_frzLL (i := 1) (g := g) (ρ := [some (.d (.list (bs.map boD))), some (plL (tabL Tab.zero bs)), y2, y3, y4, y5]) rfl
  unfold plL at e
  have e' : sForL (.many [2, 3]) lb3_law_places (bs.map boD) [some (.d (.list (bs.map boD))), some (.ll [[frD 0, frD 0], [frD 0, frD 0]]), none, none, none, none] = _ := e
  simp +decide only [m_law_places, den_law_places, zEV9, s, e', f, List.map_cons, List.map_nil]
end DL

set_option Elab.async false
set_option linter.all false
set_option maxRecDepth 100000
set_option maxHeartbeats 4000000
set_option autoImplicit false
/-! squares of a board: lengths of any bits -/
namespace DL
open PySem L2 MB
theorem bl_int5 {c : Int} {k : Nat} (h : Bd c k) : BL (c : Rat) 0 k 1 := by
  have b1 : Bd (1 : Int) 1 := ⟨by decide⟩
  have b0 : Bd (0 : Int) k := ⟨Nat.two_pow_pos _⟩
  have e := bl_of (a := c) (b := 0) (t := 1) (by decide) h b0 b1
  have e1 : (c : Rat) / ((1 : Int) : Rat) = c := by have : ((1 : Int) : Rat) = 1 := rfl
                                                    rw [this]; grind
  rw [e1, zero_div'] at e
  exact e
theorem len_any (m : Int) : m_length [.int m, .int 0, .int 1] = .ok (lnD (m : Rat) 0) := by
  have e := length_ln m 0 1 (by decide) (k := 1) (by decide)
  have e1 : (m : Rat) / ((1 : Int) : Rat) = m := by have : ((1 : Int) : Rat) = 1 := rfl
                                                    rw [this]; grind
  rw [e1, zero_div'] at e
  exact e
theorem bl_div {x y : Rat} {n m k : Nat} (h : BL x y n m) {c : Int} (hc : c ≠ 0) (bc : Bd c k) : BL (x / (c : Rat)) (y / (c : Rat)) n (m + k) := by
  have v := q_val x y
  have hq := qN_ne x y
  have b1 := h.a; have b2 := h.b; have b3 := h.c
  have hn : qN x y * c ≠ 0 := Int.mul_ne_zero (by have := qN_pos x y; omega) hc
  have hcr := ratne hc
  have e := bl_of (a := qA x y) (b := qB x y) (t := qN x y * c) hn b1 b2 (inferInstance : Bd (qN x y * c) (m + k))
  have e1 : ((qA x y : Int) : Rat) / ((qN x y * c : Int) : Rat) = x / c := by rw [Rat.intCast_mul, v.1]; grind
  have e2 : ((qB x y : Int) : Rat) / ((qN x y * c : Int) : Rat) = y / c := by rw [Rat.intCast_mul, v.2]; grind
  rw [e1, e2] at e
  exact e
section
variable (d : Int) (hd : Root d) [bd : Bd d 7] (x y : Rat) {n m k : Nat} (bl : BL x y n m) (hz : ¬ (x = 0 ∧ y = 0)) (w h : Nat) (hw : 0 < w) (hh : 0 < h) (hg : Int.gcd (w : Int) (h : Int) = 1) (bw : Bd (w : Int) k) (bh : Bd (h : Int) k)
  (bl2 : BL (x * ((w : Int) / (h : Int) : Rat)) (y * ((w : Int) / (h : Int) : Rat)) n m) (hn : n ≤ 1800) (hm : m ≤ 1800) (hk : k ≤ 1800)
include hd bd bl hz hw hh hg bw bh bl2 hn hm hk
theorem sides_of_gen : m_sides_of [.int d, .tuple [lnD (x * ((w : Int) / (h : Int) : Rat)) (y * ((w : Int) / (h : Int) : Rat)), lnD x y]] = .ok (.tuple [.int (w : Int), .int (h : Int), lnD (x / ((h : Int) : Rat)) (y / ((h : Int) : Rat))]) := by
  have hne : ((h : Int) : Rat) ≠ 0 := ratne (by omega)
  have hl : Low (w : Int) 0 (h : Int) := ⟨by omega, by rw [Int.gcd_zero_right]; simpa using hg⟩
  have q := q_self hl
  rw [zero_div'] at q
  have bH := bl_int5 bh
  generalize hu : ((w : Int) : Rat) / ((h : Int) : Rat) = u at *
  obtain ⟨p1, hW, _⟩ := parted_bl (x := x * u) (y := y * u) (u := x) (v := y) d hd hz (show m + (2 * n + 8) ≤ 9000 by omega) (by omega) (by omega)
  have e1 : x * u * (x / (x * x - d * y * y)) + d * (y * u) * (-y / (x * x - d * y * y)) = u := by
    have : x * u * (x / (x * x - d * y * y)) + d * (y * u) * (-y / (x * x - d * y * y)) = u * ((x * x - d * y * y) / (x * x - d * y * y)) := by grind
    rw [this]; grind
  have e2 : x * u * (-y / (x * x - d * y * y)) + y * u * (x / (x * x - d * y * y)) = 0 := by grind
  rw [e1, e2] at p1
  have L := len_any (h : Int)
  have hz2 : ¬ (((h : Int) : Rat) = 0 ∧ (0 : Rat) = 0) := fun z => hne z.1
  obtain ⟨p2, hW2, _⟩ := parted_bl (x := x) (y := y) (u := ((h : Int) : Rat)) (v := 0) d hd hz2 (show m + (2 * k + 8) ≤ 9000 by omega) (by omega) (by omega)
  generalize ((h : Int) : Rat) = H at *
  have e3 : x * (H / (H * H - d * 0 * 0)) + d * y * (-0 / (H * H - d * 0 * 0)) = x / H := by grind
  have e4 : x * (-0 / (H * H - d * 0 * 0)) + y * (H / (H * H - d * 0 * 0)) = y / H := by grind
  rw [e3, e4] at p2
  simp +decide only [m_sides_of, den_sides_of, zEV9, p1, q.1, q.2.2, L, p2]
/-- a whole number of units -/
theorem unit_times (c : Int) {k2 : Nat} (bc : Bd c k2) (hk2 : k2 ≤ 100000) : m_timed [.int d, lnD (x / ((h : Int) : Rat)) (y / ((h : Int) : Rat)), lnD (c : Rat) 0] = .ok (lnD (x / ((h : Int) : Rat) * (c : Rat)) (y / ((h : Int) : Rat) * (c : Rat))) := by
  have b1 := bl_div bl (c := (h : Int)) (by omega) bh
  have b2 := bl_int5 bc
  have T := (timed_bl (x / ((h : Int) : Rat)) (y / ((h : Int) : Rat)) (c : Rat) 0 d (show m + k + 1 ≤ 9000 by omega) (by omega) (by omega)).1
  have e1 : x / ((h : Int) : Rat) * (c : Rat) + d * (y / ((h : Int) : Rat)) * 0 = x / ((h : Int) : Rat) * (c : Rat) := by grind
  have e2 : x / ((h : Int) : Rat) * 0 + y / ((h : Int) : Rat) * (c : Rat) = y / ((h : Int) : Rat) * (c : Rat) := by grind
  rw [e1, e2] at T
  exact T
theorem squares_of_gen : ((cutF (w + h) w h).length ≤ 400 → m_squares_of [.int d, .tuple [lnD (x * ((w : Int) / (h : Int) : Rat)) (y * ((w : Int) / (h : Int) : Rat)), lnD x y]] = .ok (.list ((((cutF (w + h) w h).map nI).map (sqOf x y ((h : Int) : Rat))).map dup))) ∧
    (400 < (cutF (w + h) w h).length → m_squares_of [.int d, .tuple [lnD (x * ((w : Int) / (h : Int) : Rat)) (y * ((w : Int) / (h : Int) : Rat)), lnD x y]] = .ex "TooMany") := by
  have S := sides_of_gen d hd x y bl hz w h hw hh hg bw bh bl2 hn hm hk
  have U := fun (c : Nat) (hc : c ∈ cutF (w + h) w h) => unit_times d hd x y bl hz w h hw hh hg bw bh bl2 hn hm hk (c : Int) (k2 := k + 1) ⟨by
    have := cut_mem _ _ _ _ hc
    have h1 := bw.h
    have h2 := bh.h
    rw [Nat.pow_succ]
    omega⟩ (by omega)
  obtain ⟨C1, C2⟩ := cuts_gen w h
  generalize ((w : Int) : Rat) / ((h : Int) : Rat) = u at *
  refine ⟨fun q => ?_, fun q => ?_⟩
  · have C := C1 q
    have hlen : ((cutF (w + h) w h).map nI).length ≤ 1000000 := by rw [List.length_map]; omega
    have L1 : lcL (.one 6) bYes le1_squares_of [some (.d (.int d)), some (.d (.tuple [lnD (x * u) (y * u), lnD x y])), some (.d (.int (w : Int))), some (.d (.int (h : Int))), some (.d (lnD (x / ((h : Int) : Rat)) (y / ((h : Int) : Rat)))), none, none] ((cutF (w + h) w h).map nI) = .ok (((cutF (w + h) w h).map nI).map (sqOf x y ((h : Int) : Rat))) := by
      refine lcL_map _ _ fun v hv => ?_
      obtain ⟨c, hc, rfl⟩ := List.mem_map.mp hv
      refine ⟨_, put_1, ?_⟩
      have L := len_any (c : Int)
      have T := U c hc
      simp +decide only [le1_squares_of, nI, sqOf, zEV9, L, T]
    generalize hX : ((cutF (w + h) w h).map nI).map (sqOf x y ((h : Int) : Rat)) = X at *
    have hlen2 : X.length ≤ 1000000 := by rw [← hX, List.length_map]; exact hlen
    have L2 : lcL (.one 6) bYes le2_squares_of [some (.d (.int d)), some (.d (.tuple [lnD (x * u) (y * u), lnD x y])), some (.d (.int (w : Int))), some (.d (.int (h : Int))), some (.d (lnD (x / ((h : Int) : Rat)) (y / ((h : Int) : Rat)))), some (.d (.list X)), none] X = .ok (X.map dup) := by
      refine lcL_map _ _ fun v hv => ⟨_, put_1, ?_⟩
      simp +decide only [le2_squares_of, dup, zEV9]
    simp +decide only [m_squares_of, den_squares_of, zEV9, S, C, kLcL_ev hlen, L1, kLcL_ev hlen2, L2]
  · have C := C2 q
    simp +decide only [m_squares_of, den_squares_of, zEON9, S, C]
end
end DL

set_option Elab.async false
set_option linter.all false
set_option maxRecDepth 100000
set_option maxHeartbeats 4000000
set_option autoImplicit false
/-! a board cut up into its squares -/
namespace DL
open PySem L2 MB
def upD (ux uy : Rat) : Nat → Nat → Nat → Int → Int → List De
  | 0, _, _, _, _ => []
  | g + 1, w, h, i, f => if w = h then [] else if h < w then .cr false i (ux * (((h : Nat) : Int) : Rat)) (uy * (((h : Nat) : Int) : Rat)) :: upD ux uy g (w - h) h (f + 1) (f + 2) else .cr true i (ux * (((w : Nat) : Int) : Rat)) (uy * (((w : Nat) : Int) : Rat)) :: upD ux uy g w (h - w) (f + 1) (f + 2)
def sqB (ux uy : Rat) (c : Nat) : Bo := ⟨ux * (((c : Nat) : Int) : Rat), uy * (((c : Nat) : Int) : Rat), ux * (((c : Nat) : Int) : Rat), uy * (((c : Nat) : Int) : Rat)⟩
theorem cutF_same {g w : Nat} (hw : 0 < w) (hg : 0 < g) : cutF g w w = [w] := by
  obtain ⟨g', rfl⟩ : ∃ g', g = g' + 1 := ⟨g - 1, by omega⟩
  rw [cutF, if_neg (by omega), if_pos (Nat.le_refl _), Nat.sub_self, cutF_l]
theorem cutF_gt {g w h : Nat} (hh : 0 < h) (c : h < w) : cutF (g + 1) w h = h :: cutF g (w - h) h := by
  rw [cutF, if_neg (by omega), if_pos (by omega)]
theorem cutF_lt {g w h : Nat} (hw : 0 < w) (c : w < h) : cutF (g + 1) w h = w :: cutF g w (h - w) := by
  rw [cutF, if_neg (by omega), if_neg (by omega)]
theorem upD_len (ux uy : Rat) : ∀ (g w h : Nat) (i f : Int), 0 < w → 0 < h → w + h ≤ g → (upD ux uy g w h i f).length + 1 = (cutF g w h).length
  | 0, w, h, i, f, hw, hh, hg => by omega
  | g + 1, w, h, i, f, hw, hh, hg => by
    by_cases c : w = h
    · subst c
      rw [cutF_same hw (by omega), upD, if_pos rfl]; rfl
    · by_cases c2 : h < w
      · rw [cutF_gt hh c2, upD, if_neg c, if_pos c2, List.length_cons, List.length_cons, upD_len ux uy g (w - h) h (f + 1) (f + 2) (by omega) hh (by omega)]
      · rw [cutF_lt hw (by omega), upD, if_neg c, if_neg c2, List.length_cons, List.length_cons, upD_len ux uy g w (h - w) (f + 1) (f + 2) hw (by omega) (by omega)]
end DL

set_option Elab.async false
set_option linter.all false
set_option maxRecDepth 100000
set_option maxHeartbeats 4000000
set_option autoImplicit false
/-! a row of deeds, each with what it asks: the yard and the laws' own walks follow it -/
namespace DL
open PySem L2 MB
inductive WR (d : Int) : Lst → Int → List De → Lst → Int → Prop
  | nil (L : Lst) (u : Int) : WR d L u [] L u
  | cons {L L2 : Lst} {u u2 : Int} {δ : De} {bs : List Bo} {δs : List De} {n m : Nat} (hf : δ.fit d bs) (hA : δ.at_ L bs) (hb : ∀ b ∈ bs, BW b n m) (hδ : δ.bits n m) (hm : m ≤ 1900) (hn : n ≤ 4400) (ha : Asc L u) (hu : 0 ≤ u) (hl : L.length ≤ 200000) (r : WR d (nextL L u δ bs) (u + (δ.new bs).length) δs L2 u2) : WR d L u (δ :: δs) L2 u2
theorem WR.append {d : Int} {L L1 L2 : Lst} {u u1 u2 : Int} {xs ys : List De} (h : WR d L u xs L1 u1) (g : WR d L1 u1 ys L2 u2) : WR d L u (xs ++ ys) L2 u2 := by
  induction h with
  | nil L u => exact g
  | cons hf hA hb hδ hm hn ha hu hl r ih => exact .cons hf hA hb hδ hm hn ha hu hl (ih g)
/-- a drawn plan is one -/
theorem Fw.wr {d : Int} {n m : Nat} (hn : n ≤ 4400) (hm : m ≤ 1900) {b0 : List Bo} {rs : List Rec} {L : Lst} {u : Int} (h : Fw d n m b0 rs L u) : WR d (numB 0 b0) b0.length (rs.reverse.map fun r => r.δ) L u := by
  induction h with
  | nil h => exact .nil _ _
  | @snoc rs L u δ bs h hA hf hδ h2 ih =>
    have I := h.st
    have hl := I.len
    rw [List.reverse_cons, List.map_append]
    exact ih.append (.cons hf hA (fun b hb => by
      obtain ⟨i, hi⟩ := at_boards I.asc hA b hb
      exact I.bw _ hi) hδ hm hn I.asc I.u0 (by omega) (.nil _ _))
end DL

set_option Elab.async false
set_option linter.all false
set_option maxRecDepth 100000
set_option maxHeartbeats 4000000
set_option autoImplicit false
/-! a board cut up in a yard -/
namespace DL
open PySem L2 MB
theorem delB_app (a b : Lst) (i : Int) : delB (a ++ b) i = delB a i ++ delB b i := by unfold delB; rw [List.filter_append]
theorem delB_none {L : Lst} {i : Int} (h : ∀ p ∈ L, p.1 ≠ i) : delB L i = L := by
  unfold delB
  exact List.filter_eq_self.mpr fun p hp => by simp [h p hp]
theorem up_run (d : Int) (hd : Root d) [Bd d 7] (ux uy : Rat) (pu : PosQ d ux uy) {n m K : Nat} (hn : n ≤ 4400) (hm : m ≤ 1900) (bl : ∀ c : Nat, c ≤ K → BL (ux * (((c : Nat) : Int) : Rat)) (uy * (((c : Nat) : Int) : Rat)) n m) : ∀ (g w h : Nat) (i f : Int) (L : Lst) (gl : List PD), 0 < w → 0 < h → w + h ≤ g → w ≤ K → h ≤ K → Asc L f → 0 ≤ f → getB L i = some ⟨ux * (((w : Nat) : Int) : Rat), uy * (((w : Nat) : Int) : Rat), ux * (((h : Nat) : Int) : Rat), uy * (((h : Nat) : Int) : Rat)⟩ → L.length + (cutF g w h).length ≤ 100000 → gl.length + (cutF g w h).length ≤ 100000 →
    ∃ L' : Lst, (Runs d ⟨false, L, f, gl⟩ ((upD ux uy g w h i f).map deD) ⟨false, L', f + 2 * (upD ux uy g w h i f).length, gl ++ (upD ux uy g w h i f).map deD⟩ ∧ WR d L f (upD ux uy g w h i f) L' (f + 2 * (upD ux uy g w h i f).length)) ∧ Asc L' (f + 2 * (upD ux uy g w h i f).length) ∧ (w = h → L' = L) ∧ (w ≠ h → ∃ S : Lst, L' = delB L i ++ S ∧ bosL S = (cutF g w h).map (sqB ux uy) ∧ ∀ p ∈ S, f ≤ p.1) ∧ L'.length + 1 ≤ L.length + (cutF g w h).length
  | 0, w, h, i, f, L, gl, hw, hh, hg, _, _, _, _, _, _, _ => by omega
  | g + 1, w, h, i, f, L, gl, hw, hh, hg, kw, kh, ha, hf, hi, l1, l2 => by
    by_cases c : w = h
    · subst c
      have e : upD ux uy (g + 1) w w i f = [] := by rw [upD, if_pos rfl]
      rw [e]
      refine ⟨L, ?_, ?_, fun _ => rfl, fun q => absurd rfl q, ?_⟩
      · have z : f + 2 * (([] : List De).length : Int) = f := by show f + 2 * ((0 : Nat) : Int) = f; omega
        rw [z, List.map_nil, List.append_nil]
        exact ⟨.nil _, .nil _ _⟩
      · have z : f + 2 * (([] : List De).length : Int) = f := by show f + 2 * ((0 : Nat) : Int) = f; omega
        rw [z]; exact ha
      · rw [cutF_same hw (by omega)]; exact Nat.le_refl _
    · have go : ∀ (δ : De) (c0 w' h' : Nat) (rest : Bo), upD ux uy (g + 1) w h i f = δ :: upD ux uy g w' h' (f + 1) (f + 2) → cutF (g + 1) w h = c0 :: cutF g w' h' → 0 < w' → 0 < h' → w' + h' ≤ g → w' ≤ K → h' ≤ K → δ.names = [i] →
        δ.new [⟨ux * (((w : Nat) : Int) : Rat), uy * (((w : Nat) : Int) : Rat), ux * (((h : Nat) : Int) : Rat), uy * (((h : Nat) : Int) : Rat)⟩] = [sqB ux uy c0, ⟨ux * (((w' : Nat) : Int) : Rat), uy * (((w' : Nat) : Int) : Rat), ux * (((h' : Nat) : Int) : Rat), uy * (((h' : Nat) : Int) : Rat)⟩] →
        δ.fit d [⟨ux * (((w : Nat) : Int) : Rat), uy * (((w : Nat) : Int) : Rat), ux * (((h : Nat) : Int) : Rat), uy * (((h : Nat) : Int) : Rat)⟩] → δ.bits n m → (∀ j, δ ≠ .tu j) → (w' = h' → sqB ux uy w' = ⟨ux * (((w' : Nat) : Int) : Rat), uy * (((w' : Nat) : Int) : Rat), ux * (((h' : Nat) : Int) : Rat), uy * (((h' : Nat) : Int) : Rat)⟩) →
        ∃ L' : Lst, (Runs d ⟨false, L, f, gl⟩ ((upD ux uy (g + 1) w h i f).map deD) ⟨false, L', f + 2 * (upD ux uy (g + 1) w h i f).length, gl ++ (upD ux uy (g + 1) w h i f).map deD⟩ ∧ WR d L f (upD ux uy (g + 1) w h i f) L' (f + 2 * (upD ux uy (g + 1) w h i f).length)) ∧ Asc L' (f + 2 * (upD ux uy (g + 1) w h i f).length) ∧ (w = h → L' = L) ∧ (w ≠ h → ∃ S : Lst, L' = delB L i ++ S ∧ bosL S = (cutF (g + 1) w h).map (sqB ux uy) ∧ ∀ p ∈ S, f ≤ p.1) ∧ L'.length + 1 ≤ L.length + (cutF (g + 1) w h).length := fun δ c0 w' h' rest eu ec hw' hh' hg' kw' kh' hn' hnew hfit hbits htu hsame => by
          obtain ⟨b, hb⟩ : ∃ b : Bo, b = ⟨ux * (((w : Nat) : Int) : Rat), uy * (((w : Nat) : Int) : Rat), ux * (((h : Nat) : Int) : Rat), uy * (((h : Nat) : Int) : Rat)⟩ := ⟨_, rfl⟩
          obtain ⟨r, hr⟩ : ∃ r : Bo, r = ⟨ux * (((w' : Nat) : Int) : Rat), uy * (((w' : Nat) : Int) : Rat), ux * (((h' : Nat) : Int) : Rat), uy * (((h' : Nat) : Int) : Rat)⟩ := ⟨_, rfl⟩
          rw [← hb] at hnew hfit hi
          rw [← hr] at hnew
          rw [ec, List.length_cons] at l1 l2
          have hA : δ.at_ L [b] := by
            unfold De.at_
            rw [hn']
            exact hi
          have Y := Yard_do_eq d hd ⟨false, L, f, gl⟩ δ [b] hfit hA (fun j e => absurd e (htu j)) (fun x hx => by
            cases List.mem_singleton.mp hx
            rw [hb]
            exact ⟨bl w kw, bl h kh⟩) hbits hm hn ha hf (show L.length < 16000000 by omega) (show gl.length < 16777216 by omega)
          have eL : (Ya.do_ ⟨false, L, f, gl⟩ δ [b]) = ⟨false, delB L i ++ numB f [sqB ux uy c0, r], f + 2, gl ++ [deD δ]⟩ := by
            unfold Ya.do_
            dsimp only
            rw [hnew, hn']
            rfl
          rw [eL] at Y
          have a1 : Asc (delB L i ++ numB f [sqB ux uy c0, r]) (f + 2) := (ha.del i).put hf [sqB ux uy c0, r]
          have hm1 : ((f + 1, r) : Int × Bo) ∈ delB L i ++ numB f [sqB ux uy c0, r] := List.mem_append_right _ (.tail _ (.head _))
          have g1 : getB (delB L i ++ numB f [sqB ux uy c0, r]) (f + 1) = some ⟨ux * (((w' : Nat) : Int) : Rat), uy * (((w' : Nat) : Int) : Rat), ux * (((h' : Nat) : Int) : Rat), uy * (((h' : Nat) : Int) : Rat)⟩ := by
            have := getB_of a1 hm1
            rw [this, ← hr]
          obtain ⟨_, _, _, f4, _⟩ := at_facts ha hA
          rw [hn'] at f4
          have dl : (delB L i).length + 1 = L.length := f4
          obtain ⟨L', R, aL, s1, s2, ll⟩ := up_run d hd ux uy pu hn hm bl g w' h' (f + 1) (f + 2) (delB L i ++ numB f [sqB ux uy c0, r]) (gl ++ [deD δ]) hw' hh' hg' kw' kh' a1 (by omega) g1 (by
            rw [List.length_append]
            show (delB L i).length + 2 + _ ≤ _
            omega) (by rw [List.length_append, List.length_singleton]; omega)
          have eu2 : f + 2 + 2 * ((upD ux uy g w' h' (f + 1) (f + 2)).length : Int) = f + 2 * ((upD ux uy (g + 1) w h i f).length : Int) := by
            rw [eu, List.length_cons]
            omega
          rw [eu2] at R aL
          refine ⟨L', ?_, aL, fun q => absurd q c, fun _ => ?_, ?_⟩
          · rw [eu, List.map_cons]
            rw [eu] at R
            obtain ⟨R, V⟩ := R
            rw [List.append_assoc] at R
            refine ⟨.cons Y R, WR.cons (n := n) (m := m) hfit hA (fun x hx => by
              cases List.mem_singleton.mp hx
              rw [hb]
              exact ⟨bl w kw, bl h kh⟩) hbits hm hn ha hf (by omega) ?_⟩
            unfold nextL
            rw [hnew, hn']
            exact V
          · by_cases q : w' = h'
            · refine ⟨numB f [sqB ux uy c0, r], s1 q, ?_, fun p hp => ?_⟩
              · rw [ec]
                subst q
                rw [cutF_same hw' (by omega)]
                show [sqB ux uy c0, r] = [sqB ux uy c0, sqB ux uy w']
                rw [hr, hsame rfl]
              · exact (numB_mem _ _ p hp).1
            · obtain ⟨S, e1, e2, e3⟩ := s2 q
              refine ⟨(f, sqB ux uy c0) :: S, ?_, ?_, fun p hp => ?_⟩
              · rw [e1, delB_app, delB_none (L := delB L i) (i := f + 1) (fun p hp => by
                  have := ((ha.del i).2 p hp).2
                  omega), List.append_assoc]
                congr 1
                have q1 : numB f [sqB ux uy c0, r] = [(f, sqB ux uy c0), (f + 1, r)] := rfl
                rw [q1]
                have q2 : delB [(f, sqB ux uy c0), (f + 1, r)] (f + 1) = [(f, sqB ux uy c0)] := by
                  unfold delB
                  rw [List.filter_cons_of_pos (by simp; omega), List.filter_cons_of_neg (by simp), List.filter_nil]
                rw [q2]
                rfl
              · rw [ec, List.map_cons, ← e2]
                rfl
              · rcases List.mem_cons.mp hp with rfl | hp
                · exact Int.le_refl _
                · have := e3 p hp
                  omega
          · rw [ec, List.length_cons]
            rw [List.length_append] at ll
            have : (numB f [sqB ux uy c0, r]).length = 2 := rfl
            omega
      have cast : ∀ a b : Nat, b ≤ a → (((a - b : Nat) : Int) : Rat) = ((a : Int) : Rat) - ((b : Int) : Rat) := fun a b h => by
        have : ((a - b : Nat) : Int) = (a : Int) - (b : Int) := by omega
        rw [this, Rat.intCast_sub]
      have pq : ∀ a : Nat, 0 < a → PosQ d (ux * (((a : Nat) : Int) : Rat)) (uy * (((a : Nat) : Int) : Rat)) := fun a ha0 => (posQ_scale hd (Rat.intCast_pos.mpr (by omega))).mpr pu
      have ms : ∀ (u : Rat) (a b : Nat), b ≤ a → u * ((a : Int) : Rat) - u * ((b : Int) : Rat) = u * (((a - b : Nat) : Int) : Rat) := fun u a b h => by rw [cast a b h]; grind
      by_cases c2 : h < w
      · refine go (.cr false i (ux * (((h : Nat) : Int) : Rat)) (uy * (((h : Nat) : Int) : Rat))) h (w - h) h ⟨0, 0, 0, 0⟩ (by rw [upD, if_neg c, if_pos c2]) (cutF_gt hh c2) (by omega) hh (by omega) (by omega) kh rfl ?_ ⟨pq h hh, ?_⟩ (bl h kh) (fun j q => nomatch q) (fun q => by unfold sqB; rw [q])
        · show cutB false _ _ _ = _
          unfold cutB sqB
          rw [if_neg (by decide), ms ux w h (by omega), ms uy w h (by omega)]
        · rw [if_neg (by decide), ms ux w h (by omega), ms uy w h (by omega)]
          exact pq (w - h) (by omega)
      · refine go (.cr true i (ux * (((w : Nat) : Int) : Rat)) (uy * (((w : Nat) : Int) : Rat))) w w (h - w) ⟨0, 0, 0, 0⟩ (by rw [upD, if_neg c, if_neg c2]) (cutF_lt hw (by omega)) hw (by omega) (by omega) kw (by omega) rfl ?_ ⟨pq w hw, ?_⟩ (bl w kw) (fun j q => nomatch q) (fun q => by unfold sqB; rw [← q])
        · show cutB true _ _ _ = _
          unfold cutB sqB
          rw [if_pos rfl, ms ux h w (by omega), ms uy h w (by omega)]
        · rw [if_pos rfl, ms ux h w (by omega), ms uy h w (by omega)]
          exact pq (h - w) (by omega)
end DL

set_option Elab.async false
set_option linter.all false
set_option maxRecDepth 100000
set_option maxHeartbeats 1000000
set_option autoImplicit false
namespace DL
open PySem L2 MB
/-! the rank -/
noncomputable def rkN (t : Tab) : Int := if t.a * t.d = t.b * t.c then 1 else 2
theorem rat_nd {p q : Rat} : (p.num = q.num ∧ (p.den : Int) = (q.den : Int)) ↔ p = q := by
  constructor
  · rintro ⟨h1, h2⟩
    exact Rat.ext h1 (by exact_mod_cast h2)
  · rintro rfl; exact ⟨rfl, rfl⟩
end DL

set_option Elab.async false
set_option linter.all false
set_option maxRecDepth 100000
set_option maxHeartbeats 4000000
set_option autoImplicit false
/-! even tables: the measure, the boards -/
namespace DL
open PySem L2 MB
theorem gEq_frq (x y : Rat) : gEq (frD x) (frD y) = .ok (.bool (decide (x = y))) := by
  show gEq (.tuple [.int _, .int _]) (.tuple [.int _, .int _]) = _
  rw [gEq_2]
  congr 2
  exact decide_eq_decide.mpr rat_nd
def lefT (t : Tab) : Rat := t.d - t.b * (t.b / t.a)
section
variable (t : Tab) {n m : Nat} [ba : BR t.a n m] [bb : BR t.b n m] [bd' : BR t.d n m] (hn : n ≤ 440) (hm : m ≤ 440)
include ba bb bd' hn hm
end
end DL

set_option Elab.async false
set_option linter.all false
set_option maxRecDepth 100000
set_option maxHeartbeats 4000000
set_option autoImplicit false
/-! turned heaps: floors, lengths beside, heights -/
namespace DL
open PySem L2 MB
/-! ### a length beside -/
end DL

set_option Elab.async false
set_option linter.all false
set_option maxRecDepth 100000
set_option maxHeartbeats 1000000
set_option autoImplicit false
/-! lengths as texts -/
namespace DL
open PySem L2 MB
open NumText (AllDigits digitsVal)
/-! ### figures -/
theorem Tn_dig : ∀ n : Nat, AllDigits (Tn n) := fun n => by
  induction n using Nat.strongRecOn with
  | _ n ih =>
    by_cases h : n < 10
    · rw [Tn_small h]
      intro c hc
      cases List.mem_singleton.mp hc
      omega
    · rw [Tn_big (by omega)]
      intro c hc
      rcases List.mem_append.mp hc with hc | hc
      · exact ih (n / 10) (by omega) c hc
      · cases List.mem_singleton.mp hc
        omega
theorem Tn_ne (n : Nat) : Tn n ≠ [] := by
  by_cases h : n < 10
  · rw [Tn_small h]; simp
  · rw [Tn_big (by omega)]; simp
theorem dv_app (a b : List Nat) (c : Nat) : digitsVal (a ++ [c]) = digitsVal a * 10 + (c - 48) := by
  unfold digitsVal
  rw [List.foldl_append]
  rfl
theorem Tn_val (n : Nat) : digitsVal (Tn n) = n := by
  induction n using Nat.strongRecOn with
  | _ n ih =>
    by_cases h : n < 10
    · rw [Tn_small h]
      show 0 * 10 + (48 + n - 48) = n
      omega
    · rw [Tn_big (by omega), dv_app _ [], ih (n / 10) (by omega)]
      omega
theorem Tn_inj {a b : Nat} (h : Tn a = Tn b) : a = b := by rw [← Tn_val a, h, Tn_val]
/-- no nought ahead -/
theorem Tn_head (n : Nat) : n = 0 ∨ ∃ c r, Tn n = c :: r ∧ 49 ≤ c ∧ c ≤ 57 := by
  induction n using Nat.strongRecOn with
  | _ n ih =>
    by_cases h0 : n = 0
    · exact .inl h0
    · right
      by_cases h : n < 10
      · exact ⟨48 + n, [], Tn_small h, by omega, by omega⟩
      · rcases ih (n / 10) (by omega) with e | ⟨c, r, e, h1, h2⟩
        · omega
        · exact ⟨c, r ++ [48 + n % 10], by rw [Tn_big (by omega), e]; rfl, h1, h2⟩
theorem Tn_zero : Tn 0 = [48] := Tn_small (by decide)
theorem Tn_one : Tn 1 = [49] := Tn_small (by decide)
/-! ### fractions -/
def Frt (x : Rat) : List Nat := Tf x.num (x.den : Int)
/-- a fraction of few figures -/
structure SF (x : Rat) : Prop where
  n : x.num.natAbs < 10 ^ 500
  d : x.den < 10 ^ 500
theorem p500 : (10 : Nat) ^ 500 ≤ 2 ^ 1700 := by decide +kernel
theorem p33 : (10 : Nat) ^ 33 ≤ 10 ^ 500 := Nat.pow_le_pow_right (by decide) (by decide)
theorem SF.br {x : Rat} (h : SF x) : BR x 1700 1700 := ⟨Nat.lt_of_lt_of_le h.n p500, Nat.lt_of_lt_of_le h.d p500⟩
theorem Ti_len5 {i : Int} (h : i.natAbs < 10 ^ 500) : (Ti i).length ≤ 501 := by
  unfold Ti
  rw [List.length_append]
  have := Tn_len 499 i.natAbs h
  split <;> simp <;> omega
theorem log5 {i : Int} (h : i.natAbs < 10 ^ 500) : i.natAbs.log2 < 1920 := log_lt (Nat.lt_of_lt_of_le h (Nat.le_trans p500 (Nat.pow_le_pow_right (by decide) (by decide)))) (by decide)
theorem shown_fraction_eq5 (p q : Int) (hp : p.natAbs < 10 ^ 500) (hq : q.natAbs < 10 ^ 500) : m_shown_fraction [.tuple [.int p, .int q]] = .ok (.str (St (Tf p q))) := by
  have e1 := gStr_i (log5 hp)
  have e2 := gStr_i (log5 hq)
  have l1 := Ti_len5 hp
  have l2 := Ti_len5 hq
  unfold Tf
  by_cases h : q = 1
  · subst h
    rw [if_pos rfl]
    simp +decide only [m_shown_fraction, den_shown_fraction, zEV9, e1]
  · rw [if_neg h]
    have a1 := gAdd_st (a := Ti p) (b := [47]) (by simp; omega)
    have a2 := gAdd_st (a := Ti p ++ [47]) (b := Ti q) (by simp; omega)
    simp +decide only [m_shown_fraction, den_shown_fraction, zEV9, e1, e2, h, st_slash, a1, a2]
theorem SF.neg {x : Rat} (h : SF x) : SF (-x) := ⟨by rw [Rat.neg_num, Int.natAbs_neg]; exact h.n, by rw [Rat.neg_den]; exact h.d⟩
theorem sf_int {z : Int} (h : z.natAbs < 10 ^ 33) : SF (z : Rat) := ⟨Nat.lt_of_lt_of_le h p33, Nat.lt_of_lt_of_le (show 1 < 10 ^ 33 by decide) p33⟩
theorem Frt_len {x : Rat} (h : SF x) : (Frt x).length ≤ 1010 := by
  have l1 := Ti_len5 h.n
  have l2 := Ti_len5 (i := (x.den : Int)) (by rw [Int.natAbs_natCast]; exact h.d)
  unfold Frt Tf
  split
  · omega
  · rw [List.length_append, List.length_append]; show _ + 1 + _ ≤ 1010; omega
theorem shown_fraction_fr {x : Rat} (h : SF x) : m_shown_fraction [frD x] = .ok (.str (St (Frt x))) := shown_fraction_eq5 _ _ h.n (by rw [Int.natAbs_natCast]; exact h.d)
theorem law_shown_fraction_eq (p q : Int) (hp : p.natAbs < 10 ^ 500) (hq : q.natAbs < 10 ^ 500) : m_law_shown_fraction [.tuple [.int p, .int q]] = .ok (.str (St (Tf p q))) := by
  have e1 := gStr_i (log5 hp)
  have e2 := gStr_i (log5 hq)
  have l1 := Ti_len5 hp
  have l2 := Ti_len5 hq
  unfold Tf
  by_cases h : q = 1
  · subst h
    rw [if_pos rfl]
    simp +decide only [m_law_shown_fraction, den_law_shown_fraction, zEV9, e1]
  · rw [if_neg h]
    have a1 := gAdd_st (a := Ti p) (b := [47]) (by simp; omega)
    have a2 := gAdd_st (a := Ti p ++ [47]) (b := Ti q) (by simp; omega)
    simp +decide only [m_law_shown_fraction, den_law_shown_fraction, zEV9, e1, e2, h, st_slash, a1, a2]
/-- ahead of the root -/
def Aht (y : Rat) : List Nat := if y = 1 then [] else if y = -1 then [45] else Frt y
/-- a length's text -/
def Tlt (d : Int) (x y : Rat) : List Nat := if y = 0 then Frt x else if x = 0 then Aht y ++ [114] ++ Ti d else if 0 < y then Frt x ++ [43] ++ (Aht y ++ [114] ++ Ti d) else Frt x ++ (Aht y ++ [114] ++ Ti d)
theorem st_r : ("r" : Str) = St [114] := by decide
theorem st_plus : ("+" : Str) = St [43] := by decide
theorem Aht_len {y : Rat} (h : SF y) : (Aht y).length ≤ 1010 := by
  unfold Aht
  split
  · exact Nat.zero_le _
  · split
    · show 1 ≤ 1010; decide
    · exact Frt_len h
theorem shown_ahead_fr {y : Rat} (h : SF y) : m_shown_ahead [frD y] = .ok (.str (St (Aht y))) := by
  have g1 := gEq_frq y 1
  have g2 := gEq_frq y (-1)
  have e1 : frD 1 = .tuple [.int 1, .int 1] := rfl
  have e2 : frD (-1) = .tuple [.int (-1), .int 1] := rfl
  have es := shown_fraction_fr h
  rw [e1] at g1
  rw [e2] at g2
  have ng : gNeg (.int 1) = .ok (.int (-1)) := rfl
  unfold Aht
  generalize frD y = F at *
  by_cases h1 : y = 1
  · rw [if_pos h1]
    rw [decide_eq_true h1] at g1
    simp +decide only [m_shown_ahead, den_shown_ahead, zEV9, g1, st_nil]
  · rw [if_neg h1]
    rw [decide_eq_false h1] at g1
    by_cases h2 : y = -1
    · rw [if_pos h2]
      rw [decide_eq_true h2] at g2
      simp +decide only [m_shown_ahead, den_shown_ahead, zEV9, g1, ng, g2, st_minus]
    · rw [if_neg h2]
      rw [decide_eq_false h2] at g2
      simp +decide only [m_shown_ahead, den_shown_ahead, zEV9, g1, ng, g2, es]
theorem Ti_d {d : Int} (h : 0 ≤ d ∧ d ≤ 100) : gStr [.int d] = .ok (.str (St (Ti d))) ∧ (Ti d).length ≤ 3 := by
  have e : d.natAbs < 10 ^ 3 := by omega
  refine ⟨gStr_i (log33 (Nat.lt_of_lt_of_le e (by decide))), ?_⟩
  unfold Ti
  rw [if_neg (by omega)]
  exact Tn_len 2 _ (by omega)
theorem num_pos_tx {q : Rat} : 0 < q.num ↔ 0 < q := by
  have h := Rat.num_nonneg (q := -q)
  rw [Rat.neg_num] at h
  constructor
  · intro w
    have : ¬ 0 ≤ -q := fun e => by have := h.mpr e; omega
    grind
  · intro w
    have : ¬ 0 ≤ -q.num := fun e => by have := h.mp e; grind
    omega
theorem shown_length_ok (d : Int) (hd : 0 ≤ d ∧ d ≤ 100) {x y : Rat} (hx : SF x) (hy : SF y) : m_shown_length [.int d, lnD x y] = .ok (.str (St (Tlt d x y))) := by
  have b1 := hx.br
  have b2 := hy.br
  have ep := parts_ln x y (by decide)
  obtain ⟨ed, ld⟩ := Ti_d hd
  have e1 := shown_fraction_fr hx
  have e2 := shown_ahead_fr hy
  have l1 := Frt_len hx
  have l2 := Aht_len hy
  have gy := gEq_frq y 0
  have gx := gEq_frq x 0
  have a1 := gAdd_st (a := Aht y) (b := [114]) (by show _ + 1 ≤ _; omega)
  have a2 := gAdd_st (a := Aht y ++ [114]) (b := Ti d) (by rw [List.length_append]; show _ + 1 + _ ≤ _; omega)
  have a3 := gAdd_st (a := Frt x) (b := [43]) (by show _ + 1 ≤ _; omega)
  have a4 := gAdd_st (a := Frt x ++ [43]) (b := Aht y ++ [114] ++ Ti d) (by simp only [List.length_append, List.length_cons, List.length_nil]; omega)
  have a5 := gAdd_st (a := Frt x) (b := Aht y ++ [114] ++ Ti d) (by simp only [List.length_append, List.length_cons, List.length_nil]; omega)
  have in0 : gIx (frD y) (.int 0) = .ok (.int y.num) := ix_t0
  have bn : Bd y.num 1700 := inferInstance
  unfold Tlt
  have hn : 0 < y.num ↔ 0 < y := num_pos_tx
  obtain ⟨Z, hZ⟩ : ∃ Z, c_NOUGHT = Z := ⟨_, rfl⟩
  rw [show frD 0 = Z from hZ] at gx gy
  generalize y.num = N at *
  generalize Aht y = AY at *
  generalize Frt x = FX at *
  generalize lnD x y = L at *
  generalize frD x = X at *
  generalize frD y = Y at *
  by_cases hy0 : y = 0
  · rw [if_pos hy0]
    rw [decide_eq_true hy0] at gy
    simp +decide only [m_shown_length, den_shown_length, zEV9, hZ, ep, gy, e1]
  · rw [if_neg hy0]
    rw [decide_eq_false hy0] at gy
    by_cases hx0 : x = 0
    · rw [if_pos hx0]
      rw [decide_eq_true hx0] at gx
      simp +decide only [m_shown_length, den_shown_length, zEV9, hZ, ep, gy, e2, st_r, a1, ed, a2, gx]
    · rw [if_neg hx0]
      rw [decide_eq_false hx0] at gx
      by_cases hp : 0 < y
      · rw [if_pos hp]
        have hN : 0 < N := by rw [hn]; exact hp
        simp +decide only [m_shown_length, den_shown_length, zEV9, hZ, ep, gy, e2, st_r, a1, ed, a2, gx, in0, hN, e1, st_plus, a3, a4]
      · rw [if_neg hp]
        have hN : ¬ 0 < N := by rw [hn]; exact hp
        simp +decide only [m_shown_length, den_shown_length, zEV9, hZ, ep, gy, e2, st_r, a1, ed, a2, gx, in0, hN, e1, a5]
end DL

set_option Elab.async false
set_option linter.all false
set_option maxRecDepth 100000
set_option maxHeartbeats 1000000
set_option autoImplicit false
/-! the law's own texts of lengths -/
namespace DL
open PySem L2 MB
open NumText (AllDigits digitsVal)
theorem rep_plus : gm_replace "+" "" (.str (St [43])) = .ok (.str (St [])) := by
  unfold gm_replace
  have e : Txt.replace (St [43]) "+" "" = St [] := by decide +kernel
  dsimp only
  rw [if_pos (by decide +kernel), e]
theorem rep_minus : gm_replace "+" "" (.str (St [45])) = .ok (.str (St [45])) := by
  unfold gm_replace
  have e : Txt.replace (St [45]) "+" "" = St [45] := by decide +kernel
  dsimp only
  rw [if_pos (by decide +kernel), e]
theorem st_one : ("1" : Str) = St [49] := by decide
theorem st_inj {a b : List Nat} (h : St a = St b) : a = b := by
  have : a.toArray = b.toArray := congrArg Str.cps h
  simpa using this
theorem gEq_st (a b : List Nat) : gEq (.str (St a)) (.str (St b)) = .ok (.bool (decide (a = b))) := by
  show R.ok (PyData.bool (decide (St a = St b))) = _
  by_cases h : a = b
  · subst h; simp
  · rw [decide_eq_false h, decide_eq_false (fun e => h (st_inj e))]
theorem gNe_st (a b : List Nat) : gNe (.str (St a)) (.str (St b)) = .ok (.bool (!decide (a = b))) := by
  show R.ok (PyData.bool (!decide (St a = St b))) = _
  by_cases h : a = b
  · subst h; simp
  · rw [decide_eq_false h, decide_eq_false (fun e => h (st_inj e))]
/-- without the sign -/
def Frn (y : Rat) : List Nat := Tf (y.num.natAbs : Int) (y.den : Int)
theorem Ti_nat (n : Nat) : Ti (n : Int) = Tn n := by
  unfold Ti
  rw [if_neg (by omega), Int.natAbs_natCast]; rfl
theorem Ti_pos {i : Int} (h : 0 ≤ i) : Ti i = Tn i.natAbs := by
  unfold Ti
  rw [if_neg (by omega)]; rfl
theorem Ti_neg {i : Int} (h : i < 0) : Ti i = 45 :: Tn i.natAbs := by
  unfold Ti
  rw [if_pos h]; rfl
theorem Frn_pos {y : Rat} (h : 0 ≤ y) : Frn y = Frt y := by
  have h0 : 0 ≤ y.num := Rat.num_nonneg.mpr h
  unfold Frn Frt Tf
  rw [Ti_pos h0, Ti_nat]
theorem Frn_neg {y : Rat} (h : y < 0) : Frt y = 45 :: Frn y := by
  have h0 : y.num < 0 := by
    have : ¬ 0 ≤ y.num := fun w => by have := Rat.num_nonneg.mp w; grind
    omega
  unfold Frn Frt Tf
  rw [Ti_neg h0, Ti_nat]
  split <;> rfl
theorem Frn_one {y : Rat} : Frn y = [49] ↔ y = 1 ∨ y = -1 := by
  have key : ∀ (p : Nat) (q : Nat), Tf (p : Int) (q : Int) = [49] ↔ p = 1 ∧ q = 1 := fun p q => by
    unfold Tf
    constructor
    · intro h
      by_cases c : (q : Int) = 1
      · rw [if_pos c, Ti_nat, ← Tn_one] at h
        exact ⟨Tn_inj h, by omega⟩
      · rw [if_neg c] at h
        have := congrArg List.length h
        have l1 : 0 < (Ti (p : Int)).length := by rw [Ti_nat]; exact List.length_pos_iff.mpr (Tn_ne _)
        have l2 : 0 < (Ti (q : Int)).length := by rw [Ti_nat]; exact List.length_pos_iff.mpr (Tn_ne _)
        simp only [List.length_append, List.length_cons, List.length_nil] at this
        omega
    · rintro ⟨rfl, rfl⟩
      rw [if_pos (show ((1 : Nat) : Int) = 1 from rfl), Ti_nat]
      exact Tn_one
  unfold Frn
  rw [key]
  constructor
  · rintro ⟨h1, h2⟩
    have e : y.num = 1 ∨ y.num = -1 := by omega
    rcases e with e | e
    · left
      have := Rat.mkRat_self y
      rw [← this, e, h2]; rfl
    · right
      have := Rat.mkRat_self y
      rw [← this, e, h2]; rfl
  · rintro (rfl | rfl)
    · exact ⟨rfl, rfl⟩
    · exact ⟨rfl, rfl⟩
/-- ahead of the root, without the sign -/
def Ahn (y : Rat) : List Nat := if Frn y = [49] then [] else Frn y
theorem Aht_pos {y : Rat} (h : 0 < y) : Aht y = Ahn y := by
  have h1 : ¬ y = -1 := fun e => by rw [e] at h; exact absurd h (by decide)
  unfold Aht Ahn
  rw [Frn_pos (by grind)]
  have := Frn_one (y := y)
  rw [Frn_pos (by grind)] at this
  by_cases c : y = 1
  · rw [if_pos c, if_pos (this.mpr (.inl c))]
  · rw [if_neg c, if_neg h1, if_neg (fun e => by rcases this.mp e with e | e <;> contradiction)]
theorem Aht_neg {y : Rat} (h : y < 0) : Aht y = 45 :: Ahn y := by
  have h1 : ¬ y = 1 := fun e => by rw [e] at h; exact absurd h (by decide)
  unfold Aht Ahn
  rw [if_neg h1]
  by_cases c : y = -1
  · rw [if_pos c, if_pos (Frn_one.mpr (.inr c))]
  · rw [if_neg c, if_neg (fun e => by rcases Frn_one.mp e with e | e <;> contradiction), Frn_neg h]
theorem Frn_len {x : Rat} (h : SF x) : (Frn x).length ≤ 1010 := by
  have l1 := Ti_len5 (i := (x.num.natAbs : Int)) (by rw [Int.natAbs_natCast]; exact h.n)
  have l2 := Ti_len5 (i := (x.den : Int)) (by rw [Int.natAbs_natCast]; exact h.d)
  unfold Frn Tf
  split
  · omega
  · rw [List.length_append, List.length_append]; show _ + 1 + _ ≤ 1010; omega
theorem shown_den (a b c : PD) {d : PD} (q : den_law_shown [some (.d a), some (.d b), some (.d c), none, none] = .rt d) : m_law_shown [a, b, c] = .ok d := by
  unfold m_law_shown
  rw [ev_fn (show [a, b, c].length ≤ 5 from Nat.le_of_ble_eq_true rfl)]
  show (den_law_shown [some (.d a), some (.d b), some (.d c), none, none]).fin = _
  rw [q]
  rfl
section
variable (d : Int) (h : En → Fl)
theorem lsh_0 (x0 : Option SV) (X Y : PD) (FX : List Nat) (i0 : gIx Y (.int 0) = .ok (.int 0)) (e : m_law_shown_fraction [X] = .ok (.str (St FX))) : (sSeq (sIf (dT (d2 gEq (d2 gIx (dV 2) (dC (.int 0))) (dC (.int 0)))) (sRet (dA (gCall 1 [] m_law_shown_fraction) (dCons (dV 1) dNil))) (sNx)) (h)) [x0, some (.d X), some (.d Y), none, none] = .rt (.str (St FX)) := by
  simp +decide only [zEV9, i0, e]
theorem lsh_1 (x0 x1 : Option SV) (Y : PD) (n k : Int) (A : List Nat) [Bd n 1700] (hn : n ≠ 0) (i0 : gIx Y (.int 0) = .ok (.int n)) (i1 : gIx Y (.int 1) = .ok (.int k)) (e : m_law_shown_fraction [.tuple [.int (n.natAbs : Int), .int k]] = .ok (.str (St A))) : (sSeq (sIf (dT (d2 gEq (d2 gIx (dV 2) (dC (.int 0))) (dC (.int 0)))) (sRet (dA (gCall 1 [] m_law_shown_fraction) (dCons (dV 1) dNil))) (sNx)) (sSeq (sSet 3 (dA (gCall 1 [] m_law_shown_fraction) (dCons (dA gTupD (dCons (dA gAbs (dCons (d2 gIx (dV 2) (dC (.int 0))) dNil)) (dCons (d2 gIx (dV 2) (dC (.int 1))) dNil))) dNil))) (h))) [x0, x1, some (.d Y), none, none] = h [x0, x1, some (.d Y), some (.d (.str (St A))), none] := by
  simp +decide only [zEV9, i0, i1, hn, e]
theorem lsh_2 (x0 x1 x2 : Option SV) (A : List Nat) : (sSeq (sIf (dT (d2 gEq (dV 3) (dC (.str "1")))) (sSet 3 (dC (.str ""))) (sNx)) (h)) [x0, x1, x2, some (.d (.str (St A))), none] = h [x0, x1, x2, some (.d (.str (St (if A = [49] then [] else A)))), none] := by
  have g := gEq_st A [49]
  rw [← st_one] at g
  by_cases c : A = [49]
  · rw [if_pos c]
    rw [decide_eq_true c] at g
    generalize St A = SA at *
    simp +decide only [zEV9, g, st_nil]
  · rw [if_neg c]
    rw [decide_eq_false c] at g
    generalize St A = SA at *
    simp +decide only [zEV9, g]
theorem lsh_3 (x0 x1 x3 : Option SV) (Y : PD) (n : Int) [Bd n 1700] (i0 : gIx Y (.int 0) = .ok (.int n)) : (sSeq (sSet 4 (d2 gIx (dA gLstD (dCons (dC (.str "+")) (dCons (dC (.str "-")) dNil))) (dA gInt (dCons (d2 gLt (d2 gIx (dV 2) (dC (.int 0))) (dC (.int 0))) dNil)))) (h)) [x0, x1, some (.d Y), x3, none] = h [x0, x1, some (.d Y), x3, some (.d (.str (St [if n < 0 then 45 else 43])))] := by
  have ip : gIx (.list [.str "+", .str "-"]) (.int 0) = .ok (.str "+") := ix_l0
  have im : gIx (.list [.str "+", .str "-"]) (.int 1) = .ok (.str "-") := ix_l (k := 1) rfl
  generalize (PyData.list [.str "+", .str "-"]) = L at *
  by_cases c : n < 0
  · rw [if_pos c]
    have gi : gInt [.bool true] = .ok (.int 1) := rfl
    simp +decide only [zEV9, i0, c, gi, im, st_minus]
  · rw [if_neg c]
    have gi : gInt [.bool false] = .ok (.int 0) := rfl
    simp +decide only [zEV9, i0, c, gi, ip, st_plus]
theorem lsh_4 (x3 : Option SV) (d : Int) (X Y : PD) (s : Nat) (hs : s = 43 ∨ s = 45) (A D : List Nat) (i0 : gIx X (.int 0) = .ok (.int 0)) (ed : gStr [.int d] = .ok (.str (St D))) (hl : A.length + D.length ≤ 10000) : (sSeq (sIf (dT (d2 gEq (d2 gIx (dV 1) (dC (.int 0))) (dC (.int 0)))) (sRet (d2 gAdd (d2 gAdd (d2 gAdd (d1 (gm_replace "+" "") (dV 4)) (dV 3)) (dC (.str "r"))) (dA gStr (dCons (dV 0) dNil)))) (sNx)) (h)) [some (.d (.int d)), some (.d X), some (.d Y), some (.d (.str (St A))), some (.d (.str (St [s])))] = .rt (.str (St ((if s = 43 then [] else [45]) ++ A ++ [114] ++ D))) := by
  have key : ∀ (P : Str) (S0 : List Nat), gm_replace "+" "" (.str P) = .ok (.str (St S0)) → S0.length ≤ 1 → (sSeq (sIf (dT (d2 gEq (d2 gIx (dV 1) (dC (.int 0))) (dC (.int 0)))) (sRet (d2 gAdd (d2 gAdd (d2 gAdd (d1 (gm_replace "+" "") (dV 4)) (dV 3)) (dC (.str "r"))) (dA gStr (dCons (dV 0) dNil)))) (sNx)) (h)) [some (.d (.int d)), some (.d X), some (.d Y), some (.d (.str (St A))), some (.d (.str P))] = .rt (.str (St (S0 ++ A ++ [114] ++ D))) := fun P S0 r l0 => by
    have a1 := gAdd_st (a := S0) (b := A) (by omega)
    have a2 := gAdd_st (a := S0 ++ A) (b := [114]) (by simp only [List.length_append, List.length_cons, List.length_nil]; omega)
    have a3 := gAdd_st (a := S0 ++ A ++ [114]) (b := D) (by simp only [List.length_append, List.length_cons, List.length_nil]; omega)
    generalize S0 ++ A ++ [114] ++ D = L3 at *
    generalize S0 ++ A ++ [114] = L2 at *
    generalize S0 ++ A = L1 at *
    simp +decide only [zEV9, i0, r, a1, st_r, a2, ed, a3]
  rcases hs with rfl | rfl
  · rw [if_pos rfl]
    exact key (St [43]) [] rep_plus (by decide)
  · rw [if_neg (by decide)]
    exact key (St [45]) [45] rep_minus (by decide)
theorem lsh_4n (x2 x3 x4 : Option SV) (d n : Int) (X : PD) [Bd n 1700] (hn : n ≠ 0) (i0 : gIx X (.int 0) = .ok (.int n)) : (sSeq (sIf (dT (d2 gEq (d2 gIx (dV 1) (dC (.int 0))) (dC (.int 0)))) (sRet (d2 gAdd (d2 gAdd (d2 gAdd (d1 (gm_replace "+" "") (dV 4)) (dV 3)) (dC (.str "r"))) (dA gStr (dCons (dV 0) dNil)))) (sNx)) (h)) [some (.d (.int d)), some (.d X), x2, x3, x4] = h [some (.d (.int d)), some (.d X), x2, x3, x4] := by
  simp +decide only [zEV9, i0, hn]
theorem lsh_5 (x2 : Option SV) (d : Int) (X : PD) (FX S A D : List Nat) (e : m_law_shown_fraction [X] = .ok (.str (St FX))) (ed : gStr [.int d] = .ok (.str (St D))) (hl : FX.length + S.length + A.length + D.length ≤ 10000) : (sRet (d2 gAdd (d2 gAdd (d2 gAdd (d2 gAdd (dA (gCall 1 [] m_law_shown_fraction) (dCons (dV 1) dNil)) (dV 4)) (dV 3)) (dC (.str "r"))) (dA gStr (dCons (dV 0) dNil)))) [some (.d (.int d)), some (.d X), x2, some (.d (.str (St A))), some (.d (.str (St S)))] = .rt (.str (St (FX ++ S ++ A ++ [114] ++ D))) := by
  have a1 := gAdd_st (a := FX) (b := S) (by omega)
  have a2 := gAdd_st (a := FX ++ S) (b := A) (by simp only [List.length_append]; omega)
  have a3 := gAdd_st (a := FX ++ S ++ A) (b := [114]) (by simp only [List.length_append, List.length_cons, List.length_nil]; omega)
  have a4 := gAdd_st (a := FX ++ S ++ A ++ [114]) (b := D) (by simp only [List.length_append, List.length_cons, List.length_nil]; omega)
  simp +decide only [zEV9, e, a1, a2, a3, st_r, ed, a4]
end
/-- the law's own text -/
theorem law_shown_ok (d : Int) (hd : 0 ≤ d ∧ d ≤ 100) {x y : Rat} (hx : SF x) (hy : SF y) : m_law_shown [.int d, frD x, frD y] = .ok (.str (St (Tlt d x y))) := by
  have b1 := hx.br
  have b2 := hy.br
  obtain ⟨ed, ld⟩ := Ti_d hd
  have ex : m_law_shown_fraction [frD x] = .ok (.str (St (Frt x))) := law_shown_fraction_eq _ _ hx.n (by rw [Int.natAbs_natCast]; exact hx.d)
  have ey : m_law_shown_fraction [.tuple [.int (y.num.natAbs : Int), .int (y.den : Int)]] = .ok (.str (St (Frn y))) := law_shown_fraction_eq _ _ (by rw [Int.natAbs_natCast]; exact hy.n) (by rw [Int.natAbs_natCast]; exact hy.d)
  have l1 := Frt_len hx
  have l2 := Frn_len hy
  have l3 : (Ahn y).length ≤ 1010 := by
    unfold Ahn
    split
    · exact Nat.zero_le _
    · exact l2
  have ix0 : gIx (frD x) (.int 0) = .ok (.int x.num) := ix_t0
  have iy0 : gIx (frD y) (.int 0) = .ok (.int y.num) := ix_t0
  have iy1 : gIx (frD y) (.int 1) = .ok (.int (y.den : Int)) := ix_t1
  have bx : Bd x.num 1700 := inferInstance
  have by' : Bd y.num 1700 := inferInstance
  have zx : x.num = 0 ↔ x = 0 := Rat.num_eq_zero
  have zy : y.num = 0 ↔ y = 0 := Rat.num_eq_zero
  have py : 0 < y.num ↔ 0 < y := num_pos_tx
  refine shown_den _ _ _ ?_
  unfold den_law_shown
  by_cases hy0 : y = 0
  · have e : Tlt d x y = Frt x := by unfold Tlt; rw [if_pos hy0]
    rw [zy.mpr hy0] at iy0
    rw [e]
    exact lsh_0 _ _ _ _ _ iy0 ex
  · have n0 : y.num ≠ 0 := fun e => hy0 (zy.mp e)
    rw [lsh_1 _ _ _ _ y.num _ (Frn y) n0 iy0 iy1 ey, lsh_2, lsh_3 _ _ _ _ _ y.num iy0]
    have eA : (if Frn y = [49] then [] else Frn y) = Ahn y := rfl
    rw [eA]
    by_cases hx0 : x = 0
    · rw [zx.mpr hx0] at ix0
      rw [lsh_4 _ none d _ _ _ (by split <;> simp) (Ahn y) (Ti d) ix0 ed (by omega)]
      congr 3
      unfold Tlt
      rw [if_neg hy0, if_pos hx0]
      by_cases hp : 0 < y
      · have : ¬ y.num < 0 := by have := py.mpr hp; omega
        rw [if_neg this, if_pos rfl, Aht_pos hp]
        rfl
      · have h1 : y < 0 := by grind
        have : y.num < 0 := by
          have : ¬ 0 < y.num := fun w => hp (py.mp w)
          omega
        rw [if_pos this, if_neg (by decide), Aht_neg h1]
        rfl
    · have m0 : x.num ≠ 0 := fun e => hx0 (zx.mp e)
      rw [lsh_4n _ _ _ _ d x.num _ m0 ix0, lsh_5 _ d _ (Frt x) _ (Ahn y) (Ti d) ex ed (by show _ + 1 + _ + _ ≤ _; omega)]
      congr 3
      unfold Tlt
      rw [if_neg hy0, if_neg hx0]
      by_cases hp : 0 < y
      · have : ¬ y.num < 0 := by have := py.mpr hp; omega
        rw [if_neg this, if_pos hp, Aht_pos hp]
        simp only [List.append_assoc]
      · have h1 : y < 0 := by grind
        have : y.num < 0 := by
          have : ¬ 0 < y.num := fun w => hp (py.mp w)
          omega
        rw [if_pos this, if_neg hp, Aht_neg h1]
        simp only [List.append_assoc, List.cons_append, List.nil_append]
end DL

set_option Elab.async false
set_option linter.all false
set_option maxRecDepth 100000
set_option maxHeartbeats 1000000
set_option autoImplicit false
/-! texts' methods, on lists of signs -/
namespace DL
open PySem L2 MB
open NumText (AllDigits digitsVal)
theorem st_list (t : List Nat) : (St t).cps.toList = t := rfl
theorem st_size (t : List Nat) : (St t).length = t.length := by
  show t.toArray.size = _
  simp
theorem at_st {t : List Nat} {c i : Nat} : StrLaws.At (St t) (St [c]) (St t).length i ↔ t[i]? = some c := StrLaws.subAt_one (St t) c i
theorem at_mid {a b : List Nat} {c : Nat} : StrLaws.At (St (a ++ c :: b)) (St [c]) (St (a ++ c :: b)).length a.length := at_st.mpr (by simp)
theorem part_no {t : List Nat} {c : Nat} (h : c ∉ t) : Txt.partition (St t) (St [c]) = (St t, St [], St []) := by
  rcases PyProof.Rows.partition_whole (St t) (St [c]) with ⟨e, _⟩ | ⟨i, _, hi, _⟩
  · exact e
  · exact absurd (List.mem_of_getElem? (at_st.mp hi)) h
theorem part_yes {a b : List Nat} {c : Nat} (h : c ∉ a) : Txt.partition (St (a ++ c :: b)) (St [c]) = (St a, St [c], St b) := by
  rcases PyProof.Rows.partition_whole (St (a ++ c :: b)) (St [c]) with ⟨_, hn⟩ | ⟨i, e, hi, hn⟩
  · exact absurd at_mid (hn a.length)
  · have hia : i = a.length := by
      have hg := at_st.mp hi
      rcases Nat.lt_trichotomy i a.length with w | w | w
      · rw [List.getElem?_append_left w] at hg
        exact absurd (List.mem_of_getElem? hg) h
      · exact w
      · exact absurd at_mid (hn _ w)
    rw [e, hia]
    have ext : ∀ {x : Str} {l : List Nat}, x.cps.toList = l → x = St l := fun {x l} h => by
      cases x with
      | mk cps =>
        congr 1
        apply Array.toList_inj.mp
        rw [h]
    refine Prod.ext ?_ (Prod.ext rfl ?_)
    · refine ext ?_
      show (Builtin.Str.strSub (St (a ++ c :: b)) 0 a.length).cps.toList = a
      rw [StrLaws.strSub_toList, st_list]
      simp
    · refine ext ?_
      show (Builtin.Str.strSub (St (a ++ c :: b)) (a.length + (St [c]).length) (St (a ++ c :: b)).length).cps.toList = b
      rw [StrLaws.strSub_toList, st_list, st_size, st_size]
      have e1 : (a ++ c :: b).drop (a.length + [c].length) = b := by simp
      rw [e1]
      refine List.take_of_length_le ?_
      simp only [List.length_append, List.length_cons, List.length_nil]
      omega
theorem gm_part_no {t : List Nat} {c : Nat} (h : c ∉ t) (hl : t.length ≤ 1000) : gm_partition (.str (St t)) (.str (St [c])) = .ok (.tuple [.str (St t), .str (St []), .str (St [])]) := by
  unfold gm_partition
  dsimp only
  rw [if_pos ⟨rfl, by rw [st_size]; exact Nat.le_trans hl (by decide)⟩, part_no h]
theorem gm_part_yes {a b : List Nat} {c : Nat} (h : c ∉ a) (hl : (a ++ c :: b).length ≤ 1000) : gm_partition (.str (St (a ++ c :: b))) (.str (St [c])) = .ok (.tuple [.str (St a), .str (St [c]), .str (St b)]) := by
  unfold gm_partition
  dsimp only
  rw [if_pos ⟨rfl, by rw [st_size]; exact Nat.le_trans hl (by decide)⟩, part_yes h]
theorem rfind_no {t : List Nat} {c : Nat} (h : c ∉ t) : gm_rfind (.str (St t)) (.str (St [c])) = .ok (.int (-1)) := by
  unfold gm_rfind
  dsimp only
  rcases PyProof.Rows.rfind_whole (St t) (St [c]) with ⟨e, _⟩ | ⟨i, _, hi, _⟩
  · rw [e]
  · exact absurd (List.mem_of_getElem? (at_st.mp hi)) h
theorem rfind_yes {a b : List Nat} {c : Nat} (h : c ∉ b) : gm_rfind (.str (St (a ++ c :: b))) (.str (St [c])) = .ok (.int (a.length : Nat)) := by
  unfold gm_rfind
  dsimp only
  rcases PyProof.Rows.rfind_whole (St (a ++ c :: b)) (St [c]) with ⟨_, hn⟩ | ⟨i, e, hi, hn⟩
  · exact absurd at_mid (hn a.length)
  · have hia : i = a.length := by
      have hg := at_st.mp hi
      rcases Nat.lt_trichotomy i a.length with w | w | w
      · exact absurd at_mid (hn _ w)
      · exact w
      · rw [List.getElem?_append_right (by omega)] at hg
        obtain ⟨k, hk⟩ : ∃ k, i - a.length = k + 1 := ⟨i - a.length - 1, by omega⟩
        rw [hk, List.getElem?_cons_succ] at hg
        exact absurd (List.mem_of_getElem? hg) h
    rw [e, hia]
theorem cnt_eq (c : Nat) : ∀ t : List Nat, PyProof.Rows.cnt c t = (t.count c : Nat)
  | [] => rfl
  | x :: t => by
    rw [PyProof.Rows.cnt_cons, cnt_eq c t, List.count_cons]
    by_cases h : x = c
    · subst h; simp; omega
    · simp [h]
theorem gm_count_st (t : List Nat) (c : Nat) : gm_countS (.str (St t)) (.str (St [c])) = .ok (.int (t.count c : Nat)) := by
  have e : gm_countS (.str (St t)) (.str (St [c])) = .ok (.int (Txt.count (St t) (St [c]))) := rfl
  rw [e, PyProof.Rows.count_is (St t) c]
  have := cnt_eq c t
  unfold PyProof.Rows.cnt at this
  rw [st_list, this]
/-! slices, signs -/
theorem cps_st {z : Str} {l : List Nat} (h : z.cps.toList = l) : z = St l := by
  cases z with
  | mk cps =>
    congr 1
    apply Array.toList_inj.mp
    rw [h]
theorem sl_st_hi {t : List Nat} (k : Nat) (hl : t.length ≤ 1000) : gSl (.str (St t)) none (some (k : Int)) = .ok (.str (St (t.take k))) := by
  have e : gSl (.str (St t)) none (some (k : Int)) = if (St t).length ≤ 16777216 then .ok (.str (cutS (St t) none (some (k : Int)))) else .no := rfl
  rw [e, if_pos (by rw [st_size]; omega)]
  congr 2
  refine cps_st ?_
  unfold cutS
  have n0 : ¬ ((k : Int) < 0) := by omega
  simp only [HT.sIx, st_size, if_neg n0]
  simp
theorem sl_st_lo {t : List Nat} (k : Nat) (hl : t.length ≤ 1000) : gSl (.str (St t)) (some (k : Int)) none = .ok (.str (St (t.drop k))) := by
  have e : gSl (.str (St t)) (some (k : Int)) none = if (St t).length ≤ 16777216 then .ok (.str (cutS (St t) (some (k : Int)) none)) else .no := rfl
  rw [e, if_pos (by rw [st_size]; omega)]
  congr 2
  refine cps_st ?_
  unfold cutS
  have n0 : ¬ ((k : Int) < 0) := by omega
  simp only [HT.sIx, st_size, if_neg n0]
  by_cases hk : k ≤ t.length
  · have e2 : min k t.length = k := Nat.min_eq_left hk
    simp [e2]
    exact List.take_of_length_le (by rw [List.length_drop]; omega)
  · have e2 : min k t.length = t.length := Nat.min_eq_right (by omega)
    simp [e2]
    omega
theorem ix_st {t : List Nat} {k c : Nat} (h : t[k]? = some c) (hl : t.length ≤ 1000) : gIx (.str (St t)) (.int (k : Int)) = .ok (.str (St [c])) := by
  have e : gIx (.str (St t)) (.int (k : Int)) = if (St t).length ≤ 16777216 then (match atI (St t).cps.toList (k : Int) with
    | some c => .ok (.str ⟨#[c]⟩)
    | none => .no) else .no := rfl
  rw [e, if_pos (by rw [st_size]; omega)]
  have a : atI (St t).cps.toList (k : Int) = some c := by
    have hk := (List.getElem?_eq_some_iff.mp h).1
    rw [st_list]
    unfold atI ixN
    simp [hk]
    exact (List.getElem?_eq_some_iff.mp h).2
  rw [a]
/-! figures read -/
theorem fig_in (c : Nat) : gIn true (.str (St [c])) c_FIGURES = .ok (.bool (!decide (48 ≤ c ∧ c ≤ 57))) := by
  have e : gIn true (.str (St [c])) c_FIGURES = .ok (.bool ((!(Builtin.Str.occurrences (St [48, 49, 50, 51, 52, 53, 54, 55, 56, 57]) (St [c]) 0 (St [48, 49, 50, 51, 52, 53, 54, 55, 56, 57]).length 1).isEmpty) != true)) := by
    unfold c_FIGURES
    rw [digs]
    rfl
  rw [e]
  congr 2
  have hm : c ∈ [48, 49, 50, 51, 52, 53, 54, 55, 56, 57] ↔ 48 ≤ c ∧ c ≤ 57 := by
    simp only [List.mem_cons, List.not_mem_nil, or_false]
    omega
  rcases StrLaws.occ_head (St [48, 49, 50, 51, 52, 53, 54, 55, 56, 57]) (St [c]) 1 (Nat.le_refl 1) with ⟨h0, hn⟩ | ⟨i, r, h0, hi, _⟩
  · rw [h0]
    have : ¬ (48 ≤ c ∧ c ≤ 57) := fun w => by
      obtain ⟨i, hi⟩ := List.getElem?_of_mem (hm.mpr w)
      exact hn i (at_st.mpr hi)
    rw [decide_eq_false this]
    rfl
  · rw [h0]
    have : 48 ≤ c ∧ c ≤ 57 := hm.mp (List.mem_of_getElem? (at_st.mp hi))
    rw [decide_eq_true this]
    rfl
theorem gIntT_st {t : List Nat} (h : AllDigits t) (hne : t ≠ []) (hl : t.length ≤ 640) : gIntT [.str (St t)] = .ok (.int (digitsVal t : Nat)) := by
  have e := intText_digits (x := St t) h hne (by rw [st_size]; omega)
  unfold gIntT
  dsimp only
  rw [e]
  dsimp only
  rw [if_pos (by rw [st_size]; exact hl)]
end DL

set_option Elab.async false
set_option linter.all false
set_option maxRecDepth 100000
set_option maxHeartbeats 1000000
set_option autoImplicit false
/-! what texts of lengths write, in plain words -/
namespace DL
open PySem L2 MB
open NumText (AllDigits digitsVal)
instance (t : List Nat) : Decidable (AllDigits t) := inferInstanceAs (Decidable (∀ c ∈ t, 48 ≤ c ∧ c ≤ 57))
def numIn (t : List Nat) : Option Nat := if t ≠ [] ∧ AllDigits t then some (digitsVal t) else none
theorem dv_cons (c : Nat) (t : List Nat) (a : Nat) : (c :: t).foldl (fun acc c => acc * 10 + (c - 48)) a = t.foldl (fun acc c => acc * 10 + (c - 48)) (a * 10 + (c - 48)) := by rw [List.foldl_cons]
theorem dv_bd : ∀ (t : List Nat) (a k : Nat), AllDigits t → a < 10 ^ k → t.foldl (fun acc c => acc * 10 + (c - 48)) a < 10 ^ (k + t.length)
  | [], a, k, _, ha => ha
  | c :: t, a, k, h, ha => by
    rw [dv_cons]
    have hc := h c (.head _)
    have := dv_bd t (a * 10 + (c - 48)) (k + 1) (fun d hd => h d (.tail _ hd)) (by rw [Nat.pow_succ]; omega)
    rw [List.length_cons, show k + (t.length + 1) = k + 1 + t.length by omega]
    exact this
theorem dv_lt {t : List Nat} (h : AllDigits t) {k : Nat} (hl : t.length ≤ k) : digitsVal t < 10 ^ k := by
  have := dv_bd t 0 0 h (by decide)
  rw [Nat.zero_add] at this
  exact Nat.lt_of_lt_of_le this (Nat.pow_le_pow_right (by decide) hl)
theorem p1700 : (10 : Nat) ^ 480 ≤ 2 ^ 1700 := by decide +kernel
theorem p1600 : (10 : Nat) ^ 480 ≤ 2 ^ 1600 ∧ (2 : Nat) ^ 1600 ≤ 10 ^ 500 := by decide +kernel
/-- a fraction without a sign -/
def frq (t : List Nat) : Option Rat :=
  if 47 ∈ t then
    match numIn (t.drop ((t.takeWhile (· != 47)).length + 1)) with
    | none => none
    | some m => if m = 0 then none else (numIn (t.takeWhile (· != 47))).map fun (n : Nat) => (((n : Int) : Rat) / ((m : Int) : Rat))
  else (numIn t).map fun (n : Nat) => ((n : Int) : Rat)
def fracIn : List Nat → Option Rat
  | [] => none
  | c :: t => if c = 45 then (fracIn t).map fun q => -q else frq (c :: t)
def aheadIn (t : List Nat) : Option Rat := if t = [] then some 1 else if t = [45] then some (-1) else fracIn t
theorem takeW_ne {c : Nat} : ∀ {t : List Nat}, c ∉ t.takeWhile (· != c)
  | [] => by simp
  | x :: t => by
    rw [List.takeWhile_cons]
    by_cases e : x = c
    · subst e; simp
    · have hx : (x != c) = true := by simpa using e
      rw [if_pos hx]
      intro h
      rcases List.mem_cons.mp h with w | w
      · exact e w.symm
      · exact takeW_ne w
theorem tw_cut {t : List Nat} {c : Nat} (h : c ∈ t) : t = t.takeWhile (· != c) ++ c :: t.drop ((t.takeWhile (· != c)).length + 1) := by
  induction t with
  | nil => cases h
  | cons x t ih =>
    by_cases e : x = c
    · subst e
      simp
    · have hm : c ∈ t := by
        rcases List.mem_cons.mp h with w | w
        · exact absurd w.symm e
        · exact w
      have hx : (x != c) = true := by simpa using e
      rw [List.takeWhile_cons, if_pos hx]
      show x :: t = x :: (t.takeWhile (· != c) ++ c :: t.drop ((t.takeWhile (· != c)).length + 1))
      rw [← ih hm]
theorem tw_app {a b : List Nat} {c : Nat} (h : c ∉ a) : (a ++ c :: b).takeWhile (· != c) = a := by
  induction a with
  | nil => simp
  | cons x a ih =>
    have e : x ≠ c := fun e => h (by rw [e]; exact .head _)
    have hx : (x != c) = true := by simpa using e
    rw [List.cons_append, List.takeWhile_cons, if_pos hx, ih fun w => h (.tail _ w)]
/-! ### what shown texts hold -/
theorem dig_no {t : List Nat} (h : AllDigits t) {c : Nat} (hc : c < 48 ∨ 57 < c) : c ∉ t := fun w => by
  have := h c w
  omega
theorem numIn_Tn (n : Nat) : numIn (Tn n) = some n := by
  unfold numIn
  rw [if_pos ⟨Tn_ne n, Tn_dig n⟩, Tn_val]
theorem rat_ndv (x : Rat) : ((x.num : Int) : Rat) / ((x.den : Int) : Rat) = x := by
  have h := Rat.mkRat_self x
  rw [Rat.mkRat_eq_div] at h
  exact h
/-- the signs of a fraction's text without its sign -/
theorem Frn_mem {x : Rat} {c : Nat} (h : c ∈ Frn x) : (48 ≤ c ∧ c ≤ 57) ∨ c = 47 := by
  unfold Frn Tf at h
  rw [Ti_nat, Ti_nat] at h
  split at h
  · exact .inl (Tn_dig _ c h)
  · rcases List.mem_append.mp h with h | h
    · rcases List.mem_append.mp h with h | h
      · exact .inl (Tn_dig _ c h)
      · exact .inr (List.mem_singleton.mp h)
    · exact .inl (Tn_dig _ c h)
theorem Frn_ne (x : Rat) : Frn x ≠ [] := by
  unfold Frn Tf
  rw [Ti_nat]
  split
  · exact Tn_ne _
  · simp
theorem frq_Frn (x : Rat) : frq (Frn x) = some (((x.num.natAbs : Int) : Rat) / ((x.den : Int) : Rat)) := by
  have hd := x.den_nz
  unfold Frn Tf
  rw [Ti_nat, Ti_nat]
  by_cases h : (x.den : Int) = 1
  · rw [if_pos h]
    unfold frq
    rw [if_neg (dig_no (Tn_dig _) (by omega)), numIn_Tn, h]
    show some _ = some _
    congr 1
    have : ((1 : Int) : Rat) = 1 := rfl
    rw [this]
    grind
  · rw [if_neg h]
    have e : Tn x.num.natAbs ++ [47] ++ Tn x.den = Tn x.num.natAbs ++ 47 :: Tn x.den := by simp
    have h47 : 47 ∉ Tn x.num.natAbs := dig_no (Tn_dig _) (by omega)
    rw [e]
    unfold frq
    rw [if_pos (by simp), tw_app h47]
    have ed : (Tn x.num.natAbs ++ 47 :: Tn x.den).drop ((Tn x.num.natAbs).length + 1) = Tn x.den := by simp
    rw [ed, numIn_Tn, numIn_Tn]
    simp [hd]
theorem fracIn_pos {t : List Nat} (h : ∀ c r, t = c :: r → c ≠ 45) (hne : t ≠ []) : fracIn t = frq t := by
  cases t with
  | nil => exact absurd rfl hne
  | cons c r =>
    unfold fracIn
    rw [if_neg (h c r rfl)]
theorem Frn_head {x : Rat} : ∀ c r, Frn x = c :: r → c ≠ 45 := fun c r e => by
  have := Frn_mem (x := x) (c := c) (by rw [e]; exact .head _)
  omega
theorem fracIn_Frn (x : Rat) : fracIn (Frn x) = some (((x.num.natAbs : Int) : Rat) / ((x.den : Int) : Rat)) := by
  rw [fracIn_pos Frn_head (Frn_ne x), frq_Frn]
theorem fracIn_Frt (x : Rat) : fracIn (Frt x) = some x := by
  by_cases h : 0 ≤ x
  · rw [← Frn_pos h, fracIn_Frn]
    have hn := Rat.num_nonneg.mpr h
    have : ((x.num.natAbs : Nat) : Int) = x.num := by omega
    rw [this, rat_ndv]
  · have h1 : x < 0 := by grind
    rw [Frn_neg h1]
    unfold fracIn
    rw [if_pos rfl, fracIn_Frn]
    have hn : x.num < 0 := by
      have : ¬ 0 ≤ x.num := fun w => h (Rat.num_nonneg.mp w)
      omega
    have : ((x.num.natAbs : Nat) : Int) = -x.num := by omega
    rw [this, Rat.intCast_neg]
    show some (-(-(x.num : Rat) / ((x.den : Int) : Rat))) = some x
    have e := rat_ndv x
    congr 1
    grind
theorem aheadIn_Aht {y : Rat} (hy : y ≠ 0) : aheadIn (Aht y) = some y := by
  unfold aheadIn Aht
  by_cases h1 : y = 1
  · rw [if_pos h1, if_pos rfl, h1]
  · rw [if_neg h1]
    by_cases h2 : y = -1
    · rw [if_pos h2, if_neg (by decide), if_pos rfl, h2]
    · rw [if_neg h2]
      have ne : Frt y ≠ [] := fun e => by
        have := fracIn_Frt y
        rw [e] at this
        cases this
      have n5 : Frt y ≠ [45] := fun e => by
        have := fracIn_Frt y
        rw [e] at this
        cases this
      rw [if_neg ne, if_neg n5, fracIn_Frt]
/-- the signs of a length's text ahead of the root -/
theorem Frt_no {x : Rat} {c : Nat} (h1 : c ≠ 45) (h2 : c ≠ 47) (h3 : c < 48 ∨ 57 < c) : c ∉ Frt x := fun h => by
  by_cases hx : 0 ≤ x
  · rw [← Frn_pos hx] at h
    have := Frn_mem h
    omega
  · rw [Frn_neg (by grind)] at h
    rcases List.mem_cons.mp h with w | w
    · exact h1 w
    · have := Frn_mem w
      omega
theorem Frn_no {x : Rat} {c : Nat} (h2 : c ≠ 47) (h3 : c < 48 ∨ 57 < c) : c ∉ Frn x := fun h => by
  have := Frn_mem h
  omega
theorem Ahn_no {y : Rat} {c : Nat} (h2 : c ≠ 47) (h3 : c < 48 ∨ 57 < c) : c ∉ Ahn y := by
  unfold Ahn
  split
  · simp
  · exact Frn_no h2 h3
theorem Aht_no {y : Rat} {c : Nat} (h1 : c ≠ 45) (h2 : c ≠ 47) (h3 : c < 48 ∨ 57 < c) : c ∉ Aht y := by
  unfold Aht
  split
  · simp
  · split
    · intro h
      exact h1 (List.mem_singleton.mp h)
    · exact Frt_no h1 h2 h3
/-- the place of the last c -/
def lastP (c : Nat) : List Nat → Option Nat
  | [] => none
  | x :: t => match lastP c t with
    | some i => some (i + 1)
    | none => if x = c then some 0 else none
theorem lastP_none {c : Nat} : ∀ {t : List Nat}, lastP c t = none ↔ c ∉ t
  | [] => by simp [lastP]
  | x :: t => by
    have ih := lastP_none (c := c) (t := t)
    unfold lastP
    cases e : lastP c t with
    | some i =>
      have : ¬ c ∉ t := fun w => by rw [ih.mpr w] at e; cases e
      simp
      intro _
      simpa using this
    | none =>
      have h := ih.mp e
      by_cases hx : x = c
      · simp [hx]
      · simp [hx, h]
        exact fun w => hx w.symm
theorem lastP_some {c : Nat} : ∀ {t : List Nat} {i : Nat}, lastP c t = some i → ∃ a b, t = a ++ c :: b ∧ a.length = i ∧ c ∉ b
  | x :: t, i, h => by
    unfold lastP at h
    cases e : lastP c t with
    | some j =>
      rw [e] at h
      cases h
      obtain ⟨a, b, h1, h2, h3⟩ := lastP_some e
      exact ⟨x :: a, b, by rw [h1]; rfl, by rw [List.length_cons, h2], h3⟩
    | none =>
      rw [e] at h
      by_cases hx : x = c
      · rw [if_pos hx] at h
        cases h
        exact ⟨[], t, by rw [hx]; rfl, rfl, lastP_none.mp e⟩
      · rw [if_neg hx] at h
        cases h
theorem lastP_app {c : Nat} {b : List Nat} (h : c ∉ b) : ∀ a : List Nat, lastP c (a ++ c :: b) = some a.length
  | [] => by
    show lastP c (c :: b) = _
    unfold lastP
    rw [lastP_none.mpr h]
    simp
  | x :: a => by
    show lastP c (x :: (a ++ c :: b)) = _
    unfold lastP
    rw [lastP_app h a]
    rfl
/-- where the head is parted: the last sign behind the first place -/
def partP (h : List Nat) : Option Nat :=
  let i := match lastP 43 h, lastP 45 h with
    | some i, some j => max i j
    | some i, none => i
    | none, some j => j
    | none, none => 0
  if i = 0 then none else some i
def lenIn (t : List Nat) : Option (Rat × Rat) :=
  if 114 ∈ t then
    let h := t.takeWhile (· != 114)
    match partP h with
    | none => (aheadIn h).map fun y => (0, y)
    | some i => match aheadIn (h.drop (i + 1)), fracIn (h.take i) with
      | some y, some x => some (x, if h[i]? = some 45 then -y else y)
      | _, _ => none
  else (fracIn t).map fun x => (x, 0)
def readL (d : Int) (t : List Nat) : Option (Rat × Rat) := if 2 < t.count 45 then none else
  match lenIn t with
  | some (x, y) => if Tlt d x y = t then some (x, y) else none
  | none => none
theorem readL_shown {d : Int} {t : List Nat} {p : Rat × Rat} (h : readL d t = some p) : Tlt d p.1 p.2 = t := by
  unfold readL at h
  split at h
  · cases h
  · split at h
    · split at h
      · rename_i e
        cases h
        exact e
      · cases h
    · cases h
theorem Ti_dig {d : Int} (h : 0 ≤ d) : AllDigits (Ti d) := by
  rw [Ti_pos h]
  exact Tn_dig _
theorem Frt_ne (x : Rat) : Frt x ≠ [] := fun e => by
  have := fracIn_Frt x
  rw [e] at this
  cases this
theorem max_pos0 {i j : Nat} (h : j ≤ i) : max i j = i := Nat.max_eq_left h
theorem count_no {t : List Nat} {c : Nat} (h : c ∉ t) : t.count c = 0 := List.count_eq_zero.mpr h
theorem count_Frt (x : Rat) : (Frt x).count 45 ≤ 1 := by
  by_cases hx : 0 ≤ x
  · rw [← Frn_pos hx, count_no (Frn_no (by decide) (by omega))]; omega
  · rw [Frn_neg (by grind), List.count_cons, count_no (Frn_no (by decide) (by omega))]; simp
theorem count_Aht (y : Rat) : (Aht y).count 45 ≤ 1 := by
  unfold Aht
  split
  · simp
  · split
    · simp
    · exact count_Frt y
theorem lenIn_Tlt {d : Int} (hd : 0 ≤ d) (x y : Rat) : lenIn (Tlt d x y) = some (x, y) := by
  have hD := Ti_dig hd
  have nD : ∀ c : Nat, c < 48 ∨ 57 < c → c ∉ Ti d := fun c h => dig_no hD h
  unfold Tlt
  by_cases hy : y = 0
  · rw [if_pos hy]
    unfold lenIn
    rw [if_neg (Frt_no (by decide) (by decide) (by omega)), fracIn_Frt, hy]
    rfl
  rw [if_neg hy]
  -- the head of a text with a root
  have key : ∀ h : List Nat, 114 ∉ h → lenIn (h ++ 114 :: Ti d) = (match partP h with
      | none => (aheadIn h).map fun y => (0, y)
      | some i => match aheadIn (h.drop (i + 1)), fracIn (h.take i) with
        | some y, some x => some (x, if h[i]? = some 45 then -y else y)
        | _, _ => none) := fun h hn => by
    unfold lenIn
    rw [if_pos (by simp), tw_app hn]
  have a114 : 114 ∉ Aht y := Aht_no (by decide) (by decide) (by omega)
  have f114 : 114 ∉ Frt x := Frt_no (by decide) (by decide) (by omega)
  by_cases hx : x = 0
  · rw [if_pos hx, show Aht y ++ [114] ++ Ti d = Aht y ++ 114 :: Ti d by simp, key _ a114]
    have p0 : partP (Aht y) = none := by
      unfold partP
      have l43 : lastP 43 (Aht y) = none := lastP_none.mpr (Aht_no (by decide) (by decide) (by omega))
      rw [l43]
      by_cases hp : 0 < y
      · have l45 : lastP 45 (Aht y) = none := lastP_none.mpr (by rw [Aht_pos hp]; exact Ahn_no (by decide) (by omega))
        rw [l45]
        rfl
      · have l45 : lastP 45 (Aht y) = some 0 := by
          rw [Aht_neg (by grind)]
          exact lastP_app (a := []) (Ahn_no (by decide) (by omega))
        rw [l45]
        rfl
    rw [p0, aheadIn_Aht hy, hx]
    rfl
  rw [if_neg hx]
  have lf : 0 < (Frt x).length := List.length_pos_iff.mpr (Frt_ne x)
  by_cases hp : 0 < y
  · rw [if_pos hp, show Frt x ++ [43] ++ (Aht y ++ [114] ++ Ti d) = (Frt x ++ 43 :: Aht y) ++ 114 :: Ti d by simp, key _ (by
      intro h
      rcases List.mem_append.mp h with h | h
      · exact f114 h
      · rcases List.mem_cons.mp h with h | h
        · exact absurd h (by decide)
        · exact a114 h)]
    have l43 : lastP 43 (Frt x ++ 43 :: Aht y) = some (Frt x).length := lastP_app (Aht_no (by decide) (by decide) (by omega)) _
    have l45 : ∀ j, lastP 45 (Frt x ++ 43 :: Aht y) = some j → j ≤ (Frt x).length := fun j hj => by
      obtain ⟨a, b, e1, e2, _⟩ := lastP_some hj
      rcases Nat.lt_or_ge (Frt x).length j with w | w
      · exfalso
        have g : (Frt x ++ 43 :: Aht y)[j]? = some 45 := by rw [e1, ← e2]; simp
        rw [List.getElem?_append_right (by omega)] at g
        obtain ⟨k, hk⟩ : ∃ k, j - (Frt x).length = k + 1 := ⟨j - (Frt x).length - 1, by omega⟩
        rw [hk, List.getElem?_cons_succ, Aht_pos hp] at g
        exact Ahn_no (by decide) (by omega) (List.mem_of_getElem? g)
      · exact w
    have pp : partP (Frt x ++ 43 :: Aht y) = some (Frt x).length := by
      unfold partP
      rw [l43]
      cases e : lastP 45 (Frt x ++ 43 :: Aht y) with
      | none =>
        show (if (Frt x).length = 0 then none else some (Frt x).length) = _
        rw [if_neg (by omega)]
      | some j =>
        show (if max (Frt x).length j = 0 then none else some (max (Frt x).length j)) = _
        rw [max_pos0 (l45 j e), if_neg (by omega)]
    rw [pp]
    have e1 : (Frt x ++ 43 :: Aht y).drop ((Frt x).length + 1) = Aht y := by simp
    have e2 : (Frt x ++ 43 :: Aht y).take (Frt x).length = Frt x := by simp
    have e3 : (Frt x ++ 43 :: Aht y)[(Frt x).length]? = some 43 := by simp
    dsimp only
    rw [e1, e2, e3, aheadIn_Aht hy, fracIn_Frt]
    simp
  · have h1 : y < 0 := by grind
    rw [if_neg hp, Aht_neg h1, show Frt x ++ (45 :: Ahn y ++ [114] ++ Ti d) = (Frt x ++ 45 :: Ahn y) ++ 114 :: Ti d by simp, key _ (by
      intro h
      rcases List.mem_append.mp h with h | h
      · exact f114 h
      · rcases List.mem_cons.mp h with h | h
        · exact absurd h (by decide)
        · exact Ahn_no (by decide) (by omega) h)]
    have l45 : lastP 45 (Frt x ++ 45 :: Ahn y) = some (Frt x).length := lastP_app (Ahn_no (by decide) (by omega)) _
    have l43 : lastP 43 (Frt x ++ 45 :: Ahn y) = none := lastP_none.mpr (by
      intro h
      rcases List.mem_append.mp h with h | h
      · exact Frt_no (by decide) (by decide) (by omega) h
      · rcases List.mem_cons.mp h with h | h
        · exact absurd h (by decide)
        · exact Ahn_no (by decide) (by omega) h)
    have pp : partP (Frt x ++ 45 :: Ahn y) = some (Frt x).length := by
      unfold partP
      rw [l43, l45]
      show (if (Frt x).length = 0 then none else some (Frt x).length) = _
      rw [if_neg (by omega)]
    rw [pp]
    have e1 : (Frt x ++ 45 :: Ahn y).drop ((Frt x).length + 1) = Ahn y := by simp
    have e2 : (Frt x ++ 45 :: Ahn y).take (Frt x).length = Frt x := by simp
    have e3 : (Frt x ++ 45 :: Ahn y)[(Frt x).length]? = some 45 := by simp
    have ea : aheadIn (Ahn y) = some (-y) := by
      have hm : 0 < -y := by grind
      have hA : Ahn y = Aht (-y) := by
        rw [Aht_pos hm]
        unfold Ahn Frn
        rw [Rat.neg_num, Int.natAbs_neg, Rat.neg_den]
      rw [hA, aheadIn_Aht (by grind)]
    dsimp only
    rw [e1, e2, e3, ea, fracIn_Frt]
    simp
/-- a shown text is read -/
theorem readL_Tlt {d : Int} (hd : 0 ≤ d) (x y : Rat) : readL d (Tlt d x y) = some (x, y) := by
  have hc : (Tlt d x y).count 45 ≤ 2 := by
    have c1 := count_Frt x
    have c2 := count_Aht y
    have c3 : (Ti d).count 45 = 0 := count_no (dig_no (Ti_dig hd) (by omega))
    unfold Tlt
    split
    · omega
    · split
      · simp only [List.count_append, c3]
        simp
        omega
      · split
        · simp only [List.count_append, c3]
          simp
          omega
        · simp only [List.count_append, c3]
          simp
          omega
  unfold readL
  rw [if_neg (by omega), lenIn_Tlt hd]
  dsimp only
  rw [if_pos rfl]
end DL

set_option Elab.async false
set_option linter.all false
set_option maxRecDepth 100000
set_option maxHeartbeats 2000000
set_option autoImplicit false
namespace DL
open PySem L2 MB
/-- a board's worth -/
def w1 (f g r s : Rat) (b : Bo) : Rat := (f * b.x + g * b.y) * (r * b.u + s * b.v)
def w2 (f g r s : Rat) (b : Bo) : Rat := (f * b.u + g * b.v) * (r * b.x + s * b.y)
theorem frD_neg (q : Rat) : (PyData.tuple [.int (0 - q.num), .int (q.den : Int)] : PD) = frD (-q) := by
  unfold frD
  rw [Rat.neg_num, Rat.neg_den, Int.zero_sub]
section
variable (f g r s : Rat) [BR f 100 10] [BR g 100 10] [BR r 100 10] [BR s 100 10]
end
end DL

set_option Elab.async false
set_option linter.all false
set_option maxRecDepth 100000
set_option maxHeartbeats 1000000
set_option autoImplicit false
/-! what the reading of texts computes -/
namespace DL
open PySem L2 MB
open NumText (AllDigits digitsVal)
def kDM (k : PD → Bool) (g : PD → PD → R PD) (f2 : En → R PD) (ρ : En) (a : PD) : R PD := if k a = true then (f2 ρ).bind (g a) else .no
theorem ev_dMk {k : PD → Bool} {g : PD → PD → R PD} {f1 f2 : En → R PD} {ρ : En} : dM k g f1 f2 ρ = (f1 ρ).bind (kDM k g f2 ρ) := rfl
theorem kDM_s {g : PD → PD → R PD} {f2 : En → R PD} {ρ : En} {z : Str} : kDM isS g f2 ρ (.str z) = (f2 ρ).bind (g (.str z)) := if_pos rfl
theorem ev_iS {f : En → R PD} {ρ : En} : iS f ρ = (f ρ).bind asS := rfl
theorem asS_st {t : List Nat} : asS (.str (St t)) = .ok (t.map fun c => .str (St [c])) := rfl
def rn : Option Nat → R PD
  | some n => .ok (.int (n : Int))
  | none => .ex "NoText"
def rf : Option Rat → R PD
  | some q => .ok (frD q)
  | none => .ex "NoText"
/-! ### figures -/
theorem num_turn (x0 : Option SV) (c : Nat) : lb1_number_in [x0, some (.d (.str (St [c])))] = if 48 ≤ c ∧ c ≤ 57 then .nx [x0, some (.d (.str (St [c])))] else .ex "NoText" [x0, some (.d (.str (St [c])))] := by
  have g := fig_in c
  by_cases h : 48 ≤ c ∧ c ≤ 57
  · rw [if_pos h]
    rw [decide_eq_true h, Bool.not_true] at g
    generalize St [c] = S at *
    simp +decide only [lb1_number_in, zEV9, g]
  · rw [if_neg h]
    rw [decide_eq_false h, Bool.not_false] at g
    generalize St [c] = S at *
    simp +decide only [lb1_number_in, zEV9, g]
theorem num_loop (x0 : Option SV) : ∀ (t : List Nat) (x1 : Option SV), (AllDigits t → ∃ y, sForL (.one 1) lb1_number_in (t.map fun c => .str (St [c])) [x0, x1] = .nx [x0, y]) ∧ (¬ AllDigits t → ∃ ρ, sForL (.one 1) lb1_number_in (t.map fun c => .str (St [c])) [x0, x1] = .ex "NoText" ρ)
  | [], x1 => ⟨fun _ => ⟨x1, rfl⟩, fun h => absurd (fun c hc => nomatch hc) h⟩
  | c :: t, x1 => by
    have ih := num_loop x0 t (some (.d (.str (St [c]))))
    have e : sForL (.one 1) lb1_number_in ((c :: t).map fun c => .str (St [c])) [x0, x1] = (lb1_number_in [x0, some (.d (.str (St [c])))]).turn fun ρ => sForL (.one 1) lb1_number_in (t.map fun c => .str (St [c])) ρ := by
      rw [List.map_cons, forL_1]
      rfl
    rw [num_turn] at e
    by_cases h : 48 ≤ c ∧ c ≤ 57
    · rw [if_pos h, turn_nx] at e
      rw [e]
      refine ⟨fun g => ih.1 fun d hd => g d (.tail _ hd), fun g => ih.2 fun w => g fun d hd => ?_⟩
      rcases List.mem_cons.mp hd with rfl | hd
      · exact h
      · exact w d hd
    · rw [if_neg h, turn_ex] at e
      rw [e]
      exact ⟨fun g => absurd (g c (.head _)) h, fun _ => ⟨_, rfl⟩⟩
theorem number_in_ok (t : List Nat) (hl : t.length ≤ 640) : m_number_in [.str (St t)] = rn (numIn t) := by
  have g := gEq_st t []
  rw [← st_nil] at g
  by_cases h0 : t = []
  · subst h0
    rw [decide_eq_true rfl] at g
    have e : numIn [] = none := rfl
    rw [e]
    generalize St [] = S at *
    show m_number_in [.str S] = .ex "NoText"
    simp +decide only [m_number_in, den_number_in, zEV9, g]
  · rw [decide_eq_false h0] at g
    have L := num_loop (some (.d (.str (St t)))) t none
    have a := asS_st (t := t)
    by_cases hd : AllDigits t
    · have e : numIn t = some (digitsVal t) := by unfold numIn; rw [if_pos ⟨h0, hd⟩]
      rw [e]
      obtain ⟨y, l⟩ := L.1 hd
      have gi := gIntT_st hd h0 hl
      show m_number_in [.str (St t)] = .ok (.int (digitsVal t : Nat))
      generalize St t = S at *
      generalize (t.map fun c => PyData.str (St [c])) = T at *
      simp +decide only [m_number_in, den_number_in, zEV9, g, ev_iS, a, l, gi]
    · have e : numIn t = none := by unfold numIn; rw [if_neg (fun w => hd w.2)]
      rw [e]
      obtain ⟨ρ, l⟩ := L.2 hd
      show m_number_in [.str (St t)] = .ex "NoText"
      generalize St t = S at *
      generalize (t.map fun c => PyData.str (St [c])) = T at *
      simp +decide only [m_number_in, den_number_in, zEV9, g, ev_iS, a, l, seq_ex]
end DL

set_option Elab.async false
set_option linter.all false
set_option maxRecDepth 100000
set_option maxHeartbeats 1000000
set_option autoImplicit false
/-! fractions and lengths read -/
namespace DL
open PySem L2 MB
open NumText (AllDigits digitsVal)
/-- the den of a def that reads a fraction, m in the place of its own call -/
noncomputable def denFr (m : List PD → R PD) : En → Fl := sSeq (sIf (dT (d2 gEq (dSl (dV 0) (dP0) (dP (dC (.int 1)))) (dC (.str "-")))) (sSeq (sAsg (.many [1, 2]) (dA (gCall 1 [] m) (dCons (dSl (dV 0) (dP (dC (.int 1))) (dP0)) (dNil)))) (sRet (dA gTupD (dCons (d2 gSub (dC (.int 0)) (dV 1)) (dCons (dV 2) (dNil)))))) (sNx)) (sSeq (sAsg (.many [1, 3, 2]) (dM isS gm_partition (dV 0) (dC (.str "/")))) (sSeq (sIf (dT (d2 gEq (dV 3) (dC (.str "")))) (sRet (dA gTupD (dCons (dA (gCall 1 [] m_number_in) (dCons (dV 1) (dNil))) (dCons (dC (.int 1)) (dNil))))) (sNx)) (sSeq (sSet 4 (dA (gCall 1 [] m_number_in) (dCons (dV 2) (dNil)))) (sSeq (sIf (dT (d2 gEq (dV 4) (dC (.int 0)))) (sRaise "NoText") (sNx)) (sRet (dA (gCall 2 [] m_fraction) (dCons (dA (gCall 1 [] m_number_in) (dCons (dV 1) (dNil))) (dCons (dV 4) (dNil)))))))))
theorem fr_ev (m : List PD → R PD) (t : List Nat) : fnD 5 (denFr m) [.str (St t)] = (denFr m [some (.d (.str (St t))), none, none, none, none]).fin := by
  rw [ev_fn (show [PyData.str (St t)].length ≤ 5 from Nat.le_of_ble_eq_true rfl)]
  rfl
theorem rf_neg (q : Rat) : (PyData.tuple [.int (0 - q.num), .int (q.den : Int)] : PD) = frD (-q) := frD_neg q
theorem b2_ex1 {α β γ : Type} {g : α → β → R γ} {c : Str} {r : R β} : R.bind2 g (.ex c) r = .ex c := rfl
theorem b2_ex2 {α β γ : Type} {g : α → β → R γ} {a : α} {c : Str} : R.bind2 g (.ok a) (.ex c) = .ex c := rfl
/-- a sign ahead -/
theorem fr_minus (m : List PD → R PD) (r : List Nat) (o : Option Rat) (hl : (45 :: r).length ≤ 1000) (hm : m [.str (St r)] = rf o) (hb : ∀ q, o = some q → SF q) : fnD 5 (denFr m) [.str (St (45 :: r))] = rf (o.map fun q => -q) := by
  rw [fr_ev]
  have s1 := sl_st_hi (t := 45 :: r) 1 hl
  have s2 := sl_st_lo (t := 45 :: r) 1 hl
  have s1 : gSl (.str (St (45 :: r))) none (some 1) = .ok (.str (St [45])) := s1
  have s2 : gSl (.str (St (45 :: r))) (some 1) none = .ok (.str (St r)) := s2
  have g := gEq_st [45] [45]
  rw [decide_eq_true rfl] at g
  generalize St (45 :: r) = S at *
  generalize St r = R1 at *
  cases o with
  | none =>
    have hm : m [.str R1] = .ex "NoText" := hm
    show _ = R.ex "NoText"
    simp +decide only [denFr, zEV9, s1, s2, st_minus, g, hm, seq_ex]
  | some q =>
    have b := (hb q rfl).br
    have bn : Bd q.num 1700 := inferInstance
    have hm : m [.str R1] = .ok (.tuple [.int q.num, .int (q.den : Int)]) := hm
    show _ = R.ok (frD (-q))
    rw [← rf_neg]
    generalize q.num = N at *
    generalize (q.den : Int) = K at *
    simp +decide only [denFr, zEV9, s1, s2, st_minus, g, hm]
theorem fr_plain (m : List PD → R PD) (t : List Nat) (hl : t.length ≤ 480) (h : t.take 1 ≠ [45]) : fnD 5 (denFr m) [.str (St t)] = rf (frq t) := by
  rw [fr_ev]
  have s1 := sl_st_hi (t := t) 1 (by omega)
  have s1 : gSl (.str (St t)) none (some 1) = .ok (.str (St (t.take 1))) := s1
  have g := gEq_st (t.take 1) [45]
  rw [decide_eq_false h] at g
  by_cases h47 : 47 ∈ t
  · have ec := tw_cut h47
    have hn : 47 ∉ t.takeWhile (· != 47) := takeW_ne
    obtain ⟨a, ha⟩ : ∃ a, t.takeWhile (· != 47) = a := ⟨_, rfl⟩
    obtain ⟨b, hb⟩ : ∃ b, t.drop (a.length + 1) = b := ⟨_, rfl⟩
    have hf : frq t = (match numIn b with
      | none => none
      | some m => if m = 0 then none else (numIn a).map fun (n : Nat) => (((n : Int) : Rat) / ((m : Int) : Rat))) := by
      unfold frq
      rw [if_pos h47, ha, hb]
      try rfl
    rw [hf]
    rw [ha, hb] at ec
    rw [ha] at hn
    have la : a.length + b.length + 1 = t.length := by rw [ec]; simp; omega
    have pt := gm_part_yes (a := a) (b := b) hn (by rw [← ec]; omega)
    rw [← ec] at pt
    have n1 := number_in_ok a (by omega)
    have n2 := number_in_ok b (by omega)
    have ge := gEq_st [47] []
    rw [decide_eq_false (by decide)] at ge
    rw [← st_slash] at ge pt
    rw [← st_nil] at ge
    generalize St t = S at *
    generalize St (t.take 1) = S1 at *
    generalize St a = SA at *
    generalize St b = SB at *
    cases e2 : numIn b with
    | none =>
      rw [e2] at n2
      have n2 : m_number_in [.str SB] = .ex "NoText" := n2
      show _ = R.ex "NoText"
      simp +decide only [denFr, zEV9, s1, st_minus, g, ev_dMk, kDM_s, b2_ex1, b2_ex2, pt, ge, n2, seq_ex]
    | some k =>
      rw [e2] at n2
      have n2 : m_number_in [.str SB] = .ok (.int (k : Int)) := n2
      have bk : Bd (k : Int) 1700 := ⟨by
        have hk : numIn b = some k := e2
        unfold numIn at hk
        split at hk
        · rename_i w
          cases hk
          rw [Int.natAbs_natCast]
          exact Nat.lt_of_lt_of_le (dv_lt w.2 (by omega)) p1700
        · cases hk⟩
      by_cases k0 : k = 0
      · subst k0
        show _ = R.ex "NoText"
        simp +decide only [denFr, zEV9, s1, st_minus, g, ev_dMk, kDM_s, b2_ex1, b2_ex2, pt, ge, n2, seq_ex]
      · have kz : (k : Int) ≠ 0 := by omega
        cases e1 : numIn a with
        | none =>
          rw [e1] at n1
          have n1 : m_number_in [.str SA] = .ex "NoText" := n1
          show _ = rf (if k = 0 then none else none)
          rw [if_neg k0]
          show _ = R.ex "NoText"
          simp +decide only [denFr, zEV9, s1, st_minus, g, ev_dMk, kDM_s, b2_ex1, b2_ex2, pt, ge, n2, kz, n1]
        | some n =>
          rw [e1] at n1
          have n1 : m_number_in [.str SA] = .ok (.int (n : Int)) := n1
          have ef := fraction_fr (n : Int) (k : Int) kz (k := 1700) (by decide)
          show _ = rf (if k = 0 then none else some (((n : Int) : Rat) / ((k : Int) : Rat)))
          rw [if_neg k0]
          show _ = R.ok (frD (((n : Int) : Rat) / ((k : Int) : Rat)))
          generalize frD (((n : Int) : Rat) / ((k : Int) : Rat)) = F at *
          simp +decide only [denFr, zEV9, s1, st_minus, g, ev_dMk, kDM_s, b2_ex1, b2_ex2, pt, ge, n2, kz, n1, ef]
  · have hf : frq t = (numIn t).map fun (n : Nat) => ((n : Int) : Rat) := by
      unfold frq
      rw [if_neg h47]
    rw [hf]
    have pt := gm_part_no h47 (by omega)
    have n1 := number_in_ok t (by omega)
    have ge := gEq_st [] []
    rw [decide_eq_true rfl] at ge
    rw [← st_slash, ← st_nil] at pt
    rw [← st_nil] at ge
    generalize St (t.take 1) = S1 at *
    generalize St t = S at *
    cases e1 : numIn t with
    | none =>
      rw [e1] at n1
      have n1 : m_number_in [.str S] = .ex "NoText" := n1
      show _ = R.ex "NoText"
      simp +decide only [denFr, zEV9, s1, st_minus, g, ev_dMk, kDM_s, b2_ex1, b2_ex2, pt, ge, n1]
    | some n =>
      rw [e1] at n1
      have n1 : m_number_in [.str S] = .ok (.int (n : Int)) := n1
      show _ = R.ok (PyData.tuple [.int (n : Int), .int 1])
      simp +decide only [denFr, zEV9, s1, st_minus, g, ev_dMk, kDM_s, b2_ex1, b2_ex2, pt, ge, n1]
/-! ### the levels -/
theorem fr_res (q : Rat) {t : List Nat} (hl : t.length ≤ 480) (h : frq t = some q) : SF q := by
  have key : ∀ (s : List Nat) (n : Nat), s.length ≤ 480 → numIn s = some n → Bd (n : Int) 1600 := fun s n hs e => ⟨by
    unfold numIn at e
    split at e
    · rename_i w
      cases e
      rw [Int.natAbs_natCast]
      exact Nat.lt_of_lt_of_le (dv_lt w.2 hs) p1600.1
    · cases e⟩
  have sf : ∀ q : Rat, BR q 1600 1600 → SF q := fun q b => ⟨Nat.lt_of_lt_of_le b.num p1600.2, Nat.lt_of_lt_of_le b.den p1600.2⟩
  unfold frq at h
  by_cases h47 : 47 ∈ t
  · rw [if_pos h47] at h
    have lt1 : (t.takeWhile (· != 47)).length ≤ 480 := Nat.le_trans (List.takeWhile_sublist _).length_le hl
    have lt2 : (t.drop ((t.takeWhile (· != 47)).length + 1)).length ≤ 480 := by rw [List.length_drop]; omega
    cases e2 : numIn (t.drop ((t.takeWhile (· != 47)).length + 1)) with
    | none => rw [e2] at h; cases h
    | some k =>
      rw [e2] at h
      dsimp only at h
      by_cases k0 : k = 0
      · rw [if_pos k0] at h; cases h
      · rw [if_neg k0] at h
        cases e1 : numIn (t.takeWhile (· != 47)) with
        | none => rw [e1] at h; cases h
        | some n =>
          rw [e1] at h
          cases h
          exact sf _ (br_frac (by omega) (key _ _ lt1 e1) (key _ _ lt2 e2))
  · rw [if_neg h47] at h
    cases e1 : numIn t with
    | none => rw [e1] at h; cases h
    | some n =>
      rw [e1] at h
      cases h
      have b := key _ _ hl e1
      exact sf _ ⟨b.h, by show 1 < 2 ^ 1600; exact Nat.one_lt_two_pow (by decide)⟩
theorem fracIn_sf : ∀ {t : List Nat} {q : Rat}, t.length ≤ 480 → fracIn t = some q → SF q
  | [], _, _, h => by cases h
  | c :: t, q, hl, h => by
    unfold fracIn at h
    by_cases hc : c = 45
    · rw [if_pos hc] at h
      cases e : fracIn t with
      | none => rw [e] at h; cases h
      | some p =>
        rw [e] at h
        cases h
        exact (fracIn_sf (by rw [List.length_cons] at hl; omega) e).neg
    · rw [if_neg hc] at h
      exact fr_res q hl h
/-- one level more -/
theorem fr_level (m : List PD → R PD) (k : Nat) (hm : ∀ t : List Nat, t.length ≤ 480 → (t.takeWhile (· == 45)).length ≤ k → m [.str (St t)] = rf (fracIn t)) : ∀ t : List Nat, t.length ≤ 480 → (t.takeWhile (· == 45)).length ≤ k + 1 → fnD 5 (denFr m) [.str (St t)] = rf (fracIn t)
  | [], hl, hk => by
    rw [fr_plain m [] hl (by decide)]
    rfl
  | c :: t, hl, hk => by
    by_cases hc : c = 45
    · subst hc
      rw [List.takeWhile_cons, if_pos (show (45 == 45) = true from rfl), List.length_cons] at hk
      have hl2 : t.length ≤ 480 := by rw [List.length_cons] at hl; omega
      rw [fr_minus m t (fracIn t) (by omega) (hm t hl2 (by omega)) fun q h => fracIn_sf hl2 h]
      show rf ((fracIn t).map fun q => -q) = rf (fracIn (45 :: t))
      congr 1
    · rw [fr_plain m (c :: t) hl (by
        intro e
        have e : [c] = [45] := e
        injection e with e
        exact hc e)]
      congr 1
      show frq (c :: t) = if c = 45 then _ else frq (c :: t)
      rw [if_neg hc]
theorem fr1 : ∀ t : List Nat, t.length ≤ 480 → (t.takeWhile (· == 45)).length ≤ 0 → m_fraction_in__1 [.str (St t)] = rf (fracIn t) := fun t hl hk => by
  have e : m_fraction_in__1 = fnD 5 (denFr m_fraction_in__0) := rfl
  rw [e]
  cases t with
  | nil => rw [fr_plain _ [] hl (by decide)]; rfl
  | cons c t =>
    have hc : c ≠ 45 := fun w => by
      subst w
      rw [List.takeWhile_cons, if_pos (show (45 == 45) = true from rfl), List.length_cons] at hk
      omega
    rw [fr_plain _ (c :: t) hl (by
      intro e
      have e : [c] = [45] := e
      injection e with e
      exact hc e)]
    congr 1
    show frq (c :: t) = if c = 45 then _ else frq (c :: t)
    rw [if_neg hc]
theorem fraction_in_ok (t : List Nat) (hl : t.length ≤ 480) (hk : (t.takeWhile (· == 45)).length ≤ 3) : m_fraction_in [.str (St t)] = rf (fracIn t) := by
  have l2 := fr_level m_fraction_in__1 0 fr1
  have l3 := fr_level m_fraction_in__2 1 l2
  have l4 := fr_level m_fraction_in__3 2 l3
  exact l4 t hl hk
end DL

set_option Elab.async false
set_option linter.all false
set_option maxRecDepth 100000
set_option maxHeartbeats 1000000
set_option autoImplicit false
/-! lengths read -/
namespace DL
open PySem L2 MB
open NumText (AllDigits digitsVal)
theorem ahead_in_ok (t : List Nat) (hl : t.length ≤ 480) (hk : (t.takeWhile (· == 45)).length ≤ 3) : m_ahead_in [.str (St t)] = rf (aheadIn t) := by
  have ef := fraction_in_ok t hl hk
  have g1 := gEq_st t []
  have g2 := gEq_st t [45]
  have ng : gNeg (.int 1) = .ok (.int (-1)) := rfl
  rw [← st_nil] at g1
  rw [← st_minus] at g2
  unfold aheadIn
  by_cases h1 : t = []
  · rw [if_pos h1]
    rw [decide_eq_true h1] at g1
    show _ = R.ok (PyData.tuple [.int 1, .int 1])
    generalize St t = S at *
    simp +decide only [m_ahead_in, den_ahead_in, zEV9, g1]
  · rw [if_neg h1]
    rw [decide_eq_false h1] at g1
    by_cases h2 : t = [45]
    · rw [if_pos h2]
      rw [decide_eq_true h2] at g2
      show _ = R.ok (PyData.tuple [.int (-1), .int 1])
      generalize St t = S at *
      simp +decide only [m_ahead_in, den_ahead_in, zEV9, g1, g2, ng]
    · rw [if_neg h2]
      rw [decide_eq_false h2] at g2
      generalize St t = S at *
      cases e : fracIn t with
      | none =>
        rw [e] at ef
        have ef : m_fraction_in [.str S] = .ex "NoText" := ef
        show _ = R.ex "NoText"
        simp +decide only [m_ahead_in, den_ahead_in, zEV9, g1, g2, ef]
      | some q =>
        rw [e] at ef
        have ef : m_fraction_in [.str S] = .ok (frD q) := ef
        show _ = R.ok (frD q)
        generalize frD q = F at *
        simp +decide only [m_ahead_in, den_ahead_in, zEV9, g1, g2, ef]
theorem aheadIn_sf {t : List Nat} {q : Rat} (hl : t.length ≤ 480) (h : aheadIn t = some q) : SF q := by
  unfold aheadIn at h
  split at h
  · cases h; exact sf_int (z := 1) (by decide)
  · split at h
    · cases h; exact sf_int (z := -1) (by decide)
    · exact fracIn_sf hl h
theorem tw_count : ∀ t : List Nat, (t.takeWhile (· == 45)).length ≤ t.count 45
  | [] => Nat.le_refl 0
  | c :: t => by
    rw [List.takeWhile_cons, List.count_cons]
    by_cases h : c = 45
    · subst h
      have := tw_count t
      simp
      exact this
    · have hx : (c == 45) = false := by simpa using h
      rw [hx]
      simp
def rfI (c : Nat) (t : List Nat) : Int := match lastP c t with
  | some i => (i : Int)
  | none => -1
theorem rfind_ok (c : Nat) (t : List Nat) : gm_rfind (.str (St t)) (.str (St [c])) = .ok (.int (rfI c t)) := by
  unfold rfI
  cases e : lastP c t with
  | none => exact rfind_no (lastP_none.mp e)
  | some i =>
    obtain ⟨a, b, e1, e2, e3⟩ := lastP_some e
    have := rfind_yes (a := a) (b := b) e3
    rw [← e1, e2] at this
    exact this
/-- the greater of both places -/
def mxI (h : List Nat) : Int := if rfI 45 h > rfI 43 h then rfI 45 h else rfI 43 h
theorem mxI_part (h : List Nat) : (partP h = none ∧ mxI h ≤ 0) ∨ ∃ i : Nat, partP h = some i ∧ mxI h = (i : Int) ∧ 0 < i ∧ i < h.length := by
  have hl : ∀ {c i : Nat}, lastP c h = some i → i < h.length := fun {c i} e => by
    obtain ⟨a, b, e1, e2, _⟩ := lastP_some e
    rw [e1, ← e2]
    simp
  unfold partP mxI rfI
  cases e1 : lastP 43 h with
  | none =>
    cases e2 : lastP 45 h with
    | none =>
      left
      exact ⟨rfl, by decide⟩
    | some j =>
      have := hl e2
      dsimp only
      rw [if_pos (show (j : Int) > -1 by omega)]
      by_cases hj : j = 0
      · left
        exact ⟨if_pos hj, by omega⟩
      · right
        exact ⟨j, if_neg hj, rfl, by omega, this⟩
  | some i =>
    have hi := hl e1
    cases e2 : lastP 45 h with
    | none =>
      dsimp only
      rw [if_neg (show ¬ ((-1 : Int) > (i : Int)) by omega)]
      by_cases h0 : i = 0
      · left
        exact ⟨if_pos h0, by omega⟩
      · right
        exact ⟨i, if_neg h0, rfl, by omega, hi⟩
    | some j =>
      have hj := hl e2
      dsimp only
      by_cases c : (j : Int) > (i : Int)
      · rw [if_pos c, Nat.max_eq_right (by omega)]
        right
        exact ⟨j, if_neg (by omega), rfl, by omega, hj⟩
      · rw [if_neg c, Nat.max_eq_left (by omega)]
        by_cases h0 : i = 0
        · left
          exact ⟨if_pos h0, by omega⟩
        · right
          exact ⟨i, if_neg h0, rfl, by omega, hi⟩
def rl : Option (Rat × Rat) → R PD
  | some p => .ok (lnD p.1 p.2)
  | none => .ex "NoText"
theorem len_den (a : PD) : m_length_in [a] = (den_length_in [some (.d a), none, none, none, none, none]).fin := by
  unfold m_length_in
  rw [ev_fn (show [a].length ≤ 6 from Nat.le_of_ble_eq_true rfl)]
  rfl
theorem by_parts_sf {x y : Rat} (hx : SF x) (hy : SF y) : m_by_parts [frD x, frD y] = .ok (lnD x y) := by
  have b1 := hx.br
  have b2 := hy.br
  exact by_parts_ln x y (by decide) (by decide) (by decide)
section
variable (h : En → Fl)
theorem li_0 (S H M T : Str) (pt : gm_partition (.str S) (.str "r") = .ok (.tuple [.str H, .str M, .str T])) : (sSeq (sAsg (.many [1, 2, 3]) (dM isS gm_partition (dV 0) (dC (.str "r")))) (h)) [some (.d (.str S)), none, none, none, none, none] = h [some (.d (.str S)), some (.d (.str H)), some (.d (.str M)), some (.d (.str T)), none, none] := by
  simp +decide only [zEV9, ev_dMk, kDM_s, pt]
theorem li_1n (x0 x3 : Option SV) (H M : Str) (g : gEq (.str M) (.str "") = .ok (.bool true)) (e : m_fraction_in [.str H] = .ex "NoText") : ((sSeq (sIf (dT (d2 gEq (dV 2) (dC (.str "")))) (sRet (dA (gCall 2 [] m_by_parts) (dCons (dA (gCall 1 [] m_fraction_in) (dCons (dV 1) dNil)) (dCons (dC c_NOUGHT) dNil)))) (sNx)) (h)) [x0, some (.d (.str H)), some (.d (.str M)), x3, none, none]).fin = .ex "NoText" := by
  simp +decide only [zEV9, g, e, b2_ex1, b2_ex2, seq_ex]
theorem li_1y (x0 x3 : Option SV) (H M : Str) (F L : PD) (g : gEq (.str M) (.str "") = .ok (.bool true)) (e : m_fraction_in [.str H] = .ok F) (eb : m_by_parts [F, c_NOUGHT] = .ok L) : ((sSeq (sIf (dT (d2 gEq (dV 2) (dC (.str "")))) (sRet (dA (gCall 2 [] m_by_parts) (dCons (dA (gCall 1 [] m_fraction_in) (dCons (dV 1) dNil)) (dCons (dC c_NOUGHT) dNil)))) (sNx)) (h)) [x0, some (.d (.str H)), some (.d (.str M)), x3, none, none]).fin = .ok L := by
  simp +decide only [zEV9, g, e, eb]
theorem li_12 (x0 x3 : Option SV) (H M : Str) (i j : Int) (g : gEq (.str M) (.str "") = .ok (.bool false)) (r1 : gm_rfind (.str H) (.str "+") = .ok (.int i)) (r2 : gm_rfind (.str H) (.str "-") = .ok (.int j)) : (sSeq (sIf (dT (d2 gEq (dV 2) (dC (.str "")))) (sRet (dA (gCall 2 [] m_by_parts) (dCons (dA (gCall 1 [] m_fraction_in) (dCons (dV 1) dNil)) (dCons (dC c_NOUGHT) dNil)))) (sNx)) (sSeq (sSet 4 (dA gMax (dCons (dM isS gm_rfind (dV 1) (dC (.str "+"))) (dCons (dM isS gm_rfind (dV 1) (dC (.str "-"))) dNil)))) (h))) [x0, some (.d (.str H)), some (.d (.str M)), x3, none, none] = h [x0, some (.d (.str H)), some (.d (.str M)), x3, some (.d (.int (if j > i then j else i))), none] := by
  have gm : gMax [.int i, .int j] = .ok (.int (if j > i then j else i)) := rfl
  simp +decide only [zEV9, g, ev_dMk, kDM_s, r1, r2, gm]
theorem li_3n (x0 x2 x3 : Option SV) (H : Str) (k : Int) [Bd k 40] (hk : k ≤ 0) (e : m_ahead_in [.str H] = .ex "NoText") : ((sSeq (sIf (dT (d2 gLe (dV 4) (dC (.int 0)))) (sRet (dA (gCall 2 [] m_by_parts) (dCons (dC c_NOUGHT) (dCons (dA (gCall 1 [] m_ahead_in) (dCons (dV 1) dNil)) dNil)))) (sNx)) (h)) [x0, some (.d (.str H)), x2, x3, some (.d (.int k)), none]).fin = .ex "NoText" := by
  simp +decide only [zEV9, hk, e, b2_ex1, b2_ex2, seq_ex]
theorem li_3y (x0 x2 x3 : Option SV) (H : Str) (k : Int) [Bd k 40] (F L : PD) (hk : k ≤ 0) (e : m_ahead_in [.str H] = .ok F) (eb : m_by_parts [c_NOUGHT, F] = .ok L) : ((sSeq (sIf (dT (d2 gLe (dV 4) (dC (.int 0)))) (sRet (dA (gCall 2 [] m_by_parts) (dCons (dC c_NOUGHT) (dCons (dA (gCall 1 [] m_ahead_in) (dCons (dV 1) dNil)) dNil)))) (sNx)) (h)) [x0, some (.d (.str H)), x2, x3, some (.d (.int k)), none]).fin = .ok L := by
  simp +decide only [zEV9, hk, e, eb]
theorem li_4n (x0 x2 x3 : Option SV) (H H2 : Str) (k : Int) [Bd k 40] (hk : ¬ k ≤ 0) (sl : gSl (.str H) (some (k + 1)) none = .ok (.str H2)) (e : m_ahead_in [.str H2] = .ex "NoText") : ((sSeq (sIf (dT (d2 gLe (dV 4) (dC (.int 0)))) (sRet (dA (gCall 2 [] m_by_parts) (dCons (dC c_NOUGHT) (dCons (dA (gCall 1 [] m_ahead_in) (dCons (dV 1) dNil)) dNil)))) (sNx)) (sSeq (sSet 5 (dA (gCall 1 [] m_ahead_in) (dCons (dSl (dV 1) (dP (d2 gAdd (dV 4) (dC (.int 1)))) (dP0)) dNil))) (h))) [x0, some (.d (.str H)), x2, x3, some (.d (.int k)), none]).fin = .ex "NoText" := by
  simp +decide only [zEV9, hk, sl, e, b2_ex1, b2_ex2, seq_ex]
theorem li_4y (x0 x2 x3 : Option SV) (H H2 : Str) (k : Int) [Bd k 40] (F : PD) (hk : ¬ k ≤ 0) (sl : gSl (.str H) (some (k + 1)) none = .ok (.str H2)) (e : m_ahead_in [.str H2] = .ok F) : (sSeq (sIf (dT (d2 gLe (dV 4) (dC (.int 0)))) (sRet (dA (gCall 2 [] m_by_parts) (dCons (dC c_NOUGHT) (dCons (dA (gCall 1 [] m_ahead_in) (dCons (dV 1) dNil)) dNil)))) (sNx)) (sSeq (sSet 5 (dA (gCall 1 [] m_ahead_in) (dCons (dSl (dV 1) (dP (d2 gAdd (dV 4) (dC (.int 1)))) (dP0)) dNil))) (h))) [x0, some (.d (.str H)), x2, x3, some (.d (.int k)), none] = h [x0, some (.d (.str H)), x2, x3, some (.d (.int k)), some (.d F)] := by
  simp +decide only [zEV9, hk, sl, e]
theorem li_5y (x0 x2 x3 : Option SV) (H : Str) (k n m : Int) [Bd k 40] [Bd n 1700] (i : gIx (.str H) (.int k) = .ok (.str "-")) : (sSeq (sIf (dT (d2 gEq (d2 gIx (dV 1) (dV 4)) (dC (.str "-")))) (sSet 5 (dA gTupD (dCons (d2 gSub (dC (.int 0)) (d2 gIx (dV 5) (dC (.int 0)))) (dCons (d2 gIx (dV 5) (dC (.int 1))) dNil)))) (sNx)) (h)) [x0, some (.d (.str H)), x2, x3, some (.d (.int k)), some (.d (.tuple [.int n, .int m]))] = h [x0, some (.d (.str H)), x2, x3, some (.d (.int k)), some (.d (.tuple [.int (0 - n), .int m]))] := by
  have g : gEq (.str "-") (.str "-") = .ok (.bool true) := by
    have := gEq_st [45] [45]
    rw [decide_eq_true rfl, ← st_minus] at this
    exact this
  simp +decide only [zEV9, i, g]
theorem li_5n (x0 x2 x3 x5 : Option SV) (H C : Str) (k : Int) [Bd k 40] (i : gIx (.str H) (.int k) = .ok (.str C)) (g : gEq (.str C) (.str "-") = .ok (.bool false)) : (sSeq (sIf (dT (d2 gEq (d2 gIx (dV 1) (dV 4)) (dC (.str "-")))) (sSet 5 (dA gTupD (dCons (d2 gSub (dC (.int 0)) (d2 gIx (dV 5) (dC (.int 0)))) (dCons (d2 gIx (dV 5) (dC (.int 1))) dNil)))) (sNx)) (h)) [x0, some (.d (.str H)), x2, x3, some (.d (.int k)), x5] = h [x0, some (.d (.str H)), x2, x3, some (.d (.int k)), x5] := by
  simp +decide only [zEV9, i, g]
theorem li_6n (x0 x2 x3 x5 : Option SV) (H H1 : Str) (k : Int) [Bd k 40] (sl : gSl (.str H) none (some k) = .ok (.str H1)) (e : m_fraction_in [.str H1] = .ex "NoText") : ((sRet (dA (gCall 2 [] m_by_parts) (dCons (dA (gCall 1 [] m_fraction_in) (dCons (dSl (dV 1) (dP0) (dP (dV 4))) dNil)) (dCons (dV 5) dNil)))) [x0, some (.d (.str H)), x2, x3, some (.d (.int k)), x5]).fin = .ex "NoText" := by
  simp +decide only [zEV9, sl, e, b2_ex1, b2_ex2, seq_ex]
theorem li_6y (x0 x2 x3 : Option SV) (H H1 : Str) (k : Int) [Bd k 40] (F G L : PD) (sl : gSl (.str H) none (some k) = .ok (.str H1)) (e : m_fraction_in [.str H1] = .ok F) (eb : m_by_parts [F, G] = .ok L) : ((sRet (dA (gCall 2 [] m_by_parts) (dCons (dA (gCall 1 [] m_fraction_in) (dCons (dSl (dV 1) (dP0) (dP (dV 4))) dNil)) (dCons (dV 5) dNil)))) [x0, some (.d (.str H)), x2, x3, some (.d (.int k)), some (.d G)]).fin = .ok L := by
  simp +decide only [zEV9, sl, e, eb]
end
theorem count_sub {a b : List Nat} (h : a.Sublist b) : a.count 45 ≤ b.count 45 := h.count_le 45
/-- what length_in tells of a text with few strokes -/
theorem length_in_ok (t : List Nat) (hl : t.length ≤ 480) (hc : t.count 45 ≤ 2) : m_length_in [.str (St t)] = rl (lenIn t) := by
  have lead : ∀ s : List Nat, s.Sublist t → s.length ≤ 480 ∧ (s.takeWhile (· == 45)).length ≤ 3 := fun s hs => by
    have := tw_count s
    have := count_sub hs
    have := hs.length_le
    exact ⟨by omega, by omega⟩
  have z0 : c_NOUGHT = frD 0 := rfl
  have sf0 : SF (0 : Rat) := sf_int (z := 0) (by decide)
  rw [len_den]
  unfold den_length_in
  by_cases hr : 114 ∈ t
  · have ec := tw_cut hr
    have hn : 114 ∉ t.takeWhile (· != 114) := takeW_ne
    have hsub : (t.takeWhile (· != 114)).Sublist t := List.takeWhile_sublist _
    obtain ⟨H, hH⟩ : ∃ H, t.takeWhile (· != 114) = H := ⟨_, rfl⟩
    have eL : lenIn t = (match partP H with
      | none => (aheadIn H).map fun y => (0, y)
      | some i => match aheadIn (H.drop (i + 1)), fracIn (H.take i) with
        | some y, some x => some (x, if H[i]? = some 45 then -y else y)
        | _, _ => none) := by
      unfold lenIn
      rw [if_pos hr, hH]
      try rfl
    rw [hH] at ec hn hsub
    obtain ⟨T, hT⟩ : ∃ T, t.drop (H.length + 1) = T := ⟨_, rfl⟩
    rw [hT] at ec
    have pt := gm_part_yes (a := H) (b := T) hn (by rw [← ec]; omega)
    rw [← ec, ← st_r] at pt
    have lH := lead H hsub
    have hHl : H.length ≤ 480 := lH.1
    have gm := gEq_st [114] []
    rw [decide_eq_false (by decide), ← st_r, ← st_nil] at gm
    have r1 := rfind_ok 43 H
    have r2 := rfind_ok 45 H
    rw [← st_plus] at r1
    rw [← st_minus] at r2
    rw [eL, li_0 _ _ _ _ _ pt, li_12 _ _ _ _ _ (rfI 43 H) (rfI 45 H) gm r1 r2]
    have em : (if rfI 45 H > rfI 43 H then rfI 45 H else rfI 43 H) = mxI H := rfl
    rw [em]
    rcases mxI_part H with ⟨hp, h0⟩ | ⟨i, hp, hi, i0, iL⟩
    · rw [hp]
      have hb : Bd (mxI H) 40 := ⟨by
        have : -1 ≤ mxI H := by
          have q : ∀ c, -1 ≤ rfI c H := fun c => by unfold rfI; split <;> omega
          have q1 := q 43
          have q2 := q 45
          unfold mxI
          split <;> omega
        have : (2 : Nat) ^ 40 = 1099511627776 := by decide
        omega⟩
      have ea := ahead_in_ok H lH.1 lH.2
      cases e : aheadIn H with
      | none =>
        rw [e] at ea
        exact li_3n _ _ _ _ _ (mxI H) h0 ea
      | some y =>
        rw [e] at ea
        have ea : m_ahead_in [.str (St H)] = .ok (frD y) := ea
        have eb := by_parts_sf sf0 (aheadIn_sf lH.1 e)
        rw [← z0] at eb
        exact li_3y _ _ _ _ _ (mxI H) _ _ h0 ea eb
    · rw [hp, hi]
      have hb : Bd (i : Int) 40 := ⟨by
        have : (2 : Nat) ^ 40 = 1099511627776 := by decide
        omega⟩
      have hk : ¬ (i : Int) ≤ 0 := by omega
      have s1 := sl_st_lo (t := H) (i + 1) (by omega)
      have s1 : gSl (.str (St H)) (some ((i : Int) + 1)) none = .ok (.str (St (H.drop (i + 1)))) := s1
      have s2 := sl_st_hi (t := H) i (by omega)
      have lD := lead (H.drop (i + 1)) ((List.drop_sublist _ _).trans hsub)
      have lT := lead (H.take i) ((List.take_sublist _ _).trans hsub)
      have ea := ahead_in_ok _ lD.1 lD.2
      have ef := fraction_in_ok _ lT.1 lT.2
      have ix := ix_st (t := H) (k := i) (c := H[i]) (List.getElem?_eq_getElem iL) (by omega)
      have gI : H[i]? = some H[i] := List.getElem?_eq_getElem iL
      dsimp only
      cases e : aheadIn (H.drop (i + 1)) with
      | none =>
        rw [e] at ea
        exact li_4n _ _ _ _ _ _ (i : Int) hk s1 ea
      | some y =>
        rw [e] at ea
        have ea : m_ahead_in [.str (St (H.drop (i + 1)))] = .ok (frD y) := ea
        have sy := aheadIn_sf lD.1 e
        have by' := sy.br
        have bn : Bd y.num 1700 := inferInstance
        rw [li_4y _ _ _ _ _ _ (i : Int) _ hk s1 ea]
        have five : ∀ h : En → Fl, ∃ G : Rat, (G = if H[i]? = some 45 then -y else y) ∧ SF G ∧ (sSeq (sIf (dT (d2 gEq (d2 gIx (dV 1) (dV 4)) (dC (.str "-")))) (sSet 5 (dA gTupD (dCons (d2 gSub (dC (.int 0)) (d2 gIx (dV 5) (dC (.int 0)))) (dCons (d2 gIx (dV 5) (dC (.int 1))) dNil)))) (sNx)) (h)) [some (.d (.str (St t))), some (.d (.str (St H))), some (.d (.str "r")), some (.d (.str (St T))), some (.d (.int (i : Int))), some (.d (frD y))] = h [some (.d (.str (St t))), some (.d (.str (St H))), some (.d (.str "r")), some (.d (.str (St T))), some (.d (.int (i : Int))), some (.d (frD G))] := fun h => by
          by_cases c : H[i] = 45
          · rw [gI, c, if_pos rfl]
            refine ⟨-y, rfl, sy.neg, ?_⟩
            rw [c, ← st_minus] at ix
            rw [← rf_neg]
            exact li_5y h _ _ _ _ (i : Int) y.num (y.den : Int) ix
          · rw [gI, if_neg (fun w => c (Option.some.inj w))]
            refine ⟨y, rfl, sy, ?_⟩
            have g := gEq_st [H[i]] [45]
            rw [decide_eq_false (fun w => c (by injection w)), ← st_minus] at g
            exact li_5n h _ _ _ _ _ _ (i : Int) ix g
        obtain ⟨G, hG, sG, e5⟩ := five (sRet (dA (gCall 2 [] m_by_parts) (dCons (dA (gCall 1 [] m_fraction_in) (dCons (dSl (dV 1) (dP0) (dP (dV 4))) dNil)) (dCons (dV 5) dNil))))
        rw [e5]
        cases e1 : fracIn (H.take i) with
        | none =>
          rw [e1] at ef
          exact li_6n _ _ _ _ _ _ (i : Int) s2 ef
        | some x =>
          rw [e1] at ef
          have ef : m_fraction_in [.str (St (H.take i))] = .ok (frD x) := ef
          show _ = rl (some (x, if H[i]? = some 45 then -y else y))
          rw [← hG]
          exact li_6y _ _ _ _ _ (i : Int) _ _ _ s2 ef (by_parts_sf (fracIn_sf lT.1 e1) sG)
  · have eL : lenIn t = (fracIn t).map fun x => (x, 0) := by
      unfold lenIn
      rw [if_neg hr]
    have pt := gm_part_no hr (by omega)
    have lt := lead t (List.Sublist.refl t)
    have gm := gEq_st [] []
    rw [decide_eq_true rfl, ← st_nil] at gm
    rw [← st_r, ← st_nil] at pt
    have ef := fraction_in_ok t lt.1 lt.2
    rw [eL, li_0 _ _ _ _ _ pt]
    cases e : fracIn t with
    | none =>
      rw [e] at ef
      exact li_1n _ _ _ _ _ gm ef
    | some x =>
      rw [e] at ef
      have ef : m_fraction_in [.str (St t)] = .ok (frD x) := ef
      have eb := by_parts_sf (fracIn_sf lt.1 e) sf0
      rw [← z0] at eb
      exact li_1y _ _ _ _ _ _ _ gm ef eb
theorem lenIn_sf {t : List Nat} {p : Rat × Rat} (hl : t.length ≤ 480) (h : lenIn t = some p) : SF p.1 ∧ SF p.2 := by
  have sf0 : SF (0 : Rat) := sf_int (z := 0) (by decide)
  unfold lenIn at h
  by_cases hr : 114 ∈ t
  · rw [if_pos hr] at h
    have hsub : (t.takeWhile (· != 114)).length ≤ t.length := (List.takeWhile_sublist _).length_le
    generalize t.takeWhile (· != 114) = H at *
    dsimp only at h
    cases e : partP H with
    | none =>
      rw [e] at h
      cases e2 : aheadIn H with
      | none => rw [e2] at h; cases h
      | some y =>
        rw [e2] at h
        cases h
        exact ⟨sf0, aheadIn_sf (by omega) e2⟩
    | some i =>
      rw [e] at h
      dsimp only at h
      cases e2 : aheadIn (H.drop (i + 1)) with
      | none => rw [e2] at h; cases h
      | some y =>
        cases e3 : fracIn (H.take i) with
        | none => rw [e2, e3] at h; cases h
        | some x =>
          rw [e2, e3] at h
          cases h
          have sy := aheadIn_sf (t := H.drop (i + 1)) (by rw [List.length_drop]; omega) e2
          refine ⟨fracIn_sf (t := H.take i) (by rw [List.length_take]; omega) e3, ?_⟩
          dsimp only
          split
          · exact sy.neg
          · exact sy
  · rw [if_neg hr] at h
    cases e : fracIn t with
    | none => rw [e] at h; cases h
    | some x =>
      rw [e] at h
      cases h
      exact ⟨fracIn_sf hl e, sf0⟩
/-- what read_length tells of a text -/
theorem read_length_ok (d : Int) (hd : 0 ≤ d ∧ d ≤ 100) (t : List Nat) (hl : t.length ≤ 480) : m_read_length [.int d, .str (St t)] = rl (readL d t) := by
  have gi : gIsi "str" (.str (St t)) = .ok (.bool true) := rfl
  have gc := gm_count_st t 45
  rw [← st_minus] at gc
  have bc : Bd ((t.count 45 : Nat) : Int) 40 := ⟨by
    have := List.count_le_length (a := 45) (l := t)
    have : (2 : Nat) ^ 40 = 1099511627776 := by decide
    omega⟩
  unfold readL
  by_cases c : 2 < t.count 45
  · rw [if_pos c]
    have c2 : ((t.count 45 : Nat) : Int) > 2 := by omega
    show _ = R.ex "NoText"
    generalize ((t.count 45 : Nat) : Int) = K at *
    generalize St t = S at *
    simp +decide only [m_read_length, den_read_length, zEV9, gi, ev_dMk, kDM_s, gc, c2, seq_ex]
  · rw [if_neg c]
    have c2 : ¬ ((t.count 45 : Nat) : Int) > 2 := by omega
    have el := length_in_ok t hl (by omega)
    cases e : lenIn t with
    | none =>
      rw [e] at el
      have el : m_length_in [.str (St t)] = .ex "NoText" := el
      show _ = R.ex "NoText"
      generalize ((t.count 45 : Nat) : Int) = K at *
      generalize St t = S at *
      simp +decide only [m_read_length, den_read_length, zEV9, gi, ev_dMk, kDM_s, gc, c2, el, seq_ex]
    | some p =>
      rw [e] at el
      have el : m_length_in [.str (St t)] = .ok (lnD p.1 p.2) := el
      obtain ⟨s1, s2⟩ := lenIn_sf hl e
      have es := shown_length_ok d hd s1 s2
      have ne := gNe_st (Tlt d p.1 p.2) t
      dsimp only
      by_cases q : Tlt d p.1 p.2 = t
      · rw [if_pos q]
        rw [decide_eq_true q, Bool.not_true] at ne
        show _ = R.ok (lnD p.1 p.2)
        generalize ((t.count 45 : Nat) : Int) = K at *
        generalize St t = S at *
        generalize St (Tlt d p.1 p.2) = S2 at *
        generalize lnD p.1 p.2 = L at *
        simp +decide only [m_read_length, den_read_length, zEV9, gi, ev_dMk, kDM_s, gc, c2, el, es, ne]
      · rw [if_neg q]
        rw [decide_eq_false q, Bool.not_false] at ne
        show _ = R.ex "NoText"
        generalize ((t.count 45 : Nat) : Int) = K at *
        generalize St t = S at *
        generalize St (Tlt d p.1 p.2) = S2 at *
        generalize lnD p.1 p.2 = L at *
        simp +decide only [m_read_length, den_read_length, zEV9, gi, ev_dMk, kDM_s, gc, c2, el, es, ne, seq_ex]
end DL

set_option Elab.async false
set_option linter.all false
set_option maxRecDepth 100000
set_option maxHeartbeats 1000000
set_option autoImplicit false
/-! k22 -/
namespace DL
open PySem L2 MB
theorem roots99 : ∀ d ∈ rootsL, d ≤ 99 := by decide
theorem law_root4_ok (ns : List Int) : ∃ d : Int, m_law_root_v4 [.list (ns.map PyData.int)] = .ok (.int d) ∧ Root d ∧ 0 ≤ d ∧ d ≤ 99 ∧ d + 1 ≤ 100 := by
  obtain ⟨c, ec⟩ := law_cell_any ns
  obtain ⟨z, ez, z0, bz⟩ := law_mixed_ok c 0 (bk := ⟨by decide⟩)
  have hz : z % 98 = ((z % 98).toNat : Int) := by omega
  have hf := roots98 ⟨(z % 98).toNat, by omega⟩
  simp only [← hz] at hf
  have hin : gIn false (.int (2 + z % 98)) (.list [.int 4, .int 9, .int 16, .int 25, .int 36, .int 49, .int 64, .int 81]) = .ok (.bool ((([4, 9, 16, 25, 36, 49, 64, 81] : List Int).any fun y => y == 2 + z % 98) != false)) := by
    rw [lst8]; exact in_l
  rcases hf with ⟨h1, h2⟩ | ⟨h1, h2⟩
  · have r := roots_ok _ h2
    have r9 := roots99 _ h2
    refine ⟨2 + z % 98 + 1, ?_, r.1, by omega, r9, by omega⟩
    rw [h1] at hin
    simp +decide only [m_law_root_v4, den_law_root_v4, zEV9, ec, ez, hin]
  · have r := roots_ok _ h2
    have r9 := roots99 _ h2
    refine ⟨2 + z % 98, ?_, r.1, by omega, r9, by omega⟩
    rw [h1] at hin
    simp +decide only [m_law_root_v4, den_law_root_v4, zEV9, ec, ez, hin]
theorem it84 (ns : List Int) (L M : Int) (n : Nat) (ρ : En) (hln : gLen [.list (ns.map PyData.int)] = .ok (.int L)) (hm : gMin [.int L, .int 84] = .ok (.int M)) (hr : gR2 [.int 1, .int M] = .ok (rng 1 n)) : (iA gR2 (dCons (dC (.int 1)) (dCons (dA gMin (dCons (dA gLen (dCons (dV 0) (dNil))) (dCons (dC (.int 84)) (dNil)))) (dNil)))) (some (.d (.list (ns.map PyData.int))) :: ρ) = .ok (rng 1 n) := by
  simp +decide only [zEV9, hln, hm, hr]
/-- for k in range(1, min(len(script), 84)) -/
theorem for84 (ns : List Int) (hl : ns.length ≤ 63) (D : Option SV) (lb : En → Fl) (n : Nat) (h : En → Fl) (hb : ∀ k : Nat, 1 ≤ k → k < ns.length → ∀ ys : En, ys.length = n → Keeps [some (.d (.list (ns.map PyData.int))), D] (n + 1) (lb ([some (.d (.list (ns.map PyData.int))), D] ++ some (.d (.int (k : Nat))) :: ys))) :
    ∃ ys : En, ys.length = n + 1 ∧ sSeq (sFor (iA gR2 (dCons (dC (.int 1)) (dCons (dA gMin (dCons (dA gLen (dCons (dV 0) (dNil))) (dCons (dC (.int 84)) (dNil)))) (dNil)))) (.one 2) lb) h ([some (.d (.list (ns.map PyData.int))), D] ++ List.replicate (n + 1) none) = h ([some (.d (.list (ns.map PyData.int))), D] ++ ys) := by
  have hln : gLen [.list (ns.map PyData.int)] = .ok (.int (ns.length : Int)) := by rw [len_l, List.length_map]
  have hm : gMin [.int (ns.length : Int), .int 84] = .ok (.int (ns.length : Int)) := gMin_l (by omega)
  have hr := r2_z 1 (ns.length : Int) (by decide) (by decide) (by omega) (by omega)
  have K := for_keep (g := lb) (pre := [some (.d (.list (ns.map PyData.int))), D]) (n := n + 1) (i := 2) (Nat.le_refl 2) (rng 1 ((ns.length : Int) - 1).toNat) (List.replicate (n + 1) none) (by simp) (by
    intro v hv ys hy
    unfold rng at hv
    obtain ⟨i, hi, rfl⟩ := List.mem_map.mp hv
    have hi' := List.mem_range.mp hi
    have ei : (1 : Int) + (i : Nat) = ((1 + i : Nat) : Int) := by omega
    rw [ei]
    match ys, hy with
    | y :: ys, hy =>
      have hy : ys.length + 1 = n + 1 := hy
      exact hb (1 + i) (by omega) (by omega) ys (by omega))
  obtain ⟨ys, hy, e⟩ := K
  have hi := it84 ns (ns.length : Int) (ns.length : Int) _ (D :: List.replicate (n + 1) none) hln hm hr
  refine ⟨ys, hy, ?_⟩
  rw [ev_seq]
  have hf : sFor (iA gR2 (dCons (dC (.int 1)) (dCons (dA gMin (dCons (dA gLen (dCons (dV 0) (dNil))) (dCons (dC (.int 84)) (dNil)))) (dNil)))) (.one 2) lb ([some (.d (.list (ns.map PyData.int))), D] ++ List.replicate (n + 1) none) = .nx ([some (.d (.list (ns.map PyData.int))), D] ++ ys) := by
    rw [ev_for]
    rw [show ([some (.d (.list (ns.map PyData.int))), D] ++ List.replicate (n + 1) none : En) = some (.d (.list (ns.map PyData.int))) :: (D :: List.replicate (n + 1) none) from rfl, hi]
    exact e
  rw [hf, seq_nx]
end DL

set_option Elab.async false
set_option linter.all false
set_option maxRecDepth 100000
set_option maxHeartbeats 2000000
set_option autoImplicit false
/-! what k25, k27, k51-k54, k73-k76 draw: digits, root, fractions, sides, heaps -/
namespace DL
open PySem L2 MB
/-! ### digits -/
end DL

set_option Elab.async false
set_option linter.all false
set_option maxRecDepth 100000
set_option maxHeartbeats 2000000
set_option autoImplicit false
namespace DL
open PySem L2 MB
/-- a drawn fraction: what it is over -/
def Fq (great : Bool) (x : Rat) : Prop := ∃ a b : Int, 0 < b ∧ x = (a : Rat) / (b : Rat) ∧ (if great = true then Bd a 100 ∧ Bd b 41 else Bd a 10 ∧ Bd b 6)
end DL

set_option Elab.async false
set_option linter.all false
set_option maxRecDepth 100000
set_option maxHeartbeats 2000000
set_option autoImplicit false
namespace DL
open PySem L2 MB
theorem Fq.bd {great : Bool} {x : Rat} (h : Fq great x) : Bd x.num 100 ∧ Bd (x.den : Int) 41 := by
  obtain ⟨a, b, hb, rfl, h⟩ := h
  have ba : Bd a 100 ∧ Bd b 41 := by
    cases great
    · rw [if_neg (by decide)] at h; exact ⟨h.1.mono (by decide), h.2.mono (by decide)⟩
    · rw [if_pos rfl] at h; exact h
  have k := br_frac (by omega : b ≠ 0) ba.1 ba.2
  exact ⟨inferInstance, inferInstance⟩
theorem Fq.br {x : Rat} (h : Fq false x) : BR x 10 6 := by
  obtain ⟨a, b, hb, rfl, h⟩ := h
  rw [if_neg (by decide)] at h
  exact br_frac (by omega) h.1 h.2
theorem Fq.zero {great : Bool} : Fq great 0 := ⟨0, 1, by decide, by grind, by cases great <;> exact ⟨⟨by decide⟩, ⟨by decide⟩⟩⟩
theorem Fq.one {great : Bool} : Fq great 1 := ⟨1, 1, by decide, by
  have : ((1 : Int) : Rat) = 1 := rfl
  rw [this]; grind, by cases great <;> exact ⟨⟨by decide⟩, ⟨by decide⟩⟩⟩
theorem Fq.neg {great : Bool} {x : Rat} (h : Fq great x) : Fq great (-x) := by
  obtain ⟨a, b, hb, rfl, h⟩ := h
  refine ⟨-a, b, hb, by rw [Rat.intCast_neg]; grind, ?_⟩
  cases great
  · rw [if_neg (by decide)] at h ⊢
    have := h.1
    exact ⟨bd_neg, h.2⟩
  · rw [if_pos rfl] at h ⊢
    have := h.1
    exact ⟨bd_neg, h.2⟩
/-- a drawn side -/
structure SdF (d : Int) (great : Bool) (x y : Rat) : Prop where
  fx : Fq great x
  fy : Fq great y
  pq : PosQ d x y
/-! ### lengths, heaps -/
/-- a drawn board -/
def DF (d : Int) (b : Bo) : Prop := SdF d false b.x b.y ∧ SdF d false b.u b.v
end DL

set_option Elab.async false
set_option linter.all false
set_option maxRecDepth 100000
set_option maxHeartbeats 2000000
set_option autoImplicit false
/-! the law's tables, compared -/
namespace DL
open PySem L2 MB
/-- the law's table of a heap -/
structure TabI (bs : List Bo) (B r0 r1 r2 r3 : Int) : Prop where
  e : m_law_tab [.list (bs.map boD)] = .ok (.list [.list [.int r0, .int r1, .int r2, .int r3], .int B])
  B0 : 0 < B
  bB : Bd B 1000000
  v0 : (r0 : Rat) = B * sumB (pr 0) bs
  v1 : (r1 : Rat) = B * sumB (pr 1) bs
  v2 : (r2 : Rat) = B * sumB (pr 2) bs
  v3 : (r3 : Rat) = B * sumB (pr 3) bs
  b0 : Bd r0 1000000
  b1 : Bd r1 1000000
  b2 : Bd r2 1000000
  b3 : Bd r3 1000000
end DL

set_option Elab.async false
set_option linter.all false
set_option maxRecDepth 100000
set_option maxHeartbeats 4000000
set_option autoImplicit false
/-! k51: what the law asks of a normal heap -/
namespace DL
open PySem L2 MB
/-! ### what is due -/
end DL

set_option Elab.async false
set_option linter.all false
set_option maxRecDepth 100000
set_option maxHeartbeats 4000000
set_option autoImplicit false
/-! k51: the heap told is right; the bases behind -/
namespace DL
open PySem L2 MB
section
variable {d D : Int} {j n : Nat} {al : List Bo} {N : Int} {b : Ba}
theorem Srv.nxt (hd : Root d) (s : Srv d D j n al N b) : Srv d D j (n + 1) al N (b.nxt d) := by
  have b1 := s.bb.x; have b2 := s.bb.y; have b3 := s.bb.u; have b4 := s.bb.v
  have sb : ∀ {x y : Int}, Bd x (n + 2) → Bd y (n + 2) → Bd (x - y) (n + 1 + 2) := fun {x y} h1 h2 => Bd.mono (inferInstance : Bd (x - y) (max (n + 2) (n + 2) + 1)) (by rw [Nat.max_self]; omega)
  refine ⟨s.N0, s.bN, s.bi.nxt hd, ?_, s.dv, fun bd h => ⟨(s.zb bd h).1.mono (by omega), (s.zb bd h).2.mono (by omega)⟩, fun bd h => (s.sv bd h).nxt⟩
  by_cases c : PZ d (b.X - b.U) (b.Y - b.V)
  · rw [nxt_pos c]
    exact ⟨sb b1 b3, sb b2 b4, b3.mono (by omega), b4.mono (by omega)⟩
  · rw [nxt_neg c]
    exact ⟨b1.mono (by omega), b2.mono (by omega), sb b3 b1, sb b4 b2⟩
end
end DL

set_option Elab.async false
set_option linter.all false
set_option maxRecDepth 100000
set_option maxHeartbeats 4000000
set_option autoImplicit false
/-! law k51 -/
namespace DL
open PySem L2 MB
end DL

set_option Elab.async false
set_option linter.all false
set_option maxRecDepth 100000
set_option maxHeartbeats 2000000
set_option autoImplicit false
/-! deeds by small numbers (printed by mkk54.py) -/
namespace DL
open PySem L2 MB
/-- a cut at a fraction -/
structure CutT (d : Int) (x y p q : Rat) : Prop where
  pos : PosQ d p q
  less : PosQ d (x - p) (y - q)
  from_ : ∃ t b : Int, 0 < t ∧ t < b ∧ b ≤ 10 ∧ p = x * t / b ∧ q = y * t / b
theorem CutT.ov {d : Int} {x y p q : Rat} (hC : CutT d x y p q) {D : Int} {n : Nat} (hD : 0 < D) (hx : Ov D n x y) : ∃ k : Int, 0 < k ∧ Bd k 4 ∧ Ov (D * k) (n + 4) p q := by
  obtain ⟨t, b, h1, h2, h3, rfl, rfl⟩ := hC.from_
  have t4 : (2 : Nat) ^ 4 = 16 := by decide
  have bb : Bd b 4 := ⟨by omega⟩
  have bt : Bd t 4 := ⟨by omega⟩
  exact ⟨b, by omega, bb, ((hx.mul bt).div (by omega) (by omega))⟩
def De.small (d : Int) : De → List Bo → Prop
  | .cr al _ p q, [b] => if al = true then CutT d b.u b.v p q else CutT d b.x b.y p q
  | .gl tp _ _, [b, c] => if tp = true then b.x = c.x ∧ b.y = c.y else b.u = c.u ∧ b.v = c.v
  | .sh _ _ m, [_] => 0 < m ∧ m ≤ 10
  | .tu _, [_] => True
  | _, _ => False
theorem De.small_fit {d : Int} {δ : De} {bs : List Bo} (h : δ.small d bs) : δ.fit d bs := by
  cases δ with
  | cr al i p q =>
    match bs, h with
    | [b], h =>
      cases al
      · exact ⟨CutT.pos h, CutT.less h⟩
      · exact ⟨CutT.pos h, CutT.less h⟩
  | gl tp i j =>
    match bs, h with
    | [b, c], h => exact h
  | sh sp i k =>
    match bs, h with
    | [b], h => exact h.1
  | tu i =>
    match bs, h with
    | [b], h => trivial
theorem step_new10 {d : Int} (hd : Root d) {δ : De} {bs : List Bo} (h : δ.small d bs) {D : Int} {n j : Nat} (hD : 0 < D) (bD : Bd D j) (hb : ∀ b ∈ bs, PosB d b ∧ OvB D n b) :
    ∃ k : Int, 0 < k ∧ Bd k 4 ∧ (∀ b ∈ δ.new bs, PosB d b ∧ OvB (D * k) (n + 9) b) ∧ δ.bits (n + 9) (j + 4) ∧ 1 ≤ (δ.new bs).length ∧ (δ.new bs).length ≤ 2 ∧ ((∀ i, δ ≠ .tu i) → ∀ c, sumB (pr c) (δ.new bs) = sumB (pr c) bs) := by
  have b1 : Bd (1 : Int) 4 := bd_one (by decide)
  cases δ with
  | cr al i p q =>
    match bs, h with
    | [b], h =>
      obtain ⟨P, O⟩ := hb b (.head _)
      cases al
      · have hC : CutT d b.x b.y p q := h
        obtain ⟨k, k0, bk, ok⟩ := hC.ov hD O.w
        have s1 := O.w.scale (k := k) (by omega) (by omega) bk
        have s2 := O.h.scale (k := k) (by omega) (by omega) bk
        have hDk : 0 < D * k := Int.mul_pos hD k0
        have bDk : Bd (D * k) (j + 4) := inferInstance
        refine ⟨k, k0, bk, fun c hc => ?_, (ok.mono (by omega)).bl hDk bDk, Nat.le_of_ble_eq_true rfl, Nat.le_of_ble_eq_true rfl, fun _ c => ?_⟩
        · have hc' : c ∈ [(⟨p, q, b.u, b.v⟩ : Bo), ⟨b.x - p, b.y - q, b.u, b.v⟩] := hc
          simp only [List.mem_cons, List.not_mem_nil, or_false] at hc'
          rcases hc' with rfl | rfl
          · exact ⟨⟨hC.pos, P.h⟩, ⟨ok.mono (by omega), s2.mono (by omega)⟩⟩
          · exact ⟨⟨hC.less, P.h⟩, ⟨(s1.sub ok).mono (by omega), s2.mono (by omega)⟩⟩
        · show sumB (pr c) [(⟨p, q, b.u, b.v⟩ : Bo), ⟨b.x - p, b.y - q, b.u, b.v⟩] = sumB (pr c) [b]
          match c with
          | 0 => simp only [sumB, pr]; grind
          | 1 => simp only [sumB, pr]; grind
          | 2 => simp only [sumB, pr]; grind
          | 3 => simp only [sumB, pr]; grind
      · have hC : CutT d b.u b.v p q := h
        obtain ⟨k, k0, bk, ok⟩ := hC.ov hD O.h
        have s1 := O.w.scale (k := k) (by omega) (by omega) bk
        have s2 := O.h.scale (k := k) (by omega) (by omega) bk
        have hDk : 0 < D * k := Int.mul_pos hD k0
        have bDk : Bd (D * k) (j + 4) := inferInstance
        refine ⟨k, k0, bk, fun c hc => ?_, (ok.mono (by omega)).bl hDk bDk, Nat.le_of_ble_eq_true rfl, Nat.le_of_ble_eq_true rfl, fun _ c => ?_⟩
        · have hc' : c ∈ [(⟨b.x, b.y, p, q⟩ : Bo), ⟨b.x, b.y, b.u - p, b.v - q⟩] := hc
          simp only [List.mem_cons, List.not_mem_nil, or_false] at hc'
          rcases hc' with rfl | rfl
          · exact ⟨⟨P.w, hC.pos⟩, ⟨s1.mono (by omega), ok.mono (by omega)⟩⟩
          · exact ⟨⟨P.w, hC.less⟩, ⟨s1.mono (by omega), (s2.sub ok).mono (by omega)⟩⟩
        · show sumB (pr c) [(⟨b.x, b.y, p, q⟩ : Bo), ⟨b.x, b.y, b.u - p, b.v - q⟩] = sumB (pr c) [b]
          match c with
          | 0 => simp only [sumB, pr]; grind
          | 1 => simp only [sumB, pr]; grind
          | 2 => simp only [sumB, pr]; grind
          | 3 => simp only [sumB, pr]; grind
  | gl tp i i2 =>
    match bs, h with
    | [b, c], h =>
      obtain ⟨P, O⟩ := hb b (.head _)
      obtain ⟨P2, O2⟩ := hb c (.tail _ (.head _))
      have s1 := O.w.scale (k := 1) (by omega) (by decide) b1
      have s2 := O.h.scale (k := 1) (by omega) (by decide) b1
      have s3 := O2.w.scale (k := 1) (by omega) (by decide) b1
      have s4 := O2.h.scale (k := 1) (by omega) (by decide) b1
      cases tp
      · have hq : b.u = c.u ∧ b.v = c.v := h
        refine ⟨1, by decide, b1, fun a ha => ?_, trivial, Nat.le_of_ble_eq_true rfl, Nat.le_of_ble_eq_true rfl, fun _ e => ?_⟩
        · have ha' : a ∈ [(⟨b.x + c.x, b.y + c.y, b.u, b.v⟩ : Bo)] := ha
          simp only [List.mem_cons, List.not_mem_nil, or_false] at ha'
          subst ha'
          exact ⟨⟨posQ_add hd P.w P2.w, P.h⟩, ⟨(s1.add s3).mono (by omega), s2.mono (by omega)⟩⟩
        · show sumB (pr e) [(⟨b.x + c.x, b.y + c.y, b.u, b.v⟩ : Bo)] = sumB (pr e) [b, c]
          match e with
          | 0 => simp only [sumB, pr, ← hq.1, ← hq.2]; grind
          | 1 => simp only [sumB, pr, ← hq.1, ← hq.2]; grind
          | 2 => simp only [sumB, pr, ← hq.1, ← hq.2]; grind
          | 3 => simp only [sumB, pr, ← hq.1, ← hq.2]; grind
      · have hq : b.x = c.x ∧ b.y = c.y := h
        refine ⟨1, by decide, b1, fun a ha => ?_, trivial, Nat.le_of_ble_eq_true rfl, Nat.le_of_ble_eq_true rfl, fun _ e => ?_⟩
        · have ha' : a ∈ [(⟨b.x, b.y, b.u + c.u, b.v + c.v⟩ : Bo)] := ha
          simp only [List.mem_cons, List.not_mem_nil, or_false] at ha'
          subst ha'
          exact ⟨⟨P.w, posQ_add hd P.h P2.h⟩, ⟨s1.mono (by omega), (s2.add s4).mono (by omega)⟩⟩
        · show sumB (pr e) [(⟨b.x, b.y, b.u + c.u, b.v + c.v⟩ : Bo)] = sumB (pr e) [b, c]
          match e with
          | 0 => simp only [sumB, pr, ← hq.1, ← hq.2]; grind
          | 1 => simp only [sumB, pr, ← hq.1, ← hq.2]; grind
          | 2 => simp only [sumB, pr, ← hq.1, ← hq.2]; grind
          | 3 => simp only [sumB, pr, ← hq.1, ← hq.2]; grind
  | sh sp i m =>
    match bs, h with
    | [b], h =>
      have hm : 0 < m ∧ m ≤ 10 := h
      obtain ⟨P, O⟩ := hb b (.head _)
      have t14 : (2 : Nat) ^ 4 = 16 := by decide
      have bm : Bd m 4 := ⟨by omega⟩
      have hm0 : (m : Rat) ≠ 0 := ratne (by omega)
      have w1 := (O.w.div (k := m) (by omega) (by omega))
      have w2 := (O.h.div (k := m) (by omega) (by omega))
      have w3 := (O.w.mul bm).scale (k := m) (by omega) (by omega) bm
      have w4 := (O.h.mul bm).scale (k := m) (by omega) (by omega) bm
      cases sp
      · refine ⟨m, hm.1, bm, fun a ha => ?_, bm.mono (by decide), Nat.le_of_ble_eq_true rfl, Nat.le_of_ble_eq_true rfl, fun _ e => ?_⟩
        · have ha' : a ∈ [(⟨b.x / m, b.y / m, b.u * m, b.v * m⟩ : Bo)] := ha
          simp only [List.mem_cons, List.not_mem_nil, or_false] at ha'
          subst ha'
          exact ⟨⟨posQ_by hd P.w hm.1, posQ_times hd P.h hm.1⟩, ⟨w1.mono (by omega), w4.mono (by omega)⟩⟩
        · show sumB (pr e) [(⟨b.x / m, b.y / m, b.u * m, b.v * m⟩ : Bo)] = sumB (pr e) [b]
          match e with
          | 0 => simp only [sumB, pr]; grind
          | 1 => simp only [sumB, pr]; grind
          | 2 => simp only [sumB, pr]; grind
          | 3 => simp only [sumB, pr]; grind
      · refine ⟨m, hm.1, bm, fun a ha => ?_, bm.mono (by decide), Nat.le_of_ble_eq_true rfl, Nat.le_of_ble_eq_true rfl, fun _ e => ?_⟩
        · have ha' : a ∈ [(⟨b.x * m, b.y * m, b.u / m, b.v / m⟩ : Bo)] := ha
          simp only [List.mem_cons, List.not_mem_nil, or_false] at ha'
          subst ha'
          exact ⟨⟨posQ_times hd P.w hm.1, posQ_by hd P.h hm.1⟩, ⟨w3.mono (by omega), w2.mono (by omega)⟩⟩
        · show sumB (pr e) [(⟨b.x * m, b.y * m, b.u / m, b.v / m⟩ : Bo)] = sumB (pr e) [b]
          match e with
          | 0 => simp only [sumB, pr]; grind
          | 1 => simp only [sumB, pr]; grind
          | 2 => simp only [sumB, pr]; grind
          | 3 => simp only [sumB, pr]; grind
  | tu i =>
    match bs, h with
    | [b], h =>
      obtain ⟨P, O⟩ := hb b (.head _)
      have s1 := O.w.scale (k := 1) (by omega) (by decide) b1
      have s2 := O.h.scale (k := 1) (by omega) (by decide) b1
      refine ⟨1, by decide, b1, fun a ha => ?_, trivial, Nat.le_of_ble_eq_true rfl, Nat.le_of_ble_eq_true rfl, fun g => absurd rfl (g i)⟩
      have ha' : a ∈ [(⟨b.u, b.v, b.x, b.y⟩ : Bo)] := ha
      simp only [List.mem_cons, List.not_mem_nil, or_false] at ha'
      subst ha'
      exact ⟨⟨P.h, P.w⟩, ⟨s2.mono (by omega), s1.mono (by omega)⟩⟩
theorem YI.step10 {d : Int} (hd : Root d) {pool : List (Rat × Rat)} {L : Lst} {u D : Int} {j n : Nat} (I : YI d pool L u D j n) {δ : De} {bs : List Bo} (hA : δ.at_ L bs) (hδ : δ.small d bs) :
    ∃ D' : Int, YI d pool (nextL L u δ bs) (u + (δ.new bs).length) D' (j + 4) (n + 9) ∧ δ.bits (n + 9) (j + 4) ∧ (∀ b ∈ bs, BW b (n + 9) (j + 4)) ∧ (nextL L u δ bs).length ≤ L.length + 1 ∧ ((∀ i, δ ≠ .tu i) → ∀ c, sumB (pr c) (bosL (nextL L u δ bs)) = sumB (pr c) (bosL L)) := by
  obtain ⟨f1, f2, f3, f4, f5⟩ := at_facts I.asc hA
  have hb : ∀ b ∈ bs, PosB d b ∧ OvB D n b := fun b hb => by
    obtain ⟨i, hi⟩ := f5 b hb
    exact I.bos _ hi
  obtain ⟨k, k0, bk, g1, g2, g3, g4, g5⟩ := step_new10 hd hδ I.D0 I.bD hb
  have hD0 := I.D0
  have hDk : 0 < D * k := Int.mul_pos hD0 k0
  have bD := I.bD
  have hbs : 1 ≤ bs.length := by
    cases bs with
    | nil => cases δ <;> exact absurd hδ id
    | cons b bs => simp
  have i1 : Asc (nextL L u δ bs) (u + (δ.new bs).length) := f2.put I.u0 _
  have i2 : ∀ p ∈ nextL L u δ bs, PosB d p.2 ∧ OvB (D * k) (n + 9) p.2 := fun p hp => by
    rcases List.mem_append.mp hp with hp | hp
    · obtain ⟨P, O⟩ := I.bos p (f3 p hp)
      exact ⟨P, ⟨(O.w.scale (by omega) (by omega) bk).mono (by omega), (O.h.scale (by omega) (by omega) bk).mono (by omega)⟩⟩
    · exact g1 _ (numB_mem _ _ _ hp).2.2
  refine ⟨D * k, ⟨i1, by have := I.u0; omega, ?_, hDk, inferInstance, i2, fun p hp => ⟨(I.pool p hp).1, ((I.pool p hp).2.scale (by omega) (by omega) bk).mono (by omega)⟩⟩, g2, fun b hb' => ?_, ?_, fun ht c => ?_⟩
  · intro e
    have := congrArg List.length e
    unfold nextL at this
    rw [List.length_append, numB_len] at this
    simp only [List.length_nil] at this
    omega
  · have w := OvB.bw I.D0 I.bD (hb b hb').2
    exact ⟨w.w.mono (by omega) (by omega), w.h.mono (by omega) (by omega)⟩
  · unfold nextL
    rw [List.length_append, numB_len]
    omega
  · have a1 := f1 (pr c)
    have a2 := g5 ht c
    have a3 := sumB_app (pr c) (bosL (delAll L δ.names)) (δ.new bs)
    have e : bosL (nextL L u δ bs) = bosL (delAll L δ.names) ++ δ.new bs := by
      unfold bosL nextL
      rw [List.map_append, numB_bo]
    rw [e, a3, a2]
    exact a1
end DL

set_option Elab.async false
set_option linter.all false
set_option maxRecDepth 100000
set_option maxHeartbeats 4000000
set_option autoImplicit false
/-! k54: a pair of boards alike -/
namespace DL
open PySem L2 MB
end DL

set_option Elab.async false
set_option linter.all false
set_option maxRecDepth 100000
set_option maxHeartbeats 4000000
set_option autoImplicit false
/-! k73, k76: a deed drawn and done (printed off K54B, K54C: nine boards at most) -/
namespace DL
open PySem L2 MB
section
variable (d n w e z0 z1 z2 z3 z4 i M mm : Int) (sm bo b : PD) (Y Y' : Ya) [Bd z0 20] [Bd z1 20] [Bd z2 20] [Bd z3 20] [Bd z4 20] [Bd M 5] [Bd mm 6]
  (i0 : gIx sm (.int 0) = .ok (.int z0)) (i1 : gIx sm (.int 1) = .ok (.int z1)) (i2 : gIx sm (.int 2) = .ok (.int z2)) (i4 : gIx sm (.int 4) = .ok (.int z4))
  (e1 : m_Yard_boards (YF d Y) [.none] = .ok bo) (gl : gLen [bo] = .ok (.int n)) (hn : 0 < n) (eb : gIx bo (.int (z1 % n)) = .ok (.tuple [.int i, b])) (im : gIx (.list [.int 2, .int 4, .int 9]) (.int (z4 % 3)) = .ok (.int M)) (hM : 0 < M) (hm : 2 + z2 % M = mm) (hw : z0 % 8 = w)
include i0 i1 i2 i4 e1 gl hn eb im hM hm hw
end
/-- a yard in k54 -/
structure YN (d : Int) (P : List (Rat × Rat)) (b0 : List Bo) (Y : Ya) (D : Int) (j n g : Nat) : Prop where
  t : Y.t = false
  yi : YI d P Y.L Y.u D j n
  sum : ∀ c, sumB (pr c) (bosL Y.L) = sumB (pr c) b0
  len : Y.L.length ≤ 9
  log : Y.g.length ≤ g
theorem YN.do_ {d : Int} (hd : Root d) [Bd d 7] {P : List (Rat × Rat)} {b0 : List Bo} {Y : Ya} {D : Int} {j n g : Nat} (K : YN d P b0 Y D j n g) {δ : De} {bs : List Bo} (hA : δ.at_ Y.L bs) (hδ : δ.small d bs) (ht : ∀ i, δ ≠ .tu i) (hj : j + 4 ≤ 1900) (hn : n + 9 ≤ 4400) (hg : g ≤ 1000) (hl : Y.L.length < 9 ∨ (δ.new bs).length ≤ bs.length) :
    ∃ (Y' : Ya) (D' : Int), m_Yard_do (YF d Y) [.none, deD δ] = .ok .none (YF d Y') ∧ YN d P b0 Y' D' (j + 4) (n + 9) (g + 1) := by
  obtain ⟨D', I', hbits, hbw, hlen, hsum⟩ := K.yi.step10 hd hA hδ
  have hlog := K.log
  have hL := K.len
  have e1 := Yard_do_eq d hd Y δ bs (De.small_fit hδ) hA (fun i h => absurd h (ht i)) hbw hbits hj hn K.yi.asc K.yi.u0 (by omega) (by omega)
  have f4 := (at_facts K.yi.asc hA).2.2.2.1
  refine ⟨_, D', e1, K.t, I', fun c => (hsum ht c).trans (K.sum c), ?_, ?_⟩
  · show (nextL Y.L Y.u δ bs).length ≤ 9
    rcases hl with h | h
    · omega
    · unfold nextL
      rw [List.length_append, numB_len]
      omega
  · show (Y.g ++ [deD δ]).length ≤ g + 1
    rw [List.length_append]
    simp only [List.length_cons, List.length_nil]
    omega
theorem YN.up {d : Int} {P : List (Rat × Rat)} {b0 : List Bo} {Y : Ya} {D : Int} {j n g : Nat} (K : YN d P b0 Y D j n g) : YN d P b0 Y D (j + 4) (n + 9) (g + 1) :=
  ⟨K.t, ⟨K.yi.asc, K.yi.u0, K.yi.ne, K.yi.D0, K.yi.bD.mono (by omega), fun p hp => ⟨(K.yi.bos p hp).1, ⟨(K.yi.bos p hp).2.w.mono (by omega), (K.yi.bos p hp).2.h.mono (by omega)⟩⟩, fun p hp => ⟨(K.yi.pool p hp).1, (K.yi.pool p hp).2.mono (by omega)⟩⟩, K.sum, K.len, Nat.le_succ_of_le K.log⟩
end DL

set_option Elab.async false
set_option linter.all false
set_option maxRecDepth 100000
set_option maxHeartbeats 4000000
set_option autoImplicit false
/-! one_board -/
namespace DL
open PySem L2 MB
end DL

set_option Elab.async false
set_option linter.all false
set_option maxRecDepth 100000
set_option maxHeartbeats 4000000
set_option autoImplicit false
/-! heaps drawn and cut -/
namespace DL
open PySem L2 MB
end DL

set_option Elab.async false
set_option linter.all false
set_option maxRecDepth 100000
set_option maxHeartbeats 4000000
set_option autoImplicit false
/-! normal plans walked; normal forms of normal forms, of perms, of doubles -/
namespace DL
open PySem L2 MB
section
variable {d Dw D : Int} {jw j nw h : Nat} {al : List Bo} {N : Int} {b : Ba}
end
end DL

set_option Elab.async false
set_option linter.all false
set_option maxRecDepth 100000
set_option maxHeartbeats 4000000
set_option autoImplicit false
/-! fewest: the width, rank one -/
namespace DL
open PySem L2 MB
theorem rank_of {H : PD} {T : Tab} {n m : Nat} [bt : BT T n m] (hm : m ≤ 2200) (hn : n ≤ 10000000) (e' : m_table [H] = .ok (tabD T)) : m_rank [H] = .ok (.int (rkN T)) := by
  have ba := bt.a; have b2 := bt.b; have bc := bt.c; have b4 := bt.d
  have e1 := times_fr T.a T.d (by omega) (by omega) (by omega)
  have e2 := times_fr T.b T.c (by omega) (by omega) (by omega)
  have g : gEq (frD (T.a * T.d)) (frD (T.b * T.c)) = .ok (.bool (decide (T.a * T.d = T.b * T.c))) := by
    show gEq (.tuple [.int _, .int _]) (.tuple [.int _, .int _]) = _
    rw [gEq_2]
    congr 2
    exact decide_eq_decide.mpr rat_nd
  have e' : m_table [H] = .ok (.tuple [.tuple [frD T.a, frD T.b], .tuple [frD T.c, frD T.d]]) := e'
  generalize frD (T.a * T.d) = P at *
  generalize frD (T.b * T.c) = Q at *
  generalize frD T.a = A at *
  generalize frD T.b = B at *
  generalize frD T.c = C at *
  generalize frD T.d = D at *
  unfold rkN
  by_cases c : T.a * T.d = T.b * T.c
  · rw [decide_eq_true c] at g
    rw [if_pos c]
    simp +decide only [m_rank, den_rank, zEV9, e', e1, e2, g]
  · rw [decide_eq_false c] at g
    rw [if_neg c]
    simp +decide only [m_rank, den_rank, zEV9, e', e1, e2, g]
/-- the width told of a table -/
noncomputable def sgnW (d : Int) (p q : Rat) (w : Rat × Rat) : Rat × Rat := @ite _ (PosQ d p q) (Classical.propDecidable _) (p, q) (@ite _ (PosQ d (-p) (-q)) (Classical.propDecidable _) (-p, -q) w)
noncomputable def w0 (d : Int) (t : Tab) : Rat × Rat := sgnW d t.a t.c (sgnW d t.b t.d (0, 0))
end DL

set_option Elab.async false
set_option linter.all false
set_option maxRecDepth 100000
set_option maxHeartbeats 4000000
set_option autoImplicit false
/-! a drawn heap and its table over one bottom -/
namespace DL
open PySem L2 MB
/-- a table over a bottom -/
def TO (D : Int) (k : Nat) (bs : List Bo) : Prop := ∀ c : Fin 4, ∃ S : Int, Bd S k ∧ sumB (pr c) bs = (S : Rat) / D
theorem TO.scale {D : Int} {k : Nat} {bs : List Bo} (h : TO D k bs) (hD : D ≠ 0) {T : Int} {b : Nat} (hT : T ≠ 0) (bT : Bd T b) : TO (D * T) (k + b) bs := fun c => by
  obtain ⟨S, bS, e⟩ := h c
  refine ⟨S * T, inferInstance, ?_⟩
  have h1 := ratne hD
  have h2 := ratne hT
  rw [e, Rat.intCast_mul, Rat.intCast_mul]
  grind
theorem TO.mono {D : Int} {k k' : Nat} {bs : List Bo} (h : TO D k bs) (hk : k ≤ k') : TO D k' bs := fun c => by
  obtain ⟨S, bS, e⟩ := h c
  exact ⟨S, bS.mono hk, e⟩
theorem TO.of {D : Int} {k : Nat} {bs cs : List Bo} (h : TO D k bs) (e : ∀ c, sumB (pr c) cs = sumB (pr c) bs) : TO D k cs := fun c => by
  rw [e c]; exact h c
end DL

set_option Elab.async false
set_option linter.all false
set_option maxRecDepth 100000
set_option maxHeartbeats 4000000
set_option autoImplicit false
/-! fewest -/
namespace DL
open PySem L2 MB
/-- boards over bottoms -/
structure HW (d Dw D : Int) (jw nw j h : Nat) (bs : List Bo) : Prop where
  Dw0 : 0 < Dw
  bDw : Bd Dw jw
  D0 : 0 < D
  bD : Bd D j
  bos : ∀ b ∈ bs, PosB d b ∧ OvB D h b ∧ Ov Dw nw b.x b.y
  ne : bs ≠ []
  len : bs.length ≤ 60
/-- a plan without a turning that leads there -/
structure Few (d : Int) (bs es : List Bo) (rs : List Rec) : Prop where
  tu : ∀ r ∈ rs, ∀ i, r.δ ≠ .tu i
  rl : rs.length ≤ 1300
  wk : m_walked [.int d, .list (bs.map boD), .list (told rs), .bool false] = .ok (.list (es.map boD))
  fw : ∃ (n m : Nat) (L : Lst) (u : Int), n ≤ 4400 ∧ m ≤ 1900 ∧ Fw d n m bs rs L u ∧ bosL L = es
/-! ### fewest -/
end DL

set_option Elab.async false
set_option linter.all false
set_option maxRecDepth 100000
set_option maxHeartbeats 4000000
set_option autoImplicit false
/-! fewest: rank one, rank two -/
namespace DL
open PySem L2 MB
end DL

set_option Elab.async false
set_option linter.all false
set_option maxRecDepth 100000
set_option maxHeartbeats 4000000
set_option autoImplicit false
/-! the boards of an even table -/
namespace DL
open PySem L2 MB
theorem bl_br {x y : Rat} {n m n' m' : Nat} [BR x n m] [BR y n' m'] : BL x y (n + n' + m + m') (m + m') :=
  ⟨Bd.mono (inferInstance : Bd (qA x y) _) (by omega), Bd.mono (inferInstance : Bd (qB x y) _) (by omega), Bd.mono (inferInstance : Bd (qN x y) _) (by omega)⟩
/-- which way up a side stands -/
noncomputable def sgS (d : Int) (q : Rat) : Rat := @ite _ (PosQ d (-1) (-q)) (Classical.propDecidable _) (-1) 1
/-- boards, as wide as a fraction times their height -/
def rB (p : Rat × Rat × Rat) : Bo := ⟨p.2.1 * p.1, p.2.2 * p.1, p.2.1, p.2.2⟩
noncomputable def evB (d : Int) (t : Tab) : List (Rat × Rat × Rat) := if t.a = 0 then [(t.d, 0, 1)] else (t.a, sgS d (t.b / t.a), sgS d (t.b / t.a) * (t.b / t.a)) :: if lefT t = 0 then [] else [(lefT t, 0, 1)]
section
variable (d : Int) (hd : Root d) [Bd d 7] (t : Tab) {n m : Nat} [ba : BR t.a n m] [bb : BR t.b n m] [bd' : BR t.d n m] (hn : n ≤ 440) (hm : m ≤ 440)
include hd ba bb bd' hn hm
end
end DL

set_option Elab.async false
set_option linter.all false
set_option maxRecDepth 100000
set_option maxHeartbeats 4000000
set_option autoImplicit false
/-! fewest, in the law's words -/
namespace DL
open PySem L2 MB
theorem HW.tab {d Dw D : Int} {jw nw j h : Nat} {bs : List Bo} (Hb : HW d Dw D jw nw j h bs) (hj : j ≤ 1090) (hh : h ≤ 50000) : m_table [.list (bs.map boD)] = .ok (tabD (tabL Tab.zero bs)) ∧ BT (tabL Tab.zero bs) (h + h + bs.length) (j + j) ∧ TS D (h + h + bs.length) (tabL Tab.zero bs) ∧ m_law_places [.list (bs.map boD)] = .ok (plD (tabL Tab.zero bs)) ∧ m_rank [.list (bs.map boD)] = .ok (.int (rkN (tabL Tab.zero bs))) := by
  have lb := Hb.len
  have hob : ∀ b ∈ bs, OvB D h b := fun b hb => (Hb.bos b hb).2.1
  have e1 := table_D D Hb.D0 Hb.bD (by omega) (n := h) (by omega) bs hob (by omega)
  have bt := e1.2
  have e2 := law_places_D D Hb.D0 Hb.bD (by omega) (n := h) (by omega) bs hob (by omega)
  exact ⟨e1.1, bt, e2.2, e2.1, rank_of (n := h + h + bs.length) (m := j + j) (by omega) (by omega) e1.1⟩
end DL

set_option Elab.async false
set_option linter.all false
set_option maxRecDepth 100000
set_option maxHeartbeats 4000000
set_option autoImplicit false
/-! the boards of an even table: what they are worth -/
namespace DL
open PySem L2 MB
/-- an even table that is never below nought -/
def EvT (t : Tab) : Prop := t.b = t.c ∧ ((t.a = 0 ∧ t.b = 0 ∧ 0 < t.d) ∨ (0 < t.a ∧ ¬ lefT t < 0))
end DL

set_option Elab.async false
set_option linter.all false
set_option maxRecDepth 100000
set_option maxHeartbeats 4000000
set_option autoImplicit false
/-! squares: the walk through it -/
namespace DL
open PySem L2 MB
section
variable {i : Nat} {ρ : En} {f : En → R PD} {xs ys : List PD}
end

section
variable (d n v i0 a0 : Int) (H T B0 W : PD) (F0 P Z D0 NS : List PD) (t1 : m_table_v2 [H] = .ok T) (ov : m_over [T] = .ok T) (ne : gNe T T = .ok (.bool false)) (ms : m_measure_below [T] = .ok .none)
include t1 ov ne ms
end
end DL

set_option Elab.async false
set_option linter.all false
set_option maxRecDepth 100000
set_option maxHeartbeats 4000000
set_option autoImplicit false
/-! squares: two boards; cut_up -/
namespace DL
open PySem L2 MB
section
variable (d n v i0 a0 i1 a1 : Int) (H T B0 B1 W : PD) (F0 F1 P Z D0 D1 NS : List PD) (t1 : m_table_v2 [H] = .ok T) (ov : m_over [T] = .ok T) (ne : gNe T T = .ok (.bool false)) (ms : m_measure_below [T] = .ok .none)
include t1 ov ne ms
end
end DL

set_option Elab.async false
set_option linter.all false
set_option maxRecDepth 100000
set_option maxHeartbeats 4000000
set_option autoImplicit false
/-! cut_up and squares_of of a board as wide as a fraction times its height -/
namespace DL
open PySem L2 MB
abbrev Tr3 := Rat × Rat × Rat
def wN (p : Tr3) : Nat := p.1.num.toNat
def hN (p : Tr3) : Nat := p.1.den
def uxT (p : Tr3) : Rat := p.2.1 / (((hN p : Nat) : Int) : Rat)
def uyT (p : Tr3) : Rat := p.2.2 / (((hN p : Nat) : Int) : Rat)
def cutT (p : Tr3) : List Nat := cutF (wN p + hN p) (wN p) (hN p)
def sqT (p : Tr3) : List Bo := (cutT p).map (sqB (uxT p) (uyT p))
def upT (p : Tr3) (i f : Int) : List De := upD (uxT p) (uyT p) (wN p + hN p) (wN p) (hN p) i f
structure PT5 (d : Int) (n m k N M : Nat) (p : Tr3) : Prop where
  r0 : 0 < p.1
  pq : PosQ d p.2.1 p.2.2
  bl : BL p.2.1 p.2.2 n m
  bl2 : BL (rB p).x (rB p).y n m
  bw : Bd p.1.num k
  bh : Bd (p.1.den : Int) k
  up : ∀ c : Nat, c ≤ wN p + hN p → BL (uxT p * (((c : Nat) : Int) : Rat)) (uyT p * (((c : Nat) : Int) : Rat)) N M
section
variable {d : Int} {n m k N M : Nat} {p : Tr3}
theorem PT5.w0 (h : PT5 d n m k N M p) : 0 < wN p ∧ ((wN p : Nat) : Int) = p.1.num := by
  have : 0 < p.1.num := by
    have h1 := h.r0
    have e := rnum p.1
    have hd : (0 : Rat) < ((p.1.den : Int) : Rat) := Rat.intCast_pos.mpr (by have := p.1.den_nz; omega)
    have h2 := Rat.mul_pos h1 hd
    rw [← e] at h2
    by_cases c : 0 < p.1.num
    · exact c
    · exfalso
      have h5 : ((p.1.num : Int) : Rat) ≤ 0 := Rat.intCast_le_intCast.mpr (show p.1.num ≤ 0 by omega)
      grind
  unfold wN
  omega
theorem PT5.h0 (h : PT5 d n m k N M p) : 0 < hN p := by
  unfold hN
  have := p.1.den_nz
  omega
theorem PT5.gcd (h : PT5 d n m k N M p) : Int.gcd ((wN p : Nat) : Int) ((hN p : Nat) : Int) = 1 := by
  have hw := h.w0.2
  rw [hw]
  exact p.1.reduced
theorem PT5.r (h : PT5 d n m k N M p) : (((wN p : Nat) : Int) : Rat) / (((hN p : Nat) : Int) : Rat) = p.1 := by
  rw [h.w0.2]
  exact num_div p.1
theorem PT5.bo (h : PT5 d n m k N M p) : boD (rB p) = .tuple [lnD (p.2.1 * ((((wN p : Nat) : Int) : Rat) / (((hN p : Nat) : Int) : Rat))) (p.2.2 * ((((wN p : Nat) : Int) : Rat) / (((hN p : Nat) : Int) : Rat))), lnD p.2.1 p.2.2] := by
  rw [h.r]
  rfl
theorem PT5.squares (h : PT5 d n m k N M p) (hd : Root d) [Bd d 7] (hn : n ≤ 1800) (hm : m ≤ 1800) (hk : k ≤ 1800) : ((cutT p).length ≤ 400 → m_squares_of [.int d, boD (rB p)] = .ok (.list ((sqT p).map boD))) ∧ (400 < (cutT p).length → m_squares_of [.int d, boD (rB p)] = .ex "TooMany") := by
  have bl2 := h.bl2
  have e := h.r
  have g := squares_of_gen d hd p.2.1 p.2.2 h.bl (posQ_ne h.pq) (wN p) (hN p) h.w0.1 h.h0 h.gcd (k := k) (by rw [h.w0.2]; exact h.bw) h.bh (by rw [e]; exact bl2) hn hm hk
  rw [← h.bo] at g
  refine ⟨fun q => ?_, g.2⟩
  rw [g.1 q]
  unfold sqT cutT
  rw [List.map_map, List.map_map, List.map_map]
  rfl
theorem PT5.len (h : PT5 d n m k N M p) (i f : Int) : (upT p i f).length + 1 = (cutT p).length := upD_len _ _ _ _ _ i f h.w0.1 h.h0 (Nat.le_refl _)
/-- the board in units -/
theorem PT5.unit (h : PT5 d n m k N M p) : rB p = ⟨uxT p * (((wN p : Nat) : Int) : Rat), uyT p * (((wN p : Nat) : Int) : Rat), uxT p * (((hN p : Nat) : Int) : Rat), uyT p * (((hN p : Nat) : Int) : Rat)⟩ := by
  have hh : (((hN p : Nat) : Int) : Rat) ≠ 0 := ratne (by have := h.h0; omega)
  have hr := h.r
  unfold rB uxT uyT
  rw [← hr]
  generalize (((hN p : Nat) : Int) : Rat) = H at *
  generalize (((wN p : Nat) : Int) : Rat) = W at *
  congr 1 <;> grind
theorem PT5.upos (h : PT5 d n m k N M p) (hd : Root d) : PosQ d (uxT p) (uyT p) := by
  have hh : (0 : Rat) < 1 / (((hN p : Nat) : Int) : Rat) := by
    rw [Rat.div_def, Rat.one_mul]
    exact Rat.inv_pos.mpr (Rat.intCast_pos.mpr (by have := h.h0; omega))
  have e : ∀ x : Rat, x / (((hN p : Nat) : Int) : Rat) = x * (1 / (((hN p : Nat) : Int) : Rat)) := fun x => by grind
  unfold uxT uyT
  rw [e p.2.1, e p.2.2]
  exact (posQ_scale hd hh).mpr h.pq
/-- what lies once it is cut up -/
theorem PT5.run (h : PT5 d n m k N M p) (hd : Root d) [Bd d 7] (hN : N ≤ 4400) (hM : M ≤ 1900) (hl : (cutT p).length ≤ 400) (i f : Int) (L : Lst) (gl : List PD) (ha : Asc L f) (hf : 0 ≤ f) (hi : getB L i = some (rB p)) (hL : L.length ≤ 10000) (hg : gl.length ≤ 10000) :
    ∃ L' : Lst, (Runs d ⟨false, L, f, gl⟩ ((upT p i f).map deD) ⟨false, L', f + 2 * (upT p i f).length, gl ++ (upT p i f).map deD⟩ ∧ WR d L f (upT p i f) L' (f + 2 * (upT p i f).length)) ∧ Asc L' (f + 2 * (upT p i f).length) ∧ L'.length ≤ L.length + 400 ∧ ((upT p i f = [] ∧ L' = L ∧ sqT p = [rB p]) ∨ (upT p i f ≠ [] ∧ ∃ S : Lst, L' = delB L i ++ S ∧ bosL S = sqT p ∧ ∀ q ∈ S, f ≤ q.1)) := by
  rw [h.unit] at hi
  obtain ⟨L', R, a, s1, s2, ll⟩ := up_run d hd (uxT p) (uyT p) (h.upos hd) hN hM h.up (wN p + DL.hN p) (wN p) (DL.hN p) i f L gl h.w0.1 h.h0 (Nat.le_refl _) (by omega) (by omega) ha hf hi (by show L.length + (cutT p).length ≤ _; omega) (by show gl.length + (cutT p).length ≤ _; omega)
  have ll : L'.length + 1 ≤ L.length + (cutT p).length := ll
  refine ⟨L', R, a, by omega, ?_⟩
  by_cases c : wN p = DL.hN p
  · left
    have hc : cutT p = [wN p] := by
      unfold cutT
      rw [← c]
      exact cutF_same h.w0.1 (by have := h.w0.1; omega)
    have hu := h.len i f
    rw [hc] at hu
    refine ⟨List.length_eq_zero_iff.mp (by
      have : (upT p i f).length + 1 = 1 := hu
      omega), s1 c, ?_⟩
    unfold sqT
    rw [hc]
    show [sqB (uxT p) (uyT p) (wN p)] = [rB p]
    rw [h.unit]
    unfold sqB
    rw [← c]
  · right
    refine ⟨fun e => ?_, s2 c⟩
    have hu := h.len i f
    rw [e] at hu
    have e2 : upT p i f = [] := e
    unfold upT at e2
    obtain ⟨g, hg⟩ : ∃ g, wN p + DL.hN p = g + 1 := ⟨wN p + DL.hN p - 1, by have := h.w0.1; omega⟩
    rw [hg, upD, if_neg c] at e2
    by_cases c2 : DL.hN p < wN p
    · rw [if_pos c2] at e2; cases e2
    · rw [if_neg c2] at e2; cases e2
end
theorem Runs.append {d : Int} {Y Y1 Y2 : Ya} {xs ys : List PD} (r : Runs d Y xs Y1) (s : Runs d Y1 ys Y2) : Runs d Y (xs ++ ys) Y2 := by
  induction r with
  | nil Y => exact s
  | cons e r ih => exact .cons e (ih s)
end DL

set_option Elab.async false
set_option linter.all false
set_option maxRecDepth 100000
set_option maxHeartbeats 4000000
set_option autoImplicit false
/-! k62 -/
namespace DL
open PySem L2 MB
end DL

set_option Elab.async false
set_option linter.all false
set_option maxRecDepth 100000
set_option maxHeartbeats 4000000
set_option autoImplicit false
/-! squares: what it tells -/
namespace DL
open PySem L2 MB
/-- what squares tells of boards that come to a plan -/
structure SqOk (d : Int) (bs fs : List Bo) (ps : List PD) : Prop where
  told : mV_squares [.int d, .list (bs.map boD)] = .ok (.tp [.d (.str "squares"), .l ps, .l (fs.map boD)])
  de : ∃ δs : List De, ps = δs.map deD ∧ (∀ δ ∈ δs, ∀ i, δ ≠ .tu i) ∧ δs.length ≤ 3000
  wk : m_walked [.int d, .list (bs.map boD), .list ps, .bool false] = .ok (.list (fs.map boD))
  wr : ∃ (δs : List De) (M : Lst) (v : Int), ps = δs.map deD ∧ WR d (numB 0 bs) bs.length δs M v ∧ Asc M v ∧ M.length ≤ 1000 ∧ bosL M = fs ∧ (∀ δ ∈ δs, ∀ i, δ ≠ .tu i) ∧ δs.length ≤ 3000
section
variable (d : Int) (hd : Root d) [Bd d 7] {Dw D : Int} {jw nw j h : Nat} {bs : List Bo} (Hb : HW d Dw D jw nw j h bs) (hjn : jw ≤ nw) (hjw : jw ≤ j) (hj : j ≤ 1090) (hn : nw ≤ 950) (hh : h + 3 * nw + 160 ≤ 4400) {n m k N M0 : Nat} (hn' : n ≤ 1800) (hm' : m ≤ 1800) (hk' : k ≤ 1800) (hN : N ≤ 4400) (hM : M0 ≤ 1900)
  (hp : ∀ p ∈ evB d (tabL Tab.zero bs), PT5 d n m k N M0 p ∧ OvB D h (rB p) ∧ Ov Dw nw (rB p).x (rB p).y ∧ PosB d (rB p)) (ev : EvT (tabL Tab.zero bs)) {n0 m0 : Nat} (ba : BR (tabL Tab.zero bs).a n0 m0) (bb : BR (tabL Tab.zero bs).b n0 m0) (bd' : BR (tabL Tab.zero bs).d n0 m0) (hn0 : n0 ≤ 440) (hm0 : m0 ≤ 440)
include hd Hb hjn hjw hj hn hh hn' hm' hk' hN hM hp ev ba bb bd' hn0 hm0
end
end DL

set_option Elab.async false
set_option linter.all false
set_option maxRecDepth 100000
set_option maxHeartbeats 4000000
set_option autoImplicit false
/-! squares: two boards -/
namespace DL
open PySem L2 MB
section
variable (d : Int) (hd : Root d) [Bd d 7] {Dw D : Int} {jw nw j h : Nat} {bs : List Bo} (Hb : HW d Dw D jw nw j h bs) (hjn : jw ≤ nw) (hjw : jw ≤ j) (hj : j ≤ 1090) (hn : nw ≤ 950) (hh : h + 3 * nw + 160 ≤ 4400) {n m k N M0 : Nat} (hn' : n ≤ 1800) (hm' : m ≤ 1800) (hk' : k ≤ 1800) (hN : N ≤ 4400) (hM : M0 ≤ 1900)
  (hp : ∀ p ∈ evB d (tabL Tab.zero bs), PT5 d n m k N M0 p ∧ OvB D h (rB p) ∧ Ov Dw nw (rB p).x (rB p).y ∧ PosB d (rB p)) (ev : EvT (tabL Tab.zero bs)) {n0 m0 : Nat} (ba : BR (tabL Tab.zero bs).a n0 m0) (bb : BR (tabL Tab.zero bs).b n0 m0) (bd' : BR (tabL Tab.zero bs).d n0 m0) (hn0 : n0 ≤ 440) (hm0 : m0 ≤ 440)
include hd Hb hjn hjw hj hn hh hn' hm' hk' hN hM hp ev ba bb bd' hn0 hm0
end
end DL

set_option Elab.async false
set_option linter.all false
set_option maxRecDepth 100000
set_option maxHeartbeats 4000000
set_option autoImplicit false
/-! the squares that a law tells: of any numbers -/
namespace DL
open PySem L2 MB
section
variable (d : Int) [bd : Bd d 7] (x y : Rat) {n m K : Nat} (bl : BL x y n m) (hn : n ≤ 100000) (hm : m + K ≤ 9000) (w : PD) (h : Nat) (hh : 0 < h) (bh : Bd (h : Int) K)
include bl hn hm hh bh
end
end DL

set_option Elab.async false
set_option linter.all false
set_option maxRecDepth 100000
set_option maxHeartbeats 4000000
set_option autoImplicit false
/-! the boards that a law makes of a table, and the squares due -/
namespace DL
open PySem L2 MB
/-- the law's table of a heap, bits told -/
structure TabK (bs : List Bo) (K : Nat) (B r0 r1 r2 r3 : Int) : Prop where
  e : m_law_tab [.list (bs.map boD)] = .ok (.list [.list [.int r0, .int r1, .int r2, .int r3], .int B])
  B0 : 0 < B
  bB : Bd B K
  v0 : (r0 : Rat) = B * sumB (pr 0) bs
  v1 : (r1 : Rat) = B * sumB (pr 1) bs
  v2 : (r2 : Rat) = B * sumB (pr 2) bs
  v3 : (r3 : Rat) = B * sumB (pr 3) bs
  b0 : Bd r0 K
  b1 : Bd r1 K
  b2 : Bd r2 K
  b3 : Bd r3 K
/-! ### boards -/
/-- a board of the law: its width's share of its height, told as two numbers, and its height -/
abbrev Qd := Int × Int × Rat × Rat
structure QdI (K : Nat) (q : Qd) : Prop where
  w : 0 < q.1
  h : 0 < q.2.1
  bw : Bd q.1 K
  bh : Bd q.2.1 K
/-- a board in lowest terms, of few bits -/
structure PSm (n m Kw : Nat) (p : Tr3) : Prop where
  bl : BL p.2.1 p.2.2 n m
  bw : Bd p.1.num Kw
  bh : Bd (p.1.den : Int) Kw
/-! ### what is due -/
end DL

set_option Elab.async false
set_option linter.all false
set_option maxRecDepth 100000
set_option maxHeartbeats 4000000
set_option autoImplicit false
/-! squares of an even heap, never below nought -/
namespace DL
open PySem L2 MB
section
variable (d : Int) (hd : Root d) [Bd d 7] {bs : List Bo} {D T : Int} {j k t n : Nat} (hD : 0 < D) (bD : Bd D j) (hT : 0 < T) (bT : Bd T t) (tb : TO D k bs) (hb : ∀ b ∈ bs, PosB d b ∧ OvB (D * T) n b) (hne : bs ≠ []) (hl : bs.length ≤ 60)
  (hk2 : 2 ≤ k) (hk : k ≤ 440) (hj1 : 1 ≤ j) (hj : j ≤ 440) (h1 : j + k + t ≤ 740) (h2 : 2 * k + 1 + t ≤ 740) (h3 : n + k ≤ 740)
include hd hD bD hT bT tb hb hne hl hk2 hk hj1 hj h1 h2 h3
end
end DL

set_option Elab.async false
set_option linter.all false
set_option maxRecDepth 100000
set_option maxHeartbeats 4000000
set_option autoImplicit false
/-! what squares tells of any heap: uneven, below; what a law says of it -/
namespace DL
open PySem L2 MB
/-! ### what a law says -/
end DL

set_option Elab.async false
set_option linter.all false
set_option maxRecDepth 100000
set_option maxHeartbeats 4000000
set_option autoImplicit false
/-! k74: the even heaps that are drawn -/
namespace DL
open PySem L2 MB
theorem TO.nil {D : Int} {k : Nat} : TO D k [] := fun c => ⟨0, ⟨Nat.two_pow_pos _⟩, by
  show (0 : Rat) = _
  rw [zero_div']⟩
theorem TO.app {D : Int} {k : Nat} {bs cs : List Bo} (h : TO D k bs) (g : TO D k cs) (hD : D ≠ 0) : TO D (k + 1) (bs ++ cs) := fun c => by
  obtain ⟨S, bS, e⟩ := h c
  obtain ⟨R, bR, f⟩ := g c
  have z := ratne hD
  refine ⟨S + R, Bd.mono (inferInstance : Bd (S + R) (max k k + 1)) (by omega), ?_⟩
  rw [sumB_app, e, f, Rat.intCast_add]
  grind
theorem sumB_one (f : Bo → Rat) (b : Bo) : sumB f [b] = f b := by
  unfold sumB sumB
  grind
/-- a board over its own bottoms -/
theorem TO.one {D : Int} {k n : Nat} {b : Bo} (hD : D ≠ 0) (bD : Bd D k) {N1 N2 : Int} (h1 : N1 ≠ 0) (h2 : N2 ≠ 0) (w : Ov N1 n b.x b.y) (h : Ov N2 n b.u b.v) : TO (D * (N1 * N2)) (n + n + k) [b] := fun c => by
  obtain ⟨A, B, bA, bB, ex, ey⟩ := w
  obtain ⟨A', B', bA', bB', eu, ev⟩ := h
  have z0 := ratne hD
  have z1 := ratne h1
  have z2 := ratne h2
  have key : ∀ p q : Int, Bd p n → Bd q n → ∃ S : Int, Bd S (n + n + k) ∧ (p : Rat) / N1 * ((q : Rat) / N2) = (S : Rat) / ((D * (N1 * N2) : Int) : Rat) := fun p q hp hq => ⟨p * q * D, inferInstance, by
    rw [Rat.intCast_mul, Rat.intCast_mul, Rat.intCast_mul, Rat.intCast_mul]
    grind⟩
  rw [sumB_one]
  match c with
  | 0 => show ∃ S : Int, _ ∧ b.x * b.u = _; rw [ex, eu]; exact key _ _ bA bA'
  | 1 => show ∃ S : Int, _ ∧ b.x * b.v = _; rw [ex, ev]; exact key _ _ bA bB'
  | 2 => show ∃ S : Int, _ ∧ b.y * b.u = _; rw [ey, eu]; exact key _ _ bB bA'
  | 3 => show ∃ S : Int, _ ∧ b.y * b.v = _; rw [ey, ev]; exact key _ _ bB bB'
theorem SdF.bl {d : Int} {x y : Rat} (h : SdF d false x y) : BL x y 32 12 := by
  have bx := h.fx.br
  have bu := h.fy.br
  exact bl_br (x := x) (y := y)
theorem BL.ov {x y : Rat} {n m : Nat} (h : BL x y n m) : Ov (qN x y) n x y := by
  have v := q_val x y
  have z := ratne (show qN x y ≠ 0 by have := qN_pos x y; omega)
  exact ⟨qA x y, qB x y, h.a, h.b, by rw [v.1]; grind, by rw [v.2]; grind⟩
/-- even heaps of drawn sides -/
structure EvH (d D : Int) (j k : Nat) (bs : List Bo) : Prop where
  D0 : 0 < D
  bD : Bd D j
  bos : ∀ b ∈ bs, DF d b ∧ OvB D (j + 44) b
  tb : TO D k bs
  ev : sumB (pr 1) bs = sumB (pr 2) bs
theorem EvH.nil {d : Int} : EvH d 1 1 41 [] := ⟨by decide, ⟨by decide⟩, (fun b hb => nomatch hb), TO.nil, rfl⟩
/-! ### the law's loops -/
end DL

set_option Elab.async false
set_option linter.all false
set_option maxRecDepth 100000
set_option maxHeartbeats 4000000
set_option autoImplicit false
/-! heaps of drawn sides over one bottom; k73: the squares that are drawn -/
namespace DL
open PySem L2 MB
structure SdG (d : Int) (x y : Rat) : Prop where
  pq : PosQ d x y
  bl : BL x y 43 14
structure EvG (d D : Int) (j k : Nat) (bs : List Bo) : Prop where
  D0 : 0 < D
  bD : Bd D j
  bos : ∀ b ∈ bs, SdG d b.x b.y ∧ SdG d b.u b.v ∧ OvB D (j + 58) b
  tb : TO D k bs
theorem EvG.nil {d : Int} : EvG d 1 1 59 [] := ⟨by decide, ⟨by decide⟩, (fun b hb => nomatch hb), TO.nil⟩
theorem EvG.put {d D : Int} {j k : Nat} {bs : List Bo} (h : EvG d D j k bs) (hk : j + 58 ≤ k) {x y u v : Rat} (s1 : SdG d x y) (s2 : SdG d u v) (cs : List Bo) (hc : cs = [⟨x, y, u, v⟩, ⟨u, v, x, y⟩] ∨ cs = [⟨x, y, u, v⟩]) : ∃ D' : Int, EvG d D' (j + 28) (k + 30) (bs ++ cs) := by
  have b1 := s1.bl
  have b2 := s2.bl
  have p1 := qN_pos x y
  have p2 := qN_pos u v
  have o1 := b1.ov
  have o2 := b2.ov
  have c1 := b1.c
  have c2 := b2.c
  generalize qN x y = N1 at *
  generalize qN u v = N2 at *
  have D0 := h.D0
  have bD := h.bD
  have hN : 0 < N1 * N2 := Int.mul_pos p1 p2
  have bN : Bd (N1 * N2) 28 := (inferInstance : Bd (N1 * N2) (14 + 14))
  have sc : ∀ {x y : Rat}, Ov D (j + 58) x y → Ov (D * (N1 * N2)) (j + 28 + 58) x y := fun {x y} g => (g.scale (by omega) (by omega) bN).mono (by omega)
  have n1 : Ov (D * (N1 * N2)) (j + 28 + 58) x y := by
    have g := o1.scale (k := N2 * D) (b := 14 + j) (by omega) (by have := Int.mul_pos p2 D0; omega) inferInstance
    have e : N1 * (N2 * D) = D * (N1 * N2) := by rw [← Int.mul_assoc, Int.mul_comm]
    rw [e] at g
    exact g.mono (by omega)
  have n2 : Ov (D * (N1 * N2)) (j + 28 + 58) u v := by
    have g := o2.scale (k := N1 * D) (b := 14 + j) (by omega) (by have := Int.mul_pos p1 D0; omega) inferInstance
    have e : N2 * (N1 * D) = D * (N1 * N2) := by rw [← Int.mul_assoc, Int.mul_comm N2 N1, Int.mul_comm]
    rw [e] at g
    exact g.mono (by omega)
  have t1 : TO (D * (N1 * N2)) (k + 28) [⟨x, y, u, v⟩] := (TO.one (b := ⟨x, y, u, v⟩) (by omega) bD (by omega) (by omega) o1 o2).mono (by omega)
  have t2 : TO (D * (N1 * N2)) (k + 28) [⟨u, v, x, y⟩] := by
    have := (TO.one (b := ⟨u, v, x, y⟩) (by omega) bD (by omega) (by omega) o2 o1).mono (k' := k + 28) (by omega)
    rw [Int.mul_comm N2 N1] at this
    exact this
  have hE : D * (N1 * N2) ≠ 0 := by have := Int.mul_pos D0 hN; omega
  have t0 := h.tb.scale (by omega) (T := N1 * N2) (by omega) bN
  refine ⟨D * (N1 * N2), Int.mul_pos D0 hN, inferInstance, fun b hb => ?_, ?_⟩
  · rcases List.mem_append.mp hb with hb | hb
    · obtain ⟨f1, f2, o⟩ := h.bos b hb
      exact ⟨f1, f2, ⟨sc o.w, sc o.h⟩⟩
    · rcases hc with rfl | rfl
      · simp only [List.mem_cons, List.not_mem_nil, or_false] at hb
        rcases hb with rfl | rfl
        · exact ⟨s1, s2, ⟨n1, n2⟩⟩
        · exact ⟨s2, s1, ⟨n2, n1⟩⟩
      · cases List.mem_singleton.mp hb
        exact ⟨s1, s2, ⟨n1, n2⟩⟩
  · rcases hc with rfl | rfl
    · have t3 := TO.app t1 t2 hE
      exact TO.app (t0.mono (Nat.le_succ _)) t3 hE
    · exact (TO.app t0 t1 hE).mono (by omega)
theorem SdF.g {d : Int} {x y : Rat} (h : SdF d false x y) : SdG d x y := ⟨h.pq, h.bl.mono (by decide) (by decide)⟩
/-! ### squares drawn -/
/-- squares: the first one drawn, the others drawn or of the first one -/
structure SqH (d : Int) (bs : List Bo) : Prop where
  sq : ∀ b ∈ bs, b.x = b.u ∧ b.y = b.v
  hd : ∀ b, bs.head? = some b → SdF d false b.x b.y
end DL

set_option Elab.async false
set_option linter.all false
set_option maxRecDepth 100000
set_option maxHeartbeats 4000000
set_option autoImplicit false
/-! law k73 -/
namespace DL
open PySem L2 MB
section
variable (s : PD) (d n m : Int) (HS OS RR : List PD) (Y0 Y1 : Ya) (y3 : Option SV) (er : m_law_root_v5 [s] = .ok (.int d)) (eb : m_law_begun [.int d, s] = .ok (.list HS)) (ey : m_Yard___init__ [] [.none, .int d, .list HS, .bool false] = .ok .none (YF d Y0)) (gl : gLen [s] = .ok (.int n)) (gi : gMin [.int n, .int 19] = .ok (.int m)) (gr : gR2 [.int 7, .int m] = .ok RR)
    (el : sForL (.one 3) lb1_law_k73 RR [some (.d s), some (.d (.int d)), some (.o "Yard" (YF d Y0)), none, none, none, none, none, none, none, none] = .nx [some (.d s), some (.d (.int d)), some (.o "Yard" (YF d Y1)), y3, none, none, none, none, none, none, none])
    (yh : m_Yard_heap (YF d Y1) [.none] = .ok (.list OS))
include er eb ey gl gi gr el yh
end
end DL

set_option Elab.async false
set_option linter.all false
set_option maxRecDepth 100000
set_option maxHeartbeats 4000000
set_option autoImplicit false
/-! k76: squares as a heap, words, the heaps that are drawn -/
namespace DL
open PySem L2 MB
/-! ### squares as a heap -/
end DL

set_option Elab.async false
set_option linter.all false
set_option maxRecDepth 100000
set_option maxHeartbeats 4000000
set_option autoImplicit false
/-! law k72 -/
namespace DL
open PySem L2 MB
/-! ### cuts: the sides changed, a common share -/
/-! ### what is told -/
theorem isEs_ev {es Ts : List Str} {c : Str} (h : c ∈ es) : gIsEs es Ts (exD c) = .ok (.bool (Ts.any fun T => subX c T)) := if_pos h
/-! ### the two heaps at the end -/
end DL

set_option Elab.async false
set_option linter.all false
set_option maxRecDepth 100000
set_option maxHeartbeats 1000000
set_option autoImplicit false
/-! what is no length's text -/
namespace DL
open PySem L2 MB
open NumText (AllDigits digitsVal)
theorem Tlt_mem {d : Int} (hd : 0 ≤ d) {x y : Rat} {c : Nat} (h : c ∈ Tlt d x y) : (48 ≤ c ∧ c ≤ 57) ∨ c = 43 ∨ c = 45 ∨ c = 47 ∨ c = 114 := by
  have hF : ∀ z : Rat, c ∈ Frt z → (48 ≤ c ∧ c ≤ 57) ∨ c = 43 ∨ c = 45 ∨ c = 47 ∨ c = 114 := fun z hz => Classical.byContradiction fun w => by
    refine Frt_no (x := z) (c := c) ?_ ?_ ?_ hz <;> omega
  have hA : c ∈ Aht y → (48 ≤ c ∧ c ≤ 57) ∨ c = 43 ∨ c = 45 ∨ c = 47 ∨ c = 114 := fun hz => Classical.byContradiction fun w => by
    refine Aht_no (y := y) (c := c) ?_ ?_ ?_ hz <;> omega
  have hD : c ∈ Ti d → (48 ≤ c ∧ c ≤ 57) ∨ c = 43 ∨ c = 45 ∨ c = 47 ∨ c = 114 := fun hz => .inl (Ti_dig hd c hz)
  unfold Tlt at h
  split at h
  · exact hF _ h
  · have tail : c ∈ Aht y ++ [114] ++ Ti d → (48 ≤ c ∧ c ≤ 57) ∨ c = 43 ∨ c = 45 ∨ c = 47 ∨ c = 114 := fun h => by
      rcases List.mem_append.mp h with h | h
      · rcases List.mem_append.mp h with h | h
        · exact hA h
        · have := List.mem_singleton.mp h
          omega
      · exact hD h
    split at h
    · exact tail h
    · split at h
      · rcases List.mem_append.mp h with h | h
        · rcases List.mem_append.mp h with h | h
          · exact hF _ h
          · have := List.mem_singleton.mp h
            omega
        · exact tail h
      · rcases List.mem_append.mp h with h | h
        · exact hF _ h
        · exact tail h
theorem Frt_114 (x : Rat) : 114 ∉ Frt x := Frt_no (by decide) (by decide) (by omega)
theorem Tlt_plain {d : Int} {x y : Rat} (h : 114 ∉ Tlt d x y) : Tlt d x y = Frt x ∧ y = 0 := by
  unfold Tlt at h ⊢
  split at h
  · rename_i e
    rw [if_pos e]
    exact ⟨rfl, e⟩
  · exfalso
    apply h
    split
    · simp
    · split <;> simp
theorem Tlt_root {d : Int} {x y : Rat} (h : 114 ∈ Tlt d x y) : ∃ a, Tlt d x y = a ++ 114 :: Ti d ∧ 114 ∉ a := by
  have a114 : 114 ∉ Aht y := Aht_no (by decide) (by decide) (by omega)
  have f114 := Frt_114 x
  unfold Tlt at h ⊢
  split at h
  · exact absurd h f114
  · rename_i hy
    rw [if_neg hy]
    split
    · exact ⟨Aht y, by simp, a114⟩
    · split
      · refine ⟨Frt x ++ 43 :: Aht y, by simp, fun w => ?_⟩
        rcases List.mem_append.mp w with w | w
        · exact f114 w
        · rcases List.mem_cons.mp w with w | w
          · exact absurd w (by decide)
          · exact a114 w
      · refine ⟨Frt x ++ Aht y, by simp, fun w => ?_⟩
        rcases List.mem_append.mp w with w | w
        · exact f114 w
        · exact a114 w
theorem cut_uniq {a b a' b' : List Nat} {c : Nat} (h : a ++ c :: b = a' ++ c :: b') (ha : c ∉ a) (ha' : c ∉ a') : a = a' ∧ b = b' := by
  have e1 := tw_app (b := b) ha
  have e2 := tw_app (b := b') ha'
  rw [h, e2] at e1
  subst e1
  exact ⟨rfl, by
    have := List.append_cancel_left h
    injection this⟩
/-- text behind the root's sign -/
theorem Tlt_tail {d : Int} {x y : Rat} {a b : List Nat} (h : Tlt d x y = a ++ 114 :: b) (ha : 114 ∉ a) : b = Ti d := by
  obtain ⟨a', e, ha'⟩ := Tlt_root (d := d) (x := x) (y := y) (by rw [h]; simp)
  rw [h] at e
  exact (cut_uniq e ha ha').2
theorem Tn_last (n : Nat) : ∃ s c, Tn n = s ++ [c] ∧ 48 ≤ c ∧ c ≤ 57 := by
  refine ⟨(Tn n).dropLast, (Tn n).getLast (Tn_ne n), (List.dropLast_concat_getLast (Tn_ne n)).symm, ?_⟩
  exact Tn_dig n _ (List.getLast_mem (Tn_ne n))
theorem Frt_last (x : Rat) : ∃ s c, Frt x = s ++ [c] ∧ 48 ≤ c ∧ c ≤ 57 := by
  have key : ∀ i : Int, ∃ s c, Ti i = s ++ [c] ∧ 48 ≤ c ∧ c ≤ 57 := fun i => by
    obtain ⟨s, c, e, h⟩ := Tn_last i.natAbs
    unfold Ti
    rw [e]
    exact ⟨(if i < 0 then [45] else []) ++ s, c, by rw [List.append_assoc], h⟩
  unfold Frt Tf
  split
  · exact key _
  · obtain ⟨s, c, e, h⟩ := key (x.den : Int)
    rw [e]
    exact ⟨Ti x.num ++ [47] ++ s, c, by rw [List.append_assoc (Ti x.num ++ [47])], h⟩
theorem Tlt_last {d : Int} (hd : 0 ≤ d) (x y : Rat) : ∃ s c, Tlt d x y = s ++ [c] ∧ 48 ≤ c ∧ c ≤ 57 := by
  by_cases h : 114 ∈ Tlt d x y
  · obtain ⟨a, e, _⟩ := Tlt_root h
    obtain ⟨s, c, e2, hc⟩ := Tn_last d.natAbs
    rw [e, Ti_pos hd, e2]
    exact ⟨a ++ 114 :: s, c, by simp, hc⟩
  · rw [(Tlt_plain h).1]
    exact Frt_last x
theorem snoc_inj {a b : List Nat} {c e : Nat} (h : a ++ [c] = b ++ [e]) : c = e := by
  have := congrArg List.getLast? h
  simpa using this
theorem Frt_zero {x : Rat} {r : List Nat} (h : Frt x = 48 :: r) : r = [] ∧ x = 0 := by
  have h0 : x.num = 0 := by
    unfold Frt Tf at h
    by_cases hn : x.num < 0
    · rw [Ti_neg hn] at h
      split at h <;> (injection h with h; exact absurd h (by decide))
    · rw [Ti_pos (by omega)] at h
      rcases Tn_head x.num.natAbs with e | ⟨c, s, e, h1, h2⟩
      · omega
      · rw [e] at h
        split at h <;> (injection h with h; omega)
  have hx : x = 0 := Rat.num_eq_zero.mp h0
  subst hx
  have e : Frt (0 : Rat) = [48] := by
    show Tf 0 1 = _
    unfold Tf
    rw [if_pos rfl]
    exact Tn_zero
  rw [e] at h
  injection h with _ h
  exact ⟨h.symm, rfl⟩
/-- nought ahead is all -/
theorem Tlt_zero {d : Int} {x y : Rat} {r : List Nat} (h : Tlt d x y = 48 :: r) : r = [] := by
  unfold Tlt at h
  split at h
  · exact (Frt_zero h).1
  · rename_i hy
    exfalso
    split at h
    · by_cases h1 : Aht y = []
      · rw [h1] at h
        injection h with h
        exact absurd h (by decide)
      · obtain ⟨c, s, e⟩ := List.exists_cons_of_ne_nil h1
        rw [e] at h
        have hc : c = 48 := by injection h
        subst hc
        unfold Aht at e
        split at e
        · cases e
        · split at e
          · injection e with e; exact absurd e (by decide)
          · exact hy (Frt_zero e).2
    · rename_i hx
      obtain ⟨c, s, e⟩ := List.exists_cons_of_ne_nil (Frt_ne x)
      have hc : c = 48 := by
        split at h <;> (rw [e] at h; injection h)
      subst hc
      exact hx (Frt_zero e).2
theorem readL_none {d : Int} {t : List Nat} (h : ∀ x y : Rat, Tlt d x y ≠ t) : readL d t = none := by
  cases e : readL d t with
  | none => rfl
  | some p => exact absurd (readL_shown e) (h _ _)
/-! ### refused -/
theorem text24 : gIsE xl_be93e3 "NoText" (exD "NoText") = .ok (.bool true) ∧ gIsE xl_be93e3 "ValueError" (exD "NoText") = .ok (.bool true) ∧ gIsEs xl_be93e3 ["NoLength", "NoBoard", "NoDeed", "NoName", "Grain", "Unfit", "TooMany", "NoRow", "Apart"] (exD "NoText") = .ok (.bool false) ∧ subX "NoText" "YardError" = true ∧ ("NoText" : Str) ∈ xl_be93e3 := by
  have x : subX "NoText" "NoText" = true := by unfold subX; simp +decide
  have x2 : subX "NoText" "ValueError" = true := subV33
  have m : ("NoText" : Str) ∈ xl_be93e3 := by decide
  refine ⟨by rw [isE33 m, x], by rw [isE33 m, x2], ?_, subY33, m⟩
  rw [isEs_ev m]
  congr 2
theorem refused24 (d : Int) (X : PD) (h : m_read_length [.int d, X] = .ex "NoText") : m_law_refused_v5 [.int d, X] = .ok (.bool true) := by
  obtain ⟨m1, m2, m3, m4, m5⟩ := text24
  simp +decide only [m_law_refused_v5, den_law_refused_v5, zEON9, tryK33, h, m1, m2, m3, m4, m5]
theorem refused24_t (d : Int) (hd : 0 ≤ d ∧ d ≤ 100) (t : List Nat) (hl : t.length ≤ 480) (h : readL d t = none) : m_law_refused_v5 [.int d, .str (St t)] = .ok (.bool true) := by
  have e := read_length_ok d hd t hl
  rw [h] at e
  exact refused24 d _ e
theorem read_no (d : Int) (X : PD) (h : gIsi "str" X = .ok (.bool false)) : m_read_length [.int d, X] = .ex "NoText" := by
  simp +decide only [m_read_length, den_read_length, zEV9, h, seq_ex]
end DL

set_option Elab.async false
set_option linter.all false
set_option maxRecDepth 100000
set_option maxHeartbeats 4000000
set_option autoImplicit false
/-! k24's odd texts -/
namespace DL
open PySem L2 MB
open NumText (AllDigits digitsVal)
def g024 (D : List Nat) : List (List Nat) := [[], [32], [45], [43], [43, 49], [45, 48], [45, 45, 49], [48, 49], [49, 47, 49], [50, 47, 52], [49, 47, 48], [48, 47, 51], [49, 47], [47, 50], [49, 47, 45, 50], [45, 49, 47, 45, 50]]
def g124 (D : List Nat) : List (List Nat) := [[114], D ++ [114], [48] ++ ([114] ++ D), [49] ++ ([114] ++ D), [45, 49] ++ ([114] ++ D), [50, 42] ++ ([114] ++ D), [114] ++ D ++ [32], [32] ++ ([114] ++ D)]
def g224 (D : List Nat) : List (List Nat) := [[48, 43] ++ ([114] ++ D), [51, 43, 48] ++ ([114] ++ D), [51, 43, 49] ++ ([114] ++ D), [51, 43, 45] ++ ([114] ++ D), [51, 45, 45] ++ ([114] ++ D), [114] ++ D ++ [43, 49], [49, 43, 50], [49, 45, 49, 47, 50]]
def g324 (D : List Nat) : List (List Nat) := [[43] ++ ([114] ++ D), [114, 48] ++ D, [114] ++ D ++ ([114] ++ D), [49, 32, 43] ++ ([114] ++ D), [51, 45, 49] ++ ([114] ++ D), [51, 45, 48] ++ ([114] ++ D)]
def g424 (D : List Nat) : List (List Nat) := [[114] ++ D ++ [49], [49, 95, 48, 48, 48], [49, 95, 48, 47, 51], [49, 47, 49, 95, 49]]
def odd24 (D : List Nat) : List (List Nat) := g024 D ++ g124 D ++ g224 D ++ g324 D ++ g424 D
theorem odd24_len (D : List Nat) : (odd24 D).length = 42 := rfl
def tx24 (t : List Nat) : PD := .str (St t)
section
variable (d n : Int) (D : List Nat) (h : En → Fl) (hD : D.length ≤ 3) (ed : gStr [.int d] = .ok (.str (St D)))
include hD ed in
theorem od_0 (x1 : Option SV) : (sSeq (sSet 2 (d2 gAdd (dC (.str "r")) (dA gStr (dCons (dV 0) dNil)))) (h)) [some (.d (.int d)), x1, none, none] = h [some (.d (.int d)), x1, some (.d (.str (St ([114] ++ D)))), none] := by
  have a := gAdd_st (a := [114]) (b := D) (by simp; omega)
  generalize [114] ++ D = R at *
  simp +decide only [zEV9, st_r, ed, a]
theorem od_1 (x0 x1 x2 : Option SV) : (sSeq (sSet 3 (dA gLstD (dCons (dC (.str "")) (dCons (dC (.str " ")) (dCons (dC (.str "-")) (dCons (dC (.str "+")) (dCons (dC (.str "+1")) (dCons (dC (.str "-0")) (dCons (dC (.str "--1")) (dCons (dC (.str "01")) (dCons (dC (.str "1/1")) (dCons (dC (.str "2/4")) (dCons (dC (.str "1/0")) (dCons (dC (.str "0/3")) (dCons (dC (.str "1/")) (dCons (dC (.str "/2")) (dCons (dC (.str "1/-2")) (dCons (dC (.str "-1/-2")) dNil)))))))))))))))))) (h)) [x0, x1, x2, none] = h [x0, x1, x2, some (.d (.list ((g024 D).map tx24)))] := by
  have c0 : ("" : Str) = St [] := by decide
  have c1 : (" " : Str) = St [32] := by decide
  have c2 : ("-" : Str) = St [45] := by decide
  have c3 : ("+" : Str) = St [43] := by decide
  have c4 : ("+1" : Str) = St [43, 49] := by decide
  have c5 : ("-0" : Str) = St [45, 48] := by decide
  have c6 : ("--1" : Str) = St [45, 45, 49] := by decide
  have c7 : ("01" : Str) = St [48, 49] := by decide
  have c8 : ("1/1" : Str) = St [49, 47, 49] := by decide
  have c9 : ("2/4" : Str) = St [50, 47, 52] := by decide
  have c10 : ("1/0" : Str) = St [49, 47, 48] := by decide
  have c11 : ("0/3" : Str) = St [48, 47, 51] := by decide
  have c12 : ("1/" : Str) = St [49, 47] := by decide
  have c13 : ("/2" : Str) = St [47, 50] := by decide
  have c14 : ("1/-2" : Str) = St [49, 47, 45, 50] := by decide
  have c15 : ("-1/-2" : Str) = St [45, 49, 47, 45, 50] := by decide
  have e : ([.str "", .str " ", .str "-", .str "+", .str "+1", .str "-0", .str "--1", .str "01", .str "1/1", .str "2/4", .str "1/0", .str "0/3", .str "1/", .str "/2", .str "1/-2", .str "-1/-2"] : List PD) = (g024 D).map tx24 := by
    rw [c0, c1, c2, c3, c4, c5, c6, c7, c8, c9, c10, c11, c12, c13, c14, c15]
    rfl
  rw [← e]
  simp +decide only [zEV9]
include hD in
theorem od_2 (x1 : Option SV) (XS : List PD) (hX : XS.length ≤ 100) : (sSeq (sSet 3 (d2 gAdd (dV 3) (dA gLstD (dCons (dC (.str "r")) (dCons (d2 gAdd (dSl (dV 2) (dP (dC (.int 1))) (dP0)) (dC (.str "r"))) (dCons (d2 gAdd (dC (.str "0")) (dV 2)) (dCons (d2 gAdd (dC (.str "1")) (dV 2)) (dCons (d2 gAdd (dC (.str "-1")) (dV 2)) (dCons (d2 gAdd (dC (.str "2*")) (dV 2)) (dCons (d2 gAdd (dV 2) (dC (.str " "))) (dCons (d2 gAdd (dC (.str " ")) (dV 2)) dNil))))))))))) (h)) [some (.d (.int d)), x1, some (.d (.str (St ([114] ++ D)))), some (.d (.list XS))] = h [some (.d (.int d)), x1, some (.d (.str (St ([114] ++ D)))), some (.d (.list (XS ++ (g124 D).map tx24)))] := by
  have c0 : (" " : Str) = St [32] := by decide
  have c1 : ("-1" : Str) = St [45, 49] := by decide
  have c2 : ("0" : Str) = St [48] := by decide
  have c3 : ("1" : Str) = St [49] := by decide
  have c4 : ("2*" : Str) = St [50, 42] := by decide
  have c5 : ("r" : Str) = St [114] := by decide
  have a0 := gAdd_st (a := D) (b := [114]) (by simp; omega)
  have a1 := gAdd_st (a := [48]) (b := [114] ++ D) (by simp; omega)
  have a2 := gAdd_st (a := [49]) (b := [114] ++ D) (by simp; omega)
  have a3 := gAdd_st (a := [45, 49]) (b := [114] ++ D) (by simp; omega)
  have a4 := gAdd_st (a := [50, 42]) (b := [114] ++ D) (by simp; omega)
  have a5 := gAdd_st (a := [114] ++ D) (b := [32]) (by simp; omega)
  have a6 := gAdd_st (a := [32]) (b := [114] ++ D) (by simp; omega)
  have s1 := sl_st_lo (t := [114] ++ D) 1 (by simp; omega)
  have s1 : gSl (.str (St ([114] ++ D))) (some 1) none = .ok (.str (St D)) := s1
  have ga : gAdd (.list XS) (.list ((g124 D).map tx24)) = .ok (.list (XS ++ (g124 D).map tx24)) := add_l (by rw [List.length_map]; show _ + 8 ≤ _; omega)
  have e : (g124 D).map tx24 = [.str (St ([114])), .str (St (D ++ [114])), .str (St ([48] ++ ([114] ++ D))), .str (St ([49] ++ ([114] ++ D))), .str (St ([45, 49] ++ ([114] ++ D))), .str (St ([50, 42] ++ ([114] ++ D))), .str (St ([114] ++ D ++ [32])), .str (St ([32] ++ ([114] ++ D)))] := rfl
  rw [e] at ga ⊢
  generalize St (D ++ [114]) = V1 at *
  generalize St ([48] ++ ([114] ++ D)) = V2 at *
  generalize St ([49] ++ ([114] ++ D)) = V3 at *
  generalize St ([45, 49] ++ ([114] ++ D)) = V4 at *
  generalize St ([50, 42] ++ ([114] ++ D)) = V5 at *
  generalize St ([114] ++ D ++ [32]) = V6 at *
  generalize St ([32] ++ ([114] ++ D)) = V7 at *
  generalize St ([114] ++ D) = R at *
  simp +decide only [zEV9, c0, c1, c2, c3, c4, c5, a0, a1, a2, a3, a4, a5, a6, s1, ga]
include hD in
theorem od_3 (x1 : Option SV) (XS : List PD) (hX : XS.length ≤ 100) : (sSeq (sSet 3 (d2 gAdd (dV 3) (dA gLstD (dCons (d2 gAdd (dC (.str "0+")) (dV 2)) (dCons (d2 gAdd (dC (.str "3+0")) (dV 2)) (dCons (d2 gAdd (dC (.str "3+1")) (dV 2)) (dCons (d2 gAdd (dC (.str "3+-")) (dV 2)) (dCons (d2 gAdd (dC (.str "3--")) (dV 2)) (dCons (d2 gAdd (dV 2) (dC (.str "+1"))) (dCons (dC (.str "1+2")) (dCons (dC (.str "1-1/2")) dNil))))))))))) (h)) [some (.d (.int d)), x1, some (.d (.str (St ([114] ++ D)))), some (.d (.list XS))] = h [some (.d (.int d)), x1, some (.d (.str (St ([114] ++ D)))), some (.d (.list (XS ++ (g224 D).map tx24)))] := by
  have c0 : ("+1" : Str) = St [43, 49] := by decide
  have c1 : ("0+" : Str) = St [48, 43] := by decide
  have c2 : ("1+2" : Str) = St [49, 43, 50] := by decide
  have c3 : ("1-1/2" : Str) = St [49, 45, 49, 47, 50] := by decide
  have c4 : ("3+-" : Str) = St [51, 43, 45] := by decide
  have c5 : ("3+0" : Str) = St [51, 43, 48] := by decide
  have c6 : ("3+1" : Str) = St [51, 43, 49] := by decide
  have c7 : ("3--" : Str) = St [51, 45, 45] := by decide
  have a0 := gAdd_st (a := [48, 43]) (b := [114] ++ D) (by simp; omega)
  have a1 := gAdd_st (a := [51, 43, 48]) (b := [114] ++ D) (by simp; omega)
  have a2 := gAdd_st (a := [51, 43, 49]) (b := [114] ++ D) (by simp; omega)
  have a3 := gAdd_st (a := [51, 43, 45]) (b := [114] ++ D) (by simp; omega)
  have a4 := gAdd_st (a := [51, 45, 45]) (b := [114] ++ D) (by simp; omega)
  have a5 := gAdd_st (a := [114] ++ D) (b := [43, 49]) (by simp; omega)
  have ga : gAdd (.list XS) (.list ((g224 D).map tx24)) = .ok (.list (XS ++ (g224 D).map tx24)) := add_l (by rw [List.length_map]; show _ + 8 ≤ _; omega)
  have e : (g224 D).map tx24 = [.str (St ([48, 43] ++ ([114] ++ D))), .str (St ([51, 43, 48] ++ ([114] ++ D))), .str (St ([51, 43, 49] ++ ([114] ++ D))), .str (St ([51, 43, 45] ++ ([114] ++ D))), .str (St ([51, 45, 45] ++ ([114] ++ D))), .str (St ([114] ++ D ++ [43, 49])), .str (St ([49, 43, 50])), .str (St ([49, 45, 49, 47, 50]))] := rfl
  rw [e] at ga ⊢
  generalize St ([48, 43] ++ ([114] ++ D)) = V0 at *
  generalize St ([51, 43, 48] ++ ([114] ++ D)) = V1 at *
  generalize St ([51, 43, 49] ++ ([114] ++ D)) = V2 at *
  generalize St ([51, 43, 45] ++ ([114] ++ D)) = V3 at *
  generalize St ([51, 45, 45] ++ ([114] ++ D)) = V4 at *
  generalize St ([114] ++ D ++ [43, 49]) = V5 at *
  generalize St ([114] ++ D) = R at *
  simp +decide only [zEV9, c0, c1, c2, c3, c4, c5, c6, c7, a0, a1, a2, a3, a4, a5, ga]
include hD ed in
theorem od_4 (x1 : Option SV) (XS : List PD) (hX : XS.length ≤ 100) : (sSeq (sSet 3 (d2 gAdd (dV 3) (dA gLstD (dCons (d2 gAdd (dC (.str "+")) (dV 2)) (dCons (d2 gAdd (dC (.str "r0")) (dA gStr (dCons (dV 0) dNil))) (dCons (d2 gAdd (dV 2) (dV 2)) (dCons (d2 gAdd (dC (.str "1 +")) (dV 2)) (dCons (d2 gAdd (dC (.str "3-1")) (dV 2)) (dCons (d2 gAdd (dC (.str "3-0")) (dV 2)) dNil))))))))) (h)) [some (.d (.int d)), x1, some (.d (.str (St ([114] ++ D)))), some (.d (.list XS))] = h [some (.d (.int d)), x1, some (.d (.str (St ([114] ++ D)))), some (.d (.list (XS ++ (g324 D).map tx24)))] := by
  have c0 : ("+" : Str) = St [43] := by decide
  have c1 : ("1 +" : Str) = St [49, 32, 43] := by decide
  have c2 : ("3-0" : Str) = St [51, 45, 48] := by decide
  have c3 : ("3-1" : Str) = St [51, 45, 49] := by decide
  have c4 : ("r0" : Str) = St [114, 48] := by decide
  have a0 := gAdd_st (a := [43]) (b := [114] ++ D) (by simp; omega)
  have a1 := gAdd_st (a := [114, 48]) (b := D) (by simp; omega)
  have a2 := gAdd_st (a := [114] ++ D) (b := [114] ++ D) (by simp; omega)
  have a3 := gAdd_st (a := [49, 32, 43]) (b := [114] ++ D) (by simp; omega)
  have a4 := gAdd_st (a := [51, 45, 49]) (b := [114] ++ D) (by simp; omega)
  have a5 := gAdd_st (a := [51, 45, 48]) (b := [114] ++ D) (by simp; omega)
  have ga : gAdd (.list XS) (.list ((g324 D).map tx24)) = .ok (.list (XS ++ (g324 D).map tx24)) := add_l (by rw [List.length_map]; show _ + 6 ≤ _; omega)
  have e : (g324 D).map tx24 = [.str (St ([43] ++ ([114] ++ D))), .str (St ([114, 48] ++ D)), .str (St ([114] ++ D ++ ([114] ++ D))), .str (St ([49, 32, 43] ++ ([114] ++ D))), .str (St ([51, 45, 49] ++ ([114] ++ D))), .str (St ([51, 45, 48] ++ ([114] ++ D)))] := rfl
  rw [e] at ga ⊢
  generalize St ([43] ++ ([114] ++ D)) = V0 at *
  generalize St ([114, 48] ++ D) = V1 at *
  generalize St ([114] ++ D ++ ([114] ++ D)) = V2 at *
  generalize St ([49, 32, 43] ++ ([114] ++ D)) = V3 at *
  generalize St ([51, 45, 49] ++ ([114] ++ D)) = V4 at *
  generalize St ([51, 45, 48] ++ ([114] ++ D)) = V5 at *
  generalize St ([114] ++ D) = R at *
  simp +decide only [zEV9, c0, c1, c2, c3, c4, a0, a1, a2, a3, a4, a5, ed, ga]
include hD in
theorem od_5 (XS : List PD) (T : PD) (hX : XS.length ≤ 100) [Bd n 40] (ix : gIx (.list (XS ++ (g424 D).map tx24)) (.int (n % 42)) = .ok T) : (sRet (d2 gIx (d2 gAdd (dV 3) (dA gLstD (dCons (d2 gAdd (dV 2) (dC (.str "1"))) (dCons (dC (.str "1_000")) (dCons (dC (.str "1_0/3")) (dCons (dC (.str "1/1_1")) dNil)))))) (d2 gMod (dV 1) (dC (.int 42))))) [some (.d (.int d)), some (.d (.int n)), some (.d (.str (St ([114] ++ D)))), some (.d (.list XS))] = .rt T := by
  have c0 : ("1" : Str) = St [49] := by decide
  have c1 : ("1/1_1" : Str) = St [49, 47, 49, 95, 49] := by decide
  have c2 : ("1_0/3" : Str) = St [49, 95, 48, 47, 51] := by decide
  have c3 : ("1_000" : Str) = St [49, 95, 48, 48, 48] := by decide
  have a0 := gAdd_st (a := [114] ++ D) (b := [49]) (by simp; omega)
  have ga : gAdd (.list XS) (.list ((g424 D).map tx24)) = .ok (.list (XS ++ (g424 D).map tx24)) := add_l (by rw [List.length_map]; show _ + 4 ≤ _; omega)
  have e : (g424 D).map tx24 = [.str (St ([114] ++ D ++ [49])), .str (St ([49, 95, 48, 48, 48])), .str (St ([49, 95, 48, 47, 51])), .str (St ([49, 47, 49, 95, 49]))] := rfl
  rw [e] at ga ix
  generalize St ([114] ++ D ++ [49]) = V0 at *
  generalize St ([114] ++ D) = R at *
  simp +decide only [zEV9, c0, c1, c2, c3, a0, ga, ix]
end
theorem odd_den (a b : PD) {d : PD} (q : den_law_odd [some (.d a), some (.d b), none, none] = .rt d) : m_law_odd [a, b] = .ok d := by
  unfold m_law_odd
  rw [ev_fn (show [a, b].length ≤ 4 from Nat.le_of_ble_eq_true rfl)]
  show (den_law_odd [some (.d a), some (.d b), none, none]).fin = _
  rw [q]
  rfl
theorem law_odd_ok (d : Int) (hd : 0 ≤ d ∧ d ≤ 100) (n : Int) [Bd n 40] : ∃ t ∈ odd24 (Ti d), m_law_odd [.int d, .int n] = .ok (.str (St t)) := by
  obtain ⟨ed, ld⟩ := Ti_d hd
  have h0 := Int.emod_nonneg n (show (42 : Int) ≠ 0 by decide)
  have h1 := Int.emod_lt_of_pos n (show (0 : Int) < 42 by decide)
  obtain ⟨k, hk⟩ := Int.eq_ofNat_of_zero_le h0
  have hk2 : k < (odd24 (Ti d)).length := by rw [odd24_len]; omega
  refine ⟨(odd24 (Ti d))[k], List.getElem_mem hk2, odd_den _ _ ?_⟩
  have hm : (odd24 (Ti d)).map tx24 = (g024 (Ti d)).map tx24 ++ (g124 (Ti d)).map tx24 ++ (g224 (Ti d)).map tx24 ++ (g324 (Ti d)).map tx24 ++ (g424 (Ti d)).map tx24 := by
    unfold odd24
    simp only [List.map_append]
  have ix : gIx (.list ((odd24 (Ti d)).map tx24)) (.int (n % 42)) = .ok (.str (St (odd24 (Ti d))[k])) := by
    rw [hk]
    refine ix_l ?_
    rw [List.getElem?_map, List.getElem?_eq_getElem hk2]
    rfl
  rw [hm] at ix
  unfold den_law_odd
  rw [od_0 d _ _ ld ed, od_1 (Ti d), od_2 d _ _ ld _ _ (by rw [List.length_map]; show 16 ≤ 100; decide), od_3 d _ _ ld _ _ (by simp only [List.length_append, List.length_map]; show 16 + 8 ≤ 100; decide), od_4 d _ _ ld ed _ _ (by simp only [List.length_append, List.length_map]; show 16 + 8 + 8 ≤ 100; decide)]
  exact od_5 d n (Ti d) ld _ _ (by simp only [List.length_append, List.length_map]; show 16 + 8 + 8 + 6 ≤ 100; decide) ix
/-- none of them is read -/
theorem odd24_all : ∀ k : Fin 101, 2 ≤ k.val → ∀ t ∈ odd24 (Ti (k.val : Int)), readL (k.val : Int) t = none := by decide +kernel
theorem odd24_none (d : Int) (hd : 2 ≤ d ∧ d ≤ 100) {t : List Nat} (h : t ∈ odd24 (Ti d)) : readL d t = none := by
  have e : ((d.toNat : Nat) : Int) = d := by omega
  have := odd24_all ⟨d.toNat, by omega⟩ (by show 2 ≤ d.toNat; omega)
  dsimp only at this
  rw [e] at this
  exact this t h
theorem odd24_len2 {D t : List Nat} (hD : D.length ≤ 3) (h : t ∈ odd24 D) : t.length ≤ 480 := by
  unfold odd24 g024 g124 g224 g324 g424 at h
  simp only [List.mem_append, List.mem_cons, List.not_mem_nil, or_false] at h
  rcases h with (((h | h) | h) | h) | h
  all_goals (repeat' (rcases h with h | h))
  all_goals first | (subst h; simp only [List.length_append, List.length_cons, List.length_nil] <;> omega) | (simp only [List.length_append, List.length_cons, List.length_nil] <;> omega)
end DL

set_option Elab.async false
set_option linter.all false
set_option maxRecDepth 100000
set_option maxHeartbeats 1000000
set_option autoImplicit false
/-! k23 -/
namespace DL
open PySem L2 MB
/-- a fraction of few figures -/
structure SF3 (x : Rat) : Prop where
  n : x.num.natAbs < 10 ^ 33
  d : x.den < 10 ^ 33
theorem SF3.sf {x : Rat} (h : SF3 x) : SF x := ⟨Nat.lt_of_lt_of_le h.n p33, Nat.lt_of_lt_of_le h.d p33⟩
theorem SF3.len {x : Rat} (h : SF3 x) : (Frt x).length ≤ 81 := by
  have l1 := Ti_len h.n
  have l2 := Ti_len (i := (x.den : Int)) (by rw [Int.natAbs_natCast]; exact h.d)
  unfold Frt Tf
  split
  · omega
  · rw [List.length_append, List.length_append]; show _ + 1 + _ ≤ 81; omega
theorem SF3.tlt {d : Int} (hd : 0 ≤ d ∧ d ≤ 100) {x y : Rat} (hx : SF3 x) (hy : SF3 y) : (Tlt d x y).length ≤ 170 := by
  have l1 := hx.len
  have l2 : (Aht y).length ≤ 81 := by
    unfold Aht
    split
    · exact Nat.zero_le _
    · split
      · show 1 ≤ 81; decide
      · exact hy.len
  have l3 := (Ti_d hd).2
  unfold Tlt
  split
  · omega
  · split
    · simp only [List.length_append, List.length_cons, List.length_nil]; omega
    · split
      · simp only [List.length_append, List.length_cons, List.length_nil]; omega
      · simp only [List.length_append, List.length_cons, List.length_nil]; omega
end DL

set_option Elab.async false
set_option linter.all false
set_option maxRecDepth 100000
set_option maxHeartbeats 4000000
set_option autoImplicit false
/-! k24 -/
namespace DL
open PySem L2 MB
open NumText (AllDigits digitsVal)
/-! ### replace of one sign by two -/
def dblZ (t : List Nat) : List Nat := t.flatMap fun c => if c = 45 then [45, 48] else [c]
theorem repl_dbl : ∀ t : List Nat, StrLaws.replL [45] [45, 48] t = dblZ t
  | [] => StrLaws.replL_nil
  | c :: t => by
    by_cases h : c = 45
    · subst h
      rw [StrLaws.replL_hit (by decide) (by rfl)]
      show [45, 48] ++ StrLaws.replL [45] [45, 48] t = _
      rw [repl_dbl t]
      unfold dblZ
      rw [List.flatMap_cons, if_pos rfl]
    · rw [StrLaws.replL_miss (by
        show ¬ [c] = [45]
        intro w
        injection w with w
        exact h w), repl_dbl t]
      unfold dblZ
      rw [List.flatMap_cons, if_neg h]
      rfl
theorem dbl_len : ∀ t : List Nat, (dblZ t).length ≤ 2 * t.length
  | [] => Nat.le_refl 0
  | c :: t => by
    have ih := dbl_len t
    unfold dblZ at ih ⊢
    rw [List.flatMap_cons, List.length_append, List.length_cons]
    have e : (if c = 45 then [45, 48] else [c] : List Nat).length ≤ 2 := by
      split
      · exact Nat.le_refl 2
      · exact Nat.le_succ 1
    omega
theorem dbl_ne {t : List Nat} (h : t ≠ []) : dblZ t ≠ [] := by
  cases t with
  | nil => exact absurd rfl h
  | cons c t =>
    unfold dblZ
    rw [List.flatMap_cons]
    split <;> simp
theorem rep24 (t : List Nat) (hl : t.length ≤ 1000) : gm_replace "-" "-0" (.str (St t)) = .ok (.str (St (dblZ t))) := by
  have s : ("-0" : Str) = St [45, 48] := by decide
  unfold gm_replace
  dsimp only
  rw [if_pos (by
    have e : ("-0" : Str).length = 2 := by decide
    rw [e, st_size]
    omega)]
  congr 2
  refine cps_st ?_
  rw [StrLaws.replace_list (by decide), s, st_minus, st_list, st_list, st_list, repl_dbl]
/-! ### none of the spoiled texts is read -/
theorem no_sign {d : Int} (hd : 0 ≤ d) {t : List Nat} {c : Nat} (hc : c ∈ t) (h : ¬ ((48 ≤ c ∧ c ≤ 57) ∨ c = 43 ∨ c = 45 ∨ c = 47 ∨ c = 114)) : readL d t = none := readL_none fun x y e => h (Tlt_mem hd (by rw [e]; exact hc))
theorem no_last {d : Int} (hd : 0 ≤ d) {s : List Nat} {c : Nat} (h : ¬ (48 ≤ c ∧ c ≤ 57)) : readL d (s ++ [c]) = none := readL_none fun x y e => by
  obtain ⟨s', c', e', hc'⟩ := Tlt_last hd x y
  rw [e'] at e
  have := snoc_inj e
  subst this
  exact h hc'
theorem Ti_inj {i j : Int} (h : Ti i = Ti j) : i = j := by
  by_cases hi : i < 0
  · by_cases hj : j < 0
    · rw [Ti_neg hi, Ti_neg hj] at h
      injection h with _ h
      have := Tn_inj h
      omega
    · exfalso
      rw [Ti_neg hi, Ti_pos (by omega)] at h
      have := Tn_dig j.natAbs 45 (by rw [← h]; exact .head _)
      omega
  · by_cases hj : j < 0
    · exfalso
      rw [Ti_pos (by omega), Ti_neg hj] at h
      have := Tn_dig i.natAbs 45 (by rw [h]; exact .head _)
      omega
    · rw [Ti_pos (by omega), Ti_pos (by omega)] at h
      have := Tn_inj h
      omega
theorem Ti_no {i : Int} {c : Nat} (h1 : c ≠ 45) (h2 : c < 48 ∨ 57 < c) : c ∉ Ti i := fun h => by
  unfold Ti at h
  rcases List.mem_append.mp h with h | h
  · split at h
    · exact h1 (List.mem_singleton.mp h)
    · cases h
  · exact dig_no (Tn_dig _) h2 h
theorem no_root {d : Int} (hd : 0 ≤ d) {x y : Rat} (hy : y ≠ 0) : readL d (Tlt (d + 1) x y) = none := readL_none fun a b e => by
  have hm : 114 ∈ Tlt (d + 1) x y := Classical.byContradiction fun w => hy (Tlt_plain w).2
  obtain ⟨p, e2, hp⟩ := Tlt_root hm
  rw [e2] at e
  have := Ti_inj (Tlt_tail e hp)
  omega
theorem no_nought {d : Int} {r : List Nat} (h : r ≠ []) : readL d (48 :: r) = none := readL_none fun _ _ e => h (Tlt_zero e)
/-- a fraction's text holds one stroke, ahead of a bottom above 1 -/
theorem Frt_stroke {x : Rat} {a b : List Nat} (h : Frt x = a ++ 47 :: b) (ha : 47 ∉ a) : a = Ti x.num ∧ b = Ti (x.den : Int) ∧ (x.den : Int) ≠ 1 := by
  unfold Frt Tf at h
  split at h
  · exfalso
    exact Ti_no (i := x.num) (c := 47) (by decide) (by omega) (by rw [h]; simp)
  · rename_i hd
    have e : Ti x.num ++ [47] ++ Ti (x.den : Int) = Ti x.num ++ 47 :: Ti (x.den : Int) := by simp
    rw [e] at h
    have := cut_uniq h.symm ha (Ti_no (by decide) (by omega))
    exact ⟨this.1, this.2, hd⟩
theorem no_lowest {d : Int} {p q m : Int} (hm : 2 ≤ m) (hq : 0 < q) : readL d (Ti (p * m) ++ [47] ++ Ti (q * m)) = none := readL_none fun a b e => by
  have e2 : Ti (p * m) ++ [47] ++ Ti (q * m) = Ti (p * m) ++ 47 :: Ti (q * m) := by simp
  rw [e2] at e
  have n114 : 114 ∉ Tlt d a b := by
    rw [e]
    intro h
    rcases List.mem_append.mp h with h | h
    · exact Ti_no (by decide) (by omega) h
    · rcases List.mem_cons.mp h with h | h
      · exact absurd h (by decide)
      · exact Ti_no (by decide) (by omega) h
  rw [(Tlt_plain n114).1] at e
  obtain ⟨h1, h2, _⟩ := Frt_stroke e (Ti_no (by decide) (by omega))
  have g1 := Ti_inj h1
  have g2 := Ti_inj h2
  have red := a.reduced
  have d1 : m.natAbs ∣ a.num.natAbs := Int.natAbs_dvd_natAbs.mpr ⟨p, by rw [← g1]; exact Int.mul_comm ..⟩
  have d2 : m.natAbs ∣ a.den := by
    have : m.natAbs ∣ ((a.den : Int)).natAbs := Int.natAbs_dvd_natAbs.mpr ⟨q, by rw [← g2]; exact Int.mul_comm ..⟩
    rw [Int.natAbs_natCast] at this
    exact this
  have : m.natAbs ∣ 1 := by
    have := Nat.dvd_gcd d1 d2
    rw [red] at this
    exact this
  have := Nat.le_of_dvd (by decide) this
  omega
theorem no_over {d : Int} (hd : 0 ≤ d) (x y : Rat) (k : Nat) (hk : k = 48 ∨ k = 49) : readL d (Tlt d x y ++ [47, k]) = none := readL_none fun a b e => by
  by_cases hm : 114 ∈ Tlt d x y
  · obtain ⟨p, e2, hp⟩ := Tlt_root hm
    rw [e2] at e
    have e3 : p ++ 114 :: Ti d ++ [47, k] = p ++ 114 :: (Ti d ++ [47, k]) := by simp
    rw [e3] at e
    have := Tlt_tail e hp
    have := congrArg List.length this
    simp at this
  · rw [(Tlt_plain hm).1] at e
    have n114 : 114 ∉ Tlt d a b := by
      rw [e]
      intro h
      rcases List.mem_append.mp h with h | h
      · exact Frt_114 x h
      · simp only [List.mem_cons, List.not_mem_nil, or_false] at h
        omega
    rw [(Tlt_plain n114).1] at e
    by_cases h47 : 47 ∈ Frt x
    · obtain ⟨u, v, e2, hu⟩ : ∃ u v, Frt x = u ++ 47 :: v ∧ 47 ∉ u := ⟨_, _, tw_cut h47, takeW_ne⟩
      rw [e2] at e
      have e3 : u ++ 47 :: v ++ [47, k] = u ++ 47 :: (v ++ [47, k]) := by simp
      rw [e3] at e
      have h2 := (Frt_stroke e hu).2.1
      exact Ti_no (i := (a.den : Int)) (c := 47) (by decide) (by omega) (by rw [← h2]; simp)
    · have e3 : Frt x ++ [47, k] = Frt x ++ 47 :: [k] := by simp
      rw [e3] at e
      obtain ⟨_, h2, h3⟩ := Frt_stroke e h47
      have hd2 := a.den_pos
      rcases hk with rfl | rfl
      · have : Ti (a.den : Int) = Ti 0 := by rw [← h2]; exact Tn_zero.symm
        have := Ti_inj this
        omega
      · have : Ti (a.den : Int) = Ti 1 := by rw [← h2]; exact Tn_one.symm
        exact h3 (Ti_inj this)
/-! ### spoiled -/
theorem sp_den (a b c e : PD) {d : PD} (q : den_law_spoiled [some (.d a), some (.d b), some (.d c), some (.d e), none, none, none, none] = .rt d) : m_law_spoiled [a, b, c, e] = .ok d := by
  unfold m_law_spoiled
  rw [ev_fn (show [a, b, c, e].length ≤ 8 from Nat.le_of_ble_eq_true rfl)]
  show (den_law_spoiled [some (.d a), some (.d b), some (.d c), some (.d e), none, none, none, none]).fin = _
  rw [q]
  rfl
/-- signs that no length's text holds -/
def bad24 (c : Nat) : Prop := ¬ ((48 ≤ c ∧ c ≤ 57) ∨ c = 43 ∨ c = 45 ∨ c = 47 ∨ c = 114)
theorem pick9 (j : Int) (h0 : 0 ≤ j) (h1 : j < 9) : ∃ c, gIx (.list [.str "*", .str "x", .str ".", .str " ", .str ";", .str "R", .str "\n", .str "\t", .str "_"]) (.int j) = .ok (.str (St [c])) ∧ bad24 c := by
  have c : j = 0 ∨ j = 1 ∨ j = 2 ∨ j = 3 ∨ j = 4 ∨ j = 5 ∨ j = 6 ∨ j = 7 ∨ j = 8 := by omega
  have s0 : ("*" : Str) = St [42] := by decide
  have s1 : ("x" : Str) = St [120] := by decide
  have s2 : ("." : Str) = St [46] := by decide
  have s3 : (" " : Str) = St [32] := by decide
  have s4 : (";" : Str) = St [59] := by decide
  have s5 : ("R" : Str) = St [82] := by decide
  have s6 : ("\n" : Str) = St [10] := by decide
  have s7 : ("\t" : Str) = St [9] := by decide
  have s8 : ("_" : Str) = St [95] := by decide
  rw [s0, s1, s2, s3, s4, s5, s6, s7, s8]
  have b : ∀ c : Nat, bad24 c ↔ ¬ ((48 ≤ c ∧ c ≤ 57) ∨ c = 43 ∨ c = 45 ∨ c = 47 ∨ c = 114) := fun c => Iff.rfl
  rcases c with rfl | rfl | rfl | rfl | rfl | rfl | rfl | rfl | rfl
  · exact ⟨42, ix_l (k := 0) rfl, by rw [b]; decide⟩
  · exact ⟨120, ix_l (k := 1) rfl, by rw [b]; decide⟩
  · exact ⟨46, ix_l (k := 2) rfl, by rw [b]; decide⟩
  · exact ⟨32, ix_l (k := 3) rfl, by rw [b]; decide⟩
  · exact ⟨59, ix_l (k := 4) rfl, by rw [b]; decide⟩
  · exact ⟨82, ix_l (k := 5) rfl, by rw [b]; decide⟩
  · exact ⟨10, ix_l (k := 6) rfl, by rw [b]; decide⟩
  · exact ⟨9, ix_l (k := 7) rfl, by rw [b]; decide⟩
  · exact ⟨95, ix_l (k := 8) rfl, by rw [b]; decide⟩
theorem pick5 (j : Int) (h0 : 0 ≤ j) (h1 : j < 5) : ∃ s, gIx (.list [.str "/1", .str "+", .str "-", .str "/0", .str "r"]) (.int j) = .ok (.str (St s)) ∧ (s = [47, 49] ∨ s = [43] ∨ s = [45] ∨ s = [47, 48] ∨ s = [114]) := by
  have c : j = 0 ∨ j = 1 ∨ j = 2 ∨ j = 3 ∨ j = 4 := by omega
  have s0 : ("/1" : Str) = St [47, 49] := by decide
  have s3 : ("/0" : Str) = St [47, 48] := by decide
  rw [s0, s3, st_plus, st_minus, st_r]
  rcases c with rfl | rfl | rfl | rfl | rfl
  · exact ⟨[47, 49], ix_l (k := 0) rfl, by simp⟩
  · exact ⟨[43], ix_l (k := 1) rfl, by simp⟩
  · exact ⟨[45], ix_l (k := 2) rfl, by simp⟩
  · exact ⟨[47, 48], ix_l (k := 3) rfl, by simp⟩
  · exact ⟨[114], ix_l (k := 4) rfl, by simp⟩
section
variable (d n : Int) [Bd n 40] (X Y : PD) (h : En → Fl)
theorem sp_0 (R : List Nat) (hR : R.length ≤ 1000) (e : m_law_shown [.int d, X, Y] = .ok (.str (St R))) : (sSeq (sSet 4 (dA (gCall 3 [] m_law_shown) (dCons (dV 0) (dCons (dV 1) (dCons (dV 2) dNil))))) (sSeq (sSet 5 (d2 gMod (d2 gDiv (dV 3) (dC (.int 8))) (d2 gAdd (dA gLen (dCons (dV 4) dNil)) (dC (.int 1))))) (sSeq (sSet 6 (d2 gMod (dV 3) (dC (.int 8)))) (h)))) [some (.d (.int d)), some (.d X), some (.d Y), some (.d (.int n)), none, none, none, none] = h [some (.d (.int d)), some (.d X), some (.d Y), some (.d (.int n)), some (.d (.str (St R))), some (.d (.int (n / 8 % ((R.length : Nat) + 1)))), some (.d (.int (n % 8))), none] := by
  have gl : gLen [.str (St R)] = .ok (.int (R.length : Nat)) := by
    unfold gLen
    dsimp only
    rw [if_pos (by rw [st_size]; omega), st_size]
  have bl : Bd ((R.length : Nat) : Int) 40 := ⟨by
    have : (2 : Nat) ^ 40 = 1099511627776 := by decide
    omega⟩
  have hp : 0 < ((R.length : Nat) : Int) + 1 := by omega
  generalize ((R.length : Nat) : Int) = L at *
  generalize St R = S at *
  simp +decide only [zEV9, e, gl, hp]
theorem sp_3y (x1 x2 : Option SV) (R : List Nat) (k w c : Nat) (hR : R.length ≤ 800) (hw : w < 4) (ix : gIx (.list [.str "*", .str "x", .str ".", .str " ", .str ";", .str "R", .str "\n", .str "\t", .str "_"]) (.int (n / 128 % 9)) = .ok (.str (St [c]))) : (sSeq (sIf (dT (d2 gLt (dV 6) (dC (.int 4)))) (sRet (d2 gAdd (d2 gAdd (dSl (dV 4) (dP0) (dP (dV 5))) (d2 gIx (dA gLstD (dCons (dC (.str "*")) (dCons (dC (.str "x")) (dCons (dC (.str ".")) (dCons (dC (.str " ")) (dCons (dC (.str ";")) (dCons (dC (.str "R")) (dCons (dC (.str "\n")) (dCons (dC (.str "\t")) (dCons (dC (.str "_")) dNil)))))))))) (d2 gMod (d2 gDiv (dV 3) (dC (.int 128))) (dC (.int 9))))) (dSl (dV 4) (dP (dV 5)) (dP0)))) (sNx)) (h)) [some (.d (.int d)), x1, x2, some (.d (.int n)), some (.d (.str (St R))), some (.d (.int (k : Int))), some (.d (.int (w : Int))), none] = .rt (.str (St (R.take k ++ [c] ++ R.drop k))) := by
  have s1 := sl_st_hi (t := R) k (by omega)
  have s2 := sl_st_lo (t := R) k (by omega)
  have a1 := gAdd_st (a := R.take k) (b := [c]) (by simp only [List.length_take, List.length_cons, List.length_nil]; omega)
  have a2 := gAdd_st (a := R.take k ++ [c]) (b := R.drop k) (by simp only [List.length_append, List.length_take, List.length_drop, List.length_cons, List.length_nil]; omega)
  have hw2 : (w : Int) < 4 := by omega
  have bw : Bd (w : Int) 40 := ⟨by
    have : (2 : Nat) ^ 40 = 1099511627776 := by decide
    omega⟩
  generalize (k : Int) = K at *
  generalize (w : Int) = W at *
  generalize St R = S at *
  generalize St [c] = C at *
  simp +decide only [zEV9, hw2, s1, s2, ix, a1, a2]
theorem sp_3n (x1 x2 x4 x5 : Option SV) (w : Nat) (hw : 4 ≤ w ∧ w < 8) : (sSeq (sIf (dT (d2 gLt (dV 6) (dC (.int 4)))) (sRet (d2 gAdd (d2 gAdd (dSl (dV 4) (dP0) (dP (dV 5))) (d2 gIx (dA gLstD (dCons (dC (.str "*")) (dCons (dC (.str "x")) (dCons (dC (.str ".")) (dCons (dC (.str " ")) (dCons (dC (.str ";")) (dCons (dC (.str "R")) (dCons (dC (.str "\n")) (dCons (dC (.str "\t")) (dCons (dC (.str "_")) dNil)))))))))) (d2 gMod (d2 gDiv (dV 3) (dC (.int 128))) (dC (.int 9))))) (dSl (dV 4) (dP (dV 5)) (dP0)))) (sNx)) (h)) [some (.d (.int d)), x1, x2, some (.d (.int n)), x4, x5, some (.d (.int (w : Int))), none] = h [some (.d (.int d)), x1, x2, some (.d (.int n)), x4, x5, some (.d (.int (w : Int))), none] := by
  have hw2 : ¬ (w : Int) < 4 := by omega
  have bw : Bd (w : Int) 40 := ⟨by
    have : (2 : Nat) ^ 40 = 1099511627776 := by decide
    omega⟩
  generalize (w : Int) = W at *
  simp +decide only [zEV9, hw2]
theorem sp_4y (x4 x5 : Option SV) (a b : Int) [Bd d 10] [Bd a 1700] (T : PD) (hd : 0 ≤ d) (i0 : gIx Y (.int 0) = .ok (.int a)) (i1 : gIx Y (.int 1) = .ok (.int b)) (e : m_law_shown [.int (d + 1), X, .tuple [.int (a + (if a = 0 then 1 else 0)), .int b]] = .ok T) : (sSeq (sIf (dT (d2 gEq (dV 6) (dC (.int 4)))) (sRet (dA (gCall 3 [] m_law_shown) (dCons (d2 gAdd (dV 0) (dC (.int 1))) (dCons (dV 1) (dCons (dA gTupD (dCons (d2 gAdd (d2 gIx (dV 2) (dC (.int 0))) (dA gInt (dCons (d2 gEq (d2 gIx (dV 2) (dC (.int 0))) (dC (.int 0))) dNil))) (dCons (d2 gIx (dV 2) (dC (.int 1))) dNil))) dNil))))) (sNx)) (h)) [some (.d (.int d)), some (.d X), some (.d Y), some (.d (.int n)), x4, x5, some (.d (.int 4)), none] = .rt T := by
  by_cases c : a = 0
  · rw [if_pos c] at e
    subst c
    have gi : gInt [.bool true] = .ok (.int 1) := rfl
    have e : m_law_shown [.int (d + 1), X, .tuple [.int (0 + 1), .int b]] = .ok T := e
    simp +decide only [zEV9, i0, i1, gi, e]
  · rw [if_neg c] at e
    have gi : gInt [.bool false] = .ok (.int 0) := rfl
    simp +decide only [zEV9, i0, i1, c, gi, e]
theorem sp_4n (x1 x2 x4 x5 : Option SV) (w : Nat) (hw : 5 ≤ w ∧ w < 8) : (sSeq (sIf (dT (d2 gEq (dV 6) (dC (.int 4)))) (sRet (dA (gCall 3 [] m_law_shown) (dCons (d2 gAdd (dV 0) (dC (.int 1))) (dCons (dV 1) (dCons (dA gTupD (dCons (d2 gAdd (d2 gIx (dV 2) (dC (.int 0))) (dA gInt (dCons (d2 gEq (d2 gIx (dV 2) (dC (.int 0))) (dC (.int 0))) dNil))) (dCons (d2 gIx (dV 2) (dC (.int 1))) dNil))) dNil))))) (sNx)) (h)) [some (.d (.int d)), x1, x2, some (.d (.int n)), x4, x5, some (.d (.int (w : Int))), none] = h [some (.d (.int d)), x1, x2, some (.d (.int n)), x4, x5, some (.d (.int (w : Int))), none] := by
  have hw2 : ¬ (w : Int) = 4 := by omega
  have bw : Bd (w : Int) 40 := ⟨by
    have : (2 : Nat) ^ 40 = 1099511627776 := by decide
    omega⟩
  generalize (w : Int) = W at *
  simp +decide only [zEV9, hw2]
theorem sp_5y (x1 x2 x5 : Option SV) (R : List Nat) (hR : R.length ≤ 800) : (sSeq (sIf (dT (d2 gEq (dV 6) (dC (.int 5)))) (sRet (d2 gAdd (dC (.str "0")) (d1 (gm_replace "-" "-0") (dV 4)))) (sNx)) (h)) [some (.d (.int d)), x1, x2, some (.d (.int n)), some (.d (.str (St R))), x5, some (.d (.int 5)), none] = .rt (.str (St (48 :: dblZ R))) := by
  have r := rep24 R (by omega)
  have s0 : ("0" : Str) = St [48] := by decide
  have a1 := gAdd_st (a := [48]) (b := dblZ R) (by have := dbl_len R; show 1 + _ ≤ _; omega)
  have a1 : gAdd (.str (St [48])) (.str (St (dblZ R))) = .ok (.str (St (48 :: dblZ R))) := a1
  generalize St (48 :: dblZ R) = T at *
  generalize St (dblZ R) = T2 at *
  generalize St R = S at *
  simp +decide only [zEV9, r, s0, a1]
theorem sp_5n (x1 x2 x4 x5 : Option SV) (w : Nat) (hw : 6 ≤ w ∧ w < 8) : (sSeq (sIf (dT (d2 gEq (dV 6) (dC (.int 5)))) (sRet (d2 gAdd (dC (.str "0")) (d1 (gm_replace "-" "-0") (dV 4)))) (sNx)) (h)) [some (.d (.int d)), x1, x2, some (.d (.int n)), x4, x5, some (.d (.int (w : Int))), none] = h [some (.d (.int d)), x1, x2, some (.d (.int n)), x4, x5, some (.d (.int (w : Int))), none] := by
  have hw2 : ¬ (w : Int) = 5 := by omega
  have bw : Bd (w : Int) 40 := ⟨by
    have : (2 : Nat) ^ 40 = 1099511627776 := by decide
    omega⟩
  generalize (w : Int) = W at *
  simp +decide only [zEV9, hw2]
theorem sp_6y (x2 x4 x5 : Option SV) (a b : Int) [Bd a 10] [Bd b 10] (i0 : gIx X (.int 0) = .ok (.int a)) (i1 : gIx X (.int 1) = .ok (.int b)) (m : Int) [Bd m 10] (hm : 2 + n / 8 % 9 = m) (A B : List Nat) (la : A.length ≤ 50) (lb : B.length ≤ 50) (ea : gStr [.int (a * m)] = .ok (.str (St A))) (eb : gStr [.int (b * m)] = .ok (.str (St B))) : (sSeq (sIf (dT (d2 gEq (dV 6) (dC (.int 6)))) (sSeq (sSet 7 (d2 gAdd (dC (.int 2)) (d2 gMod (d2 gDiv (dV 3) (dC (.int 8))) (dC (.int 9))))) (sRet (d2 gAdd (d2 gAdd (dA gStr (dCons (d2 gMul (d2 gIx (dV 1) (dC (.int 0))) (dV 7)) dNil)) (dC (.str "/"))) (dA gStr (dCons (d2 gMul (d2 gIx (dV 1) (dC (.int 1))) (dV 7)) dNil))))) (sNx)) (h)) [some (.d (.int d)), some (.d X), x2, some (.d (.int n)), x4, x5, some (.d (.int 6)), none] = .rt (.str (St (A ++ [47] ++ B))) := by
  have a1 := gAdd_st (a := A) (b := [47]) (by show _ + 1 ≤ _; omega)
  have a2 := gAdd_st (a := A ++ [47]) (b := B) (by simp only [List.length_append, List.length_cons, List.length_nil]; omega)
  generalize St (A ++ [47] ++ B) = T at *
  generalize St (A ++ [47]) = T1 at *
  generalize St A = T2 at *
  generalize St B = T3 at *
  simp +decide only [zEV9, hm, i0, i1, ea, eb, st_slash, a1, a2]
theorem sp_6n (x1 x2 x4 x5 : Option SV) : (sSeq (sIf (dT (d2 gEq (dV 6) (dC (.int 6)))) (sSeq (sSet 7 (d2 gAdd (dC (.int 2)) (d2 gMod (d2 gDiv (dV 3) (dC (.int 8))) (dC (.int 9))))) (sRet (d2 gAdd (d2 gAdd (dA gStr (dCons (d2 gMul (d2 gIx (dV 1) (dC (.int 0))) (dV 7)) dNil)) (dC (.str "/"))) (dA gStr (dCons (d2 gMul (d2 gIx (dV 1) (dC (.int 1))) (dV 7)) dNil))))) (sNx)) (h)) [some (.d (.int d)), x1, x2, some (.d (.int n)), x4, x5, some (.d (.int 7)), none] = h [some (.d (.int d)), x1, x2, some (.d (.int n)), x4, x5, some (.d (.int 7)), none] := by
  simp +decide only [zEV9]
theorem sp_7 (x1 x2 x5 x6 : Option SV) (R s : List Nat) (hR : R.length ≤ 800) (hs : s.length ≤ 10) (ix : gIx (.list [.str "/1", .str "+", .str "-", .str "/0", .str "r"]) (.int (n / 8 % 5)) = .ok (.str (St s))) : (sRet (d2 gAdd (dV 4) (d2 gIx (dA gLstD (dCons (dC (.str "/1")) (dCons (dC (.str "+")) (dCons (dC (.str "-")) (dCons (dC (.str "/0")) (dCons (dC (.str "r")) dNil)))))) (d2 gMod (d2 gDiv (dV 3) (dC (.int 8))) (dC (.int 5)))))) [some (.d (.int d)), x1, x2, some (.d (.int n)), some (.d (.str (St R))), x5, x6, none] = .rt (.str (St (R ++ s))) := by
  have a1 := gAdd_st (a := R) (b := s) (by omega)
  generalize St (R ++ s) = T at *
  generalize St R = S at *
  generalize St s = S2 at *
  simp +decide only [zEV9, ix, a1]
end
/-- a small fraction -/
structure SF1 (x : Rat) : Prop where
  n : x.num.natAbs ≤ 20
  d : x.den ≤ 12
theorem SF1.sf3 {x : Rat} (h : SF1 x) : SF3 x := ⟨Nat.lt_of_le_of_lt h.n (by decide), Nat.lt_of_le_of_lt h.d (by decide)⟩
theorem law_fraction24 (n : Int) (h0 : 0 ≤ n) [bn : Bd n 31] : ∃ x : Rat, m_law_fraction_v2 [.int n, .bool false] = .ok (frD x) ∧ SF1 x := by
  obtain ⟨p, q, e, hl, _, _, hs⟩ := law_fraction_v2_ok n h0 false
  obtain ⟨hp, hq⟩ := hs rfl
  refine ⟨(p : Rat) / (q : Rat), by rw [fr_low hl]; exact e, ?_⟩
  have e2 := fr_low hl
  unfold frD at e2
  injection e2 with e2
  injection e2 with e3 e4
  injection e4 with e4
  injection e3 with e3
  injection e4 with e4
  exact ⟨by rw [e3]; exact hp, by omega⟩
theorem law_spoiled_ok (d : Int) (hd : 0 ≤ d ∧ d ≤ 99) {x y : Rat} (hx : SF1 x) (hy : SF1 y) (n : Int) (n0 : 0 ≤ n) [Bd n 40] : ∃ t : List Nat, m_law_spoiled [.int d, frD x, frD y, .int n] = .ok (.str (St t)) ∧ t.length ≤ 480 ∧ readL d t = none := by
  have el := law_shown_ok d ⟨hd.1, by omega⟩ hx.sf3.sf hy.sf3.sf
  have lR := SF3.tlt (d := d) ⟨hd.1, by omega⟩ hx.sf3 hy.sf3
  have bd : Bd d 10 := ⟨by
    have : (2 : Nat) ^ 10 = 1024 := by decide
    omega⟩
  have w0 := Int.emod_nonneg n (show (8 : Int) ≠ 0 by decide)
  have w1 := Int.emod_lt_of_pos n (show (0 : Int) < 8 by decide)
  obtain ⟨w, hw⟩ := Int.eq_ofNat_of_zero_le w0
  obtain ⟨R, hR⟩ : ∃ R, Tlt d x y = R := ⟨_, rfl⟩
  rw [hR] at el lR
  have hp : 0 < ((R.length : Nat) : Int) + 1 := by omega
  have k0 := Int.emod_nonneg (n / 8) (show ((R.length : Nat) : Int) + 1 ≠ 0 by omega)
  have k1 := Int.emod_lt_of_pos (n / 8) hp
  obtain ⟨k, hk⟩ := Int.eq_ofNat_of_zero_le k0
  have mk : ∀ t : List Nat, t.length ≤ 480 → readL d t = none → den_law_spoiled [some (.d (.int d)), some (.d (frD x)), some (.d (frD y)), some (.d (.int n)), none, none, none, none] = .rt (.str (St t)) → ∃ t : List Nat, m_law_spoiled [.int d, frD x, frD y, .int n] = .ok (.str (St t)) ∧ t.length ≤ 480 ∧ readL d t = none := fun t h1 h2 h3 => ⟨t, sp_den _ _ _ _ h3, h1, h2⟩
  have i0 : ∀ z : Rat, gIx (frD z) (.int 0) = .ok (.int z.num) := fun _ => ix_t0
  have i1 : ∀ z : Rat, gIx (frD z) (.int 1) = .ok (.int (z.den : Int)) := fun _ => ix_t1
  have start := fun h => sp_0 d n (frD x) (frD y) h R (by omega) el
  rw [hw, hk] at start
  by_cases c4 : w < 4
  · have j0 := Int.emod_nonneg (n / 128) (show (9 : Int) ≠ 0 by decide)
    have j1 := Int.emod_lt_of_pos (n / 128) (show (0 : Int) < 9 by decide)
    obtain ⟨c, ix, hb⟩ := pick9 (n / 128 % 9) j0 j1
    refine mk (R.take k ++ [c] ++ R.drop k) ?_ (no_sign hd.1 (c := c) (by simp) hb) ?_
    · simp only [List.length_append, List.length_take, List.length_drop, List.length_cons, List.length_nil]; omega
    · unfold den_law_spoiled
      rw [start]
      exact sp_3y d n _ _ _ R k w c (by omega) c4 ix
  by_cases c5 : w = 4
  · subst c5
    have by1 := hy.sf3.sf.br
    have bn : Bd y.num 1700 := inferInstance
    obtain ⟨y', hy', sy', ny'⟩ : ∃ y' : Rat, frD y' = .tuple [.int (y.num + (if y.num = 0 then 1 else 0)), .int (y.den : Int)] ∧ SF1 y' ∧ y' ≠ 0 := by
      by_cases z : y.num = 0
      · have hy0 : y = 0 := Rat.num_eq_zero.mp z
        subst hy0
        exact ⟨1, rfl, ⟨by decide, by decide⟩, by decide⟩
      · refine ⟨y, by rw [if_neg z, Int.add_zero], hy, fun e => z (by rw [e]; rfl)⟩
    have e4 := law_shown_ok (d + 1) ⟨by omega, by omega⟩ hx.sf3.sf sy'.sf3.sf
    rw [hy'] at e4
    refine mk (Tlt (d + 1) x y') ?_ (no_root hd.1 ny') ?_
    · have := SF3.tlt (d := d + 1) ⟨by omega, by omega⟩ hx.sf3 sy'.sf3
      omega
    · unfold den_law_spoiled
      rw [start, sp_3n d n _ _ _ _ _ 4 (by omega)]
      exact sp_4y d n (frD x) (frD y) _ _ _ y.num (y.den : Int) _ hd.1 (i0 y) (i1 y) e4
  by_cases c6 : w = 5
  · subst c6
    have hne : R ≠ [] := fun e => by
      obtain ⟨s, c, e2, _⟩ := Tlt_last hd.1 x y
      rw [hR, e] at e2
      simp at e2
    refine mk (48 :: dblZ R) ?_ (no_nought (dbl_ne hne)) ?_
    · have := dbl_len R
      rw [List.length_cons]
      omega
    · unfold den_law_spoiled
      rw [start, sp_3n d n _ _ _ _ _ 5 (by omega), sp_4n d n _ _ _ _ _ 5 (by omega)]
      exact sp_5y d n _ _ _ _ R (by omega)
  by_cases c7 : w = 6
  · subst c7
    obtain ⟨m, hm⟩ : ∃ m, 2 + n / 8 % 9 = m := ⟨_, rfl⟩
    have hm2 : 2 ≤ m ∧ m ≤ 10 := by omega
    have t10 : (2 : Nat) ^ 10 = 1024 := by decide
    have bm : Bd m 10 := ⟨by omega⟩
    have hn1 := hx.n
    have hd1 := hx.d
    have ba : Bd x.num 10 := ⟨by omega⟩
    have bb : Bd (x.den : Int) 10 := ⟨by rw [Int.natAbs_natCast]; omega⟩
    have sm : ∀ a : Int, a.natAbs ≤ 20 → gStr [.int (a * m)] = .ok (.str (St (Ti (a * m)))) ∧ (Ti (a * m)).length ≤ 40 := fun a ha => by
      have h1 : (a * m).natAbs ≤ 20 * 10 := by
        rw [Int.natAbs_mul]
        exact Nat.mul_le_mul ha (by omega)
      have h2 : (a * m).natAbs < 10 ^ 33 := Nat.lt_of_le_of_lt h1 (by decide)
      exact ⟨gStr_i (log33 h2), Ti_len h2⟩
    obtain ⟨ea, la⟩ := sm x.num hn1
    obtain ⟨eb, lb⟩ := sm (x.den : Int) (by rw [Int.natAbs_natCast]; omega)
    refine mk (Ti (x.num * m) ++ [47] ++ Ti ((x.den : Int) * m)) ?_ (no_lowest hm2.1 (by have := x.den_pos; omega)) ?_
    · simp only [List.length_append, List.length_cons, List.length_nil]; omega
    · unfold den_law_spoiled
      rw [start, sp_3n d n _ _ _ _ _ 6 (by omega), sp_4n d n _ _ _ _ _ 6 (by omega), sp_5n d n _ _ _ _ _ 6 (by omega)]
      exact sp_6y d n (frD x) _ _ _ _ x.num (x.den : Int) (i0 x) (i1 x) m hm _ _ (by omega) (by omega) ea eb
  · have hw7 : w = 7 := by omega
    subst hw7
    have j0 := Int.emod_nonneg (n / 8) (show (5 : Int) ≠ 0 by decide)
    have j1 := Int.emod_lt_of_pos (n / 8) (show (0 : Int) < 5 by decide)
    obtain ⟨s, ix, hs⟩ := pick5 (n / 8 % 5) j0 j1
    have ls : s.length ≤ 10 := by rcases hs with rfl | rfl | rfl | rfl | rfl <;> decide
    have nn : readL d (R ++ s) = none := by
      rw [← hR]
      rcases hs with rfl | rfl | rfl | rfl | rfl
      · exact no_over hd.1 x y 49 (.inr rfl)
      · exact no_last hd.1 (by omega)
      · exact no_last hd.1 (by omega)
      · exact no_over hd.1 x y 48 (.inl rfl)
      · exact no_last hd.1 (by omega)
    refine mk (R ++ s) (by rw [List.length_append]; omega) nn ?_
    unfold den_law_spoiled
    rw [start, sp_3n d n _ _ _ _ _ 7 (by omega), sp_4n d n _ _ _ _ _ 7 (by omega), sp_5n d n _ _ _ _ _ 7 (by omega)]
    have six := fun h => sp_6n d n h (some (.d (frD x))) (some (.d (frD y))) (some (.d (.str (St R)))) (some (.d (.int (k : Int))))
    have e7 : ((7 : Nat) : Int) = 7 := rfl
    rw [e7, six]
    exact sp_7 d n _ _ _ _ R s (by omega) ls ix
theorem thing24 (j : Int) (h0 : 0 ≤ j) (h1 : j < 7) : ∃ X : PD, gIx (.list [.none, .int 5, .bool true, .list [.str "1"], .tuple [.str "1"], .tuple [.int 1, .int 0, .int 1], .dict []]) (.int j) = .ok X ∧ gIsi "str" X = .ok (.bool false) := by
  have c : j = 0 ∨ j = 1 ∨ j = 2 ∨ j = 3 ∨ j = 4 ∨ j = 5 ∨ j = 6 := by omega
  rcases c with rfl | rfl | rfl | rfl | rfl | rfl | rfl
  · exact ⟨_, ix_l (k := 0) rfl, rfl⟩
  · exact ⟨_, ix_l (k := 1) rfl, rfl⟩
  · exact ⟨_, ix_l (k := 2) rfl, rfl⟩
  · exact ⟨_, ix_l (k := 3) rfl, rfl⟩
  · exact ⟨_, ix_l (k := 4) rfl, rfl⟩
  · exact ⟨_, ix_l (k := 5) rfl, rfl⟩
  · exact ⟨_, ix_l (k := 6) rfl, rfl⟩
theorem k24_turn (ns : List Int) (k : Nat) (hk1 : 1 ≤ k) (hk : k < ns.length) (hl : ns.length ≤ 63) (d : Int) (hd : 2 ≤ d ∧ d ≤ 99) (ys : En) (hy : ys.length = 7) : Keeps [some (.d (.list (ns.map PyData.int))), some (.d (.int d))] 8 (lb1_law_k24 ([some (.d (.list (ns.map PyData.int))), some (.d (.int d))] ++ some (.d (.int (k : Nat))) :: ys)) := by
  have bk : Bd (k : Int) 40 := ⟨by have : (2 : Nat) ^ 40 = 1099511627776 := by decide
                                   omega⟩
  have ex := ix_ints (zs := ns) (k := (k : Int)) (by omega) (by omega)
  obtain ⟨z, ez, z0, bz⟩ := law_mixed_ok (ns.getD ((k : Int).toNat) 0) (k : Int)
  have t31 : (2 : Nat) ^ 31 = 2147483648 := by decide
  have t40 : (2 : Nat) ^ 40 = 1099511627776 := by decide
  have hz := bz.h
  have bz4 : Bd z 40 := bz.mono (by decide)
  obtain ⟨x, e1, sx⟩ := law_fraction24 z z0 (bn := bz)
  obtain ⟨y, e2, sy⟩ := law_fraction24 (z * 48271 % 2147483587) (Int.emod_nonneg _ (by decide)) (bn := ⟨by
    have := Int.emod_nonneg (z * 48271) (show (2147483587 : Int) ≠ 0 by decide)
    have := Int.emod_lt_of_pos (z * 48271) (show (0 : Int) < 2147483587 by decide)
    omega⟩)
  have hd100 : 0 ≤ d ∧ d ≤ 100 := ⟨by omega, by omega⟩
  obtain ⟨t, ht, eo⟩ := law_odd_ok d hd100 z
  have r1 := refused24_t d hd100 t (odd24_len2 (Ti_d hd100).2 ht) (odd24_none d ⟨hd.1, by omega⟩ ht)
  obtain ⟨X, eX, iX⟩ := thing24 (z % 7) (Int.emod_nonneg z (by decide)) (Int.emod_lt_of_pos z (by decide))
  have r2 := refused24 d X (read_no d X iX)
  have b39 : Bd (z / 39) 40 := ⟨by omega⟩
  obtain ⟨s, es, ls, ns'⟩ := law_spoiled_ok d ⟨by omega, hd.2⟩ sx sy (z / 39) (by omega)
  have r3 := refused24_t d hd100 s ls ns'
  match ys, hy with
  | [x3, x4, x5, x6, x7, x8, x9], _ =>
    generalize frD x = FX at *
    generalize frD y = FY at *
    generalize St t = T at *
    generalize St s = T2 at *
    generalize ns.map PyData.int = S at *
    refine ⟨[some (.d (.int (k : Int))), some (.d (.int z)), some (.d FX), some (.d FY), some (.d X), x7, x8, x9], rfl, ?_⟩
    simp +decide only [lb1_law_k24, List.cons_append, List.nil_append, zEV9, ex, ez, e1, e2, eX, eo, r1, r2, es, r3]
theorem k24_den (s : PD) {d : PD} (e : den_law_k24 [some (.d s), none, none, none, none, none, none, none, none, none] = .rt d) : m_law_k24 [s] = .ok d := by
  unfold m_law_k24
  rw [ev_fn (show [s].length ≤ 10 from Nat.le_of_ble_eq_true rfl)]
  show (den_law_k24 [some (.d s), none, none, none, none, none, none, none, none, none]).fin = _
  rw [e]
  rfl
theorem k24_a (S : PD) (d : Int) (h : En → Fl) (x2 x3 x4 x5 x6 x7 x8 x9 : Option SV) (er : m_law_root_v4 [S] = .ok (.int d)) : (sSeq (sSet 1 (dA (gCall 1 [] m_law_root_v4) (dCons (dV 0) dNil))) (h)) [some (.d S), none, x2, x3, x4, x5, x6, x7, x8, x9] = h [some (.d S), some (.d (.int d)), x2, x3, x4, x5, x6, x7, x8, x9] := by
  simp +decide only [zEV9, er]
theorem read_shown (d : Int) (hd : 0 ≤ d ∧ d ≤ 100) (t : List Nat) (x y : Rat) (e : Tlt d x y = t) (hl : t.length ≤ 480) : m_read_length [.int d, .str (St t)] = .ok (lnD x y) := by
  have er := read_length_ok d hd t hl
  rw [← e, readL_Tlt hd.1] at er
  rw [← e]
  exact er
theorem good24 (d : Int) (hd : 0 ≤ d ∧ d ≤ 100) : m_read_length [.int d, .str "7"] = .ok (.tuple [.int 7, .int 0, .int 1]) ∧ m_read_length [.int d, .str "-7/3"] = .ok (.tuple [.int (-7), .int 0, .int 3]) ∧ m_read_length [.int d, .str (St ([114] ++ Ti d))] = .ok (.tuple [.int 0, .int 1, .int 1]) ∧
    m_read_length [.int d, .str (St ([53, 47, 50, 45, 114] ++ Ti d))] = .ok (.tuple [.int 5, .int (-2), .int 2]) ∧ m_read_length [.int d, .str (St ([45, 49, 47, 57, 43, 52, 47, 51, 114] ++ Ti d))] = .ok (.tuple [.int (-1), .int 12, .int 9]) := by
  have ld := (Ti_d hd).2
  have f1 : Frt ((7 : Int) : Rat) = [55] := by decide +kernel
  have f2 : Frt ((-7 : Int) / (3 : Int) : Rat) = [45, 55, 47, 51] := by decide +kernel
  have f3 : Frt ((5 : Int) / (2 : Int) : Rat) = [53, 47, 50] := by decide +kernel
  have f4 : Frt ((-1 : Int) / (9 : Int) : Rat) = [45, 49, 47, 57] := by decide +kernel
  have a4 : Aht ((4 : Int) / (3 : Int) : Rat) = [52, 47, 51] := by decide +kernel
  have a3 : Aht ((-1 : Int) : Rat) = [45] := by decide +kernel
  have a2 : Aht ((1 : Int) : Rat) = [] := by decide +kernel
  refine ⟨?_, ?_, ?_, ?_, ?_⟩
  · have s : ("7" : Str) = St [55] := by decide
    rw [s, read_shown d hd [55] ((7 : Int) : Rat) 0 (by unfold Tlt; rw [if_pos rfl]; exact f1) (by decide)]
    rfl
  · have s : ("-7/3" : Str) = St [45, 55, 47, 51] := by decide
    rw [s, read_shown d hd [45, 55, 47, 51] ((-7 : Int) / (3 : Int) : Rat) 0 (by unfold Tlt; rw [if_pos rfl]; exact f2) (by decide)]
    have q : qA ((-7 : Int) / (3 : Int) : Rat) 0 = -7 ∧ qB ((-7 : Int) / (3 : Int) : Rat) 0 = 0 ∧ qN ((-7 : Int) / (3 : Int) : Rat) 0 = 3 := by decide +kernel
    unfold lnD
    rw [q.1, q.2.1, q.2.2]
  · rw [read_shown d hd _ 0 ((1 : Int) : Rat) (by
      unfold Tlt
      rw [if_neg (by decide), if_pos rfl, a2]
      rfl) (by simp only [List.length_append, List.length_cons, List.length_nil]; omega)]
    rfl
  · rw [read_shown d hd _ ((5 : Int) / (2 : Int) : Rat) ((-1 : Int) : Rat) (by
      unfold Tlt
      rw [if_neg (by decide), if_neg (by decide +kernel), if_neg (by decide), f3, a3]
      rfl) (by simp only [List.length_append, List.length_cons, List.length_nil]; omega)]
    have q : qA ((5 : Int) / (2 : Int) : Rat) ((-1 : Int) : Rat) = 5 ∧ qB ((5 : Int) / (2 : Int) : Rat) ((-1 : Int) : Rat) = -2 ∧ qN ((5 : Int) / (2 : Int) : Rat) ((-1 : Int) : Rat) = 2 := by decide +kernel
    unfold lnD
    rw [q.1, q.2.1, q.2.2]
  · rw [read_shown d hd _ ((-1 : Int) / (9 : Int) : Rat) ((4 : Int) / (3 : Int) : Rat) (by
      unfold Tlt
      rw [if_neg (by decide +kernel), if_neg (by decide +kernel), if_pos (by decide +kernel), f4, a4]
      rfl) (by simp only [List.length_append, List.length_cons, List.length_nil]; omega)]
    have q : qA ((-1 : Int) / (9 : Int) : Rat) ((4 : Int) / (3 : Int) : Rat) = -1 ∧ qB ((-1 : Int) / (9 : Int) : Rat) ((4 : Int) / (3 : Int) : Rat) = 12 ∧ qN ((-1 : Int) / (9 : Int) : Rat) ((4 : Int) / (3 : Int) : Rat) = 9 := by decide +kernel
    unfold lnD
    rw [q.1, q.2.1, q.2.2]
section
variable (d : Int) (h : En → Fl)
theorem k24_b (D : List Nat) (hD : D.length ≤ 3) (x0 : Option SV) (x2 x3 x4 x5 x6 x7 x8 x9 : Option SV) (ed : gStr [.int d] = .ok (.str (St D))) : (sSeq (sSet 7 (dA gLstD (dCons (dC (.str "7")) (dCons (dC (.str "-7/3")) (dCons (d2 gAdd (dC (.str "r")) (dA gStr (dCons (dV 1) dNil))) (dCons (d2 gAdd (dC (.str "5/2-r")) (dA gStr (dCons (dV 1) dNil))) (dCons (d2 gAdd (dC (.str "-1/9+4/3r")) (dA gStr (dCons (dV 1) dNil))) dNil))))))) (h)) [x0, some (.d (.int d)), x2, x3, x4, x5, x6, x7, x8, x9] = h [x0, some (.d (.int d)), x2, x3, x4, x5, x6, some (.d (.list [.str "7", .str "-7/3", .str (St ([114] ++ D)), .str (St ([53, 47, 50, 45, 114] ++ D)), .str (St ([45, 49, 47, 57, 43, 52, 47, 51, 114] ++ D))])), x8, x9] := by
  have s2 : ("5/2-r" : Str) = St [53, 47, 50, 45, 114] := by decide
  have s3 : ("-1/9+4/3r" : Str) = St [45, 49, 47, 57, 43, 52, 47, 51, 114] := by decide
  have a1 := gAdd_st (a := [114]) (b := D) (by simp; omega)
  have a2 := gAdd_st (a := [53, 47, 50, 45, 114]) (b := D) (by simp; omega)
  have a3 := gAdd_st (a := [45, 49, 47, 57, 43, 52, 47, 51, 114]) (b := D) (by simp; omega)
  generalize St ([114] ++ D) = V1 at *
  generalize St ([53, 47, 50, 45, 114] ++ D) = V2 at *
  generalize St ([45, 49, 47, 57, 43, 52, 47, 51, 114] ++ D) = V3 at *
  simp +decide only [zEV9, ed, st_r, s2, s3, a1, a2, a3]
theorem k24_c (x0 x1 x2 x3 x4 x5 x6 x7 x8 x9 : Option SV) : (sSeq (sSet 8 (dA gLstD (dCons (dA (gCall 3 [(.int 0), (.int 1)] m_length) (dCons (dC (.int 7)) dNil)) (dCons (dA (gCall 3 [] m_length) (dCons (d1 gNeg (dC (.int 7))) (dCons (dC (.int 0)) (dCons (dC (.int 3)) dNil)))) (dCons (dA (gCall 3 [(.int 1)] m_length) (dCons (dC (.int 0)) (dCons (dC (.int 1)) dNil))) (dCons (dA (gCall 3 [] m_length) (dCons (dC (.int 5)) (dCons (d1 gNeg (dC (.int 2))) (dCons (dC (.int 2)) dNil)))) (dCons (dA (gCall 3 [] m_length) (dCons (d1 gNeg (dC (.int 1))) (dCons (dC (.int 12)) (dCons (dC (.int 9)) dNil)))) dNil))))))) (h)) [x0, x1, x2, x3, x4, x5, x6, x7, x8, x9] = h [x0, x1, x2, x3, x4, x5, x6, x7, some (.d (.list [.tuple [.int 7, .int 0, .int 1], .tuple [.int (-7), .int 0, .int 3], .tuple [.int 0, .int 1, .int 1], .tuple [.int 5, .int (-2), .int 2], .tuple [.int (-1), .int 12, .int 9]])), x9] := by
  have L : ∀ a b n a' b' n' : Int, n ≠ 0 → Bd n 9 → lA a b n = a' → lB a b n = b' → lN a b n = n' → m_length [.int a, .int b, .int n] = .ok (.tuple [.int a', .int b', .int n']) := fun a b n a' b' n' h hb e1 e2 e3 => by
    rw [length_eq a b n h (by decide), e1, e2, e3]
  have e1 := L 7 0 1 7 0 1 (by decide) ⟨by decide⟩ (by decide +kernel) (by decide +kernel) (by decide +kernel)
  have e2 := L (-7) 0 3 (-7) 0 3 (by decide) ⟨by decide⟩ (by decide +kernel) (by decide +kernel) (by decide +kernel)
  have e3 := L 0 1 1 0 1 1 (by decide) ⟨by decide⟩ (by decide +kernel) (by decide +kernel) (by decide +kernel)
  have e4 := L 5 (-2) 2 5 (-2) 2 (by decide) ⟨by decide⟩ (by decide +kernel) (by decide +kernel) (by decide +kernel)
  have e5 := L (-1) 12 9 (-1) 12 9 (by decide) ⟨by decide⟩ (by decide +kernel) (by decide +kernel) (by decide +kernel)
  have n1 : gNeg (.int 1) = .ok (.int (-1)) := rfl
  have n2 : gNeg (.int 2) = .ok (.int (-2)) := rfl
  have n7 : gNeg (.int 7) = .ok (.int (-7)) := rfl
  simp +decide only [zEV9, n1, n2, n7, e1, e2, e3, e4, e5]
theorem k24_d (x0 x2 x3 x4 x5 x6 : Option SV) (t1 t2 t3 t4 t5 r1 r2 r3 r4 r5 : PD) (x9 : Option SV) (e1 : m_read_length [.int d, t1] = .ok r1) (e2 : m_read_length [.int d, t2] = .ok r2) (e3 : m_read_length [.int d, t3] = .ok r3) (e4 : m_read_length [.int d, t4] = .ok r4) (e5 : m_read_length [.int d, t5] = .ok r5) (g : gEq (.list [r1, r2, r3, r4, r5]) (.list [r1, r2, r3, r4, r5]) = .ok (.bool true)) : (sRet (d2 gEq (dLc (iL (dV 7)) (.one 9) [9] bYes le2_law_k24) (dV 8))) [x0, some (.d (.int d)), x2, x3, x4, x5, x6, some (.d (.list [t1, t2, t3, t4, t5])), some (.d (.list [r1, r2, r3, r4, r5])), x9] = .rt (.bool true) := by
  have q : ∀ (c7 c8 : Option SV) (t r : PD), m_read_length [.int d, t] = .ok r → le2_law_k24 [x0, some (.d (.int d)), x2, x3, x4, x5, x6, c7, c8, some (.d t)] = .ok r := fun c7 c8 t r e => by
    simp +decide only [le2_law_k24, zEV9, e]
  have L : ∀ c7 c8 : Option SV, lcL (.one 9) bYes le2_law_k24 [x0, some (.d (.int d)), x2, x3, x4, x5, x6, c7, c8, none] [t1, t2, t3, t4, t5] = .ok [r1, r2, r3, r4, r5] := fun c7 c8 => by
    refine lcL_1 (q _ _ _ _ e1) (lcL_1 (q _ _ _ _ e2) (lcL_1 (q _ _ _ _ e3) (lcL_1 (q _ _ _ _ e4) (lcL_1 (q _ _ _ _ e5) rfl))))
  have hq : ([t1, t2, t3, t4, t5] : List PD).length ≤ 1000000 := by show 5 ≤ 1000000; decide
  generalize ([t1, t2, t3, t4, t5] : List PD) = TS at *
  generalize ([r1, r2, r3, r4, r5] : List PD) = RS at *
  simp +decide only [zEV9, kLcL_ev hq, L, g]
end
theorem law_k24_true (ns : List Int) (hl : ns.length ≤ 63) (hb : ∀ z ∈ ns, PySem.Builtin.Int.intBits z ≤ 1048576) : DL.m_law_k24 [.list (ns.map PySem.PyData.int)] = .ok (.bool true) := by
  obtain ⟨d, er, hd, hd0, hd9, _⟩ := law_root4_ok ns
  have hd2 : 2 ≤ d := by
    obtain ⟨k, h1, h2, _⟩ := hd
    have : 1 * 1 ≤ k * k := Int.mul_le_mul (by omega) (by omega) (by omega) (by omega)
    omega
  have hd100 : 0 ≤ d ∧ d ≤ 100 := ⟨hd0, by omega⟩
  obtain ⟨ed, ld⟩ := Ti_d hd100
  obtain ⟨e1, e2, e3, e4, e5⟩ := good24 d hd100
  refine k24_den _ ?_
  unfold den_law_k24
  rw [k24_a _ d _ _ _ _ _ _ _ _ _ er]
  obtain ⟨ys, hy, e⟩ := for84 ns hl (some (.d (.int d))) lb1_law_k24 7 (sSeq (sSet 7 (dA gLstD (dCons (dC (.str "7")) (dCons (dC (.str "-7/3")) (dCons (d2 gAdd (dC (.str "r")) (dA gStr (dCons (dV 1) dNil))) (dCons (d2 gAdd (dC (.str "5/2-r")) (dA gStr (dCons (dV 1) dNil))) (dCons (d2 gAdd (dC (.str "-1/9+4/3r")) (dA gStr (dCons (dV 1) dNil))) dNil))))))) (sSeq (sSet 8 (dA gLstD (dCons (dA (gCall 3 [(.int 0), (.int 1)] m_length) (dCons (dC (.int 7)) dNil)) (dCons (dA (gCall 3 [] m_length) (dCons (d1 gNeg (dC (.int 7))) (dCons (dC (.int 0)) (dCons (dC (.int 3)) dNil)))) (dCons (dA (gCall 3 [(.int 1)] m_length) (dCons (dC (.int 0)) (dCons (dC (.int 1)) dNil))) (dCons (dA (gCall 3 [] m_length) (dCons (dC (.int 5)) (dCons (d1 gNeg (dC (.int 2))) (dCons (dC (.int 2)) dNil)))) (dCons (dA (gCall 3 [] m_length) (dCons (d1 gNeg (dC (.int 1))) (dCons (dC (.int 12)) (dCons (dC (.int 9)) dNil)))) dNil))))))) (sRet (d2 gEq (dLc (iL (dV 7)) (.one 9) [9] bYes le2_law_k24) (dV 8))))) fun k h1 h2 ys hy => k24_turn ns k h1 h2 hl d ⟨hd2, hd9⟩ ys hy
  have e : _ = _ := e
  refine e.trans ?_
  match ys, hy with
  | [x2, x3, x4, x5, x6, x7, x8, x9], _ =>
    refine (k24_b d _ (Ti d) ld _ _ _ _ _ _ _ _ _ ed).trans ?_
    refine (k24_c _ _ _ _ _ _ _ _ _ _ _).trans ?_
    refine k24_d d _ _ _ _ _ _ _ _ _ _ _ _ _ _ _ _ _ e1 e2 e3 e4 e5 (gEq_ly (k := 2) (fun v hv => ?_) (by decide))
    simp only [List.mem_cons, List.not_mem_nil, or_false] at hv
    rcases hv with rfl | rfl | rfl | rfl | rfl <;> exact ⟨rfl, by simp [PyData.depth, PyData.depthAll], rfl⟩
end DL

set_option Elab.async false
set_option linter.all false
set_option maxRecDepth 100000
set_option maxHeartbeats 4000000
set_option autoImplicit false
namespace DL
section
open PySem L2
section
variable {P : Program} {w : World} {K : PySem.W.Frag} {mg : MG} {base : Heap} {h : Heap}
theorem gc_FIGURES (KX : K.In h) (GN : h.Ns mainGlobals mg) (c : He.SaysX fa fn ts [] ex w h K) : ∃ u, mg "FIGURES" = some u ∧ RelV (.str "0123456789") u ∧ ∀ S, Rp K S (.str "0123456789") c_FIGURES := by
  obtain ⟨t, e⟩ := He.str_ok KX GN (c.t.d.fact 49 (f := .str "FIGURES" "0123456789") rfl)
  exact ⟨_, e, ⟨_, rfl⟩, fun S => .str _⟩
theorem gc_NOUGHT (KX : K.In h) (GN : h.Ns mainGlobals mg) (c : He.SaysX fa fn ts [] ex w h K) : ∃ u, mg "NOUGHT" = some u ∧ RelV (.ref (He.ga K "NOUGHT")) u ∧ ∀ S, Rp K S (.ref (He.ga K "NOUGHT")) c_NOUGHT := by
  have m := c.more
  unfold ex at m
  simp only [Bool.and_eq_true] at m
  have m1 := m.2
  exact ⟨_, He.glo_ok KX GN (c.t.d.fact 50 (f := .glo "NOUGHT") rfl), rfl, fun S => .tup (He.tupB_ok m1 S) (.cons (.int _) (.cons (.int _) (.nil)))⟩
theorem gx_all (KX : K.In h) (GN : h.Ns mainGlobals mg) (c : He.SaysX fa fn ts [] ex w h K) : ∀ x ∈ xl_be93e3, mg x = some (.ref (He.ga K x)) := by
  intro x hx
  unfold xl_be93e3 at hx
  simp only [List.mem_cons, List.not_mem_nil, or_false] at hx
  rcases hx with rfl | rfl | rfl | rfl | rfl | rfl | rfl | rfl | rfl | rfl
  · exact He.glo_ok KX GN (c.t.d.fact 36 (f := .glo "NoLength") rfl)
  · exact He.glo_ok KX GN (c.t.d.fact 41 (f := .glo "NoBoard") rfl)
  · exact He.glo_ok KX GN (c.t.d.fact 38 (f := .glo "NoText") rfl)
  · exact He.glo_ok KX GN (c.t.d.fact 42 (f := .glo "NoDeed") rfl)
  · exact He.glo_ok KX GN (c.t.d.fact 43 (f := .glo "NoName") rfl)
  · exact He.glo_ok KX GN (c.t.d.fact 44 (f := .glo "Grain") rfl)
  · exact He.glo_ok KX GN (c.t.d.fact 45 (f := .glo "Unfit") rfl)
  · exact He.glo_ok KX GN (c.t.d.fact 46 (f := .glo "TooMany") rfl)
  · exact He.glo_ok KX GN (c.t.d.fact 47 (f := .glo "NoRow") rfl)
  · exact He.glo_ok KX GN (c.t.d.fact 48 (f := .glo "Apart") rfl)
theorem gx_YardError (KX : K.In h) (GN : h.Ns mainGlobals mg) (c : He.SaysX fa fn ts [] ex w h K) : XAt K mg xl_be93e3 "YardError" := by
  have m := c.more
  unfold ex at m
  simp only [Bool.and_eq_true] at m
  have m1 := m.1.1.1.1.1.1.1.1.1.1.1.1
  exact xat_ok m1 (He.glo_ok KX GN (c.t.d.fact 40 (f := .glo "YardError") rfl)) (gx_all KX GN c)
theorem gi_Apart (KX : K.In h) (c : He.SaysX fa fn ts [] ex w h K) : XIs K xl_be93e3 "Apart" (.ref (He.ga K "Apart")) := by
  have m := c.more
  unfold ex at m
  simp only [Bool.and_eq_true] at m
  have m1 := m.1.1.1.1.1.1.1.1.1.1.1.2
  exact xis_ok m1
theorem gi_Grain (KX : K.In h) (c : He.SaysX fa fn ts [] ex w h K) : XIs K xl_be93e3 "Grain" (.ref (He.ga K "Grain")) := by
  have m := c.more
  unfold ex at m
  simp only [Bool.and_eq_true] at m
  have m1 := m.1.1.1.1.1.1.1.1.1.1.2
  exact xis_ok m1
theorem gi_NoBoard (KX : K.In h) (c : He.SaysX fa fn ts [] ex w h K) : XIs K xl_be93e3 "NoBoard" (.ref (He.ga K "NoBoard")) := by
  have m := c.more
  unfold ex at m
  simp only [Bool.and_eq_true] at m
  have m1 := m.1.1.1.1.1.1.1.1.1.2
  exact xis_ok m1
theorem gi_NoDeed (KX : K.In h) (c : He.SaysX fa fn ts [] ex w h K) : XIs K xl_be93e3 "NoDeed" (.ref (He.ga K "NoDeed")) := by
  have m := c.more
  unfold ex at m
  simp only [Bool.and_eq_true] at m
  have m1 := m.1.1.1.1.1.1.1.1.2
  exact xis_ok m1
theorem gi_NoLength (KX : K.In h) (c : He.SaysX fa fn ts [] ex w h K) : XIs K xl_be93e3 "NoLength" (.ref (He.ga K "NoLength")) := by
  have m := c.more
  unfold ex at m
  simp only [Bool.and_eq_true] at m
  have m1 := m.1.1.1.1.1.1.1.2
  exact xis_ok m1
theorem gi_NoName (KX : K.In h) (c : He.SaysX fa fn ts [] ex w h K) : XIs K xl_be93e3 "NoName" (.ref (He.ga K "NoName")) := by
  have m := c.more
  unfold ex at m
  simp only [Bool.and_eq_true] at m
  have m1 := m.1.1.1.1.1.1.2
  exact xis_ok m1
theorem gi_NoRow (KX : K.In h) (c : He.SaysX fa fn ts [] ex w h K) : XIs K xl_be93e3 "NoRow" (.ref (He.ga K "NoRow")) := by
  have m := c.more
  unfold ex at m
  simp only [Bool.and_eq_true] at m
  have m1 := m.1.1.1.1.1.2
  exact xis_ok m1
theorem gi_NoText (KX : K.In h) (c : He.SaysX fa fn ts [] ex w h K) : XIs K xl_be93e3 "NoText" (.ref (He.ga K "NoText")) := by
  have m := c.more
  unfold ex at m
  simp only [Bool.and_eq_true] at m
  have m1 := m.1.1.1.1.2
  exact xis_ok m1
theorem gi_TooMany (KX : K.In h) (c : He.SaysX fa fn ts [] ex w h K) : XIs K xl_be93e3 "TooMany" (.ref (He.ga K "TooMany")) := by
  have m := c.more
  unfold ex at m
  simp only [Bool.and_eq_true] at m
  have m1 := m.1.1.1.2
  exact xis_ok m1
theorem gi_Unfit (KX : K.In h) (c : He.SaysX fa fn ts [] ex w h K) : XIs K xl_be93e3 "Unfit" (.ref (He.ga K "Unfit")) := by
  have m := c.more
  unfold ex at m
  simp only [Bool.and_eq_true] at m
  have m1 := m.1.1.2
  exact xis_ok m1
theorem gi_ValueError (KX : K.In h) (c : He.SaysX fa fn ts [] ex w h K) : XIs K xl_be93e3 "ValueError" (.type "ValueError") := by
  have m := c.more
  unfold ex at m
  simp only [Bool.and_eq_true] at m
  have m1 := m.1.2
  exact xis_ok m1
theorem ge_NoLength (KX : K.In h) (GN : h.Ns mainGlobals mg) (c : He.SaysX fa fn ts [] ex w h K) : ExAt K mg "NoLength" := ⟨_, He.glo_ok KX GN (c.t.d.fact 36 (f := .glo "NoLength") rfl), He.exc_ok (c.t.d.fact 37 (f := .exc "NoLength") rfl)⟩
theorem ge_NoText (KX : K.In h) (GN : h.Ns mainGlobals mg) (c : He.SaysX fa fn ts [] ex w h K) : ExAt K mg "NoText" := ⟨_, He.glo_ok KX GN (c.t.d.fact 38 (f := .glo "NoText") rfl), He.exc_ok (c.t.d.fact 39 (f := .exc "NoText") rfl)⟩
theorem fo_is_whole (KX : K.In h) (GN : h.Ns mainGlobals mg) (c : He.SaysX fa fn ts [] ex w h K)  {fd : FuncData} (F : FunD K d_is_whole.name d_is_whole.qual d_is_whole.params d_is_whole.body d_is_whole.scope (d_is_whole.dvs K) (d_is_whole.kws K) (He.fAd K d_is_whole.at_) fd) : FnOk P w K mg base (L2.CX P w) 1 (He.fAd K d_is_whole.at_) fd ["thing"] (spD K mg 1 m_is_whole) := by
  have b_bool : mg "bool" = none := He.free_ok KX GN (c.t.d.fact 28 (f := .free "bool") rfl)
  have b_int : mg "int" = none := He.free_ok KX GN (c.t.d.fact 29 (f := .free "int") rfl)
  have b_isinstance : mg "isinstance" = none := He.free_ok KX GN (c.t.d.fact 30 (f := .free "isinstance") rfl)
  have S := sc_is_whole
  rw [mm_is_whole]
  have Z := okD (P := P) (w := w) (mg := mg) (base := base) (n := 1) (k := 0) (den := den_is_whole) F S rfl
  refine Z ?_
  intro cdv A outer s H E hr
  have tk : Takes (cxOf (L2.CX P w) P w K mg base ["thing"] "is_whole" (defScope s_is_whole) (He.fAd K d_is_whole.at_) cdv A outer s H E) (fun cls d _ H => E cls d H) := takes_of rfl rfl rfl rfl
  have hp : PassesOwn (model P w) (cxOf (L2.CX P w) P w K mg base ["thing"] "is_whole" (defScope s_is_whole) (He.fAd K d_is_whole.at_) cdv A outer s H E).A (cxOf (L2.CX P w) P w K mg base ["thing"] "is_whole" (defScope s_is_whole) (He.fAd K d_is_whole.at_) cdv A outer s H E).env (cxOf (L2.CX P w) P w K mg base ["thing"] "is_whole" (defScope s_is_whole) (He.fAd K d_is_whole.at_) cdv A outer s H E).xe := passes_of rfl
  exact sd_one (sd_ret (pe_dand (pd_isi (T := "int") b_isinstance b_int (by decide +kernel) (pd_v 0)) (pe_d1 (pe_dnot (pd_isi (T := "bool") b_isinstance b_bool (by decide +kernel) (pd_v 0))))))
theorem ok_is_whole (KX : K.In h) (GN : h.Ns mainGlobals mg) (c : He.SaysX fa fn ts [] ex w h K)  : FnAt P w K mg base "is_whole" 1 1 [[]] m_is_whole := by
  obtain ⟨fd, F⟩ := c.t.d.def_ 0 (d := d_is_whole) rfl
  refine ⟨_, fd, ["thing"], fo_is_whole KX GN c  F, He.glo_ok KX GN (c.t.d.fact 0 (f := .glo "is_whole") rfl), F.kp, ?_⟩
  · intro ds hd
    rw [List.mem_singleton] at hd
    subst hd
    exact ⟨[], [], FunD.bindsN F fun _ _ _ _ _ _ us hl => match us, hl with | [_], _ => rfl, .nil, fun _ => .nil⟩
theorem fo_divisor (KX : K.In h) (GN : h.Ns mainGlobals mg) (c : He.SaysX fa fn ts [] ex w h K)  {fd : FuncData} (F : FunD K d_divisor.name d_divisor.qual d_divisor.params d_divisor.body d_divisor.scope (d_divisor.dvs K) (d_divisor.kws K) (He.fAd K d_divisor.at_) fd) : FnOk P w K mg base (L2.CX P w) 1 (He.fAd K d_divisor.at_) fd ["one", "other"] (spD K mg 2 m_divisor) := by
  have b_abs : mg "abs" = none := He.free_ok KX GN (c.t.d.fact 27 (f := .free "abs") rfl)
  have S := sc_divisor
  rw [mm_divisor]
  have Z := okD (P := P) (w := w) (mg := mg) (base := base) (n := 2) (k := 0) (den := den_divisor) F S rfl
  refine Z ?_
  intro cdv A outer s H E hr
  have tk : Takes (cxOf (L2.CX P w) P w K mg base ["one", "other"] "divisor" (defScope s_divisor) (He.fAd K d_divisor.at_) cdv A outer s H E) (fun cls d _ H => E cls d H) := takes_of rfl rfl rfl rfl
  have hp : PassesOwn (model P w) (cxOf (L2.CX P w) P w K mg base ["one", "other"] "divisor" (defScope s_divisor) (He.fAd K d_divisor.at_) cdv A outer s H E).A (cxOf (L2.CX P w) P w K mg base ["one", "other"] "divisor" (defScope s_divisor) (He.fAd K d_divisor.at_) cdv A outer s H E).env (cxOf (L2.CX P w) P w K mg base ["one", "other"] "divisor" (defScope s_divisor) (He.fAd K d_divisor.at_) cdv A outer s H E).xe := passes_of rfl
  exact sd_cons (sd_while hp (pt_cmpd (od_ne hr.units) noEx_ne (pd_v 1) (pd_int)) (sd_one (sd_par 0 1 rfl S.nd rfl rfl (by decide) rfl rfl (pd_v 1) (pd_bin od_mod noEx_mod (pd_v 0) (pd_v 1)) rfl))) (sd_one (sd_ret (pd_b cd_abs nx_abs b_abs (by decide +kernel) (pad_cons (pd_v 0) (pad_nil)))))
theorem ok_divisor (KX : K.In h) (GN : h.Ns mainGlobals mg) (c : He.SaysX fa fn ts [] ex w h K)  : FnAt P w K mg base "divisor" 1 2 [[]] m_divisor := by
  obtain ⟨fd, F⟩ := c.t.d.def_ 1 (d := d_divisor) rfl
  refine ⟨_, fd, ["one", "other"], fo_divisor KX GN c  F, He.glo_ok KX GN (c.t.d.fact 1 (f := .glo "divisor") rfl), F.kp, ?_⟩
  · intro ds hd
    rw [List.mem_singleton] at hd
    subst hd
    exact ⟨[], [], FunD.bindsN F fun _ _ _ _ _ _ us hl => match us, hl with | [_, _], _ => rfl, .nil, fun _ => .nil⟩
theorem fo_lowest (KX : K.In h) (GN : h.Ns mainGlobals mg) (c : He.SaysX fa fn ts [] ex w h K) (F_divisor : FnAt P w K mg base "divisor" 1 2 [[]] m_divisor) {fd : FuncData} (F : FunD K d_lowest.name d_lowest.qual d_lowest.params d_lowest.body d_lowest.scope (d_lowest.dvs K) (d_lowest.kws K) (He.fAd K d_lowest.at_) fd) : FnOk P w K mg base (L2.CX P w) 2 (He.fAd K d_lowest.at_) fd ["a", "b", "n"] (spD K mg 3 m_lowest) := by
  have S := sc_lowest
  rw [mm_lowest]
  have Z := okD (P := P) (w := w) (mg := mg) (base := base) (n := 3) (k := 1) (den := den_lowest) F S rfl
  refine Z ?_
  intro cdv A outer s H E hr
  have tk : Takes (cxOf (L2.CX P w) P w K mg base ["a", "b", "n", "share"] "lowest" (defScope s_lowest) (He.fAd K d_lowest.at_) cdv A outer s H E) (fun cls d _ H => E cls d H) := takes_of rfl rfl rfl rfl
  have hp : PassesOwn (model P w) (cxOf (L2.CX P w) P w K mg base ["a", "b", "n", "share"] "lowest" (defScope s_lowest) (He.fAd K d_lowest.at_) cdv A outer s H E).A (cxOf (L2.CX P w) P w K mg base ["a", "b", "n", "share"] "lowest" (defScope s_lowest) (He.fAd K d_lowest.at_) cdv A outer s H E).env (cxOf (L2.CX P w) P w K mg base ["a", "b", "n", "share"] "lowest" (defScope s_lowest) (He.fAd K d_lowest.at_) cdv A outer s H E).xe := passes_of rfl
  exact sd_cons (sd_set 3 S.nd rfl (.inl rfl) (pd_call F_divisor mem0 (hr.mono (by decide)) tk rfl (pad_cons (pd_call F_divisor mem0 (hr.mono (by decide)) tk rfl (pad_cons (pd_v 0) (pad_cons (pd_v 1) (pad_nil)))) (pad_cons (pd_v 2) (pad_nil))))) (sd_cons (sd_if (pt_cmpd od_lt noEx_cI (pd_v 2) (pd_int)) (sd_one (sd_set 3 S.nd rfl (.inl rfl) (pd_bin od_sub noEx_sub (pd_int) (pd_v 3)))) (sd_nil)) (sd_one (sd_ret (pd_tup (pad_cons (pd_bin od_div noEx_div (pd_v 0) (pd_v 3)) (pad_cons (pd_bin od_div noEx_div (pd_v 1) (pd_v 3)) (pad_cons (pd_bin od_div noEx_div (pd_v 2) (pd_v 3)) (pad_nil))))))))
theorem ok_lowest (KX : K.In h) (GN : h.Ns mainGlobals mg) (c : He.SaysX fa fn ts [] ex w h K) (F_divisor : FnAt P w K mg base "divisor" 1 2 [[]] m_divisor) : FnAt P w K mg base "lowest" 2 3 [[]] m_lowest := by
  obtain ⟨fd, F⟩ := c.t.d.def_ 2 (d := d_lowest) rfl
  refine ⟨_, fd, ["a", "b", "n"], fo_lowest KX GN c F_divisor F, He.glo_ok KX GN (c.t.d.fact 2 (f := .glo "lowest") rfl), F.kp, ?_⟩
  · intro ds hd
    rw [List.mem_singleton] at hd
    subst hd
    exact ⟨[], [], FunD.bindsN F fun _ _ _ _ _ _ us hl => match us, hl with | [_, _, _], _ => rfl, .nil, fun _ => .nil⟩
theorem fo_length (KX : K.In h) (GN : h.Ns mainGlobals mg) (c : He.SaysX fa fn ts [] ex w h K) (F_lowest : FnAt P w K mg base "lowest" 2 3 [[]] m_lowest) (F_is_whole : FnAt P w K mg base "is_whole" 1 1 [[]] m_is_whole) {fd : FuncData} (F : FunD K d_length.name d_length.qual d_length.params d_length.body d_length.scope (d_length.dvs K) (d_length.kws K) (He.fAd K d_length.at_) fd) : FnOk P w K mg base (L2.CX P w) 3 (He.fAd K d_length.at_) fd ["a", "b", "n"] (spD K mg 3 m_length) := by
  have e_NoLength := ge_NoLength (mg := mg) KX GN c
  have S := sc_length
  rw [mm_length]
  have Z := okD (P := P) (w := w) (mg := mg) (base := base) (n := 3) (k := 2) (den := den_length) F S rfl
  refine Z ?_
  intro cdv A outer s H E hr
  have tk : Takes (cxOf (L2.CX P w) P w K mg base ["a", "b", "n"] "length" (defScope s_length) (He.fAd K d_length.at_) cdv A outer s H E) (fun cls d _ H => E cls d H) := takes_of rfl rfl rfl rfl
  have hp : PassesOwn (model P w) (cxOf (L2.CX P w) P w K mg base ["a", "b", "n"] "length" (defScope s_length) (He.fAd K d_length.at_) cdv A outer s H E).A (cxOf (L2.CX P w) P w K mg base ["a", "b", "n"] "length" (defScope s_length) (He.fAd K d_length.at_) cdv A outer s H E).env (cxOf (L2.CX P w) P w K mg base ["a", "b", "n"] "length" (defScope s_length) (He.fAd K d_length.at_) cdv A outer s H E).xe := passes_of rfl
  exact sd_cons (sd_if (PW.pt (pw_dor (pt_dnot (pt_d (pd_call F_is_whole mem0 (hr.mono (by decide)) tk rfl (pad_cons (pd_v 0) (pad_nil))))) (pw_dor (pt_dnot (pt_d (pd_call F_is_whole mem0 (hr.mono (by decide)) tk rfl (pad_cons (pd_v 1) (pad_nil))))) (pw_dor (pt_dnot (pt_d (pd_call F_is_whole mem0 (hr.mono (by decide)) tk rfl (pad_cons (pd_v 2) (pad_nil))))) (pw_o1 (pt_cmpd (od_eq hr.units) noEx_eq (pd_v 2) (pd_int))))))) (sd_one (sd_raise rfl tk e_NoLength)) (sd_nil)) (sd_one (sd_ret (pd_call F_lowest mem0 (hr.mono (by decide)) tk rfl (pad_cons (pd_v 0) (pad_cons (pd_v 1) (pad_cons (pd_v 2) (pad_nil)))))))
theorem ok_length (KX : K.In h) (GN : h.Ns mainGlobals mg) (c : He.SaysX fa fn ts [] ex w h K) (F_lowest : FnAt P w K mg base "lowest" 2 3 [[]] m_lowest) (F_is_whole : FnAt P w K mg base "is_whole" 1 1 [[]] m_is_whole) : FnAt P w K mg base "length" 3 3 [[], [(.int 1)], [(.int 0), (.int 1)]] m_length := by
  obtain ⟨fd, F⟩ := c.t.d.def_ 3 (d := d_length) rfl
  refine ⟨_, fd, ["a", "b", "n"], fo_length KX GN c F_lowest F_is_whole F, He.glo_ok KX GN (c.t.d.fact 3 (f := .glo "length") rfl), F.kp, ?_⟩
  · intro ds hd
    simp only [List.mem_cons, List.not_mem_nil, or_false] at hd
    rcases hd with rfl | rfl | rfl
    · obtain ⟨us, hv, hb⟩ := FunD.binds1 (ps := ["a", "b", "n"]) F 3 2 (by intro z; cases z) rfl fun T kV doc pm an cdv ct us its h1 h2 => match us, its, h1, h2 with | [_, _, _], [_, _], _, _ => ⟨_, rfl, rfl⟩
      exact ⟨us, _, hb, hv, fun S => .nil⟩
    · obtain ⟨us, hv, hb⟩ := FunD.binds1 (ps := ["a", "b", "n"]) F 2 1 (by intro z; cases z) rfl fun T kV doc pm an cdv ct us its h1 h2 => match us, its, h1, h2 with | [_, _], [_, _], _, _ => ⟨_, rfl, rfl⟩
      exact ⟨us, _, hb, hv, fun S => .cons (.int _) (.nil)⟩
    · obtain ⟨us, hv, hb⟩ := FunD.binds1 (ps := ["a", "b", "n"]) F 1 0 (by intro z; cases z) rfl fun T kV doc pm an cdv ct us its h1 h2 => match us, its, h1, h2 with | [_], [_, _], _, _ => ⟨_, rfl, rfl⟩
      exact ⟨us, _, hb, hv, fun S => .cons (.int _) (.cons (.int _) (.nil))⟩
theorem fo_fraction (KX : K.In h) (GN : h.Ns mainGlobals mg) (c : He.SaysX fa fn ts [] ex w h K) (F_divisor : FnAt P w K mg base "divisor" 1 2 [[]] m_divisor) {fd : FuncData} (F : FunD K d_fraction.name d_fraction.qual d_fraction.params d_fraction.body d_fraction.scope (d_fraction.dvs K) (d_fraction.kws K) (He.fAd K d_fraction.at_) fd) : FnOk P w K mg base (L2.CX P w) 2 (He.fAd K d_fraction.at_) fd ["top", "bottom"] (spD K mg 2 m_fraction) := by
  have S := sc_fraction
  rw [mm_fraction]
  have Z := okD (P := P) (w := w) (mg := mg) (base := base) (n := 2) (k := 1) (den := den_fraction) F S rfl
  refine Z ?_
  intro cdv A outer s H E hr
  have tk : Takes (cxOf (L2.CX P w) P w K mg base ["top", "bottom", "share"] "fraction" (defScope s_fraction) (He.fAd K d_fraction.at_) cdv A outer s H E) (fun cls d _ H => E cls d H) := takes_of rfl rfl rfl rfl
  have hp : PassesOwn (model P w) (cxOf (L2.CX P w) P w K mg base ["top", "bottom", "share"] "fraction" (defScope s_fraction) (He.fAd K d_fraction.at_) cdv A outer s H E).A (cxOf (L2.CX P w) P w K mg base ["top", "bottom", "share"] "fraction" (defScope s_fraction) (He.fAd K d_fraction.at_) cdv A outer s H E).env (cxOf (L2.CX P w) P w K mg base ["top", "bottom", "share"] "fraction" (defScope s_fraction) (He.fAd K d_fraction.at_) cdv A outer s H E).xe := passes_of rfl
  exact sd_cons (sd_set 2 S.nd rfl (.inl rfl) (pd_call F_divisor mem0 (hr.mono (by decide)) tk rfl (pad_cons (pd_v 0) (pad_cons (pd_v 1) (pad_nil))))) (sd_cons (sd_if (pt_cmpd od_lt noEx_cI (pd_v 1) (pd_int)) (sd_one (sd_set 2 S.nd rfl (.inl rfl) (pd_bin od_sub noEx_sub (pd_int) (pd_v 2)))) (sd_nil)) (sd_one (sd_ret (pd_tup (pad_cons (pd_bin od_div noEx_div (pd_v 0) (pd_v 2)) (pad_cons (pd_bin od_div noEx_div (pd_v 1) (pd_v 2)) (pad_nil)))))))
theorem ok_fraction (KX : K.In h) (GN : h.Ns mainGlobals mg) (c : He.SaysX fa fn ts [] ex w h K) (F_divisor : FnAt P w K mg base "divisor" 1 2 [[]] m_divisor) : FnAt P w K mg base "fraction" 2 2 [[], [(.int 1)]] m_fraction := by
  obtain ⟨fd, F⟩ := c.t.d.def_ 4 (d := d_fraction) rfl
  refine ⟨_, fd, ["top", "bottom"], fo_fraction KX GN c F_divisor F, He.glo_ok KX GN (c.t.d.fact 4 (f := .glo "fraction") rfl), F.kp, ?_⟩
  · intro ds hd
    simp only [List.mem_cons, List.not_mem_nil, or_false] at hd
    rcases hd with rfl | rfl
    · obtain ⟨us, hv, hb⟩ := FunD.binds1 (ps := ["top", "bottom"]) F 2 1 (by intro z; cases z) rfl fun T kV doc pm an cdv ct us its h1 h2 => match us, its, h1, h2 with | [_, _], [_], _, _ => ⟨_, rfl, rfl⟩
      exact ⟨us, _, hb, hv, fun S => .nil⟩
    · obtain ⟨us, hv, hb⟩ := FunD.binds1 (ps := ["top", "bottom"]) F 1 0 (by intro z; cases z) rfl fun T kV doc pm an cdv ct us its h1 h2 => match us, its, h1, h2 with | [_], [_], _, _ => ⟨_, rfl, rfl⟩
      exact ⟨us, _, hb, hv, fun S => .cons (.int _) (.nil)⟩
theorem fo_parts (KX : K.In h) (GN : h.Ns mainGlobals mg) (c : He.SaysX fa fn ts [] ex w h K) (F_fraction : FnAt P w K mg base "fraction" 2 2 [[], [(.int 1)]] m_fraction) {fd : FuncData} (F : FunD K d_parts.name d_parts.qual d_parts.params d_parts.body d_parts.scope (d_parts.dvs K) (d_parts.kws K) (He.fAd K d_parts.at_) fd) : FnOk P w K mg base (L2.CX P w) 3 (He.fAd K d_parts.at_) fd ["one"] (spD K mg 1 m_parts) := by
  have S := sc_parts
  rw [mm_parts]
  have Z := okD (P := P) (w := w) (mg := mg) (base := base) (n := 1) (k := 2) (den := den_parts) F S rfl
  refine Z ?_
  intro cdv A outer s H E hr
  have tk : Takes (cxOf (L2.CX P w) P w K mg base ["one"] "parts" (defScope s_parts) (He.fAd K d_parts.at_) cdv A outer s H E) (fun cls d _ H => E cls d H) := takes_of rfl rfl rfl rfl
  have hp : PassesOwn (model P w) (cxOf (L2.CX P w) P w K mg base ["one"] "parts" (defScope s_parts) (He.fAd K d_parts.at_) cdv A outer s H E).A (cxOf (L2.CX P w) P w K mg base ["one"] "parts" (defScope s_parts) (He.fAd K d_parts.at_) cdv A outer s H E).env (cxOf (L2.CX P w) P w K mg base ["one"] "parts" (defScope s_parts) (He.fAd K d_parts.at_) cdv A outer s H E).xe := passes_of rfl
  exact sd_one (sd_ret (pd_tup (pad_cons (pd_call F_fraction mem0 (hr.mono (by decide)) tk rfl (pad_cons (pd_ix (pd_v 0) (pd_int)) (pad_cons (pd_ix (pd_v 0) (pd_int)) (pad_nil)))) (pad_cons (pd_call F_fraction mem0 (hr.mono (by decide)) tk rfl (pad_cons (pd_ix (pd_v 0) (pd_int)) (pad_cons (pd_ix (pd_v 0) (pd_int)) (pad_nil)))) (pad_nil)))))
theorem ok_parts (KX : K.In h) (GN : h.Ns mainGlobals mg) (c : He.SaysX fa fn ts [] ex w h K) (F_fraction : FnAt P w K mg base "fraction" 2 2 [[], [(.int 1)]] m_fraction) : FnAt P w K mg base "parts" 3 1 [[]] m_parts := by
  obtain ⟨fd, F⟩ := c.t.d.def_ 5 (d := d_parts) rfl
  refine ⟨_, fd, ["one"], fo_parts KX GN c F_fraction F, He.glo_ok KX GN (c.t.d.fact 5 (f := .glo "parts") rfl), F.kp, ?_⟩
  · intro ds hd
    rw [List.mem_singleton] at hd
    subst hd
    exact ⟨[], [], FunD.bindsN F fun _ _ _ _ _ _ us hl => match us, hl with | [_], _ => rfl, .nil, fun _ => .nil⟩
theorem fo_by_parts (KX : K.In h) (GN : h.Ns mainGlobals mg) (c : He.SaysX fa fn ts [] ex w h K) (F_lowest : FnAt P w K mg base "lowest" 2 3 [[]] m_lowest) {fd : FuncData} (F : FunD K d_by_parts.name d_by_parts.qual d_by_parts.params d_by_parts.body d_by_parts.scope (d_by_parts.dvs K) (d_by_parts.kws K) (He.fAd K d_by_parts.at_) fd) : FnOk P w K mg base (L2.CX P w) 3 (He.fAd K d_by_parts.at_) fd ["f", "g"] (spD K mg 2 m_by_parts) := by
  have S := sc_by_parts
  rw [mm_by_parts]
  have Z := okD (P := P) (w := w) (mg := mg) (base := base) (n := 2) (k := 2) (den := den_by_parts) F S rfl
  refine Z ?_
  intro cdv A outer s H E hr
  have tk : Takes (cxOf (L2.CX P w) P w K mg base ["f", "g"] "by_parts" (defScope s_by_parts) (He.fAd K d_by_parts.at_) cdv A outer s H E) (fun cls d _ H => E cls d H) := takes_of rfl rfl rfl rfl
  have hp : PassesOwn (model P w) (cxOf (L2.CX P w) P w K mg base ["f", "g"] "by_parts" (defScope s_by_parts) (He.fAd K d_by_parts.at_) cdv A outer s H E).A (cxOf (L2.CX P w) P w K mg base ["f", "g"] "by_parts" (defScope s_by_parts) (He.fAd K d_by_parts.at_) cdv A outer s H E).env (cxOf (L2.CX P w) P w K mg base ["f", "g"] "by_parts" (defScope s_by_parts) (He.fAd K d_by_parts.at_) cdv A outer s H E).xe := passes_of rfl
  exact sd_one (sd_ret (pd_call F_lowest mem0 (hr.mono (by decide)) tk rfl (pad_cons (pd_bin od_mul noEx_mul (pd_ix (pd_v 0) (pd_int)) (pd_ix (pd_v 1) (pd_int))) (pad_cons (pd_bin od_mul noEx_mul (pd_ix (pd_v 1) (pd_int)) (pd_ix (pd_v 0) (pd_int))) (pad_cons (pd_bin od_mul noEx_mul (pd_ix (pd_v 0) (pd_int)) (pd_ix (pd_v 1) (pd_int))) (pad_nil))))))
theorem ok_by_parts (KX : K.In h) (GN : h.Ns mainGlobals mg) (c : He.SaysX fa fn ts [] ex w h K) (F_lowest : FnAt P w K mg base "lowest" 2 3 [[]] m_lowest) : FnAt P w K mg base "by_parts" 3 2 [[]] m_by_parts := by
  obtain ⟨fd, F⟩ := c.t.d.def_ 6 (d := d_by_parts) rfl
  refine ⟨_, fd, ["f", "g"], fo_by_parts KX GN c F_lowest F, He.glo_ok KX GN (c.t.d.fact 6 (f := .glo "by_parts") rfl), F.kp, ?_⟩
  · intro ds hd
    rw [List.mem_singleton] at hd
    subst hd
    exact ⟨[], [], FunD.bindsN F fun _ _ _ _ _ _ us hl => match us, hl with | [_, _], _ => rfl, .nil, fun _ => .nil⟩
theorem fo_shown_fraction (KX : K.In h) (GN : h.Ns mainGlobals mg) (c : He.SaysX fa fn ts [] ex w h K)  {fd : FuncData} (F : FunD K d_shown_fraction.name d_shown_fraction.qual d_shown_fraction.params d_shown_fraction.body d_shown_fraction.scope (d_shown_fraction.dvs K) (d_shown_fraction.kws K) (He.fAd K d_shown_fraction.at_) fd) : FnOk P w K mg base (L2.CX P w) 1 (He.fAd K d_shown_fraction.at_) fd ["one"] (spD K mg 1 m_shown_fraction) := by
  have b_str : mg "str" = none := He.free_ok KX GN (c.t.d.fact 35 (f := .free "str") rfl)
  have S := sc_shown_fraction
  rw [mm_shown_fraction]
  have Z := okD (P := P) (w := w) (mg := mg) (base := base) (n := 1) (k := 0) (den := den_shown_fraction) F S rfl
  refine Z ?_
  intro cdv A outer s H E hr
  have tk : Takes (cxOf (L2.CX P w) P w K mg base ["one"] "shown_fraction" (defScope s_shown_fraction) (He.fAd K d_shown_fraction.at_) cdv A outer s H E) (fun cls d _ H => E cls d H) := takes_of rfl rfl rfl rfl
  have hp : PassesOwn (model P w) (cxOf (L2.CX P w) P w K mg base ["one"] "shown_fraction" (defScope s_shown_fraction) (He.fAd K d_shown_fraction.at_) cdv A outer s H E).A (cxOf (L2.CX P w) P w K mg base ["one"] "shown_fraction" (defScope s_shown_fraction) (He.fAd K d_shown_fraction.at_) cdv A outer s H E).env (cxOf (L2.CX P w) P w K mg base ["one"] "shown_fraction" (defScope s_shown_fraction) (He.fAd K d_shown_fraction.at_) cdv A outer s H E).xe := passes_of rfl
  exact sd_cons (sd_if (pt_cmpd (od_eq hr.units) noEx_eq (pd_ix (pd_v 0) (pd_int)) (pd_int)) (sd_one (sd_ret (pd_bt cd_str nx_str b_str (by decide +kernel) (pad_cons (pd_ix (pd_v 0) (pd_int)) (pad_nil))))) (sd_nil)) (sd_one (sd_ret (pd_bin od_add noEx_add (pd_bin od_add noEx_add (pd_bt cd_str nx_str b_str (by decide +kernel) (pad_cons (pd_ix (pd_v 0) (pd_int)) (pad_nil))) (pd_str)) (pd_bt cd_str nx_str b_str (by decide +kernel) (pad_cons (pd_ix (pd_v 0) (pd_int)) (pad_nil))))))
theorem ok_shown_fraction (KX : K.In h) (GN : h.Ns mainGlobals mg) (c : He.SaysX fa fn ts [] ex w h K)  : FnAt P w K mg base "shown_fraction" 1 1 [[]] m_shown_fraction := by
  obtain ⟨fd, F⟩ := c.t.d.def_ 7 (d := d_shown_fraction) rfl
  refine ⟨_, fd, ["one"], fo_shown_fraction KX GN c  F, He.glo_ok KX GN (c.t.d.fact 7 (f := .glo "shown_fraction") rfl), F.kp, ?_⟩
  · intro ds hd
    rw [List.mem_singleton] at hd
    subst hd
    exact ⟨[], [], FunD.bindsN F fun _ _ _ _ _ _ us hl => match us, hl with | [_], _ => rfl, .nil, fun _ => .nil⟩
theorem fo_shown_ahead (KX : K.In h) (GN : h.Ns mainGlobals mg) (c : He.SaysX fa fn ts [] ex w h K) (F_shown_fraction : FnAt P w K mg base "shown_fraction" 1 1 [[]] m_shown_fraction) {fd : FuncData} (F : FunD K d_shown_ahead.name d_shown_ahead.qual d_shown_ahead.params d_shown_ahead.body d_shown_ahead.scope (d_shown_ahead.dvs K) (d_shown_ahead.kws K) (He.fAd K d_shown_ahead.at_) fd) : FnOk P w K mg base (L2.CX P w) 2 (He.fAd K d_shown_ahead.at_) fd ["one"] (spD K mg 1 m_shown_ahead) := by
  have S := sc_shown_ahead
  rw [mm_shown_ahead]
  have Z := okD (P := P) (w := w) (mg := mg) (base := base) (n := 1) (k := 1) (den := den_shown_ahead) F S rfl
  refine Z ?_
  intro cdv A outer s H E hr
  have tk : Takes (cxOf (L2.CX P w) P w K mg base ["one"] "shown_ahead" (defScope s_shown_ahead) (He.fAd K d_shown_ahead.at_) cdv A outer s H E) (fun cls d _ H => E cls d H) := takes_of rfl rfl rfl rfl
  have hp : PassesOwn (model P w) (cxOf (L2.CX P w) P w K mg base ["one"] "shown_ahead" (defScope s_shown_ahead) (He.fAd K d_shown_ahead.at_) cdv A outer s H E).A (cxOf (L2.CX P w) P w K mg base ["one"] "shown_ahead" (defScope s_shown_ahead) (He.fAd K d_shown_ahead.at_) cdv A outer s H E).env (cxOf (L2.CX P w) P w K mg base ["one"] "shown_ahead" (defScope s_shown_ahead) (He.fAd K d_shown_ahead.at_) cdv A outer s H E).xe := passes_of rfl
  exact sd_cons (sd_if (pt_cmpd (od_eq hr.units) noEx_eq (pd_v 0) (pd_tup (pad_cons (pd_int) (pad_cons (pd_int) (pad_nil))))) (sd_one (sd_ret (pd_str))) (sd_nil)) (sd_cons (sd_if (pt_cmpd (od_eq hr.units) noEx_eq (pd_v 0) (pd_tup (pad_cons (pd_neg (pd_int)) (pad_cons (pd_int) (pad_nil))))) (sd_one (sd_ret (pd_str))) (sd_nil)) (sd_one (sd_ret (pd_call F_shown_fraction mem0 (hr.mono (by decide)) tk rfl (pad_cons (pd_v 0) (pad_nil))))))
theorem ok_shown_ahead (KX : K.In h) (GN : h.Ns mainGlobals mg) (c : He.SaysX fa fn ts [] ex w h K) (F_shown_fraction : FnAt P w K mg base "shown_fraction" 1 1 [[]] m_shown_fraction) : FnAt P w K mg base "shown_ahead" 2 1 [[]] m_shown_ahead := by
  obtain ⟨fd, F⟩ := c.t.d.def_ 8 (d := d_shown_ahead) rfl
  refine ⟨_, fd, ["one"], fo_shown_ahead KX GN c F_shown_fraction F, He.glo_ok KX GN (c.t.d.fact 8 (f := .glo "shown_ahead") rfl), F.kp, ?_⟩
  · intro ds hd
    rw [List.mem_singleton] at hd
    subst hd
    exact ⟨[], [], FunD.bindsN F fun _ _ _ _ _ _ us hl => match us, hl with | [_], _ => rfl, .nil, fun _ => .nil⟩
theorem fo_shown_length (KX : K.In h) (GN : h.Ns mainGlobals mg) (c : He.SaysX fa fn ts [] ex w h K) (F_parts : FnAt P w K mg base "parts" 3 1 [[]] m_parts) (F_shown_fraction : FnAt P w K mg base "shown_fraction" 1 1 [[]] m_shown_fraction) (F_shown_ahead : FnAt P w K mg base "shown_ahead" 2 1 [[]] m_shown_ahead) {fd : FuncData} (F : FunD K d_shown_length.name d_shown_length.qual d_shown_length.params d_shown_length.body d_shown_length.scope (d_shown_length.dvs K) (d_shown_length.kws K) (He.fAd K d_shown_length.at_) fd) : FnOk P w K mg base (L2.CX P w) 4 (He.fAd K d_shown_length.at_) fd ["d", "one"] (spD K mg 2 m_shown_length) := by
  have b_str : mg "str" = none := He.free_ok KX GN (c.t.d.fact 35 (f := .free "str") rfl)
  obtain ⟨u_NOUGHT, g_NOUGHT⟩ := gc_NOUGHT (mg := mg) KX GN c
  have S := sc_shown_length
  rw [mm_shown_length]
  have Z := okD (P := P) (w := w) (mg := mg) (base := base) (n := 2) (k := 3) (den := den_shown_length) F S rfl
  refine Z ?_
  intro cdv A outer s H E hr
  have tk : Takes (cxOf (L2.CX P w) P w K mg base ["d", "one", "first", "second", "text"] "shown_length" (defScope s_shown_length) (He.fAd K d_shown_length.at_) cdv A outer s H E) (fun cls d _ H => E cls d H) := takes_of rfl rfl rfl rfl
  have hp : PassesOwn (model P w) (cxOf (L2.CX P w) P w K mg base ["d", "one", "first", "second", "text"] "shown_length" (defScope s_shown_length) (He.fAd K d_shown_length.at_) cdv A outer s H E).A (cxOf (L2.CX P w) P w K mg base ["d", "one", "first", "second", "text"] "shown_length" (defScope s_shown_length) (He.fAd K d_shown_length.at_) cdv A outer s H E).env (cxOf (L2.CX P w) P w K mg base ["d", "one", "first", "second", "text"] "shown_length" (defScope s_shown_length) (He.fAd K d_shown_length.at_) cdv A outer s H E).xe := passes_of rfl
  exact sd_cons (sd_asg (pg_tup rfl (pgs_cons (pg_name (i := 2) S.nd rfl (.inl rfl)) (pgs_cons (pg_name (i := 3) S.nd rfl (.inl rfl)) (pgs_nil)))) (pd_call F_parts mem0 (hr.mono (by decide)) tk rfl (pad_cons (pd_v 1) (pad_nil)))) (sd_cons (sd_if (pt_cmpd (od_eq hr.units) noEx_eq (pd_v 3) (pd_g rfl g_NOUGHT.1 g_NOUGHT.2.1 g_NOUGHT.2.2)) (sd_one (sd_ret (pd_call F_shown_fraction mem0 (hr.mono (by decide)) tk rfl (pad_cons (pd_v 2) (pad_nil))))) (sd_nil)) (sd_cons (sd_set 4 S.nd rfl (.inl rfl) (pd_bin od_add noEx_add (pd_bin od_add noEx_add (pd_call F_shown_ahead mem0 (hr.mono (by decide)) tk rfl (pad_cons (pd_v 3) (pad_nil))) (pd_str)) (pd_bt cd_str nx_str b_str (by decide +kernel) (pad_cons (pd_v 0) (pad_nil))))) (sd_cons (sd_if (pt_cmpd (od_eq hr.units) noEx_eq (pd_v 2) (pd_g rfl g_NOUGHT.1 g_NOUGHT.2.1 g_NOUGHT.2.2)) (sd_one (sd_ret (pd_v 4))) (sd_nil)) (sd_cons (sd_if (pt_cmpd od_gt noEx_cI (pd_ix (pd_v 3) (pd_int)) (pd_int)) (sd_one (sd_ret (pd_bin od_add noEx_add (pd_bin od_add noEx_add (pd_call F_shown_fraction mem0 (hr.mono (by decide)) tk rfl (pad_cons (pd_v 2) (pad_nil))) (pd_str)) (pd_v 4)))) (sd_nil)) (sd_one (sd_ret (pd_bin od_add noEx_add (pd_call F_shown_fraction mem0 (hr.mono (by decide)) tk rfl (pad_cons (pd_v 2) (pad_nil))) (pd_v 4))))))))
theorem ok_shown_length (KX : K.In h) (GN : h.Ns mainGlobals mg) (c : He.SaysX fa fn ts [] ex w h K) (F_parts : FnAt P w K mg base "parts" 3 1 [[]] m_parts) (F_shown_fraction : FnAt P w K mg base "shown_fraction" 1 1 [[]] m_shown_fraction) (F_shown_ahead : FnAt P w K mg base "shown_ahead" 2 1 [[]] m_shown_ahead) : FnAt P w K mg base "shown_length" 4 2 [[]] m_shown_length := by
  obtain ⟨fd, F⟩ := c.t.d.def_ 9 (d := d_shown_length) rfl
  refine ⟨_, fd, ["d", "one"], fo_shown_length KX GN c F_parts F_shown_fraction F_shown_ahead F, He.glo_ok KX GN (c.t.d.fact 9 (f := .glo "shown_length") rfl), F.kp, ?_⟩
  · intro ds hd
    rw [List.mem_singleton] at hd
    subst hd
    exact ⟨[], [], FunD.bindsN F fun _ _ _ _ _ _ us hl => match us, hl with | [_, _], _ => rfl, .nil, fun _ => .nil⟩
theorem fo_number_in (KX : K.In h) (GN : h.Ns mainGlobals mg) (c : He.SaysX fa fn ts [] ex w h K)  {fd : FuncData} (F : FunD K d_number_in.name d_number_in.qual d_number_in.params d_number_in.body d_number_in.scope (d_number_in.dvs K) (d_number_in.kws K) (He.fAd K d_number_in.at_) fd) : FnOk P w K mg base (L2.CX P w) 1 (He.fAd K d_number_in.at_) fd ["text"] (spD K mg 1 m_number_in) := by
  have b_int : mg "int" = none := He.free_ok KX GN (c.t.d.fact 29 (f := .free "int") rfl)
  have e_NoText := ge_NoText (mg := mg) KX GN c
  obtain ⟨u_FIGURES, g_FIGURES⟩ := gc_FIGURES (mg := mg) KX GN c
  have S := sc_number_in
  rw [mm_number_in]
  have Z := okD (P := P) (w := w) (mg := mg) (base := base) (n := 1) (k := 0) (den := den_number_in) F S rfl
  refine Z ?_
  intro cdv A outer s H E hr
  have tk : Takes (cxOf (L2.CX P w) P w K mg base ["text", "sign"] "number_in" (defScope s_number_in) (He.fAd K d_number_in.at_) cdv A outer s H E) (fun cls d _ H => E cls d H) := takes_of rfl rfl rfl rfl
  have hp : PassesOwn (model P w) (cxOf (L2.CX P w) P w K mg base ["text", "sign"] "number_in" (defScope s_number_in) (He.fAd K d_number_in.at_) cdv A outer s H E).A (cxOf (L2.CX P w) P w K mg base ["text", "sign"] "number_in" (defScope s_number_in) (He.fAd K d_number_in.at_) cdv A outer s H E).env (cxOf (L2.CX P w) P w K mg base ["text", "sign"] "number_in" (defScope s_number_in) (He.fAd K d_number_in.at_) cdv A outer s H E).xe := passes_of rfl
  exact sd_cons (sd_if (pt_cmpd (od_eq hr.units) noEx_eq (pd_v 0) (pd_str)) (sd_one (sd_raise rfl tk e_NoText)) (sd_nil)) (sd_cons (sd_for hp rfl (pi_s (pd_v 0)) (pg_name (i := 1) S.nd rfl (.inl rfl)) (sd_one (sd_if (pt_cmpd (od_notin (un65 hr)) noEx_in (pd_v 1) (pd_g rfl g_FIGURES.1 g_FIGURES.2.1 g_FIGURES.2.2)) (sd_one (sd_raise rfl tk e_NoText)) (sd_nil)))) (sd_one (sd_ret (pd_bt cd_intT nx_intT b_int (by decide +kernel) (pad_cons (pd_v 0) (pad_nil))))))
theorem ok_number_in (KX : K.In h) (GN : h.Ns mainGlobals mg) (c : He.SaysX fa fn ts [] ex w h K)  : FnAt P w K mg base "number_in" 1 1 [[]] m_number_in := by
  obtain ⟨fd, F⟩ := c.t.d.def_ 10 (d := d_number_in) rfl
  refine ⟨_, fd, ["text"], fo_number_in KX GN c  F, He.glo_ok KX GN (c.t.d.fact 10 (f := .glo "number_in") rfl), F.kp, ?_⟩
  · intro ds hd
    rw [List.mem_singleton] at hd
    subst hd
    exact ⟨[], [], FunD.bindsN F fun _ _ _ _ _ _ us hl => match us, hl with | [_], _ => rfl, .nil, fun _ => .nil⟩
theorem ok_fraction_in__0 (KX : K.In h) (GN : h.Ns mainGlobals mg) (c : He.SaysX fa fn ts [] ex w h K)  : FnAt P w K mg base "fraction_in" 1 1 [[]] m_fraction_in__0 := by
  obtain ⟨fd, F⟩ := c.t.d.def_ 11 (d := d_fraction_in) rfl
  refine ⟨_, fd, ["text"], fnok_no, He.glo_ok KX GN (c.t.d.fact 11 (f := .glo "fraction_in") rfl), F.kp, ?_⟩
  · intro ds hd
    rw [List.mem_singleton] at hd
    subst hd
    exact ⟨[], [], FunD.bindsN F fun _ _ _ _ _ _ us hl => match us, hl with | [_], _ => rfl, .nil, fun _ => .nil⟩
theorem fo_fraction_in__1 (KX : K.In h) (GN : h.Ns mainGlobals mg) (c : He.SaysX fa fn ts [] ex w h K) (F_number_in : FnAt P w K mg base "number_in" 1 1 [[]] m_number_in) (F_fraction : FnAt P w K mg base "fraction" 2 2 [[], [(.int 1)]] m_fraction) (F_fraction_in__0 : FnAt P w K mg base "fraction_in" 1 1 [[]] m_fraction_in__0) {fd : FuncData} (F : FunD K d_fraction_in.name d_fraction_in.qual d_fraction_in.params d_fraction_in.body d_fraction_in.scope (d_fraction_in.dvs K) (d_fraction_in.kws K) (He.fAd K d_fraction_in.at_) fd) : FnOk P w K mg base (L2.CX P w) 3 (He.fAd K d_fraction_in.at_) fd ["text"] (spD K mg 1 m_fraction_in__1) := by
  have e_NoText := ge_NoText (mg := mg) KX GN c
  have S := sc_fraction_in
  rw [mm_fraction_in__1]
  have Z := okD (P := P) (w := w) (mg := mg) (base := base) (n := 1) (k := 2) (den := den_fraction_in__1) F S rfl
  refine Z ?_
  intro cdv A outer s H E hr
  have tk : Takes (cxOf (L2.CX P w) P w K mg base ["text", "top", "bottom", "stroke", "under_stroke"] "fraction_in" (defScope s_fraction_in) (He.fAd K d_fraction_in.at_) cdv A outer s H E) (fun cls d _ H => E cls d H) := takes_of rfl rfl rfl rfl
  have hp : PassesOwn (model P w) (cxOf (L2.CX P w) P w K mg base ["text", "top", "bottom", "stroke", "under_stroke"] "fraction_in" (defScope s_fraction_in) (He.fAd K d_fraction_in.at_) cdv A outer s H E).A (cxOf (L2.CX P w) P w K mg base ["text", "top", "bottom", "stroke", "under_stroke"] "fraction_in" (defScope s_fraction_in) (He.fAd K d_fraction_in.at_) cdv A outer s H E).env (cxOf (L2.CX P w) P w K mg base ["text", "top", "bottom", "stroke", "under_stroke"] "fraction_in" (defScope s_fraction_in) (He.fAd K d_fraction_in.at_) cdv A outer s H E).xe := passes_of rfl
  exact sd_cons (sd_if (pt_cmpd (od_eq hr.units) noEx_eq (pd_sl (pd_v 0) (po_d0) (po_d (pd_int))) (pd_str)) (sd_cons (sd_asg (pg_tup rfl (pgs_cons (pg_name (i := 1) S.nd rfl (.inl rfl)) (pgs_cons (pg_name (i := 2) S.nd rfl (.inl rfl)) (pgs_nil)))) (pd_call F_fraction_in__0 mem0 (hr.mono (by decide)) tk rfl (pad_cons (pd_sl (pd_v 0) (po_d (pd_int)) (po_d0)) (pad_nil)))) (sd_one (sd_ret (pd_tup (pad_cons (pd_bin od_sub noEx_sub (pd_int) (pd_v 1)) (pad_cons (pd_v 2) (pad_nil))))))) (sd_nil)) (sd_cons (sd_asg (pg_tup rfl (pgs_cons (pg_name (i := 1) S.nd rfl (.inl rfl)) (pgs_cons (pg_name (i := 3) S.nd rfl (.inl rfl)) (pgs_cons (pg_name (i := 2) S.nd rfl (.inl rfl)) (pgs_nil))))) (pd_m_partition (pd_v 0) (pd_str))) (sd_cons (sd_if (pt_cmpd (od_eq hr.units) noEx_eq (pd_v 3) (pd_str)) (sd_one (sd_ret (pd_tup (pad_cons (pd_call F_number_in mem0 (hr.mono (by decide)) tk rfl (pad_cons (pd_v 1) (pad_nil))) (pad_cons (pd_int) (pad_nil)))))) (sd_nil)) (sd_cons (sd_set 4 S.nd rfl (.inl rfl) (pd_call F_number_in mem0 (hr.mono (by decide)) tk rfl (pad_cons (pd_v 2) (pad_nil)))) (sd_cons (sd_if (pt_cmpd (od_eq hr.units) noEx_eq (pd_v 4) (pd_int)) (sd_one (sd_raise rfl tk e_NoText)) (sd_nil)) (sd_one (sd_ret (pd_call F_fraction mem0 (hr.mono (by decide)) tk rfl (pad_cons (pd_call F_number_in mem0 (hr.mono (by decide)) tk rfl (pad_cons (pd_v 1) (pad_nil))) (pad_cons (pd_v 4) (pad_nil))))))))))
theorem ok_fraction_in__1 (KX : K.In h) (GN : h.Ns mainGlobals mg) (c : He.SaysX fa fn ts [] ex w h K) (F_number_in : FnAt P w K mg base "number_in" 1 1 [[]] m_number_in) (F_fraction : FnAt P w K mg base "fraction" 2 2 [[], [(.int 1)]] m_fraction) (F_fraction_in__0 : FnAt P w K mg base "fraction_in" 1 1 [[]] m_fraction_in__0) : FnAt P w K mg base "fraction_in" 3 1 [[]] m_fraction_in__1 := by
  obtain ⟨fd, F⟩ := c.t.d.def_ 11 (d := d_fraction_in) rfl
  refine ⟨_, fd, ["text"], fo_fraction_in__1 KX GN c F_number_in F_fraction F_fraction_in__0 F, He.glo_ok KX GN (c.t.d.fact 11 (f := .glo "fraction_in") rfl), F.kp, ?_⟩
  · intro ds hd
    rw [List.mem_singleton] at hd
    subst hd
    exact ⟨[], [], FunD.bindsN F fun _ _ _ _ _ _ us hl => match us, hl with | [_], _ => rfl, .nil, fun _ => .nil⟩
theorem fo_fraction_in__2 (KX : K.In h) (GN : h.Ns mainGlobals mg) (c : He.SaysX fa fn ts [] ex w h K) (F_number_in : FnAt P w K mg base "number_in" 1 1 [[]] m_number_in) (F_fraction : FnAt P w K mg base "fraction" 2 2 [[], [(.int 1)]] m_fraction) (F_fraction_in__1 : FnAt P w K mg base "fraction_in" 3 1 [[]] m_fraction_in__1) {fd : FuncData} (F : FunD K d_fraction_in.name d_fraction_in.qual d_fraction_in.params d_fraction_in.body d_fraction_in.scope (d_fraction_in.dvs K) (d_fraction_in.kws K) (He.fAd K d_fraction_in.at_) fd) : FnOk P w K mg base (L2.CX P w) 4 (He.fAd K d_fraction_in.at_) fd ["text"] (spD K mg 1 m_fraction_in__2) := by
  have e_NoText := ge_NoText (mg := mg) KX GN c
  have S := sc_fraction_in
  rw [mm_fraction_in__2]
  have Z := okD (P := P) (w := w) (mg := mg) (base := base) (n := 1) (k := 3) (den := den_fraction_in__2) F S rfl
  refine Z ?_
  intro cdv A outer s H E hr
  have tk : Takes (cxOf (L2.CX P w) P w K mg base ["text", "top", "bottom", "stroke", "under_stroke"] "fraction_in" (defScope s_fraction_in) (He.fAd K d_fraction_in.at_) cdv A outer s H E) (fun cls d _ H => E cls d H) := takes_of rfl rfl rfl rfl
  have hp : PassesOwn (model P w) (cxOf (L2.CX P w) P w K mg base ["text", "top", "bottom", "stroke", "under_stroke"] "fraction_in" (defScope s_fraction_in) (He.fAd K d_fraction_in.at_) cdv A outer s H E).A (cxOf (L2.CX P w) P w K mg base ["text", "top", "bottom", "stroke", "under_stroke"] "fraction_in" (defScope s_fraction_in) (He.fAd K d_fraction_in.at_) cdv A outer s H E).env (cxOf (L2.CX P w) P w K mg base ["text", "top", "bottom", "stroke", "under_stroke"] "fraction_in" (defScope s_fraction_in) (He.fAd K d_fraction_in.at_) cdv A outer s H E).xe := passes_of rfl
  exact sd_cons (sd_if (pt_cmpd (od_eq hr.units) noEx_eq (pd_sl (pd_v 0) (po_d0) (po_d (pd_int))) (pd_str)) (sd_cons (sd_asg (pg_tup rfl (pgs_cons (pg_name (i := 1) S.nd rfl (.inl rfl)) (pgs_cons (pg_name (i := 2) S.nd rfl (.inl rfl)) (pgs_nil)))) (pd_call F_fraction_in__1 mem0 (hr.mono (by decide)) tk rfl (pad_cons (pd_sl (pd_v 0) (po_d (pd_int)) (po_d0)) (pad_nil)))) (sd_one (sd_ret (pd_tup (pad_cons (pd_bin od_sub noEx_sub (pd_int) (pd_v 1)) (pad_cons (pd_v 2) (pad_nil))))))) (sd_nil)) (sd_cons (sd_asg (pg_tup rfl (pgs_cons (pg_name (i := 1) S.nd rfl (.inl rfl)) (pgs_cons (pg_name (i := 3) S.nd rfl (.inl rfl)) (pgs_cons (pg_name (i := 2) S.nd rfl (.inl rfl)) (pgs_nil))))) (pd_m_partition (pd_v 0) (pd_str))) (sd_cons (sd_if (pt_cmpd (od_eq hr.units) noEx_eq (pd_v 3) (pd_str)) (sd_one (sd_ret (pd_tup (pad_cons (pd_call F_number_in mem0 (hr.mono (by decide)) tk rfl (pad_cons (pd_v 1) (pad_nil))) (pad_cons (pd_int) (pad_nil)))))) (sd_nil)) (sd_cons (sd_set 4 S.nd rfl (.inl rfl) (pd_call F_number_in mem0 (hr.mono (by decide)) tk rfl (pad_cons (pd_v 2) (pad_nil)))) (sd_cons (sd_if (pt_cmpd (od_eq hr.units) noEx_eq (pd_v 4) (pd_int)) (sd_one (sd_raise rfl tk e_NoText)) (sd_nil)) (sd_one (sd_ret (pd_call F_fraction mem0 (hr.mono (by decide)) tk rfl (pad_cons (pd_call F_number_in mem0 (hr.mono (by decide)) tk rfl (pad_cons (pd_v 1) (pad_nil))) (pad_cons (pd_v 4) (pad_nil))))))))))
theorem ok_fraction_in__2 (KX : K.In h) (GN : h.Ns mainGlobals mg) (c : He.SaysX fa fn ts [] ex w h K) (F_number_in : FnAt P w K mg base "number_in" 1 1 [[]] m_number_in) (F_fraction : FnAt P w K mg base "fraction" 2 2 [[], [(.int 1)]] m_fraction) (F_fraction_in__1 : FnAt P w K mg base "fraction_in" 3 1 [[]] m_fraction_in__1) : FnAt P w K mg base "fraction_in" 4 1 [[]] m_fraction_in__2 := by
  obtain ⟨fd, F⟩ := c.t.d.def_ 11 (d := d_fraction_in) rfl
  refine ⟨_, fd, ["text"], fo_fraction_in__2 KX GN c F_number_in F_fraction F_fraction_in__1 F, He.glo_ok KX GN (c.t.d.fact 11 (f := .glo "fraction_in") rfl), F.kp, ?_⟩
  · intro ds hd
    rw [List.mem_singleton] at hd
    subst hd
    exact ⟨[], [], FunD.bindsN F fun _ _ _ _ _ _ us hl => match us, hl with | [_], _ => rfl, .nil, fun _ => .nil⟩
theorem fo_fraction_in__3 (KX : K.In h) (GN : h.Ns mainGlobals mg) (c : He.SaysX fa fn ts [] ex w h K) (F_number_in : FnAt P w K mg base "number_in" 1 1 [[]] m_number_in) (F_fraction : FnAt P w K mg base "fraction" 2 2 [[], [(.int 1)]] m_fraction) (F_fraction_in__2 : FnAt P w K mg base "fraction_in" 4 1 [[]] m_fraction_in__2) {fd : FuncData} (F : FunD K d_fraction_in.name d_fraction_in.qual d_fraction_in.params d_fraction_in.body d_fraction_in.scope (d_fraction_in.dvs K) (d_fraction_in.kws K) (He.fAd K d_fraction_in.at_) fd) : FnOk P w K mg base (L2.CX P w) 5 (He.fAd K d_fraction_in.at_) fd ["text"] (spD K mg 1 m_fraction_in__3) := by
  have e_NoText := ge_NoText (mg := mg) KX GN c
  have S := sc_fraction_in
  rw [mm_fraction_in__3]
  have Z := okD (P := P) (w := w) (mg := mg) (base := base) (n := 1) (k := 4) (den := den_fraction_in__3) F S rfl
  refine Z ?_
  intro cdv A outer s H E hr
  have tk : Takes (cxOf (L2.CX P w) P w K mg base ["text", "top", "bottom", "stroke", "under_stroke"] "fraction_in" (defScope s_fraction_in) (He.fAd K d_fraction_in.at_) cdv A outer s H E) (fun cls d _ H => E cls d H) := takes_of rfl rfl rfl rfl
  have hp : PassesOwn (model P w) (cxOf (L2.CX P w) P w K mg base ["text", "top", "bottom", "stroke", "under_stroke"] "fraction_in" (defScope s_fraction_in) (He.fAd K d_fraction_in.at_) cdv A outer s H E).A (cxOf (L2.CX P w) P w K mg base ["text", "top", "bottom", "stroke", "under_stroke"] "fraction_in" (defScope s_fraction_in) (He.fAd K d_fraction_in.at_) cdv A outer s H E).env (cxOf (L2.CX P w) P w K mg base ["text", "top", "bottom", "stroke", "under_stroke"] "fraction_in" (defScope s_fraction_in) (He.fAd K d_fraction_in.at_) cdv A outer s H E).xe := passes_of rfl
  exact sd_cons (sd_if (pt_cmpd (od_eq hr.units) noEx_eq (pd_sl (pd_v 0) (po_d0) (po_d (pd_int))) (pd_str)) (sd_cons (sd_asg (pg_tup rfl (pgs_cons (pg_name (i := 1) S.nd rfl (.inl rfl)) (pgs_cons (pg_name (i := 2) S.nd rfl (.inl rfl)) (pgs_nil)))) (pd_call F_fraction_in__2 mem0 (hr.mono (by decide)) tk rfl (pad_cons (pd_sl (pd_v 0) (po_d (pd_int)) (po_d0)) (pad_nil)))) (sd_one (sd_ret (pd_tup (pad_cons (pd_bin od_sub noEx_sub (pd_int) (pd_v 1)) (pad_cons (pd_v 2) (pad_nil))))))) (sd_nil)) (sd_cons (sd_asg (pg_tup rfl (pgs_cons (pg_name (i := 1) S.nd rfl (.inl rfl)) (pgs_cons (pg_name (i := 3) S.nd rfl (.inl rfl)) (pgs_cons (pg_name (i := 2) S.nd rfl (.inl rfl)) (pgs_nil))))) (pd_m_partition (pd_v 0) (pd_str))) (sd_cons (sd_if (pt_cmpd (od_eq hr.units) noEx_eq (pd_v 3) (pd_str)) (sd_one (sd_ret (pd_tup (pad_cons (pd_call F_number_in mem0 (hr.mono (by decide)) tk rfl (pad_cons (pd_v 1) (pad_nil))) (pad_cons (pd_int) (pad_nil)))))) (sd_nil)) (sd_cons (sd_set 4 S.nd rfl (.inl rfl) (pd_call F_number_in mem0 (hr.mono (by decide)) tk rfl (pad_cons (pd_v 2) (pad_nil)))) (sd_cons (sd_if (pt_cmpd (od_eq hr.units) noEx_eq (pd_v 4) (pd_int)) (sd_one (sd_raise rfl tk e_NoText)) (sd_nil)) (sd_one (sd_ret (pd_call F_fraction mem0 (hr.mono (by decide)) tk rfl (pad_cons (pd_call F_number_in mem0 (hr.mono (by decide)) tk rfl (pad_cons (pd_v 1) (pad_nil))) (pad_cons (pd_v 4) (pad_nil))))))))))
theorem ok_fraction_in__3 (KX : K.In h) (GN : h.Ns mainGlobals mg) (c : He.SaysX fa fn ts [] ex w h K) (F_number_in : FnAt P w K mg base "number_in" 1 1 [[]] m_number_in) (F_fraction : FnAt P w K mg base "fraction" 2 2 [[], [(.int 1)]] m_fraction) (F_fraction_in__2 : FnAt P w K mg base "fraction_in" 4 1 [[]] m_fraction_in__2) : FnAt P w K mg base "fraction_in" 5 1 [[]] m_fraction_in__3 := by
  obtain ⟨fd, F⟩ := c.t.d.def_ 11 (d := d_fraction_in) rfl
  refine ⟨_, fd, ["text"], fo_fraction_in__3 KX GN c F_number_in F_fraction F_fraction_in__2 F, He.glo_ok KX GN (c.t.d.fact 11 (f := .glo "fraction_in") rfl), F.kp, ?_⟩
  · intro ds hd
    rw [List.mem_singleton] at hd
    subst hd
    exact ⟨[], [], FunD.bindsN F fun _ _ _ _ _ _ us hl => match us, hl with | [_], _ => rfl, .nil, fun _ => .nil⟩
theorem fo_fraction_in (KX : K.In h) (GN : h.Ns mainGlobals mg) (c : He.SaysX fa fn ts [] ex w h K) (F_number_in : FnAt P w K mg base "number_in" 1 1 [[]] m_number_in) (F_fraction : FnAt P w K mg base "fraction" 2 2 [[], [(.int 1)]] m_fraction) (F_fraction_in__3 : FnAt P w K mg base "fraction_in" 5 1 [[]] m_fraction_in__3) {fd : FuncData} (F : FunD K d_fraction_in.name d_fraction_in.qual d_fraction_in.params d_fraction_in.body d_fraction_in.scope (d_fraction_in.dvs K) (d_fraction_in.kws K) (He.fAd K d_fraction_in.at_) fd) : FnOk P w K mg base (L2.CX P w) 6 (He.fAd K d_fraction_in.at_) fd ["text"] (spD K mg 1 m_fraction_in) := by
  have e_NoText := ge_NoText (mg := mg) KX GN c
  have S := sc_fraction_in
  rw [mm_fraction_in]
  have Z := okD (P := P) (w := w) (mg := mg) (base := base) (n := 1) (k := 5) (den := den_fraction_in) F S rfl
  refine Z ?_
  intro cdv A outer s H E hr
  have tk : Takes (cxOf (L2.CX P w) P w K mg base ["text", "top", "bottom", "stroke", "under_stroke"] "fraction_in" (defScope s_fraction_in) (He.fAd K d_fraction_in.at_) cdv A outer s H E) (fun cls d _ H => E cls d H) := takes_of rfl rfl rfl rfl
  have hp : PassesOwn (model P w) (cxOf (L2.CX P w) P w K mg base ["text", "top", "bottom", "stroke", "under_stroke"] "fraction_in" (defScope s_fraction_in) (He.fAd K d_fraction_in.at_) cdv A outer s H E).A (cxOf (L2.CX P w) P w K mg base ["text", "top", "bottom", "stroke", "under_stroke"] "fraction_in" (defScope s_fraction_in) (He.fAd K d_fraction_in.at_) cdv A outer s H E).env (cxOf (L2.CX P w) P w K mg base ["text", "top", "bottom", "stroke", "under_stroke"] "fraction_in" (defScope s_fraction_in) (He.fAd K d_fraction_in.at_) cdv A outer s H E).xe := passes_of rfl
  exact sd_cons (sd_if (pt_cmpd (od_eq hr.units) noEx_eq (pd_sl (pd_v 0) (po_d0) (po_d (pd_int))) (pd_str)) (sd_cons (sd_asg (pg_tup rfl (pgs_cons (pg_name (i := 1) S.nd rfl (.inl rfl)) (pgs_cons (pg_name (i := 2) S.nd rfl (.inl rfl)) (pgs_nil)))) (pd_call F_fraction_in__3 mem0 (hr.mono (by decide)) tk rfl (pad_cons (pd_sl (pd_v 0) (po_d (pd_int)) (po_d0)) (pad_nil)))) (sd_one (sd_ret (pd_tup (pad_cons (pd_bin od_sub noEx_sub (pd_int) (pd_v 1)) (pad_cons (pd_v 2) (pad_nil))))))) (sd_nil)) (sd_cons (sd_asg (pg_tup rfl (pgs_cons (pg_name (i := 1) S.nd rfl (.inl rfl)) (pgs_cons (pg_name (i := 3) S.nd rfl (.inl rfl)) (pgs_cons (pg_name (i := 2) S.nd rfl (.inl rfl)) (pgs_nil))))) (pd_m_partition (pd_v 0) (pd_str))) (sd_cons (sd_if (pt_cmpd (od_eq hr.units) noEx_eq (pd_v 3) (pd_str)) (sd_one (sd_ret (pd_tup (pad_cons (pd_call F_number_in mem0 (hr.mono (by decide)) tk rfl (pad_cons (pd_v 1) (pad_nil))) (pad_cons (pd_int) (pad_nil)))))) (sd_nil)) (sd_cons (sd_set 4 S.nd rfl (.inl rfl) (pd_call F_number_in mem0 (hr.mono (by decide)) tk rfl (pad_cons (pd_v 2) (pad_nil)))) (sd_cons (sd_if (pt_cmpd (od_eq hr.units) noEx_eq (pd_v 4) (pd_int)) (sd_one (sd_raise rfl tk e_NoText)) (sd_nil)) (sd_one (sd_ret (pd_call F_fraction mem0 (hr.mono (by decide)) tk rfl (pad_cons (pd_call F_number_in mem0 (hr.mono (by decide)) tk rfl (pad_cons (pd_v 1) (pad_nil))) (pad_cons (pd_v 4) (pad_nil))))))))))
theorem ok_fraction_in (KX : K.In h) (GN : h.Ns mainGlobals mg) (c : He.SaysX fa fn ts [] ex w h K) (F_number_in : FnAt P w K mg base "number_in" 1 1 [[]] m_number_in) (F_fraction : FnAt P w K mg base "fraction" 2 2 [[], [(.int 1)]] m_fraction) (F_fraction_in__3 : FnAt P w K mg base "fraction_in" 5 1 [[]] m_fraction_in__3) : FnAt P w K mg base "fraction_in" 6 1 [[]] m_fraction_in := by
  obtain ⟨fd, F⟩ := c.t.d.def_ 11 (d := d_fraction_in) rfl
  refine ⟨_, fd, ["text"], fo_fraction_in KX GN c F_number_in F_fraction F_fraction_in__3 F, He.glo_ok KX GN (c.t.d.fact 11 (f := .glo "fraction_in") rfl), F.kp, ?_⟩
  · intro ds hd
    rw [List.mem_singleton] at hd
    subst hd
    exact ⟨[], [], FunD.bindsN F fun _ _ _ _ _ _ us hl => match us, hl with | [_], _ => rfl, .nil, fun _ => .nil⟩
theorem fo_ahead_in (KX : K.In h) (GN : h.Ns mainGlobals mg) (c : He.SaysX fa fn ts [] ex w h K) (F_fraction_in : FnAt P w K mg base "fraction_in" 6 1 [[]] m_fraction_in) {fd : FuncData} (F : FunD K d_ahead_in.name d_ahead_in.qual d_ahead_in.params d_ahead_in.body d_ahead_in.scope (d_ahead_in.dvs K) (d_ahead_in.kws K) (He.fAd K d_ahead_in.at_) fd) : FnOk P w K mg base (L2.CX P w) 7 (He.fAd K d_ahead_in.at_) fd ["text"] (spD K mg 1 m_ahead_in) := by
  have S := sc_ahead_in
  rw [mm_ahead_in]
  have Z := okD (P := P) (w := w) (mg := mg) (base := base) (n := 1) (k := 6) (den := den_ahead_in) F S rfl
  refine Z ?_
  intro cdv A outer s H E hr
  have tk : Takes (cxOf (L2.CX P w) P w K mg base ["text"] "ahead_in" (defScope s_ahead_in) (He.fAd K d_ahead_in.at_) cdv A outer s H E) (fun cls d _ H => E cls d H) := takes_of rfl rfl rfl rfl
  have hp : PassesOwn (model P w) (cxOf (L2.CX P w) P w K mg base ["text"] "ahead_in" (defScope s_ahead_in) (He.fAd K d_ahead_in.at_) cdv A outer s H E).A (cxOf (L2.CX P w) P w K mg base ["text"] "ahead_in" (defScope s_ahead_in) (He.fAd K d_ahead_in.at_) cdv A outer s H E).env (cxOf (L2.CX P w) P w K mg base ["text"] "ahead_in" (defScope s_ahead_in) (He.fAd K d_ahead_in.at_) cdv A outer s H E).xe := passes_of rfl
  exact sd_cons (sd_if (pt_cmpd (od_eq hr.units) noEx_eq (pd_v 0) (pd_str)) (sd_one (sd_ret (pd_tup (pad_cons (pd_int) (pad_cons (pd_int) (pad_nil)))))) (sd_nil)) (sd_cons (sd_if (pt_cmpd (od_eq hr.units) noEx_eq (pd_v 0) (pd_str)) (sd_one (sd_ret (pd_tup (pad_cons (pd_neg (pd_int)) (pad_cons (pd_int) (pad_nil)))))) (sd_nil)) (sd_one (sd_ret (pd_call F_fraction_in mem0 (hr.mono (by decide)) tk rfl (pad_cons (pd_v 0) (pad_nil))))))
theorem ok_ahead_in (KX : K.In h) (GN : h.Ns mainGlobals mg) (c : He.SaysX fa fn ts [] ex w h K) (F_fraction_in : FnAt P w K mg base "fraction_in" 6 1 [[]] m_fraction_in) : FnAt P w K mg base "ahead_in" 7 1 [[]] m_ahead_in := by
  obtain ⟨fd, F⟩ := c.t.d.def_ 12 (d := d_ahead_in) rfl
  refine ⟨_, fd, ["text"], fo_ahead_in KX GN c F_fraction_in F, He.glo_ok KX GN (c.t.d.fact 12 (f := .glo "ahead_in") rfl), F.kp, ?_⟩
  · intro ds hd
    rw [List.mem_singleton] at hd
    subst hd
    exact ⟨[], [], FunD.bindsN F fun _ _ _ _ _ _ us hl => match us, hl with | [_], _ => rfl, .nil, fun _ => .nil⟩
theorem fo_length_in (KX : K.In h) (GN : h.Ns mainGlobals mg) (c : He.SaysX fa fn ts [] ex w h K) (F_ahead_in : FnAt P w K mg base "ahead_in" 7 1 [[]] m_ahead_in) (F_by_parts : FnAt P w K mg base "by_parts" 3 2 [[]] m_by_parts) (F_fraction_in : FnAt P w K mg base "fraction_in" 6 1 [[]] m_fraction_in) {fd : FuncData} (F : FunD K d_length_in.name d_length_in.qual d_length_in.params d_length_in.body d_length_in.scope (d_length_in.dvs K) (d_length_in.kws K) (He.fAd K d_length_in.at_) fd) : FnOk P w K mg base (L2.CX P w) 8 (He.fAd K d_length_in.at_) fd ["text"] (spD K mg 1 m_length_in) := by
  have b_max : mg "max" = none := He.free_ok KX GN (c.t.d.fact 32 (f := .free "max") rfl)
  obtain ⟨u_NOUGHT, g_NOUGHT⟩ := gc_NOUGHT (mg := mg) KX GN c
  have S := sc_length_in
  rw [mm_length_in]
  have Z := okD (P := P) (w := w) (mg := mg) (base := base) (n := 1) (k := 7) (den := den_length_in) F S rfl
  refine Z ?_
  intro cdv A outer s H E hr
  have tk : Takes (cxOf (L2.CX P w) P w K mg base ["text", "head", "mark", "tail", "at", "second"] "length_in" (defScope s_length_in) (He.fAd K d_length_in.at_) cdv A outer s H E) (fun cls d _ H => E cls d H) := takes_of rfl rfl rfl rfl
  have hp : PassesOwn (model P w) (cxOf (L2.CX P w) P w K mg base ["text", "head", "mark", "tail", "at", "second"] "length_in" (defScope s_length_in) (He.fAd K d_length_in.at_) cdv A outer s H E).A (cxOf (L2.CX P w) P w K mg base ["text", "head", "mark", "tail", "at", "second"] "length_in" (defScope s_length_in) (He.fAd K d_length_in.at_) cdv A outer s H E).env (cxOf (L2.CX P w) P w K mg base ["text", "head", "mark", "tail", "at", "second"] "length_in" (defScope s_length_in) (He.fAd K d_length_in.at_) cdv A outer s H E).xe := passes_of rfl
  exact sd_cons (sd_asg (pg_tup rfl (pgs_cons (pg_name (i := 1) S.nd rfl (.inl rfl)) (pgs_cons (pg_name (i := 2) S.nd rfl (.inl rfl)) (pgs_cons (pg_name (i := 3) S.nd rfl (.inl rfl)) (pgs_nil))))) (pd_m_partition (pd_v 0) (pd_str))) (sd_cons (sd_if (pt_cmpd (od_eq hr.units) noEx_eq (pd_v 2) (pd_str)) (sd_one (sd_ret (pd_call F_by_parts mem0 (hr.mono (by decide)) tk rfl (pad_cons (pd_call F_fraction_in mem0 (hr.mono (by decide)) tk rfl (pad_cons (pd_v 1) (pad_nil))) (pad_cons (pd_g rfl g_NOUGHT.1 g_NOUGHT.2.1 g_NOUGHT.2.2) (pad_nil)))))) (sd_nil)) (sd_cons (sd_set 4 S.nd rfl (.inl rfl) (pd_b (cd_max rfl) nx_max b_max (by decide +kernel) (pad_cons (pd_m_rfind (pd_v 1) (pd_str)) (pad_cons (pd_m_rfind (pd_v 1) (pd_str)) (pad_nil))))) (sd_cons (sd_if (pt_cmpd od_le noEx_cI (pd_v 4) (pd_int)) (sd_one (sd_ret (pd_call F_by_parts mem0 (hr.mono (by decide)) tk rfl (pad_cons (pd_g rfl g_NOUGHT.1 g_NOUGHT.2.1 g_NOUGHT.2.2) (pad_cons (pd_call F_ahead_in mem0 (hr.mono (by decide)) tk rfl (pad_cons (pd_v 1) (pad_nil))) (pad_nil)))))) (sd_nil)) (sd_cons (sd_set 5 S.nd rfl (.inl rfl) (pd_call F_ahead_in mem0 (hr.mono (by decide)) tk rfl (pad_cons (pd_sl (pd_v 1) (po_d (pd_bin od_add noEx_add (pd_v 4) (pd_int))) (po_d0)) (pad_nil)))) (sd_cons (sd_if (pt_cmpd (od_eq hr.units) noEx_eq (pd_ix (pd_v 1) (pd_v 4)) (pd_str)) (sd_one (sd_set 5 S.nd rfl (.inl rfl) (pd_tup (pad_cons (pd_bin od_sub noEx_sub (pd_int) (pd_ix (pd_v 5) (pd_int))) (pad_cons (pd_ix (pd_v 5) (pd_int)) (pad_nil)))))) (sd_nil)) (sd_one (sd_ret (pd_call F_by_parts mem0 (hr.mono (by decide)) tk rfl (pad_cons (pd_call F_fraction_in mem0 (hr.mono (by decide)) tk rfl (pad_cons (pd_sl (pd_v 1) (po_d0) (po_d (pd_v 4))) (pad_nil))) (pad_cons (pd_v 5) (pad_nil)))))))))))
theorem ok_length_in (KX : K.In h) (GN : h.Ns mainGlobals mg) (c : He.SaysX fa fn ts [] ex w h K) (F_ahead_in : FnAt P w K mg base "ahead_in" 7 1 [[]] m_ahead_in) (F_by_parts : FnAt P w K mg base "by_parts" 3 2 [[]] m_by_parts) (F_fraction_in : FnAt P w K mg base "fraction_in" 6 1 [[]] m_fraction_in) : FnAt P w K mg base "length_in" 8 1 [[]] m_length_in := by
  obtain ⟨fd, F⟩ := c.t.d.def_ 13 (d := d_length_in) rfl
  refine ⟨_, fd, ["text"], fo_length_in KX GN c F_ahead_in F_by_parts F_fraction_in F, He.glo_ok KX GN (c.t.d.fact 13 (f := .glo "length_in") rfl), F.kp, ?_⟩
  · intro ds hd
    rw [List.mem_singleton] at hd
    subst hd
    exact ⟨[], [], FunD.bindsN F fun _ _ _ _ _ _ us hl => match us, hl with | [_], _ => rfl, .nil, fun _ => .nil⟩
theorem fo_read_length (KX : K.In h) (GN : h.Ns mainGlobals mg) (c : He.SaysX fa fn ts [] ex w h K) (F_length_in : FnAt P w K mg base "length_in" 8 1 [[]] m_length_in) (F_shown_length : FnAt P w K mg base "shown_length" 4 2 [[]] m_shown_length) {fd : FuncData} (F : FunD K d_read_length.name d_read_length.qual d_read_length.params d_read_length.body d_read_length.scope (d_read_length.dvs K) (d_read_length.kws K) (He.fAd K d_read_length.at_) fd) : FnOk P w K mg base (L2.CX P w) 9 (He.fAd K d_read_length.at_) fd ["d", "text"] (spD K mg 2 m_read_length) := by
  have b_isinstance : mg "isinstance" = none := He.free_ok KX GN (c.t.d.fact 30 (f := .free "isinstance") rfl)
  have b_str : mg "str" = none := He.free_ok KX GN (c.t.d.fact 35 (f := .free "str") rfl)
  have e_NoText := ge_NoText (mg := mg) KX GN c
  have S := sc_read_length
  rw [mm_read_length]
  have Z := okD (P := P) (w := w) (mg := mg) (base := base) (n := 2) (k := 8) (den := den_read_length) F S rfl
  refine Z ?_
  intro cdv A outer s H E hr
  have tk : Takes (cxOf (L2.CX P w) P w K mg base ["d", "text", "found"] "read_length" (defScope s_read_length) (He.fAd K d_read_length.at_) cdv A outer s H E) (fun cls d _ H => E cls d H) := takes_of rfl rfl rfl rfl
  have hp : PassesOwn (model P w) (cxOf (L2.CX P w) P w K mg base ["d", "text", "found"] "read_length" (defScope s_read_length) (He.fAd K d_read_length.at_) cdv A outer s H E).A (cxOf (L2.CX P w) P w K mg base ["d", "text", "found"] "read_length" (defScope s_read_length) (He.fAd K d_read_length.at_) cdv A outer s H E).env (cxOf (L2.CX P w) P w K mg base ["d", "text", "found"] "read_length" (defScope s_read_length) (He.fAd K d_read_length.at_) cdv A outer s H E).xe := passes_of rfl
  exact sd_cons (sd_if (PW.pt (pw_dor (pt_dnot (pt_d (pd_isi (T := "str") b_isinstance b_str (by decide +kernel) (pd_v 1)))) (pw_o1 (pt_cmpd od_gt noEx_cI (pd_m_countS (pd_v 1) (pd_str)) (pd_int))))) (sd_one (sd_raise rfl tk e_NoText)) (sd_nil)) (sd_cons (sd_set 2 S.nd rfl (.inl rfl) (pd_call F_length_in mem0 (hr.mono (by decide)) tk rfl (pad_cons (pd_v 1) (pad_nil)))) (sd_cons (sd_if (pt_cmpd (od_ne hr.units) noEx_ne (pd_call F_shown_length mem0 (hr.mono (by decide)) tk rfl (pad_cons (pd_v 0) (pad_cons (pd_v 2) (pad_nil)))) (pd_v 1)) (sd_one (sd_raise rfl tk e_NoText)) (sd_nil)) (sd_one (sd_ret (pd_v 2)))))
theorem ok_read_length (KX : K.In h) (GN : h.Ns mainGlobals mg) (c : He.SaysX fa fn ts [] ex w h K) (F_length_in : FnAt P w K mg base "length_in" 8 1 [[]] m_length_in) (F_shown_length : FnAt P w K mg base "shown_length" 4 2 [[]] m_shown_length) : FnAt P w K mg base "read_length" 9 2 [[]] m_read_length := by
  obtain ⟨fd, F⟩ := c.t.d.def_ 14 (d := d_read_length) rfl
  refine ⟨_, fd, ["d", "text"], fo_read_length KX GN c F_length_in F_shown_length F, He.glo_ok KX GN (c.t.d.fact 14 (f := .glo "read_length") rfl), F.kp, ?_⟩
  · intro ds hd
    rw [List.mem_singleton] at hd
    subst hd
    exact ⟨[], [], FunD.bindsN F fun _ _ _ _ _ _ us hl => match us, hl with | [_, _], _ => rfl, .nil, fun _ => .nil⟩
theorem fo_law_cell (KX : K.In h) (GN : h.Ns mainGlobals mg) (c : He.SaysX fa fn ts [] ex w h K)  {fd : FuncData} (F : FunD K d_law_cell.name d_law_cell.qual d_law_cell.params d_law_cell.body d_law_cell.scope (d_law_cell.dvs K) (d_law_cell.kws K) (He.fAd K d_law_cell.at_) fd) : FnOk P w K mg base (L2.CX P w) 1 (He.fAd K d_law_cell.at_) fd ["_law_script", "_law_k"] (spD K mg 2 m_law_cell) := by
  have b_len : mg "len" = none := He.free_ok KX GN (c.t.d.fact 31 (f := .free "len") rfl)
  have S := sc_law_cell
  rw [mm_law_cell]
  have Z := okD (P := P) (w := w) (mg := mg) (base := base) (n := 2) (k := 0) (den := den_law_cell) F S rfl
  refine Z ?_
  intro cdv A outer s H E hr
  have tk : Takes (cxOf (L2.CX P w) P w K mg base ["_law_script", "_law_k"] "_law_cell" (defScope s_law_cell) (He.fAd K d_law_cell.at_) cdv A outer s H E) (fun cls d _ H => E cls d H) := takes_of rfl rfl rfl rfl
  have hp : PassesOwn (model P w) (cxOf (L2.CX P w) P w K mg base ["_law_script", "_law_k"] "_law_cell" (defScope s_law_cell) (He.fAd K d_law_cell.at_) cdv A outer s H E).A (cxOf (L2.CX P w) P w K mg base ["_law_script", "_law_k"] "_law_cell" (defScope s_law_cell) (He.fAd K d_law_cell.at_) cdv A outer s H E).env (cxOf (L2.CX P w) P w K mg base ["_law_script", "_law_k"] "_law_cell" (defScope s_law_cell) (He.fAd K d_law_cell.at_) cdv A outer s H E).xe := passes_of rfl
  exact sd_cons (sd_if (pt_cmpd od_lt noEx_cI (pd_v 1) (pd_b cd_len nx_len b_len (by decide +kernel) (pad_cons (pd_v 0) (pad_nil)))) (sd_one (sd_ret (pd_ix (pd_v 0) (pd_v 1)))) (sd_nil)) (sd_one (sd_ret (pd_int)))
theorem ok_law_cell (KX : K.In h) (GN : h.Ns mainGlobals mg) (c : He.SaysX fa fn ts [] ex w h K)  : FnAt P w K mg base "_law_cell" 1 2 [[]] m_law_cell := by
  obtain ⟨fd, F⟩ := c.t.d.def_ 15 (d := d_law_cell) rfl
  refine ⟨_, fd, ["_law_script", "_law_k"], fo_law_cell KX GN c  F, He.glo_ok KX GN (c.t.d.fact 15 (f := .glo "_law_cell") rfl), F.kp, ?_⟩
  · intro ds hd
    rw [List.mem_singleton] at hd
    subst hd
    exact ⟨[], [], FunD.bindsN F fun _ _ _ _ _ _ us hl => match us, hl with | [_, _], _ => rfl, .nil, fun _ => .nil⟩
theorem fo_law_mixed (KX : K.In h) (GN : h.Ns mainGlobals mg) (c : He.SaysX fa fn ts [] ex w h K)  {fd : FuncData} (F : FunD K d_law_mixed.name d_law_mixed.qual d_law_mixed.params d_law_mixed.body d_law_mixed.scope (d_law_mixed.dvs K) (d_law_mixed.kws K) (He.fAd K d_law_mixed.at_) fd) : FnOk P w K mg base (L2.CX P w) 1 (He.fAd K d_law_mixed.at_) fd ["_law_cell_here", "_law_k"] (spD K mg 2 m_law_mixed) := by
  have S := sc_law_mixed
  rw [mm_law_mixed]
  have Z := okD (P := P) (w := w) (mg := mg) (base := base) (n := 2) (k := 0) (den := den_law_mixed) F S rfl
  refine Z ?_
  intro cdv A outer s H E hr
  have tk : Takes (cxOf (L2.CX P w) P w K mg base ["_law_cell_here", "_law_k"] "_law_mixed" (defScope s_law_mixed) (He.fAd K d_law_mixed.at_) cdv A outer s H E) (fun cls d _ H => E cls d H) := takes_of rfl rfl rfl rfl
  have hp : PassesOwn (model P w) (cxOf (L2.CX P w) P w K mg base ["_law_cell_here", "_law_k"] "_law_mixed" (defScope s_law_mixed) (He.fAd K d_law_mixed.at_) cdv A outer s H E).A (cxOf (L2.CX P w) P w K mg base ["_law_cell_here", "_law_k"] "_law_mixed" (defScope s_law_mixed) (He.fAd K d_law_mixed.at_) cdv A outer s H E).env (cxOf (L2.CX P w) P w K mg base ["_law_cell_here", "_law_k"] "_law_mixed" (defScope s_law_mixed) (He.fAd K d_law_mixed.at_) cdv A outer s H E).xe := passes_of rfl
  exact sd_one (sd_ret (pd_bin od_mod noEx_mod (pd_bin od_mul noEx_mul (pd_bin od_add noEx_add (pd_bin od_mod noEx_mod (pd_v 0) (pd_int)) (pd_int)) (pd_bin od_add noEx_add (pd_int) (pd_bin od_mul noEx_mul (pd_bin od_mul noEx_mul (pd_int) (pd_v 1)) (pd_v 1)))) (pd_int)))
theorem ok_law_mixed (KX : K.In h) (GN : h.Ns mainGlobals mg) (c : He.SaysX fa fn ts [] ex w h K)  : FnAt P w K mg base "_law_mixed" 1 2 [[]] m_law_mixed := by
  obtain ⟨fd, F⟩ := c.t.d.def_ 16 (d := d_law_mixed) rfl
  refine ⟨_, fd, ["_law_cell_here", "_law_k"], fo_law_mixed KX GN c  F, He.glo_ok KX GN (c.t.d.fact 16 (f := .glo "_law_mixed") rfl), F.kp, ?_⟩
  · intro ds hd
    rw [List.mem_singleton] at hd
    subst hd
    exact ⟨[], [], FunD.bindsN F fun _ _ _ _ _ _ us hl => match us, hl with | [_, _], _ => rfl, .nil, fun _ => .nil⟩
theorem fo_law_divisor (KX : K.In h) (GN : h.Ns mainGlobals mg) (c : He.SaysX fa fn ts [] ex w h K)  {fd : FuncData} (F : FunD K d_law_divisor.name d_law_divisor.qual d_law_divisor.params d_law_divisor.body d_law_divisor.scope (d_law_divisor.dvs K) (d_law_divisor.kws K) (He.fAd K d_law_divisor.at_) fd) : FnOk P w K mg base (L2.CX P w) 1 (He.fAd K d_law_divisor.at_) fd ["_law_one", "_law_other"] (spD K mg 2 m_law_divisor_v2) := by
  have S := sc_law_divisor
  rw [mm_law_divisor_v2]
  have Z := okD (P := P) (w := w) (mg := mg) (base := base) (n := 2) (k := 0) (den := den_law_divisor_v2) F S rfl
  refine Z ?_
  intro cdv A outer s H E hr
  have tk : Takes (cxOf (L2.CX P w) P w K mg base ["_law_one", "_law_other"] "_law_divisor" (defScope s_law_divisor) (He.fAd K d_law_divisor.at_) cdv A outer s H E) (fun cls d _ H => E cls d H) := takes_of rfl rfl rfl rfl
  have hp : PassesOwn (model P w) (cxOf (L2.CX P w) P w K mg base ["_law_one", "_law_other"] "_law_divisor" (defScope s_law_divisor) (He.fAd K d_law_divisor.at_) cdv A outer s H E).A (cxOf (L2.CX P w) P w K mg base ["_law_one", "_law_other"] "_law_divisor" (defScope s_law_divisor) (He.fAd K d_law_divisor.at_) cdv A outer s H E).env (cxOf (L2.CX P w) P w K mg base ["_law_one", "_law_other"] "_law_divisor" (defScope s_law_divisor) (He.fAd K d_law_divisor.at_) cdv A outer s H E).xe := passes_of rfl
  exact sd_cons (sd_while hp (pt_cmpd (od_ne hr.units) noEx_ne (pd_v 1) (pd_int)) (sd_one (sd_par 0 1 rfl S.nd rfl rfl (by decide) rfl rfl (pd_v 1) (pd_bin od_mod noEx_mod (pd_v 0) (pd_v 1)) rfl))) (sd_one (sd_ret (pd_v 0)))
theorem ok_law_divisor (KX : K.In h) (GN : h.Ns mainGlobals mg) (c : He.SaysX fa fn ts [] ex w h K)  : FnAt P w K mg base "_law_divisor" 1 2 [[]] m_law_divisor_v2 := by
  obtain ⟨fd, F⟩ := c.t.d.def_ 17 (d := d_law_divisor) rfl
  refine ⟨_, fd, ["_law_one", "_law_other"], fo_law_divisor KX GN c  F, He.glo_ok KX GN (c.t.d.fact 17 (f := .glo "_law_divisor") rfl), F.kp, ?_⟩
  · intro ds hd
    rw [List.mem_singleton] at hd
    subst hd
    exact ⟨[], [], FunD.bindsN F fun _ _ _ _ _ _ us hl => match us, hl with | [_, _], _ => rfl, .nil, fun _ => .nil⟩
theorem fo_law_root (KX : K.In h) (GN : h.Ns mainGlobals mg) (c : He.SaysX fa fn ts [] ex w h K) (F_law_mixed : FnAt P w K mg base "_law_mixed" 1 2 [[]] m_law_mixed) (F_law_cell : FnAt P w K mg base "_law_cell" 1 2 [[]] m_law_cell) {fd : FuncData} (F : FunD K d_law_root.name d_law_root.qual d_law_root.params d_law_root.body d_law_root.scope (d_law_root.dvs K) (d_law_root.kws K) (He.fAd K d_law_root.at_) fd) : FnOk P w K mg base (L2.CX P w) 2 (He.fAd K d_law_root.at_) fd ["_law_script"] (spD K mg 1 m_law_root_v4) := by
  have S := sc_law_root
  rw [mm_law_root_v4]
  have Z := okD (P := P) (w := w) (mg := mg) (base := base) (n := 1) (k := 1) (den := den_law_root_v4) F S rfl
  refine Z ?_
  intro cdv A outer s H E hr
  have tk : Takes (cxOf (L2.CX P w) P w K mg base ["_law_script", "_law_d"] "_law_root" (defScope s_law_root) (He.fAd K d_law_root.at_) cdv A outer s H E) (fun cls d _ H => E cls d H) := takes_of rfl rfl rfl rfl
  have hp : PassesOwn (model P w) (cxOf (L2.CX P w) P w K mg base ["_law_script", "_law_d"] "_law_root" (defScope s_law_root) (He.fAd K d_law_root.at_) cdv A outer s H E).A (cxOf (L2.CX P w) P w K mg base ["_law_script", "_law_d"] "_law_root" (defScope s_law_root) (He.fAd K d_law_root.at_) cdv A outer s H E).env (cxOf (L2.CX P w) P w K mg base ["_law_script", "_law_d"] "_law_root" (defScope s_law_root) (He.fAd K d_law_root.at_) cdv A outer s H E).xe := passes_of rfl
  exact sd_cons (sd_set 1 S.nd rfl (.inl rfl) (pd_bin od_add noEx_add (pd_int) (pd_bin od_mod noEx_mod (pd_call F_law_mixed mem0 (hr.mono (by decide)) tk rfl (pad_cons (pd_call F_law_cell mem0 (hr.mono (by decide)) tk rfl (pad_cons (pd_v 0) (pad_cons (pd_int) (pad_nil)))) (pad_cons (pd_int) (pad_nil)))) (pd_int)))) (sd_cons (sd_if (pt_cmpd (od_in (un65 hr)) noEx_in (pd_v 1) (pd_lst (pad_cons (pd_int) (pad_cons (pd_int) (pad_cons (pd_int) (pad_cons (pd_int) (pad_cons (pd_int) (pad_cons (pd_int) (pad_cons (pd_int) (pad_cons (pd_int) (pad_nil))))))))))) (sd_one (sd_ret (pd_bin od_add noEx_add (pd_v 1) (pd_int)))) (sd_nil)) (sd_one (sd_ret (pd_v 1))))
theorem ok_law_root (KX : K.In h) (GN : h.Ns mainGlobals mg) (c : He.SaysX fa fn ts [] ex w h K) (F_law_mixed : FnAt P w K mg base "_law_mixed" 1 2 [[]] m_law_mixed) (F_law_cell : FnAt P w K mg base "_law_cell" 1 2 [[]] m_law_cell) : FnAt P w K mg base "_law_root" 2 1 [[]] m_law_root_v4 := by
  obtain ⟨fd, F⟩ := c.t.d.def_ 18 (d := d_law_root) rfl
  refine ⟨_, fd, ["_law_script"], fo_law_root KX GN c F_law_mixed F_law_cell F, He.glo_ok KX GN (c.t.d.fact 18 (f := .glo "_law_root") rfl), F.kp, ?_⟩
  · intro ds hd
    rw [List.mem_singleton] at hd
    subst hd
    exact ⟨[], [], FunD.bindsN F fun _ _ _ _ _ _ us hl => match us, hl with | [_], _ => rfl, .nil, fun _ => .nil⟩
theorem fo_law_fraction (KX : K.In h) (GN : h.Ns mainGlobals mg) (c : He.SaysX fa fn ts [] ex w h K) (F_law_divisor : FnAt P w K mg base "_law_divisor" 1 2 [[]] m_law_divisor_v2) {fd : FuncData} (F : FunD K d_law_fraction.name d_law_fraction.qual d_law_fraction.params d_law_fraction.body d_law_fraction.scope (d_law_fraction.dvs K) (d_law_fraction.kws K) (He.fAd K d_law_fraction.at_) fd) : FnOk P w K mg base (L2.CX P w) 2 (He.fAd K d_law_fraction.at_) fd ["_law_number", "_law_great"] (spD K mg 2 m_law_fraction_v2) := by
  have b_abs : mg "abs" = none := He.free_ok KX GN (c.t.d.fact 27 (f := .free "abs") rfl)
  have S := sc_law_fraction
  rw [mm_law_fraction_v2]
  have Z := okD (P := P) (w := w) (mg := mg) (base := base) (n := 2) (k := 1) (den := den_law_fraction_v2) F S rfl
  refine Z ?_
  intro cdv A outer s H E hr
  have tk : Takes (cxOf (L2.CX P w) P w K mg base ["_law_number", "_law_great", "_law_top", "_law_bottom", "_law_share"] "_law_fraction" (defScope s_law_fraction) (He.fAd K d_law_fraction.at_) cdv A outer s H E) (fun cls d _ H => E cls d H) := takes_of rfl rfl rfl rfl
  have hp : PassesOwn (model P w) (cxOf (L2.CX P w) P w K mg base ["_law_number", "_law_great", "_law_top", "_law_bottom", "_law_share"] "_law_fraction" (defScope s_law_fraction) (He.fAd K d_law_fraction.at_) cdv A outer s H E).A (cxOf (L2.CX P w) P w K mg base ["_law_number", "_law_great", "_law_top", "_law_bottom", "_law_share"] "_law_fraction" (defScope s_law_fraction) (He.fAd K d_law_fraction.at_) cdv A outer s H E).env (cxOf (L2.CX P w) P w K mg base ["_law_number", "_law_great", "_law_top", "_law_bottom", "_law_share"] "_law_fraction" (defScope s_law_fraction) (He.fAd K d_law_fraction.at_) cdv A outer s H E).xe := passes_of rfl
  exact sd_cons (sd_set 2 S.nd rfl (.inl rfl) (pd_bin od_sub noEx_sub (pd_bin od_mod noEx_mod (pd_bin od_div noEx_div (pd_v 0) (pd_int)) (pd_int)) (pd_int))) (sd_cons (sd_set 3 S.nd rfl (.inl rfl) (pd_ix (pd_lst (pad_cons (pd_int) (pad_cons (pd_int) (pad_cons (pd_int) (pad_cons (pd_int) (pad_cons (pd_int) (pad_cons (pd_int) (pad_cons (pd_int) (pad_nil))))))))) (pd_bin od_mod noEx_mod (pd_v 0) (pd_int)))) (sd_cons (sd_if (PW.pt (pw_dand (pt_d (pd_v 1)) (pw_d1 (pt_cmpd (od_eq hr.units) noEx_eq (pd_bin od_mod noEx_mod (pd_bin od_div noEx_div (pd_v 0) (pd_int)) (pd_int)) (pd_int))))) (sd_cons (sd_set 2 S.nd rfl (.inl rfl) (pd_bin od_mul noEx_mul (pd_bin od_sub noEx_sub (pd_bin od_mul noEx_mul (pd_v 0) (pd_int)) (pd_bin od_pow noEx_pow (pd_int) (pd_int))) (pd_bin od_add noEx_add (pd_bin od_pow noEx_pow (pd_int) (pd_int)) (pd_bin od_mod noEx_mod (pd_v 0) (pd_int))))) (sd_one (sd_set 3 S.nd rfl (.inl rfl) (pd_bin od_add noEx_add (pd_int) (pd_bin od_mod noEx_mod (pd_bin od_mul noEx_mul (pd_v 0) (pd_int)) (pd_bin od_pow noEx_pow (pd_int) (pd_int))))))) (sd_nil)) (sd_cons (sd_set 4 S.nd rfl (.inl rfl) (pd_call F_law_divisor mem0 (hr.mono (by decide)) tk rfl (pad_cons (pd_b cd_abs nx_abs b_abs (by decide +kernel) (pad_cons (pd_v 2) (pad_nil))) (pad_cons (pd_v 3) (pad_nil))))) (sd_one (sd_ret (pd_tup (pad_cons (pd_bin od_div noEx_div (pd_v 2) (pd_v 4)) (pad_cons (pd_bin od_div noEx_div (pd_v 3) (pd_v 4)) (pad_nil)))))))))
theorem ok_law_fraction (KX : K.In h) (GN : h.Ns mainGlobals mg) (c : He.SaysX fa fn ts [] ex w h K) (F_law_divisor : FnAt P w K mg base "_law_divisor" 1 2 [[]] m_law_divisor_v2) : FnAt P w K mg base "_law_fraction" 2 2 [[]] m_law_fraction_v2 := by
  obtain ⟨fd, F⟩ := c.t.d.def_ 19 (d := d_law_fraction) rfl
  refine ⟨_, fd, ["_law_number", "_law_great"], fo_law_fraction KX GN c F_law_divisor F, He.glo_ok KX GN (c.t.d.fact 19 (f := .glo "_law_fraction") rfl), F.kp, ?_⟩
  · intro ds hd
    rw [List.mem_singleton] at hd
    subst hd
    exact ⟨[], [], FunD.bindsN F fun _ _ _ _ _ _ us hl => match us, hl with | [_, _], _ => rfl, .nil, fun _ => .nil⟩
theorem fo_law_shown_fraction (KX : K.In h) (GN : h.Ns mainGlobals mg) (c : He.SaysX fa fn ts [] ex w h K)  {fd : FuncData} (F : FunD K d_law_shown_fraction.name d_law_shown_fraction.qual d_law_shown_fraction.params d_law_shown_fraction.body d_law_shown_fraction.scope (d_law_shown_fraction.dvs K) (d_law_shown_fraction.kws K) (He.fAd K d_law_shown_fraction.at_) fd) : FnOk P w K mg base (L2.CX P w) 1 (He.fAd K d_law_shown_fraction.at_) fd ["_law_one"] (spD K mg 1 m_law_shown_fraction) := by
  have b_str : mg "str" = none := He.free_ok KX GN (c.t.d.fact 35 (f := .free "str") rfl)
  have S := sc_law_shown_fraction
  rw [mm_law_shown_fraction]
  have Z := okD (P := P) (w := w) (mg := mg) (base := base) (n := 1) (k := 0) (den := den_law_shown_fraction) F S rfl
  refine Z ?_
  intro cdv A outer s H E hr
  have tk : Takes (cxOf (L2.CX P w) P w K mg base ["_law_one"] "_law_shown_fraction" (defScope s_law_shown_fraction) (He.fAd K d_law_shown_fraction.at_) cdv A outer s H E) (fun cls d _ H => E cls d H) := takes_of rfl rfl rfl rfl
  have hp : PassesOwn (model P w) (cxOf (L2.CX P w) P w K mg base ["_law_one"] "_law_shown_fraction" (defScope s_law_shown_fraction) (He.fAd K d_law_shown_fraction.at_) cdv A outer s H E).A (cxOf (L2.CX P w) P w K mg base ["_law_one"] "_law_shown_fraction" (defScope s_law_shown_fraction) (He.fAd K d_law_shown_fraction.at_) cdv A outer s H E).env (cxOf (L2.CX P w) P w K mg base ["_law_one"] "_law_shown_fraction" (defScope s_law_shown_fraction) (He.fAd K d_law_shown_fraction.at_) cdv A outer s H E).xe := passes_of rfl
  exact sd_cons (sd_if (pt_cmpd (od_eq hr.units) noEx_eq (pd_ix (pd_v 0) (pd_int)) (pd_int)) (sd_one (sd_ret (pd_bt cd_str nx_str b_str (by decide +kernel) (pad_cons (pd_ix (pd_v 0) (pd_int)) (pad_nil))))) (sd_nil)) (sd_one (sd_ret (pd_bin od_add noEx_add (pd_bin od_add noEx_add (pd_bt cd_str nx_str b_str (by decide +kernel) (pad_cons (pd_ix (pd_v 0) (pd_int)) (pad_nil))) (pd_str)) (pd_bt cd_str nx_str b_str (by decide +kernel) (pad_cons (pd_ix (pd_v 0) (pd_int)) (pad_nil))))))
theorem ok_law_shown_fraction (KX : K.In h) (GN : h.Ns mainGlobals mg) (c : He.SaysX fa fn ts [] ex w h K)  : FnAt P w K mg base "_law_shown_fraction" 1 1 [[]] m_law_shown_fraction := by
  obtain ⟨fd, F⟩ := c.t.d.def_ 20 (d := d_law_shown_fraction) rfl
  refine ⟨_, fd, ["_law_one"], fo_law_shown_fraction KX GN c  F, He.glo_ok KX GN (c.t.d.fact 20 (f := .glo "_law_shown_fraction") rfl), F.kp, ?_⟩
  · intro ds hd
    rw [List.mem_singleton] at hd
    subst hd
    exact ⟨[], [], FunD.bindsN F fun _ _ _ _ _ _ us hl => match us, hl with | [_], _ => rfl, .nil, fun _ => .nil⟩
theorem fo_law_shown (KX : K.In h) (GN : h.Ns mainGlobals mg) (c : He.SaysX fa fn ts [] ex w h K) (F_law_shown_fraction : FnAt P w K mg base "_law_shown_fraction" 1 1 [[]] m_law_shown_fraction) {fd : FuncData} (F : FunD K d_law_shown.name d_law_shown.qual d_law_shown.params d_law_shown.body d_law_shown.scope (d_law_shown.dvs K) (d_law_shown.kws K) (He.fAd K d_law_shown.at_) fd) : FnOk P w K mg base (L2.CX P w) 2 (He.fAd K d_law_shown.at_) fd ["_law_d", "_law_first", "_law_second"] (spD K mg 3 m_law_shown) := by
  have b_abs : mg "abs" = none := He.free_ok KX GN (c.t.d.fact 27 (f := .free "abs") rfl)
  have b_int : mg "int" = none := He.free_ok KX GN (c.t.d.fact 29 (f := .free "int") rfl)
  have b_str : mg "str" = none := He.free_ok KX GN (c.t.d.fact 35 (f := .free "str") rfl)
  have S := sc_law_shown
  rw [mm_law_shown]
  have Z := okDT (P := P) (w := w) (mg := mg) (base := base) (n := 3) (k := 1) (den := den_law_shown) F S rfl (by decide +kernel) (by decide)
  refine Z ?_
  intro cdv A outer s H E hr
  have tk : Takes (cxOf (L2.CX P w) P w K mg base ["_law_d", "_law_first", "_law_second", "_law_ahead", "_law_sign"] "_law_shown" (defScope s_law_shown) (He.fAd K d_law_shown.at_) cdv A outer s H E) (fun cls d _ H => E cls d H) := takes_of rfl rfl rfl rfl
  have hp : PassesOwn (model P w) (cxOf (L2.CX P w) P w K mg base ["_law_d", "_law_first", "_law_second", "_law_ahead", "_law_sign"] "_law_shown" (defScope s_law_shown) (He.fAd K d_law_shown.at_) cdv A outer s H E).A (cxOf (L2.CX P w) P w K mg base ["_law_d", "_law_first", "_law_second", "_law_ahead", "_law_sign"] "_law_shown" (defScope s_law_shown) (He.fAd K d_law_shown.at_) cdv A outer s H E).env (cxOf (L2.CX P w) P w K mg base ["_law_d", "_law_first", "_law_second", "_law_ahead", "_law_sign"] "_law_shown" (defScope s_law_shown) (He.fAd K d_law_shown.at_) cdv A outer s H E).xe := passes_of rfl
  exact sdt_cons (sdt_of (sd_if (pt_cmpd (od_eq hr.units) noEx_eq (pd_ix (pd_v 2) (pd_int)) (pd_int)) (sd_one (sd_ret (pd_call F_law_shown_fraction mem0 (hr.mono (by decide)) tk rfl (pad_cons (pd_v 1) (pad_nil))))) (sd_nil))) (sdt_cons (sdt_of (sd_set 3 S.nd rfl (.inl rfl) (pd_call F_law_shown_fraction mem0 (hr.mono (by decide)) tk rfl (pad_cons (pd_tup (pad_cons (pd_b cd_abs nx_abs b_abs (by decide +kernel) (pad_cons (pd_ix (pd_v 2) (pd_int)) (pad_nil))) (pad_cons (pd_ix (pd_v 2) (pd_int)) (pad_nil)))) (pad_nil))))) (sdt_cons (sdt_of (sd_if (pt_cmpd (od_eq hr.units) noEx_eq (pd_v 3) (pd_str)) (sd_one (sd_set 3 S.nd rfl (.inl rfl) (pd_str))) (sd_nil))) (sdt_cons (sdt_of (sd_set 4 S.nd rfl (.inl rfl) (pd_ix (pd_lst (pad_cons (pd_str) (pad_cons (pd_str) (pad_nil)))) (pd_bt cd_int nx_int b_int (by decide +kernel) (pad_cons (pd_cmp od_lt noEx_cI (pd_ix (pd_v 2) (pd_int)) (pd_int)) (pad_nil)))))) (sdt_cons (sdt_if (pt_cmpd (od_eq hr.units) noEx_eq (pd_ix (pd_v 1) (pd_int)) (pd_int)) (sdt_one (sdt_ret (pdt_bin od_add noEx_add (pdt_bin od_add noEx_add (pdt_bin od_add noEx_add (pdt_replace (pd_v 4)) (pdt_of (pd_v 3))) (pdt_of (pd_str))) (pdt_of (pd_bt cd_str nx_str b_str (by decide +kernel) (pad_cons (pd_v 0) (pad_nil))))))) (sdt_nil)) (sdt_one (sdt_of (sd_ret (pd_bin od_add noEx_add (pd_bin od_add noEx_add (pd_bin od_add noEx_add (pd_bin od_add noEx_add (pd_call F_law_shown_fraction mem0 (hr.mono (by decide)) tk rfl (pad_cons (pd_v 1) (pad_nil))) (pd_v 4)) (pd_v 3)) (pd_str)) (pd_bt cd_str nx_str b_str (by decide +kernel) (pad_cons (pd_v 0) (pad_nil)))))))))))
theorem ok_law_shown (KX : K.In h) (GN : h.Ns mainGlobals mg) (c : He.SaysX fa fn ts [] ex w h K) (F_law_shown_fraction : FnAt P w K mg base "_law_shown_fraction" 1 1 [[]] m_law_shown_fraction) : FnAt P w K mg base "_law_shown" 2 3 [[]] m_law_shown := by
  obtain ⟨fd, F⟩ := c.t.d.def_ 21 (d := d_law_shown) rfl
  refine ⟨_, fd, ["_law_d", "_law_first", "_law_second"], fo_law_shown KX GN c F_law_shown_fraction F, He.glo_ok KX GN (c.t.d.fact 21 (f := .glo "_law_shown") rfl), F.kp, ?_⟩
  · intro ds hd
    rw [List.mem_singleton] at hd
    subst hd
    exact ⟨[], [], FunD.bindsN F fun _ _ _ _ _ _ us hl => match us, hl with | [_, _, _], _ => rfl, .nil, fun _ => .nil⟩
theorem fo_law_odd (KX : K.In h) (GN : h.Ns mainGlobals mg) (c : He.SaysX fa fn ts [] ex w h K)  {fd : FuncData} (F : FunD K d_law_odd.name d_law_odd.qual d_law_odd.params d_law_odd.body d_law_odd.scope (d_law_odd.dvs K) (d_law_odd.kws K) (He.fAd K d_law_odd.at_) fd) : FnOk P w K mg base (L2.CX P w) 1 (He.fAd K d_law_odd.at_) fd ["_law_d", "_law_number"] (spD K mg 2 m_law_odd) := by
  have b_str : mg "str" = none := He.free_ok KX GN (c.t.d.fact 35 (f := .free "str") rfl)
  have S := sc_law_odd
  rw [mm_law_odd]
  have Z := okD (P := P) (w := w) (mg := mg) (base := base) (n := 2) (k := 0) (den := den_law_odd) F S rfl
  refine Z ?_
  intro cdv A outer s H E hr
  have tk : Takes (cxOf (L2.CX P w) P w K mg base ["_law_d", "_law_number", "_law_root_here", "_law_some"] "_law_odd" (defScope s_law_odd) (He.fAd K d_law_odd.at_) cdv A outer s H E) (fun cls d _ H => E cls d H) := takes_of rfl rfl rfl rfl
  have hp : PassesOwn (model P w) (cxOf (L2.CX P w) P w K mg base ["_law_d", "_law_number", "_law_root_here", "_law_some"] "_law_odd" (defScope s_law_odd) (He.fAd K d_law_odd.at_) cdv A outer s H E).A (cxOf (L2.CX P w) P w K mg base ["_law_d", "_law_number", "_law_root_here", "_law_some"] "_law_odd" (defScope s_law_odd) (He.fAd K d_law_odd.at_) cdv A outer s H E).env (cxOf (L2.CX P w) P w K mg base ["_law_d", "_law_number", "_law_root_here", "_law_some"] "_law_odd" (defScope s_law_odd) (He.fAd K d_law_odd.at_) cdv A outer s H E).xe := passes_of rfl
  exact sd_cons (sd_set 2 S.nd rfl (.inl rfl) (pd_bin od_add noEx_add (pd_str) (pd_bt cd_str nx_str b_str (by decide +kernel) (pad_cons (pd_v 0) (pad_nil))))) (sd_cons (sd_set 3 S.nd rfl (.inl rfl) (pd_lst (pad_cons (pd_str) (pad_cons (pd_str) (pad_cons (pd_str) (pad_cons (pd_str) (pad_cons (pd_str) (pad_cons (pd_str) (pad_cons (pd_str) (pad_cons (pd_str) (pad_cons (pd_str) (pad_cons (pd_str) (pad_cons (pd_str) (pad_cons (pd_str) (pad_cons (pd_str) (pad_cons (pd_str) (pad_cons (pd_str) (pad_cons (pd_str) (pad_nil))))))))))))))))))) (sd_cons (sd_set 3 S.nd rfl (.inl rfl) (pd_bin od_add noEx_add (pd_v 3) (pd_lst (pad_cons (pd_str) (pad_cons (pd_bin od_add noEx_add (pd_sl (pd_v 2) (po_d (pd_int)) (po_d0)) (pd_str)) (pad_cons (pd_bin od_add noEx_add (pd_str) (pd_v 2)) (pad_cons (pd_bin od_add noEx_add (pd_str) (pd_v 2)) (pad_cons (pd_bin od_add noEx_add (pd_str) (pd_v 2)) (pad_cons (pd_bin od_add noEx_add (pd_str) (pd_v 2)) (pad_cons (pd_bin od_add noEx_add (pd_v 2) (pd_str)) (pad_cons (pd_bin od_add noEx_add (pd_str) (pd_v 2)) (pad_nil)))))))))))) (sd_cons (sd_set 3 S.nd rfl (.inl rfl) (pd_bin od_add noEx_add (pd_v 3) (pd_lst (pad_cons (pd_bin od_add noEx_add (pd_str) (pd_v 2)) (pad_cons (pd_bin od_add noEx_add (pd_str) (pd_v 2)) (pad_cons (pd_bin od_add noEx_add (pd_str) (pd_v 2)) (pad_cons (pd_bin od_add noEx_add (pd_str) (pd_v 2)) (pad_cons (pd_bin od_add noEx_add (pd_str) (pd_v 2)) (pad_cons (pd_bin od_add noEx_add (pd_v 2) (pd_str)) (pad_cons (pd_str) (pad_cons (pd_str) (pad_nil)))))))))))) (sd_cons (sd_set 3 S.nd rfl (.inl rfl) (pd_bin od_add noEx_add (pd_v 3) (pd_lst (pad_cons (pd_bin od_add noEx_add (pd_str) (pd_v 2)) (pad_cons (pd_bin od_add noEx_add (pd_str) (pd_bt cd_str nx_str b_str (by decide +kernel) (pad_cons (pd_v 0) (pad_nil)))) (pad_cons (pd_bin od_add noEx_add (pd_v 2) (pd_v 2)) (pad_cons (pd_bin od_add noEx_add (pd_str) (pd_v 2)) (pad_cons (pd_bin od_add noEx_add (pd_str) (pd_v 2)) (pad_cons (pd_bin od_add noEx_add (pd_str) (pd_v 2)) (pad_nil)))))))))) (sd_one (sd_ret (pd_ix (pd_bin od_add noEx_add (pd_v 3) (pd_lst (pad_cons (pd_bin od_add noEx_add (pd_v 2) (pd_str)) (pad_cons (pd_str) (pad_cons (pd_str) (pad_cons (pd_str) (pad_nil))))))) (pd_bin od_mod noEx_mod (pd_v 1) (pd_int)))))))))
theorem ok_law_odd (KX : K.In h) (GN : h.Ns mainGlobals mg) (c : He.SaysX fa fn ts [] ex w h K)  : FnAt P w K mg base "_law_odd" 1 2 [[]] m_law_odd := by
  obtain ⟨fd, F⟩ := c.t.d.def_ 22 (d := d_law_odd) rfl
  refine ⟨_, fd, ["_law_d", "_law_number"], fo_law_odd KX GN c  F, He.glo_ok KX GN (c.t.d.fact 22 (f := .glo "_law_odd") rfl), F.kp, ?_⟩
  · intro ds hd
    rw [List.mem_singleton] at hd
    subst hd
    exact ⟨[], [], FunD.bindsN F fun _ _ _ _ _ _ us hl => match us, hl with | [_, _], _ => rfl, .nil, fun _ => .nil⟩
theorem fo_law_spoiled (KX : K.In h) (GN : h.Ns mainGlobals mg) (c : He.SaysX fa fn ts [] ex w h K) (F_law_shown : FnAt P w K mg base "_law_shown" 2 3 [[]] m_law_shown) {fd : FuncData} (F : FunD K d_law_spoiled.name d_law_spoiled.qual d_law_spoiled.params d_law_spoiled.body d_law_spoiled.scope (d_law_spoiled.dvs K) (d_law_spoiled.kws K) (He.fAd K d_law_spoiled.at_) fd) : FnOk P w K mg base (L2.CX P w) 3 (He.fAd K d_law_spoiled.at_) fd ["_law_d", "_law_first", "_law_second", "_law_number"] (spD K mg 4 m_law_spoiled) := by
  have b_int : mg "int" = none := He.free_ok KX GN (c.t.d.fact 29 (f := .free "int") rfl)
  have b_len : mg "len" = none := He.free_ok KX GN (c.t.d.fact 31 (f := .free "len") rfl)
  have b_str : mg "str" = none := He.free_ok KX GN (c.t.d.fact 35 (f := .free "str") rfl)
  have S := sc_law_spoiled
  rw [mm_law_spoiled]
  have Z := okDT (P := P) (w := w) (mg := mg) (base := base) (n := 4) (k := 2) (den := den_law_spoiled) F S rfl (by decide +kernel) (by decide)
  refine Z ?_
  intro cdv A outer s H E hr
  have tk : Takes (cxOf (L2.CX P w) P w K mg base ["_law_d", "_law_first", "_law_second", "_law_number", "_law_row", "_law_at", "_law_way", "_law_many"] "_law_spoiled" (defScope s_law_spoiled) (He.fAd K d_law_spoiled.at_) cdv A outer s H E) (fun cls d _ H => E cls d H) := takes_of rfl rfl rfl rfl
  have hp : PassesOwn (model P w) (cxOf (L2.CX P w) P w K mg base ["_law_d", "_law_first", "_law_second", "_law_number", "_law_row", "_law_at", "_law_way", "_law_many"] "_law_spoiled" (defScope s_law_spoiled) (He.fAd K d_law_spoiled.at_) cdv A outer s H E).A (cxOf (L2.CX P w) P w K mg base ["_law_d", "_law_first", "_law_second", "_law_number", "_law_row", "_law_at", "_law_way", "_law_many"] "_law_spoiled" (defScope s_law_spoiled) (He.fAd K d_law_spoiled.at_) cdv A outer s H E).env (cxOf (L2.CX P w) P w K mg base ["_law_d", "_law_first", "_law_second", "_law_number", "_law_row", "_law_at", "_law_way", "_law_many"] "_law_spoiled" (defScope s_law_spoiled) (He.fAd K d_law_spoiled.at_) cdv A outer s H E).xe := passes_of rfl
  exact sdt_cons (sdt_of (sd_set 4 S.nd rfl (.inl rfl) (pd_call F_law_shown mem0 (hr.mono (by decide)) tk rfl (pad_cons (pd_v 0) (pad_cons (pd_v 1) (pad_cons (pd_v 2) (pad_nil))))))) (sdt_cons (sdt_of (sd_set 5 S.nd rfl (.inl rfl) (pd_bin od_mod noEx_mod (pd_bin od_div noEx_div (pd_v 3) (pd_int)) (pd_bin od_add noEx_add (pd_b cd_len nx_len b_len (by decide +kernel) (pad_cons (pd_v 4) (pad_nil))) (pd_int))))) (sdt_cons (sdt_of (sd_set 6 S.nd rfl (.inl rfl) (pd_bin od_mod noEx_mod (pd_v 3) (pd_int)))) (sdt_cons (sdt_of (sd_if (pt_cmpd od_lt noEx_cI (pd_v 6) (pd_int)) (sd_one (sd_ret (pd_bin od_add noEx_add (pd_bin od_add noEx_add (pd_sl (pd_v 4) (po_d0) (po_d (pd_v 5))) (pd_ix (pd_lst (pad_cons (pd_str) (pad_cons (pd_str) (pad_cons (pd_str) (pad_cons (pd_str) (pad_cons (pd_str) (pad_cons (pd_str) (pad_cons (pd_str) (pad_cons (pd_str) (pad_cons (pd_str) (pad_nil))))))))))) (pd_bin od_mod noEx_mod (pd_bin od_div noEx_div (pd_v 3) (pd_int)) (pd_int)))) (pd_sl (pd_v 4) (po_d (pd_v 5)) (po_d0))))) (sd_nil))) (sdt_cons (sdt_of (sd_if (pt_cmpd (od_eq hr.units) noEx_eq (pd_v 6) (pd_int)) (sd_one (sd_ret (pd_call F_law_shown mem0 (hr.mono (by decide)) tk rfl (pad_cons (pd_bin od_add noEx_add (pd_v 0) (pd_int)) (pad_cons (pd_v 1) (pad_cons (pd_tup (pad_cons (pd_bin od_add noEx_add (pd_ix (pd_v 2) (pd_int)) (pd_bt cd_int nx_int b_int (by decide +kernel) (pad_cons (pd_cmp (od_eq hr.units) noEx_eq (pd_ix (pd_v 2) (pd_int)) (pd_int)) (pad_nil)))) (pad_cons (pd_ix (pd_v 2) (pd_int)) (pad_nil)))) (pad_nil))))))) (sd_nil))) (sdt_cons (sdt_if (pt_cmpd (od_eq hr.units) noEx_eq (pd_v 6) (pd_int)) (sdt_one (sdt_ret (pdt_bin od_add noEx_add (pdt_of (pd_str)) (pdt_replace (pd_v 4))))) (sdt_nil)) (sdt_cons (sdt_of (sd_if (pt_cmpd (od_eq hr.units) noEx_eq (pd_v 6) (pd_int)) (sd_cons (sd_set 7 S.nd rfl (.inl rfl) (pd_bin od_add noEx_add (pd_int) (pd_bin od_mod noEx_mod (pd_bin od_div noEx_div (pd_v 3) (pd_int)) (pd_int)))) (sd_one (sd_ret (pd_bin od_add noEx_add (pd_bin od_add noEx_add (pd_bt cd_str nx_str b_str (by decide +kernel) (pad_cons (pd_bin od_mul noEx_mul (pd_ix (pd_v 1) (pd_int)) (pd_v 7)) (pad_nil))) (pd_str)) (pd_bt cd_str nx_str b_str (by decide +kernel) (pad_cons (pd_bin od_mul noEx_mul (pd_ix (pd_v 1) (pd_int)) (pd_v 7)) (pad_nil))))))) (sd_nil))) (sdt_one (sdt_of (sd_ret (pd_bin od_add noEx_add (pd_v 4) (pd_ix (pd_lst (pad_cons (pd_str) (pad_cons (pd_str) (pad_cons (pd_str) (pad_cons (pd_str) (pad_cons (pd_str) (pad_nil))))))) (pd_bin od_mod noEx_mod (pd_bin od_div noEx_div (pd_v 3) (pd_int)) (pd_int)))))))))))))
theorem ok_law_spoiled (KX : K.In h) (GN : h.Ns mainGlobals mg) (c : He.SaysX fa fn ts [] ex w h K) (F_law_shown : FnAt P w K mg base "_law_shown" 2 3 [[]] m_law_shown) : FnAt P w K mg base "_law_spoiled" 3 4 [[]] m_law_spoiled := by
  obtain ⟨fd, F⟩ := c.t.d.def_ 23 (d := d_law_spoiled) rfl
  refine ⟨_, fd, ["_law_d", "_law_first", "_law_second", "_law_number"], fo_law_spoiled KX GN c F_law_shown F, He.glo_ok KX GN (c.t.d.fact 23 (f := .glo "_law_spoiled") rfl), F.kp, ?_⟩
  · intro ds hd
    rw [List.mem_singleton] at hd
    subst hd
    exact ⟨[], [], FunD.bindsN F fun _ _ _ _ _ _ us hl => match us, hl with | [_, _, _, _], _ => rfl, .nil, fun _ => .nil⟩
theorem fo_law_refused (KX : K.In h) (GN : h.Ns mainGlobals mg) (c : He.SaysX fa fn ts [] ex w h K) (F_read_length : FnAt P w K mg base "read_length" 9 2 [[]] m_read_length) {fd : FuncData} (F : FunD K d_law_refused.name d_law_refused.qual d_law_refused.params d_law_refused.body d_law_refused.scope (d_law_refused.dvs K) (d_law_refused.kws K) (He.fAd K d_law_refused.at_) fd) : FnOk P w K mg base (L2.CX P w) 10 (He.fAd K d_law_refused.at_) fd ["_law_d", "_law_thing"] (spD K mg 2 m_law_refused_v5) := by
  have b_ValueError : mg "ValueError" = none := He.free_ok KX GN (c.t.d.fact 26 (f := .free "ValueError") rfl)
  have b_isinstance : mg "isinstance" = none := He.free_ok KX GN (c.t.d.fact 30 (f := .free "isinstance") rfl)
  have x_YardError := gx_YardError (mg := mg) KX GN c
  have i_Apart := gi_Apart KX c
  have n_Apart : mg "Apart" = some (.ref (He.ga K "Apart")) := He.glo_ok KX GN (c.t.d.fact 48 (f := .glo "Apart") rfl)
  have i_Grain := gi_Grain KX c
  have n_Grain : mg "Grain" = some (.ref (He.ga K "Grain")) := He.glo_ok KX GN (c.t.d.fact 44 (f := .glo "Grain") rfl)
  have i_NoBoard := gi_NoBoard KX c
  have n_NoBoard : mg "NoBoard" = some (.ref (He.ga K "NoBoard")) := He.glo_ok KX GN (c.t.d.fact 41 (f := .glo "NoBoard") rfl)
  have i_NoDeed := gi_NoDeed KX c
  have n_NoDeed : mg "NoDeed" = some (.ref (He.ga K "NoDeed")) := He.glo_ok KX GN (c.t.d.fact 42 (f := .glo "NoDeed") rfl)
  have i_NoLength := gi_NoLength KX c
  have n_NoLength : mg "NoLength" = some (.ref (He.ga K "NoLength")) := He.glo_ok KX GN (c.t.d.fact 36 (f := .glo "NoLength") rfl)
  have i_NoName := gi_NoName KX c
  have n_NoName : mg "NoName" = some (.ref (He.ga K "NoName")) := He.glo_ok KX GN (c.t.d.fact 43 (f := .glo "NoName") rfl)
  have i_NoRow := gi_NoRow KX c
  have n_NoRow : mg "NoRow" = some (.ref (He.ga K "NoRow")) := He.glo_ok KX GN (c.t.d.fact 47 (f := .glo "NoRow") rfl)
  have i_NoText := gi_NoText KX c
  have n_NoText : mg "NoText" = some (.ref (He.ga K "NoText")) := He.glo_ok KX GN (c.t.d.fact 38 (f := .glo "NoText") rfl)
  have i_TooMany := gi_TooMany KX c
  have n_TooMany : mg "TooMany" = some (.ref (He.ga K "TooMany")) := He.glo_ok KX GN (c.t.d.fact 46 (f := .glo "TooMany") rfl)
  have i_Unfit := gi_Unfit KX c
  have n_Unfit : mg "Unfit" = some (.ref (He.ga K "Unfit")) := He.glo_ok KX GN (c.t.d.fact 45 (f := .glo "Unfit") rfl)
  have i_ValueError := gi_ValueError KX c
  have S := sc_law_refused
  rw [mm_law_refused_v5]
  have Z := okD (P := P) (w := w) (mg := mg) (base := base) (n := 2) (k := 9) (den := den_law_refused_v5) F S rfl
  refine Z ?_
  intro cdv A outer s H E hr
  have tk : Takes (cxOf (L2.CX P w) P w K mg base ["_law_d", "_law_thing", "_law_told", "e"] "_law_refused" (defScope s_law_refused) (He.fAd K d_law_refused.at_) cdv A outer s H E) (fun cls d _ H => E cls d H) := takes_of rfl rfl rfl rfl
  have hp : PassesOwn (model P w) (cxOf (L2.CX P w) P w K mg base ["_law_d", "_law_thing", "_law_told", "e"] "_law_refused" (defScope s_law_refused) (He.fAd K d_law_refused.at_) cdv A outer s H E).A (cxOf (L2.CX P w) P w K mg base ["_law_d", "_law_thing", "_law_told", "e"] "_law_refused" (defScope s_law_refused) (He.fAd K d_law_refused.at_) cdv A outer s H E).env (cxOf (L2.CX P w) P w K mg base ["_law_d", "_law_thing", "_law_told", "e"] "_law_refused" (defScope s_law_refused) (He.fAd K d_law_refused.at_) cdv A outer s H E).xe := passes_of rfl
  exact sd_cons (sd_set 2 S.nd rfl (.inl rfl) (pd_non)) (sd_cons (sd_tryK (i := 3) (j := 2) x_YardError rfl rfl rfl S.nd rfl rfl rfl rfl rfl tk (fun W pn xe tk hp => sd_one (sd_expr (pd_call F_read_length mem0 (hr.mono (by decide)) tk rfl (pad_cons (pd_v 0) (pad_cons (pd_v 1) (pad_nil))))))) (sd_cons (sd_if (PW.pt (pw_dor (pt_dnot (pt_d (pd_isE i_NoText b_isinstance n_NoText (pd_v 2)))) (pw_o1 (pt_dnot (pt_d (pd_isV (B := "ValueError") i_ValueError b_isinstance b_ValueError (by decide +kernel) (pd_v 2))))))) (sd_one (sd_ret (pd_bl))) (sd_nil)) (sd_one (sd_ret (pe_dnot (pd_isEs (allT ((.cons i_NoLength (.cons i_NoBoard (.cons i_NoDeed (.cons i_NoName (.cons i_Grain (.cons i_Unfit (.cons i_TooMany (.cons i_NoRow (.cons i_Apart .nil))))))))))) (.cons rfl n_NoLength (by decide) (.cons rfl n_NoBoard (by decide) (.cons rfl n_NoDeed (by decide) (.cons rfl n_NoName (by decide) (.cons rfl n_Grain (by decide) (.cons rfl n_Unfit (by decide) (.cons rfl n_TooMany (by decide) (.cons rfl n_NoRow (by decide) (.cons rfl n_Apart (by decide) .nil))))))))) b_isinstance (pd_v 2)))))))
theorem ok_law_refused (KX : K.In h) (GN : h.Ns mainGlobals mg) (c : He.SaysX fa fn ts [] ex w h K) (F_read_length : FnAt P w K mg base "read_length" 9 2 [[]] m_read_length) : FnAt P w K mg base "_law_refused" 10 2 [[]] m_law_refused_v5 := by
  obtain ⟨fd, F⟩ := c.t.d.def_ 24 (d := d_law_refused) rfl
  refine ⟨_, fd, ["_law_d", "_law_thing"], fo_law_refused KX GN c F_read_length F, He.glo_ok KX GN (c.t.d.fact 24 (f := .glo "_law_refused") rfl), F.kp, ?_⟩
  · intro ds hd
    rw [List.mem_singleton] at hd
    subst hd
    exact ⟨[], [], FunD.bindsN F fun _ _ _ _ _ _ us hl => match us, hl with | [_, _], _ => rfl, .nil, fun _ => .nil⟩
theorem fo_law (KX : K.In h) (GN : h.Ns mainGlobals mg) (c : He.SaysX fa fn ts [] ex w h K) (F_law_root : FnAt P w K mg base "_law_root" 2 1 [[]] m_law_root_v4) (F_law_mixed : FnAt P w K mg base "_law_mixed" 1 2 [[]] m_law_mixed) (F_law_fraction : FnAt P w K mg base "_law_fraction" 2 2 [[]] m_law_fraction_v2) (F_length : FnAt P w K mg base "length" 3 3 [[], [(.int 1)], [(.int 0), (.int 1)]] m_length) (F_law_refused : FnAt P w K mg base "_law_refused" 10 2 [[]] m_law_refused_v5) (F_read_length : FnAt P w K mg base "read_length" 9 2 [[]] m_read_length) (F_law_spoiled : FnAt P w K mg base "_law_spoiled" 3 4 [[]] m_law_spoiled) (F_law_odd : FnAt P w K mg base "_law_odd" 1 2 [[]] m_law_odd) {fd : FuncData} (F : FunD K d_law.name d_law.qual d_law.params d_law.body d_law.scope (d_law.dvs K) (d_law.kws K) (He.fAd K d_law.at_) fd) : FnOk P w K mg base (L2.CX P w) 11 (He.fAd K d_law.at_) fd ["_law_script"] (spD K mg 1 m_law_k24) := by
  have b_len : mg "len" = none := He.free_ok KX GN (c.t.d.fact 31 (f := .free "len") rfl)
  have b_min : mg "min" = none := He.free_ok KX GN (c.t.d.fact 33 (f := .free "min") rfl)
  have b_range : mg "range" = none := He.free_ok KX GN (c.t.d.fact 34 (f := .free "range") rfl)
  have b_str : mg "str" = none := He.free_ok KX GN (c.t.d.fact 35 (f := .free "str") rfl)
  have S := sc_law
  rw [mm_law_k24]
  have Z := okD (P := P) (w := w) (mg := mg) (base := base) (n := 1) (k := 10) (den := den_law_k24) F S rfl
  refine Z ?_
  intro cdv A outer s H E hr
  have tk : Takes (cxOf (L2.CX P w) P w K mg base ["_law_script", "_law_d", "_law_k", "_law_number", "_law_first", "_law_second", "_law_thing", "_law_good", "_law_due", "_law_row"] "law" (defScope s_law) (He.fAd K d_law.at_) cdv A outer s H E) (fun cls d _ H => E cls d H) := takes_of rfl rfl rfl rfl
  have hp : PassesOwn (model P w) (cxOf (L2.CX P w) P w K mg base ["_law_script", "_law_d", "_law_k", "_law_number", "_law_first", "_law_second", "_law_thing", "_law_good", "_law_due", "_law_row"] "law" (defScope s_law) (He.fAd K d_law.at_) cdv A outer s H E).A (cxOf (L2.CX P w) P w K mg base ["_law_script", "_law_d", "_law_k", "_law_number", "_law_first", "_law_second", "_law_thing", "_law_good", "_law_due", "_law_row"] "law" (defScope s_law) (He.fAd K d_law.at_) cdv A outer s H E).env (cxOf (L2.CX P w) P w K mg base ["_law_script", "_law_d", "_law_k", "_law_number", "_law_first", "_law_second", "_law_thing", "_law_good", "_law_due", "_law_row"] "law" (defScope s_law) (He.fAd K d_law.at_) cdv A outer s H E).xe := passes_of rfl
  exact sd_cons (sd_set 1 S.nd rfl (.inr rfl) (pd_call F_law_root mem0 (hr.mono (by decide)) tk rfl (pad_cons (pd_v 0) (pad_nil)))) (sd_cons (sd_for hp rfl (pi_r2 rfl b_range (pad_cons (pd_int) (pad_cons (pd_b (cd_min rfl) nx_min b_min (by decide +kernel) (pad_cons (pd_b cd_len nx_len b_len (by decide +kernel) (pad_cons (pd_v 0) (pad_nil))) (pad_cons (pd_int) (pad_nil)))) (pad_nil)))) (pg_name (i := 2) S.nd rfl (.inl rfl)) (sd_cons (sd_set 3 S.nd rfl (.inl rfl) (pd_call F_law_mixed mem0 (hr.mono (by decide)) tk rfl (pad_cons (pd_ix (pd_v 0) (pd_v 2)) (pad_cons (pd_v 2) (pad_nil))))) (sd_cons (sd_set 4 S.nd rfl (.inl rfl) (pd_call F_law_fraction mem0 (hr.mono (by decide)) tk rfl (pad_cons (pd_v 3) (pad_cons (pd_bl) (pad_nil))))) (sd_cons (sd_set 5 S.nd rfl (.inl rfl) (pd_call F_law_fraction mem0 (hr.mono (by decide)) tk rfl (pad_cons (pd_bin od_mod noEx_mod (pd_bin od_mul noEx_mul (pd_v 3) (pd_int)) (pd_int)) (pad_cons (pd_bl) (pad_nil))))) (sd_cons (sd_set 6 S.nd rfl (.inl rfl) (pd_ix (pd_lst (pad_cons (pd_non) (pad_cons (pd_int) (pad_cons (pd_bl) (pad_cons (pd_lst (pad_cons (pd_str) (pad_nil))) (pad_cons (pd_tup (pad_cons (pd_str) (pad_nil))) (pad_cons (pd_tup (pad_cons (pd_int) (pad_cons (pd_int) (pad_cons (pd_int) (pad_nil))))) (pad_cons (pd_dict0) (pad_nil))))))))) (pd_bin od_mod noEx_mod (pd_v 3) (pd_int)))) (sd_cons (sd_if (PW.pt (pw_dor (pt_dnot (pt_d (pd_call F_law_refused mem0 (hr.mono (by decide)) tk rfl (pad_cons (pd_v 1) (pad_cons (pd_call F_law_odd mem0 (hr.mono (by decide)) tk rfl (pad_cons (pd_v 1) (pad_cons (pd_v 3) (pad_nil)))) (pad_nil)))))) (pw_o1 (pt_dnot (pt_d (pd_call F_law_refused mem0 (hr.mono (by decide)) tk rfl (pad_cons (pd_v 1) (pad_cons (pd_v 6) (pad_nil))))))))) (sd_one (sd_ret (pd_bl))) (sd_nil)) (sd_one (sd_if (pt_dnot (pt_d (pd_call F_law_refused mem0 (hr.mono (by decide)) tk rfl (pad_cons (pd_v 1) (pad_cons (pd_call F_law_spoiled mem0 (hr.mono (by decide)) tk rfl (pad_cons (pd_v 1) (pad_cons (pd_v 4) (pad_cons (pd_v 5) (pad_cons (pd_bin od_div noEx_div (pd_v 3) (pd_int)) (pad_nil)))))) (pad_nil)))))) (sd_one (sd_ret (pd_bl))) (sd_nil))))))))) (sd_cons (sd_set 7 S.nd rfl (.inl rfl) (pd_lst (pad_cons (pd_str) (pad_cons (pd_str) (pad_cons (pd_bin od_add noEx_add (pd_str) (pd_bt cd_str nx_str b_str (by decide +kernel) (pad_cons (pd_v 1) (pad_nil)))) (pad_cons (pd_bin od_add noEx_add (pd_str) (pd_bt cd_str nx_str b_str (by decide +kernel) (pad_cons (pd_v 1) (pad_nil)))) (pad_cons (pd_bin od_add noEx_add (pd_str) (pd_bt cd_str nx_str b_str (by decide +kernel) (pad_cons (pd_v 1) (pad_nil)))) (pad_nil)))))))) (sd_cons (sd_set 8 S.nd rfl (.inl rfl) (pd_lst (pad_cons (pd_call F_length mem2 (hr.mono (by decide)) tk rfl (pad_cons (pd_int) (pad_nil))) (pad_cons (pd_call F_length mem0 (hr.mono (by decide)) tk rfl (pad_cons (pd_neg (pd_int)) (pad_cons (pd_int) (pad_cons (pd_int) (pad_nil))))) (pad_cons (pd_call F_length mem1 (hr.mono (by decide)) tk rfl (pad_cons (pd_int) (pad_cons (pd_int) (pad_nil)))) (pad_cons (pd_call F_length mem0 (hr.mono (by decide)) tk rfl (pad_cons (pd_int) (pad_cons (pd_neg (pd_int)) (pad_cons (pd_int) (pad_nil))))) (pad_cons (pd_call F_length mem0 (hr.mono (by decide)) tk rfl (pad_cons (pd_neg (pd_int)) (pad_cons (pd_int) (pad_cons (pd_int) (pad_nil))))) (pad_nil)))))))) (sd_one (sd_ret (pd_cmp (od_eq hr.units) noEx_eq (pd_lc [("_law_row", 9)] rfl S.nd (pi_l (pd_v 7)) (blkOk_by (N := ["_law_script", "_law_d", "_law_k", "_law_number", "_law_first", "_law_second", "_law_thing", "_law_good", "_law_due", "_law_row"]) (sc := defScope s_law) (own := [("_law_row", 9)]) (by decide +kernel)) (by decide) (fun _ _ _ _ _ => pg_name (i := 9) S.nd rfl (.inl rfl)) (fun _ _ _ _ _ => ptd_nil) (fun _ _ _ _ _ => pd_call F_read_length mem0 (hr.mono (by decide)) takes0 rfl (pad_cons (pd_v 1) (pad_cons (pd_v 9) (pad_nil))))) (pd_v 8)))))))
end
theorem facts {P : Program} {w : World} {K : PySem.W.Frag} {h : Heap} {mg : MG} {f : Addr} (KX : K.In h) (GN : h.Ns mainGlobals mg) (hfa : mg ("law" : Str) = some (.ref f)) (c : He.SaysX fa fn ts [] ex w h K) :
    ∃ fd : FuncData, (∀ (s : Shared) (v : Value), BindsTo s fd ⟨[v], []⟩ [("_law_script", v)]) ∧ ∀ base : Heap, K.In base → base.Ns mainGlobals mg → FnOk P w K mg base (L2.CX P w) 11 f fd ["_law_script"] (spD K mg 1 m_law_k24) := by
  obtain ⟨fd, F⟩ := c.t.d.def_ 25 (d := d_law) rfl
  refine ⟨fd, fun s v => FunD.bindsA (ps := ["_law_script"]) F (fun _ _ _ _ _ _ us hl => match us, hl with | [_], _ => rfl) s [v] rfl, fun base hb hg => ?_⟩
  have F_is_whole := ok_is_whole (P := P) (w := w) (base := base) KX GN c 
  have F_divisor := ok_divisor (P := P) (w := w) (base := base) KX GN c 
  have F_lowest := ok_lowest (P := P) (w := w) (base := base) KX GN c F_divisor
  have F_length := ok_length (P := P) (w := w) (base := base) KX GN c F_lowest F_is_whole
  have F_fraction := ok_fraction (P := P) (w := w) (base := base) KX GN c F_divisor
  have F_parts := ok_parts (P := P) (w := w) (base := base) KX GN c F_fraction
  have F_by_parts := ok_by_parts (P := P) (w := w) (base := base) KX GN c F_lowest
  have F_shown_fraction := ok_shown_fraction (P := P) (w := w) (base := base) KX GN c 
  have F_shown_ahead := ok_shown_ahead (P := P) (w := w) (base := base) KX GN c F_shown_fraction
  have F_shown_length := ok_shown_length (P := P) (w := w) (base := base) KX GN c F_parts F_shown_fraction F_shown_ahead
  have F_number_in := ok_number_in (P := P) (w := w) (base := base) KX GN c 
  have F_fraction_in__0 := ok_fraction_in__0 (P := P) (w := w) (base := base) KX GN c 
  have F_fraction_in__1 := ok_fraction_in__1 (P := P) (w := w) (base := base) KX GN c F_number_in F_fraction F_fraction_in__0
  have F_fraction_in__2 := ok_fraction_in__2 (P := P) (w := w) (base := base) KX GN c F_number_in F_fraction F_fraction_in__1
  have F_fraction_in__3 := ok_fraction_in__3 (P := P) (w := w) (base := base) KX GN c F_number_in F_fraction F_fraction_in__2
  have F_fraction_in := ok_fraction_in (P := P) (w := w) (base := base) KX GN c F_number_in F_fraction F_fraction_in__3
  have F_ahead_in := ok_ahead_in (P := P) (w := w) (base := base) KX GN c F_fraction_in
  have F_length_in := ok_length_in (P := P) (w := w) (base := base) KX GN c F_ahead_in F_by_parts F_fraction_in
  have F_read_length := ok_read_length (P := P) (w := w) (base := base) KX GN c F_length_in F_shown_length
  have F_law_cell := ok_law_cell (P := P) (w := w) (base := base) KX GN c 
  have F_law_mixed := ok_law_mixed (P := P) (w := w) (base := base) KX GN c 
  have F_law_divisor := ok_law_divisor (P := P) (w := w) (base := base) KX GN c 
  have F_law_root := ok_law_root (P := P) (w := w) (base := base) KX GN c F_law_mixed F_law_cell
  have F_law_fraction := ok_law_fraction (P := P) (w := w) (base := base) KX GN c F_law_divisor
  have F_law_shown_fraction := ok_law_shown_fraction (P := P) (w := w) (base := base) KX GN c 
  have F_law_shown := ok_law_shown (P := P) (w := w) (base := base) KX GN c F_law_shown_fraction
  have F_law_odd := ok_law_odd (P := P) (w := w) (base := base) KX GN c 
  have F_law_spoiled := ok_law_spoiled (P := P) (w := w) (base := base) KX GN c F_law_shown
  have F_law_refused := ok_law_refused (P := P) (w := w) (base := base) KX GN c F_read_length
  have e := hfa.symm.trans (He.glo_ok KX GN (c.t.d.fact 25 (f := .glo "law") rfl))
  cases e
  exact fo_law KX GN c F_law_root F_law_mixed F_law_fraction F_length F_law_refused F_read_length F_law_spoiled F_law_odd F
end
end DL

open PySem PySem.W PySem.Calls PyProof.Rows
theorem PySem.Challenge.cw_boardglue_k24_no_length_holds : PySem.Challenge.rw_boardglue_k24_no_length.Holds := by
  w_on; o_law
  refine HandSHeadRun.head_any (r := OpenLaw.row PySem.Challenge.rw_boardglue_k24_no_length) (q := view (OpenLaw.row PySem.Challenge.rw_boardglue_k24_no_length).prog [42]) (H := DL.hk) (ob := DL.ob) (M := 20000) (loose := DL.names) (d := HandSHeadRun.topDef (OpenLaw.row PySem.Challenge.rw_boardglue_k24_no_length).prog 42) (kwd := []) DL.ob_eq
    (by kernel_rfl) (fun s => by kernel_rfl) DL.run (by kernel_rfl) (by kernel_rfl) (by kernel_rfl) (by rfl) (by first | assumption | decide +kernel) (by decide +kernel) ⟨rfl, rfl, rfl, rfl, rfl, by decide +kernel⟩ ?hw ?hc
  case hw => w_witness2
  case hc =>
    refine DL.walkD (l := PySem.Challenge.rw_boardglue_k24_no_length) (n := 63) (k := 11) (x := "_law_script") (g := DL.m_law_k24) rfl (by decide) (by kernel_rfl) ⟨rfl, by decide, by decide⟩ ?F DL.law_k24_true
    intro w mg fa h Y G hmg0
    obtain ⟨K, KX, c⟩ := Y
    have hmg : mg ("law" : PySem.Str) = some (.ref fa) := by
      have e : (HandSHeadRun.topDef (OpenLaw.row PySem.Challenge.rw_boardglue_k24_no_length).prog 42).name = ("law" : PySem.Str) := by kernel_rfl
      rw [← e]
      exact hmg0
    obtain ⟨fd, hb, hF⟩ := DL.facts (P := (PySem.Challenge.rw_boardglue_k24_no_length).prog) (w := w) KX G hmg c
    exact ⟨K, fd, KX, hb, hF⟩

